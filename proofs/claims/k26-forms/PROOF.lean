import PyProof.Rows.All
import Wide.All
import OpenK.AllK
import Wide.FinOn
import HandS.ForMost
import HandS.ForExc
import HandS.Defaults
import PyProof.NeKinds
import HandS.TupAny
import HandS.Style
import HandS.IsInst
import HandS.FStr
import HandS.SortInts
import HandS.RaiseMore
import PyProof.ListStr
import KE.GoesEnum
import HandS.More
import HandS.OwnEq
import KE.KFmtOwn
import PyProof.InstEq
import KE.KStateDown
import HandS.Head0
import HandS.Head1
import HandS.Head2
import HandS.HeadEnd
import HandS.HeadHook1
import HandS.HeadHook2
import HandS.HeadHook3
import HandS.HeadHook4
import HandS.TupMul
import KE.KExcSuper
import HandS.ExcInit
import HandS.Nested
import HandS.ExcField
import HandS.ExcIs
import KE.KIsAll
import HandS.List
import PyProof.ReprReads
import PyProof.ReprRoads
import HandS.Star
import HandS.ClsMeth
import HandS.MakeKwOnly
import PySem.Challenge.RW_emptyfilters_k26_forms_made_and_refused
set_option Elab.async false
set_option linter.all false
set_option maxRecDepth 100000
set_option maxHeartbeats 4000000
/-! The by-value layer, part a: values as trees, the state, the world that bears it. -/
namespace BV
open PySem L2

/-- a value as a tree -/
inductive PV where
  | non | bl (b : Bool) | int (i : Int) | str (s : Str)
  | tup (xs : List PV) | lst (xs : List PV)
  | dct (kvs : List (Key × PV)) | obj (C : Addr) (fs : List (Str × PV))
  | cel (n : Nat) | bag | scr (ns : List Int)

def Pre (ρ ρ' : List Addr) : Prop := ∀ (n : Nat) (a : Addr), ρ[n]? = some a → ρ'[n]? = some a
theorem Pre.refl (ρ : List Addr) : Pre ρ ρ := fun _ _ h => h
theorem Pre.trans {a b c : List Addr} (h : Pre a b) (g : Pre b c) : Pre a c := fun n x e => g n x (h n x e)

mutual
inductive Rp (K : PySem.W.Frag) (ρ : List Addr) (G : Hp) : V → PV → Prop
  | non : Rp K ρ G .non .non
  | bl (b : Bool) : Rp K ρ G (.bl b) (.bl b)
  | int (i : Int) : Rp K ρ G (.int i) (.int i)
  | str (x : Str) : Rp K ρ G (.str x) (.str x)
  | tup {a : Addr} {vs : List V} {xs : List PV} : SqT K G a vs → RpA K ρ G vs xs → Rp K ρ G (.ref a) (.tup xs)
  | lst {a : Addr} {vs : List V} {xs : List PV} : G a = some (.lst vs) → RpA K ρ G vs xs → Rp K ρ G (.ref a) (.lst xs)
  | dct {a : Addr} {kvs : List (Key × V)} {ds : List (Key × PV)} : G a = some (.dK kvs) → RpK K ρ G kvs ds → Rp K ρ G (.ref a) (.dct ds)
  | obj {a C dx : Addr} {fs : List (Str × V)} {gs : List (Str × PV)} : G a = some (.ins C dx fs) → RpF K ρ G fs gs → Rp K ρ G (.ref a) (.obj C gs)
  | cel {a : Addr} {n : Nat} : ρ[n]? = some a → Rp K ρ G (.ref a) (.cel n)
  | scr {a : Addr} {ns : List Int} : SqL K G a (ns.map V.int) → Rp K ρ G (.ref a) (.scr ns)
inductive RpA (K : PySem.W.Frag) (ρ : List Addr) (G : Hp) : List V → List PV → Prop
  | nil : RpA K ρ G [] []
  | cons {v : V} {vs : List V} {x : PV} {xs : List PV} : Rp K ρ G v x → RpA K ρ G vs xs → RpA K ρ G (v :: vs) (x :: xs)
inductive RpK (K : PySem.W.Frag) (ρ : List Addr) (G : Hp) : List (Key × V) → List (Key × PV) → Prop
  | nil : RpK K ρ G [] []
  | cons {k : Key} {v : V} {vs : List (Key × V)} {x : PV} {xs : List (Key × PV)} : Rp K ρ G v x → RpK K ρ G vs xs → RpK K ρ G ((k, v) :: vs) ((k, x) :: xs)
inductive RpF (K : PySem.W.Frag) (ρ : List Addr) (G : Hp) : List (Str × V) → List (Str × PV) → Prop
  | nil : RpF K ρ G [] []
  | cons {k : Str} {v : V} {vs : List (Str × V)} {x : PV} {xs : List (Str × PV)} : Rp K ρ G v x → RpF K ρ G vs xs → RpF K ρ G ((k, v) :: vs) ((k, x) :: xs)
end

section
variable {K : PySem.W.Frag} {ρ ρ' : List Addr} {G G' : Hp}
theorem same_rd {a : Addr} {u : HO} (e : Same G G') (h : Rd G a u) : Rd G' a u := by
  rcases h with h | ⟨o, h⟩
  · exact Or.inl (e a _ h)
  · exact Or.inr ⟨o, e a _ h⟩
theorem same_l {a : Addr} {xs : List V} (e : Same G G') (h : SqL K G a xs) : SqL K G' a xs := by
  rcases h with h | h
  · exact Or.inl (same_rd e h)
  · exact Or.inr h
theorem same_t {a : Addr} {xs : List V} (e : Same G G') (h : SqT K G a xs) : SqT K G' a xs := by
  rcases h with h | h
  · exact Or.inl (same_rd e h)
  · exact Or.inr h
mutual
theorem Rp.mono (e : Same G G') (r : Pre ρ ρ') : ∀ {v : V} {x : PV}, Rp K ρ G v x → Rp K ρ' G' v x
  | _, _, .non => .non
  | _, _, .bl b => .bl b
  | _, _, .int i => .int i
  | _, _, .str s => .str s
  | _, _, .tup h t => .tup (same_t e h) (RpA.mono e r t)
  | _, _, .lst h t => .lst (e _ _ h) (RpA.mono e r t)
  | _, _, .dct h t => .dct (e _ _ h) (RpK.mono e r t)
  | _, _, .obj h t => .obj (e _ _ h) (RpF.mono e r t)
  | _, _, .cel h => .cel (r _ _ h)
  | _, _, .scr h => .scr (same_l e h)
theorem RpA.mono (e : Same G G') (r : Pre ρ ρ') : ∀ {v : List V} {x : List PV}, RpA K ρ G v x → RpA K ρ' G' v x
  | _, _, .nil => .nil
  | _, _, .cons h t => .cons (Rp.mono e r h) (RpA.mono e r t)
theorem RpK.mono (e : Same G G') (r : Pre ρ ρ') : ∀ {v : List (Key × V)} {x : List (Key × PV)}, RpK K ρ G v x → RpK K ρ' G' v x
  | _, _, .nil => .nil
  | _, _, .cons h t => .cons (Rp.mono e r h) (RpK.mono e r t)
theorem RpF.mono (e : Same G G') (r : Pre ρ ρ') : ∀ {v : List (Str × V)} {x : List (Str × PV)}, RpF K ρ G v x → RpF K ρ' G' v x
  | _, _, .nil => .nil
  | _, _, .cons h t => .cons (Rp.mono e r h) (RpF.mono e r t)
end
theorem RpA.length : ∀ {vs : List V} {xs : List PV}, RpA K ρ G vs xs → vs.length = xs.length
  | _, _, .nil => rfl
  | _, _, .cons _ t => by rw [List.length_cons, List.length_cons, RpA.length t]
theorem RpA.get : ∀ {vs : List V} {xs : List PV} {i : Nat} {x : PV}, RpA K ρ G vs xs → xs[i]? = some x → ∃ v, vs[i]? = some v ∧ Rp K ρ G v x
  | _, _, _, _, .nil, e => by simp at e
  | _, _, 0, _, .cons r _, e => by simp at e; subst e; exact ⟨_, rfl, r⟩
  | _, _, i + 1, x, .cons _ t, e => by
    obtain ⟨u, h1, h2⟩ := RpA.get (i := i) (x := x) t (by simpa using e)
    exact ⟨u, by simpa using h1, h2⟩
theorem RpA.getV : ∀ {vs : List V} {xs : List PV} {i : Nat} {v : V}, RpA K ρ G vs xs → vs[i]? = some v → ∃ x, xs[i]? = some x ∧ Rp K ρ G v x
  | _, _, _, _, .nil, e => by simp at e
  | _, _, 0, _, .cons r _, e => by simp at e; subst e; exact ⟨_, rfl, r⟩
  | _, _, i + 1, x, .cons _ t, e => by
    obtain ⟨u, h1, h2⟩ := RpA.getV (i := i) (v := x) t (by simpa using e)
    exact ⟨u, by simpa using h1, h2⟩
theorem RpA.append : ∀ {vs ws : List V} {xs ys : List PV}, RpA K ρ G vs xs → RpA K ρ G ws ys → RpA K ρ G (vs ++ ws) (xs ++ ys)
  | _, _, _, _, .nil, s => s
  | _, _, _, _, .cons r t, s => .cons r (RpA.append t s)
theorem RpA.take : ∀ {vs : List V} {xs : List PV} (n : Nat), RpA K ρ G vs xs → RpA K ρ G (vs.take n) (xs.take n)
  | _, _, 0, _ => .nil
  | _, _, _ + 1, .nil => .nil
  | _, _, n + 1, .cons r t => .cons r (RpA.take n t)
theorem RpA.drop : ∀ {vs : List V} {xs : List PV} (n : Nat), RpA K ρ G vs xs → RpA K ρ G (vs.drop n) (xs.drop n)
  | _, _, 0, r => r
  | _, _, _ + 1, .nil => .nil
  | _, _, n + 1, .cons _ t => RpA.drop n t
theorem RpA.set {v : V} {x : PV} (r : Rp K ρ G v x) : ∀ {vs : List V} {xs : List PV} (i : Nat), RpA K ρ G vs xs → RpA K ρ G (vs.set i v) (xs.set i x)
  | _, _, _, .nil => .nil
  | _, _, 0, .cons _ t => .cons r t
  | _, _, i + 1, .cons q t => .cons q (RpA.set r i t)
theorem RpA.rev : ∀ {vs : List V} {xs : List PV}, RpA K ρ G vs xs → RpA K ρ G vs.reverse xs.reverse
  | _, _, .nil => .nil
  | _, _, .cons r t => by
    rw [List.reverse_cons, List.reverse_cons]
    exact RpA.append (RpA.rev t) (.cons r .nil)
theorem RpA.snoc {vs : List V} {xs : List PV} {v : V} {x : PV} (t : RpA K ρ G vs xs) (r : Rp K ρ G v x) : RpA K ρ G (vs ++ [v]) (xs ++ [x]) := RpA.append t (.cons r .nil)
theorem RpA.dropLast {vs : List V} {xs : List PV} (t : RpA K ρ G vs xs) : RpA K ρ G vs.dropLast xs.dropLast := by
  rw [List.dropLast_eq_take, List.dropLast_eq_take, ← t.length]
  exact RpA.take _ t
theorem RpA.eraseIdx : ∀ {vs : List V} {xs : List PV} (i : Nat), RpA K ρ G vs xs → RpA K ρ G (vs.eraseIdx i) (xs.eraseIdx i)
  | _, _, _, .nil => .nil
  | _, _, 0, .cons _ t => t
  | _, _, i + 1, .cons q t => .cons q (RpA.eraseIdx i t)
theorem RpF.length : ∀ {vs : List (Str × V)} {xs : List (Str × PV)}, RpF K ρ G vs xs → vs.length = xs.length
  | _, _, .nil => rfl
  | _, _, .cons _ t => by rw [List.length_cons, List.length_cons, RpF.length t]
theorem RpF.look {f : Str} : ∀ {vs : List (Str × V)} {xs : List (Str × PV)} {x : PV}, RpF K ρ G vs xs → xs.lookup f = some x → ∃ v, vs.lookup f = some v ∧ Rp K ρ G v x
  | _, _, _, .nil, e => by simp at e
  | _, _, x, .cons (k := k) r t, e => by
    rw [List.lookup_cons] at e
    rw [List.lookup_cons]
    cases q : f == k with
    | true =>
      rw [q] at e
      exact ⟨_, rfl, (Option.some.inj e) ▸ r⟩
    | false =>
      rw [q] at e
      exact RpF.look t e
theorem RpF.lookN {f : Str} : ∀ {vs : List (Str × V)} {xs : List (Str × PV)}, RpF K ρ G vs xs → xs.lookup f = none → vs.lookup f = none
  | _, _, .nil, e => rfl
  | _, _, .cons (k := k) r t, e => by
    rw [List.lookup_cons] at e
    rw [List.lookup_cons]
    cases q : f == k with
    | true =>
      rw [q] at e
      cases e
    | false =>
      rw [q] at e
      exact RpF.lookN t e
/-- an attribute stored -/
def putP (f : Str) (x : PV) : List (Str × PV) → List (Str × PV)
  | [] => [(f, x)]
  | (g, y) :: r => if g = f then (g, x) :: r else (g, y) :: putP f x r
theorem RpF.put {f : Str} {v : V} {x : PV} (r : Rp K ρ G v x) : ∀ {vs : List (Str × V)} {xs : List (Str × PV)}, RpF K ρ G vs xs → RpF K ρ G (putF f v vs) (putP f x xs)
  | _, _, .nil => .cons r .nil
  | _, _, .cons (k := k) q t => by
    show RpF K ρ G (if k = f then _ else _) (if k = f then _ else _)
    by_cases e : k = f
    · rw [if_pos e, if_pos e]; exact .cons r t
    · rw [if_neg e, if_neg e]; exact .cons q (RpF.put r t)
end

/-! ### slots, state, world -/
inductive Slot where
  | emp | val (x : PV) | own (x : PV) | bor (x : PV)
  /-- owned, walked just now: neither written nor set -/
  | lent (x : PV)
  /-- owned, written, never set: the self of an __init__ -/
  | slf (x : PV)
  /-- a caught exception: where it stands, where its dict stands, its class, its fields -/
  | exc (a d C : Addr) (fs : List (Str × PV))
def Slot.isH : Slot → Bool
  | .own _ => true
  | .lent _ => true
  | .slf _ => true
  | _ => false
def Slot.isL : Slot → Bool
  | .lent _ => true
  | .slf _ => true
  | _ => false
/-- the slots of the frame, the contents of the cells -/
structure MS where
  sl : List Slot
  c : List PV
/-- a value on its way: kept; a new object that nothing else holds; the object of a slot; lent -/
inductive TV where
  | val (x : PV) | fresh (x : PV) | slot (i : Nat) | bor (x : PV)

/-- the object at p, owned or a cell, and what it holds -/
def OwnR (K : PySem.W.Frag) (ρ : List Addr) (B H : Hp) (p : Addr) : PV → Prop
  | .lst xs => ∃ vs, H p = some (.lst vs) ∧ RpA K ρ B vs xs
  | .dct ds => ∃ kvs, H p = some (.dK kvs) ∧ RpK K ρ B kvs ds
  | .obj C gs => ∃ dx fs, H p = some (.ins C dx fs) ∧ RpF K ρ B fs gs
  | _ => False
/-- a cell: as an owned object, or a bag (a list of two ints, of which only bounds are told) -/
def CelR (K : PySem.W.Frag) (ρ : List Addr) (B H : Hp) (p : Addr) (x : PV) : Prop :=
  OwnR K ρ B H p x ∨ (x = .bag ∧ ∃ y m : Int, H p = some (.lst [.int y, .int m]) ∧ 0 ≤ y ∧ 0 ≤ m ∧ m < 4294967296)

structure Wo where
  ρ : List Addr
  B : Hp
  F : Hp
structure Wo.le (W W' : Wo) : Prop where
  r : Pre W.ρ W'.ρ
  b : Same W.B W'.B
  f : Same W.F W'.F
theorem Wo.le.refl (W : Wo) : W.le W := ⟨Pre.refl _, Same.refl _, Same.refl _⟩
theorem Wo.le.trans {a b c : Wo} (h : a.le b) (g : b.le c) : a.le c := ⟨h.r.trans g.r, h.b.trans g.b, h.f.trans g.f⟩

/-- the entry of the def -/
structure An where
  ρ0 : List Addr
  B0 : Hp
  F0 : Hp
  H0 : Hp
  /-- slots that are walked -/
  pin : Nat → Option (Addr × PV) := fun _ => none
  /-- slots that keep their object -/
  fix : Nat → Option Addr := fun _ => none

section
variable (K : PySem.W.Frag)
def SlotR (A : An) (W : Wo) (σ : L2.St) (H : Hp) (i : Nat) : Slot → Prop
  | .emp => True
  | .val x => ∃ v, σ[i]? = some (some v) ∧ Rp K W.ρ W.B v x
  | .bor x => ∃ p, σ[i]? = some (some (.ref p)) ∧ OwnR K W.ρ W.B W.F p x
  | .own x => ∃ p, σ[i]? = some (some (.ref p)) ∧ W.F p = none ∧ p ∉ W.ρ ∧ OwnR K W.ρ W.B H p x ∧ A.H0 p = none
  | .lent x => ∃ p, σ[i]? = some (some (.ref p)) ∧ W.F p = none ∧ p ∉ W.ρ ∧ OwnR K W.ρ W.B H p x ∧ A.pin i = some (p, x)
  | .slf x => ∃ p, σ[i]? = some (some (.ref p)) ∧ W.F p = none ∧ p ∉ W.ρ ∧ OwnR K W.ρ W.B H p x ∧ A.H0 p = none ∧ A.fix i = some p ∧ i = 0
  | .exc a d _ fs => σ[i]? = some (some (.ref a)) ∧ ∃ us, W.B d = some (.xd us) ∧ RpF K W.ρ W.B us fs
/-- THE WORLD: the state S stands in the slots σ and the heap H -/
structure Wd (A : An) (W : Wo) (S : MS) (σ : L2.St) (H : Hp) : Prop where
  bf : Same W.B W.F
  fh : Same W.F H
  cl : W.ρ.length = S.c.length
  nd : W.ρ.Nodup
  cel : ∀ (n : Nat) (x : PV), S.c[n]? = some x → ∃ a : Addr, W.ρ[n]? = some a ∧ W.F a = none ∧ CelR K W.ρ W.B H a x
  sl : σ.length = S.sl.length
  slot : ∀ (i : Nat) (s : Slot), S.sl[i]? = some s → SlotR K A W σ H i s
  dis : ∀ (i j : Nat) (p : Addr) (x y : Slot), i ≠ j → S.sl[i]? = some x → S.sl[j]? = some y → x.isH = true → y.isH = true → σ[i]? = some (some (.ref p)) → σ[j]? = some (some (.ref p)) → False
  pinOk : ∀ (i : Nat) (p : Addr) (x : PV), A.pin i = some (p, x) → σ[i]? = some (some (.ref p)) ∧ S.sl[i]? = some (.lent x)
  ar : Pre A.ρ0 W.ρ
  ab : Same A.B0 W.B
  af : Same A.F0 W.F
  keep : ∀ a o, A.H0 a = some o → a ∉ A.ρ0 → H a = some o
  new : ∀ a o, W.B a = some o → A.B0 a = none → A.H0 a = none
  newr : ∀ a, a ∈ W.ρ → a ∉ A.ρ0 → A.H0 a = none
  newF : ∀ a o, W.F a = some o → A.F0 a = none → A.H0 a = none
def TvR (A : An) (W : Wo) (S : MS) (σ : L2.St) (H : Hp) : TV → V → Prop
  | .val x, v => Rp K W.ρ W.B v x
  | .bor x, v => ∃ p, v = .ref p ∧ OwnR K W.ρ W.B W.F p x
  | .slot i, v => σ[i]? = some (some v)
  | .fresh x, v => ∃ p, v = .ref p ∧ W.F p = none ∧ p ∉ W.ρ ∧ (∀ (i : Nat) (y : Slot), S.sl[i]? = some y → y.isH = true → σ[i]? ≠ some (some (.ref p))) ∧ OwnR K W.ρ W.B H p x ∧ A.H0 p = none
end

/-- read now: kept, or an object whose parts are kept -/
def RR (K : PySem.W.Frag) (W : Wo) (H : Hp) (v : V) (x : PV) : Prop := Rp K W.ρ W.B v x ∨ ∃ p, v = .ref p ∧ OwnR K W.ρ W.B H p x
/-- what a value on its way is now -/
def rdK (S : MS) (t : TV) (k : PV → Prop) : Prop :=
  match t with
  | .val x => k x
  | .fresh x => k x
  | .bor x => k x
  | .slot i => match S.sl[i]? with
    | some (.own x) => k x
    | some (.val x) => k x
    | some (.lent x) => k x
    | some (.slf x) => k x
    | _ => False
/-- kept for good: a new object is given away, a slot's object is frozen; what is lent cannot be kept -/
def kpK (S : MS) (t : TV) (k : PV → MS → Prop) : Prop :=
  match t with
  | .val x => k x S
  | .fresh x => k x S
  | .bor _ => False
  | .slot i => match S.sl[i]? with
    | some (.own x) => k x { S with sl := S.sl.set i (.val x) }
    | some (.val x) => k x S
    | _ => False

section
variable {K : PySem.W.Frag} {A : An} {W W' : Wo} {S S' : MS} {σ : L2.St} {H H' : Hp}
theorem OwnR.mono {ρ ρ' : List Addr} {B B' : Hp} {p : Addr} {x : PV} (e : Same B B') (r : Pre ρ ρ') (k : ∀ o, H p = some o → H' p = some o) (h : OwnR K ρ B H p x) : OwnR K ρ' B' H' p x := by
  cases x with
  | lst xs => obtain ⟨vs, a, b⟩ := h; exact ⟨vs, k _ a, b.mono e r⟩
  | dct xs => obtain ⟨vs, a, b⟩ := h; exact ⟨vs, k _ a, b.mono e r⟩
  | obj C gs => obtain ⟨dx, fs, a, b⟩ := h; exact ⟨dx, fs, k _ a, b.mono e r⟩
  | _ => exact h.elim
theorem CelR.mono {ρ ρ' : List Addr} {B B' : Hp} {p : Addr} {x : PV} (e : Same B B') (r : Pre ρ ρ') (k : ∀ o, H p = some o → H' p = some o) (h : CelR K ρ B H p x) : CelR K ρ' B' H' p x := by
  rcases h with h | ⟨rfl, y, m, a, b⟩
  · exact .inl (h.mono e r k)
  · exact .inr ⟨rfl, y, m, k _ a, b⟩
theorem OwnR.ex {ρ : List Addr} {B : Hp} {p : Addr} {x : PV} (h : OwnR K ρ B H p x) : ∃ o, H p = some o := by
  cases x with
  | lst xs => obtain ⟨vs, a, b⟩ := h; exact ⟨_, a⟩
  | dct xs => obtain ⟨vs, a, b⟩ := h; exact ⟨_, a⟩
  | obj C gs => obtain ⟨dx, fs, a, b⟩ := h; exact ⟨_, a⟩
  | _ => exact h.elim
theorem CelR.ex {ρ : List Addr} {B : Hp} {p : Addr} {x : PV} (h : CelR K ρ B H p x) : ∃ o, H p = some o := by
  rcases h with h | ⟨rfl, y, m, a, b⟩
  · exact h.ex
  · exact ⟨_, a⟩
/-- what is owned, read -/
theorem OwnR.rp {ρ : List Addr} {B : Hp} {p : Addr} {x : PV} (h : OwnR K ρ B H p x) (e : Same B H) : Rp K ρ H (.ref p) x := by
  cases x with
  | lst xs => obtain ⟨vs, a, b⟩ := h; exact .lst a (b.mono e (Pre.refl _))
  | dct xs => obtain ⟨vs, a, b⟩ := h; exact .dct a (b.mono e (Pre.refl _))
  | obj C gs => obtain ⟨dx, fs, a, b⟩ := h; exact .obj a (b.mono e (Pre.refl _))
  | _ => exact h.elim
/-- .. over a heap that has it -/
theorem OwnR.rpAt {ρ : List Addr} {B G : Hp} {p : Addr} {x : PV} {o : HO} (h : OwnR K ρ B H p x) (ho : H p = some o) (e : Same B G) (hg : G p = some o) : Rp K ρ G (.ref p) x := by
  cases x with
  | lst xs => obtain ⟨vs, a, b⟩ := h; rw [ho] at a; exact .lst (hg.trans a) (b.mono e (Pre.refl _))
  | dct xs => obtain ⟨vs, a, b⟩ := h; rw [ho] at a; exact .dct (hg.trans a) (b.mono e (Pre.refl _))
  | obj C gs => obtain ⟨dx, fs, a, b⟩ := h; rw [ho] at a; exact .obj (hg.trans a) (b.mono e (Pre.refl _))
  | _ => exact h.elim

theorem Wd.bh (w : Wd K A W S σ H) : Same W.B H := w.bf.trans w.fh
theorem Wd.celRho (w : Wd K A W S σ H) {a : Addr} (h : a ∈ W.ρ) : ∃ (n : Nat) (x : PV), S.c[n]? = some x ∧ W.ρ[n]? = some a := by
  obtain ⟨n, hn⟩ := List.mem_iff_getElem?.mp h
  have hl : n < S.c.length := by
    have := (List.getElem?_eq_some_iff.mp hn).1
    rw [← w.cl]; exact this
  exact ⟨n, S.c[n], List.getElem?_eq_getElem hl, hn⟩
theorem Wd.rhoSome (w : Wd K A W S σ H) {a : Addr} (h : a ∈ W.ρ) : W.F a = none ∧ ∃ o, H a = some o := by
  obtain ⟨n, x, h1, h2⟩ := w.celRho h
  obtain ⟨b, e1, e2, e3⟩ := w.cel n x h1
  rw [h2] at e1
  obtain rfl : a = b := Option.some.inj e1
  exact ⟨e2, e3.ex⟩
/-- what is not there now was not there at the entry -/
theorem Wd.h0 (w : Wd K A W S σ H) {a : Addr} (h : H a = none) : A.H0 a = none := by
  cases q : A.H0 a with
  | none => rfl
  | some o =>
    by_cases hr : a ∈ A.ρ0
    · obtain ⟨n, hn⟩ := List.mem_iff_getElem?.mp hr
      obtain ⟨_, o', e⟩ := w.rhoSome (List.mem_iff_getElem?.mpr ⟨n, w.ar _ _ hn⟩)
      rw [h] at e; cases e
    · rw [w.keep a o q hr] at h; cases h
theorem Wd.freeF (w : Wd K A W S σ H) {a : Addr} (h : H a = none) : W.F a = none := w.fh.free h
theorem Wd.newB (w : Wd K A W S σ H) {a : Addr} (h : H a = none) : W.B a = none := w.bh.free h
theorem Wd.newRho (w : Wd K A W S σ H) {a : Addr} (h : H a = none) : a ∉ W.ρ := fun q => by
  obtain ⟨_, o, e⟩ := w.rhoSome q
  rw [h] at e; cases e
theorem Wd.ownSome (w : Wd K A W S σ H) {i : Nat} {x : PV} {p : Addr} (h : S.sl[i]? = some (.own x)) (hp : σ[i]? = some (some (.ref p))) :
    W.F p = none ∧ p ∉ W.ρ ∧ OwnR K W.ρ W.B H p x ∧ A.H0 p = none := by
  obtain ⟨q, e, r⟩ := w.slot i _ h
  rw [hp] at e
  cases e
  exact r
theorem Wd.heldSome (w : Wd K A W S σ H) {i : Nat} {s : Slot} {p : Addr} (h : S.sl[i]? = some s) (hh : s.isH = true) (hp : σ[i]? = some (some (.ref p))) : W.F p = none ∧ p ∉ W.ρ ∧ ∃ o, H p = some o := by
  have z := w.slot i _ h
  cases s with
  | own x =>
    obtain ⟨q, e, f1, f2, f3, _⟩ := z
    rw [hp] at e; cases e
    exact ⟨f1, f2, f3.ex⟩
  | lent x =>
    obtain ⟨q, e, f1, f2, f3, _⟩ := z
    rw [hp] at e; cases e
    exact ⟨f1, f2, f3.ex⟩
  | slf x =>
    obtain ⟨q, e, f1, f2, f3, _⟩ := z
    rw [hp] at e; cases e
    exact ⟨f1, f2, f3.ex⟩
  | _ => cases hh
theorem Wd.newOwn (w : Wd K A W S σ H) {p : Addr} (h : H p = none) : ∀ (i : Nat) (y : Slot), S.sl[i]? = some y → y.isH = true → σ[i]? ≠ some (some (.ref p)) := fun i y e hh z => by
  obtain ⟨_, _, o, q⟩ := w.heldSome e hh z
  rw [h] at q; cases q
theorem SlotR.mono {i : Nat} {s : Slot} (l : W.le W') (k : ∀ p x, s.isH = true → σ[i]? = some (some (.ref p)) → W.F p = none → p ∉ W.ρ → OwnR K W.ρ W.B H p x → W'.F p = none ∧ p ∉ W'.ρ ∧ OwnR K W'.ρ W'.B H' p x) (h : SlotR K A W σ H i s) : SlotR K A W' σ H' i s := by
  cases s with
  | emp => exact trivial
  | val x => obtain ⟨v, a, b⟩ := h; exact ⟨v, a, b.mono l.b l.r⟩
  | exc a d C fs => obtain ⟨e, us, h1, h2⟩ := h; exact ⟨e, us, l.b _ _ h1, h2.mono l.b l.r⟩
  | bor x => obtain ⟨v, a, b⟩ := h; exact ⟨v, a, b.mono l.b l.r fun _ z => l.f _ _ z⟩
  | own x =>
    obtain ⟨p, a, b, c, d, e⟩ := h
    obtain ⟨b', c', d'⟩ := k p x rfl a b c d
    exact ⟨p, a, b', c', d', e⟩
  | lent x =>
    obtain ⟨p, a, b, c, d, e⟩ := h
    obtain ⟨b', c', d'⟩ := k p x rfl a b c d
    exact ⟨p, a, b', c', d', e⟩
  | slf x =>
    obtain ⟨p, a, b, c, d, e⟩ := h
    obtain ⟨b', c', d'⟩ := k p x rfl a b c d
    exact ⟨p, a, b', c', d', e⟩
theorem same_upd {B : Hp} {p : Addr} {o : HO} (h : B p = none) : Same B (upd B p o) := fun b u e => by
  rw [upd_ne (ne_of_none e h)]; exact e
/-- an object that nothing else holds is taken among what is kept -/
theorem Wd.absorb (w : Wd K A W S σ H) {p : Addr} {o : HO} (hp : H p = some o) (hF : W.F p = none) (hr : p ∉ W.ρ) (hs : ∀ (i : Nat) (y : Slot), S.sl[i]? = some y → y.isH = true → σ[i]? ≠ some (some (.ref p))) (h0 : A.H0 p = none) :
    Wd K A ⟨W.ρ, upd W.B p o, upd W.F p o⟩ S σ H ∧ W.le ⟨W.ρ, upd W.B p o, upd W.F p o⟩ := by
  have hB : W.B p = none := w.bf.free hF
  have l : W.le ⟨W.ρ, upd W.B p o, upd W.F p o⟩ := ⟨Pre.refl _, same_upd hB, same_upd hF⟩
  refine ⟨⟨fun b u e => ?_, fun b u e => ?_, w.cl, w.nd, fun n x e => ?_, w.sl, fun i s e => ?_, w.dis, w.pinOk, w.ar, w.ab.trans l.b, w.af.trans l.f, w.keep, fun a u e e0 => ?_, w.newr, fun a u e e0 => ?_⟩, l⟩
  · have e' : upd W.B p o b = some u := e
    show upd W.F p o b = some u
    by_cases q : b = p
    · subst q; rw [upd_same] at e' ⊢; exact e'
    · rw [upd_ne q] at e' ⊢; exact w.bf b u e'
  · have e' : upd W.F p o b = some u := e
    by_cases q : b = p
    · subst q; rw [upd_same] at e'; exact hp.trans e'
    · rw [upd_ne q] at e'; exact w.fh b u e'
  · obtain ⟨a, e1, e2, e3⟩ := w.cel n x e
    have : a ≠ p := fun z => hr (by rw [← z]; exact List.mem_iff_getElem?.mpr ⟨n, e1⟩)
    exact ⟨a, e1, by show upd W.F p o a = none; rw [upd_ne this]; exact e2, e3.mono l.b l.r fun _ z => z⟩
  · refine (w.slot i s e).mono l fun q x es eq f1 f2 f3 => ?_
    have : q ≠ p := fun z => hs i s e es (by rw [← z]; exact eq)
    exact ⟨by show upd W.F p o q = none; rw [upd_ne this]; exact f1, f2, f3.mono l.b l.r fun _ z => z⟩
  · by_cases q : a = p
    · subst q; exact h0
    · have e' : upd W.B p o a = some u := e
      rw [upd_ne q] at e'; exact w.new a u e' e0
  · by_cases q : a = p
    · subst q; exact h0
    · have e' : upd W.F p o a = some u := e
      rw [upd_ne q] at e'; exact w.newF a u e' e0
theorem Wd.settle (w : Wd K A W S σ H) {x : PV} {v : V} (h : TvR K A W S σ H (.fresh x) v) : ∃ W', W.le W' ∧ Wd K A W' S σ H ∧ Rp K W'.ρ W'.B v x := by
  obtain ⟨p, rfl, hF, hr, hs, ho, h0⟩ := h
  obtain ⟨o, hp⟩ := ho.ex
  obtain ⟨w', l⟩ := w.absorb hp hF hr hs h0
  exact ⟨_, l, w', ho.rpAt hp l.b upd_same⟩
theorem get_set {α : Type} {l : List α} {i j : Nat} {a b : α} (h : (l.set i a)[j]? = some b) : (i = j ∧ b = a) ∨ (i ≠ j ∧ l[j]? = some b) := by
  by_cases e : i = j
  · subst e
    have hl : i < l.length := by
      have := (List.getElem?_eq_some_iff.mp h).1
      rwa [List.length_set] at this
    rw [List.getElem?_set_self hl] at h
    exact .inl ⟨rfl, (Option.some.inj h).symm⟩
  · rw [List.getElem?_set_ne e] at h
    exact .inr ⟨e, h⟩
/-- one slot told otherwise: as an owner only where it was one -/
theorem Wd.tell (w : Wd K A W S σ H) {i : Nat} {s s0 : Slot} (h0 : S.sl[i]? = some s0) (no : s.isH = true → s0.isH = true) (np : s0.isL = true → A.pin i = none) (h : SlotR K A W σ H i s) : Wd K A W { S with sl := S.sl.set i s } σ H :=
  ⟨w.bf, w.fh, w.cl, w.nd, w.cel, by show σ.length = (S.sl.set i s).length; rw [List.length_set]; exact w.sl, fun j t e => by
    rcases get_set e with ⟨rfl, rfl⟩ | ⟨_, e⟩
    · exact h
    · exact w.slot j t e, fun j k p x y ne e1 e2 hx hy z1 z2 => by
      have go : ∀ (j : Nat) (x : Slot), (S.sl.set i s)[j]? = some x → x.isH = true → ∃ x', S.sl[j]? = some x' ∧ x'.isH = true := fun j x e hx => by
        rcases get_set e with ⟨rfl, rfl⟩ | ⟨_, e⟩
        · exact ⟨s0, h0, no hx⟩
        · exact ⟨x, e, hx⟩
      obtain ⟨x', a1, a2⟩ := go j x e1 hx
      obtain ⟨y', b1, b2⟩ := go k y e2 hy
      exact w.dis j k p x' y' ne a1 b1 a2 b2 z1 z2, fun j p x e => by
      obtain ⟨a, b⟩ := w.pinOk j p x e
      by_cases q : i = j
      · subst q
        rw [h0] at b
        cases b
        rw [np rfl] at e
        cases e
      · exact ⟨a, by show (S.sl.set i s)[j]? = _; rw [List.getElem?_set_ne q]; exact b⟩, w.ar, w.ab, w.af, w.keep, w.new, w.newr, w.newF⟩
/-- the object of a slot is frozen -/
theorem Wd.freeze (w : Wd K A W S σ H) {i : Nat} {x : PV} (h : S.sl[i]? = some (.own x)) : ∃ W', W.le W' ∧ Wd K A W' { S with sl := S.sl.set i (.val x) } σ H := by
  obtain ⟨p, e, f1, f2, f3, f4⟩ := w.slot i _ h
  obtain ⟨o, hp⟩ := f3.ex
  have w1 := w.tell (s := .emp) h (fun z => nomatch z) (fun z => nomatch z) trivial
  obtain ⟨w2, l⟩ := w1.absorb hp f1 f2 (fun j y ej hh z => by
    rcases get_set ej with ⟨_, q⟩ | ⟨ne, ej⟩
    · subst q; cases hh
    · exact w.dis i j p (.own x) y ne h ej rfl hh e z) f4
  refine ⟨_, l, ?_⟩
  have hi : i < S.sl.length := (List.getElem?_eq_some_iff.mp h).1
  have w3 := w2.tell (i := i) (s := .val x) (s0 := .emp) (List.getElem?_set_self hi) (fun z => nomatch z) (fun z => nomatch z) ⟨.ref p, e, f3.rpAt hp l.b upd_same⟩
  have q : ({ sl := (S.sl.set i .emp).set i (.val x), c := S.c } : MS) = { S with sl := S.sl.set i (.val x) } := by rw [List.set_set]
  rw [← q]
  exact w3
/-- what a value on its way is, read now -/
theorem Wd.rd (w : Wd K A W S σ H) {t : TV} {v : V} {k : PV → Prop} (h : TvR K A W S σ H t v) (r : rdK S t k) : ∃ x, k x ∧ RR K W H v x := by
  cases t with
  | val x => exact ⟨x, r, .inl h⟩
  | bor x =>
    obtain ⟨p, rfl, ho⟩ := h
    exact ⟨x, r, .inr ⟨p, rfl, ho.mono (Same.refl _) (Pre.refl _) fun _ z => w.fh _ _ z⟩⟩
  | fresh x =>
    obtain ⟨p, rfl, _, _, _, ho, _⟩ := h
    exact ⟨x, r, .inr ⟨p, rfl, ho⟩⟩
  | slot i =>
    have r' : (match S.sl[i]? with | some (.own x) => k x | some (.val x) => k x | some (.lent x) => k x | some (.slf x) => k x | _ => False) := r
    cases q : S.sl[i]? with
    | none => rw [q] at r'; exact r'.elim
    | some s =>
      rw [q] at r'
      have z := w.slot i s q
      have h' : σ[i]? = some (some v) := h
      cases s with
      | emp => exact r'.elim
      | exc a d C fs => exact r'.elim
      | bor x => exact r'.elim
      | val x =>
        obtain ⟨u, e, rp⟩ := z
        rw [h'] at e; cases e
        exact ⟨x, r', .inl rp⟩
      | own x =>
        obtain ⟨p, e, _, _, ho, _⟩ := z
        rw [h'] at e; cases e
        exact ⟨x, r', .inr ⟨p, rfl, ho⟩⟩
      | lent x =>
        obtain ⟨p, e, _, _, ho, _⟩ := z
        rw [h'] at e; cases e
        exact ⟨x, r', .inr ⟨p, rfl, ho⟩⟩
      | slf x =>
        obtain ⟨p, e, _, _, ho, _⟩ := z
        rw [h'] at e; cases e
        exact ⟨x, r', .inr ⟨p, rfl, ho⟩⟩
/-- .. kept for good -/
theorem Wd.kp (w : Wd K A W S σ H) {t : TV} {v : V} {k : PV → MS → Prop} (h : TvR K A W S σ H t v) (r : kpK S t k) : ∃ W' S' x, W.le W' ∧ Wd K A W' S' σ H ∧ Rp K W'.ρ W'.B v x ∧ k x S' := by
  cases t with
  | val x => exact ⟨W, S, x, Wo.le.refl _, w, h, r⟩
  | bor x => exact r.elim
  | fresh x =>
    obtain ⟨W', l, w', rp⟩ := w.settle h
    exact ⟨W', S, x, l, w', rp, r⟩
  | slot i =>
    have r' : (match S.sl[i]? with | some (.own x) => k x { S with sl := S.sl.set i (.val x) } | some (.val x) => k x S | _ => False) := r
    cases q : S.sl[i]? with
    | none => rw [q] at r'; exact r'.elim
    | some s =>
      rw [q] at r'
      have h' : σ[i]? = some (some v) := h
      cases s with
      | emp => exact r'.elim
      | exc a d C fs => exact r'.elim
      | bor x => exact r'.elim
      | lent x => exact r'.elim
      | slf x => exact r'.elim
      | val x =>
        obtain ⟨u, e, rp⟩ := w.slot i _ q
        rw [h'] at e; cases e
        exact ⟨W, S, x, Wo.le.refl _, w, rp, r'⟩
      | own x =>
        obtain ⟨W', l, w'⟩ := w.freeze q
        have hi : i < S.sl.length := (List.getElem?_eq_some_iff.mp q).1
        obtain ⟨u, e, rp⟩ := w'.slot i (.val x) (List.getElem?_set_self hi)
        rw [h'] at e; cases e
        exact ⟨W', _, x, l, w', rp, r'⟩
/-- a value on its way, later (a new object excepted) -/
theorem TvR.le {t : TV} {v : V} (h : TvR K A W S σ H t v) (nf : ∀ x, t ≠ .fresh x) (l : W.le W') : TvR K A W' S' σ H' t v := by
  cases t with
  | val x => exact Rp.mono (G := W.B) l.b l.r h
  | bor x =>
    obtain ⟨p, e, ho⟩ := h
    exact ⟨p, e, ho.mono l.b l.r fun _ z => l.f _ _ z⟩
  | slot i => exact h
  | fresh x => exact absurd rfl (nf x)
def stl : TV → TV
  | .fresh x => .val x
  | t => t
theorem stl_nf (t : TV) : ∀ x, stl t ≠ .fresh x := fun x e => by cases t <;> cases e
theorem rdK_stl (S : MS) (t : TV) (k : PV → Prop) : rdK S (stl t) k = rdK S t k := by cases t <;> rfl
theorem kpK_stl (S : MS) (t : TV) (k : PV → MS → Prop) : kpK S (stl t) k = kpK S t k := by cases t <;> rfl
theorem Wd.stl (w : Wd K A W S σ H) {t : TV} {v : V} (h : TvR K A W S σ H t v) : ∃ W', W.le W' ∧ Wd K A W' S σ H ∧ TvR K A W' S σ H (stl t) v := by
  cases t with
  | val x => exact ⟨W, Wo.le.refl _, w, h⟩
  | bor x => exact ⟨W, Wo.le.refl _, w, h⟩
  | slot x => exact ⟨W, Wo.le.refl _, w, h⟩
  | fresh x =>
    obtain ⟨W', l, w', rp⟩ := w.settle h
    exact ⟨W', l, w', rp⟩
/-- a new object -/
theorem Wd.lay (w : Wd K A W S σ H) {p : Addr} {o : HO} (hp : H p = none) : Wd K A W S σ (upd H p o) := by
  have k : Same H (upd H p o) := same_upd hp
  refine ⟨w.bf, w.fh.trans k, w.cl, w.nd, fun n x e => ?_, w.sl, fun i s e => ?_, w.dis, w.pinOk, w.ar, w.ab, w.af, fun a u e r => k _ _ (w.keep a u e r), w.new, w.newr, w.newF⟩
  · obtain ⟨a, e1, e2, e3⟩ := w.cel n x e
    exact ⟨a, e1, e2, e3.mono (Same.refl _) (Pre.refl _) fun _ z => k _ _ z⟩
  · exact (w.slot i s e).mono (Wo.le.refl _) fun q x _ _ f1 f2 f3 => ⟨f1, f2, f3.mono (Same.refl _) (Pre.refl _) fun _ z => k _ _ z⟩
theorem Wd.layFresh (w : Wd K A W S σ H) {p : Addr} {o : HO} {x : PV} (hp : H p = none) (h : OwnR K W.ρ W.B (upd H p o) p x) : TvR K A W S σ (upd H p o) (.fresh x) (.ref p) :=
  ⟨p, rfl, w.freeF hp, w.newRho hp, w.newOwn hp, h, w.h0 hp⟩
theorem Wd.layTup (w : Wd K A W S σ H) {p : Addr} {vs : List V} {xs : List PV} (hp : H p = none) (h : RpA K W.ρ W.B vs xs) :
    ∃ W', W.le W' ∧ Wd K A W' S σ (upd H p (.tup vs)) ∧ Rp K W'.ρ W'.B (.ref p) (.tup xs) := by
  obtain ⟨w', l⟩ := (w.lay (o := .tup vs) hp).absorb upd_same (w.freeF hp) (w.newRho hp) (w.newOwn hp) (w.h0 hp)
  exact ⟨_, l, w', .tup (SqT.of upd_same) (h.mono l.b l.r)⟩
/-- the object of a slot is written -/
theorem Wd.wrH (w : Wd K A W S σ H) {i : Nat} {s0 s1 : Slot} {p : Addr} {o : HO} (h : S.sl[i]? = some s0) (h0 : s0.isH = true) (hp : σ[i]? = some (some (.ref p))) (f1 : W.F p = none) (f2 : p ∉ W.ρ) (f4 : A.H0 p = none)
    (np : A.pin i = none) (hy : SlotR K A W σ (upd H p o) i s1) : Wd K A W { S with sl := S.sl.set i s1 } σ (upd H p o) := by
  refine ⟨w.bf, fun b u e => ?_, w.cl, w.nd, fun n z e => ?_, by show σ.length = (S.sl.set i s1).length; rw [List.length_set]; exact w.sl, fun j s e => ?_, fun j k q x1 x2 ne e1 e2 h1 h2 z1 z2 => ?_, fun j q z e => ?_, w.ar, w.ab, w.af, fun a u e r => ?_, w.new, w.newr, w.newF⟩
  · rw [upd_ne (ne_of_none e f1)]; exact w.fh b u e
  · obtain ⟨a, e1, e2, e3⟩ := w.cel n z e
    have : a ≠ p := fun q => f2 (by rw [← q]; exact List.mem_iff_getElem?.mpr ⟨n, e1⟩)
    exact ⟨a, e1, e2, e3.mono (Same.refl _) (Pre.refl _) fun _ z => by rw [upd_ne this]; exact z⟩
  · rcases get_set e with ⟨rfl, rfl⟩ | ⟨ne, e⟩
    · exact hy
    · refine (w.slot j s e).mono (Wo.le.refl _) fun q z es eq g1 g2 g3 => ⟨g1, g2, g3.mono (Same.refl _) (Pre.refl _) fun _ z => ?_⟩
      have : q ≠ p := fun qq => w.dis i j p s0 s ne h e h0 es hp (by rw [← qq]; exact eq)
      rw [upd_ne this]; exact z
  · have go : ∀ (k : Nat) (x' : Slot), (S.sl.set i s1)[k]? = some x' → x'.isH = true → ∃ x0, S.sl[k]? = some x0 ∧ x0.isH = true := fun k x' e hh => by
      rcases get_set e with ⟨rfl, _⟩ | ⟨_, e⟩
      · exact ⟨_, h, h0⟩
      · exact ⟨_, e, hh⟩
    obtain ⟨y1, g1, g1'⟩ := go j x1 e1 h1
    obtain ⟨y2, g2, g2'⟩ := go k x2 e2 h2
    exact w.dis j k q y1 y2 ne g1 g2 g1' g2' z1 z2
  · obtain ⟨a, b⟩ := w.pinOk j q z e
    refine ⟨a, ?_⟩
    have : i ≠ j := fun qq => by
      subst qq
      rw [np] at e; cases e
    show (S.sl.set i s1)[j]? = _
    rw [List.getElem?_set_ne this]; exact b
  · have : a ≠ p := ne_of_none e f4
    rw [upd_ne this]; exact w.keep a u e r
theorem Wd.pinN0 (w : Wd K A W S σ H) {i : Nat} {s : Slot} (h : S.sl[i]? = some s) (n : ∀ x, s ≠ .lent x) : A.pin i = none := by
  cases q : A.pin i with
  | none => rfl
  | some y =>
    obtain ⟨p, z⟩ := y
    have e := (w.pinOk i p z q).2
    rw [h] at e
    cases e
    exact absurd rfl (n z)
theorem Wd.wrOwn (w : Wd K A W S σ H) {i : Nat} {x y : PV} {p : Addr} {o : HO} (h : S.sl[i]? = some (.own x)) (hp : σ[i]? = some (some (.ref p))) (hy : OwnR K W.ρ W.B (upd H p o) p y) :
    Wd K A W { S with sl := S.sl.set i (.own y) } σ (upd H p o) := by
  obtain ⟨f1, f2, f3, f4⟩ := w.ownSome h hp
  exact w.wrH h rfl hp f1 f2 f4 (w.pinN0 h fun _ e => by cases e) ⟨p, hp, f1, f2, hy, f4⟩
theorem Wd.wrSlf (w : Wd K A W S σ H) {i : Nat} {x y : PV} {p : Addr} {o : HO} (h : S.sl[i]? = some (.slf x)) (hp : σ[i]? = some (some (.ref p))) (hy : OwnR K W.ρ W.B (upd H p o) p y) :
    Wd K A W { S with sl := S.sl.set i (.slf y) } σ (upd H p o) := by
  obtain ⟨q, e, f1, f2, f3, f4, f5⟩ := w.slot i _ h
  rw [hp] at e; cases e
  exact w.wrH h rfl hp f1 f2 f4 (w.pinN0 h fun _ e => by cases e) ⟨p, hp, f1, f2, hy, f4, f5⟩
/-- a cell is written -/
theorem Wd.wrCel (w : Wd K A W S σ H) {n : Nat} {x y : PV} {p : Addr} {o : HO} (h : S.c[n]? = some x) (hp : W.ρ[n]? = some p) (hy : CelR K W.ρ W.B (upd H p o) p y) :
    Wd K A W { S with c := S.c.set n y } σ (upd H p o) := by
  have mp : p ∈ W.ρ := List.mem_iff_getElem?.mpr ⟨n, hp⟩
  have f1 := (w.rhoSome mp).1
  refine ⟨w.bf, fun b u e => ?_, by show W.ρ.length = (S.c.set n y).length; rw [List.length_set]; exact w.cl, w.nd, fun m z e => ?_, w.sl, fun j s e => ?_, w.dis, w.pinOk, w.ar, w.ab, w.af, fun a u e r => ?_, w.new, w.newr, w.newF⟩
  · rw [upd_ne (ne_of_none e f1)]; exact w.fh b u e
  · rcases get_set e with ⟨rfl, rfl⟩ | ⟨ne, e⟩
    · exact ⟨p, hp, f1, hy⟩
    · obtain ⟨a, e1, e2, e3⟩ := w.cel m z e
      have : a ≠ p := fun q => ne (nd_ix w.nd hp (by rw [← q]; exact e1))
      exact ⟨a, e1, e2, e3.mono (Same.refl _) (Pre.refl _) fun _ z => by rw [upd_ne this]; exact z⟩
  · refine (w.slot j s e).mono (Wo.le.refl _) fun q z es eq g1 g2 g3 => ⟨g1, g2, g3.mono (Same.refl _) (Pre.refl _) fun _ z => ?_⟩
    have : q ≠ p := fun qq => g2 (by rw [qq]; exact mp)
    rw [upd_ne this]; exact z
  · have : a ≠ p := fun q => by
      subst q
      rw [w.newr a mp r] at e; cases e
    rw [upd_ne this]; exact w.keep a u e r
theorem SlotR.oth {i j : Nat} {v : V} {t : Slot} (ne : i ≠ j) (z : SlotR K A W σ H j t) : SlotR K A W (σ.set i (some v)) H j t := by
  have oth : (σ.set i (some v))[j]? = σ[j]? := List.getElem?_set_ne ne
  cases t with
  | emp => exact trivial
  | exc a d C fs => obtain ⟨a, b⟩ := z; exact ⟨by rw [oth]; exact a, b⟩
  | val x => obtain ⟨u, a, b⟩ := z; exact ⟨u, by rw [oth]; exact a, b⟩
  | bor x => obtain ⟨u, a, b⟩ := z; exact ⟨u, by rw [oth]; exact a, b⟩
  | own x => obtain ⟨u, a, b⟩ := z; exact ⟨u, by rw [oth]; exact a, b⟩
  | lent x => obtain ⟨u, a, b⟩ := z; exact ⟨u, by rw [oth]; exact a, b⟩
  | slf x => obtain ⟨u, a, b⟩ := z; exact ⟨u, by rw [oth]; exact a, b⟩
/-- a slot is set (it is none that is walked) -/
theorem Wd.set (w : Wd K A W S σ H) {i : Nat} {s s0 : Slot} {v : V} (h0 : S.sl[i]? = some s0) (nl : s0.isL = false) (hn : s.isH = true → ∃ p, v = .ref p ∧ ∀ (i : Nat) (y : Slot), S.sl[i]? = some y → y.isH = true → σ[i]? ≠ some (some (.ref p)))
    (h : SlotR K A W (σ.set i (some v)) H i s) : Wd K A W { S with sl := S.sl.set i s } (σ.set i (some v)) H := by
  have oth : ∀ j, i ≠ j → (σ.set i (some v))[j]? = σ[j]? := fun j ne => List.getElem?_set_ne ne
  have hi : i < S.sl.length := (List.getElem?_eq_some_iff.mp h0).1
  have hσ : i < σ.length := by rw [w.sl]; exact hi
  refine ⟨w.bf, w.fh, w.cl, w.nd, w.cel, by show (σ.set i (some v)).length = (S.sl.set i s).length; rw [List.length_set, List.length_set]; exact w.sl, fun j t e => ?_, fun j k p x y ne e1 e2 hx hy z1 z2 => ?_, fun j p x e => ?_, w.ar, w.ab, w.af, w.keep, w.new, w.newr, w.newF⟩
  · rcases get_set e with ⟨rfl, rfl⟩ | ⟨ne, e⟩
    · exact h
    · exact (w.slot j t e).oth ne
  · rcases get_set e1 with ⟨r1, z⟩ | ⟨n1, f1⟩
    · subst r1 z
      obtain ⟨q, rfl, hq⟩ := hn hx
      rw [List.getElem?_set_self hσ] at z1
      cases z1
      rcases get_set e2 with ⟨r2, z⟩ | ⟨n2, f2⟩
      · exact ne r2
      · rw [oth k n2] at z2
        exact hq k y f2 hy z2
    · rw [oth j n1] at z1
      rcases get_set e2 with ⟨r2, z⟩ | ⟨n2, f2⟩
      · subst r2 z
        obtain ⟨q, rfl, hq⟩ := hn hy
        rw [List.getElem?_set_self hσ] at z2
        cases z2
        exact hq j x f1 hx z1
      · rw [oth k n2] at z2
        exact w.dis j k p x y ne f1 f2 hx hy z1 z2
  · obtain ⟨a, b⟩ := w.pinOk j p x e
    have ne : i ≠ j := fun q => by
      subst q
      rw [h0] at b
      cases b
      cases nl
    exact ⟨by rw [oth j ne]; exact a, by show (S.sl.set i s)[j]? = _; rw [List.getElem?_set_ne ne]; exact b⟩
/-- .. as the owner of a new object -/
theorem Wd.setOwn (w : Wd K A W S σ H) {i : Nat} {x : PV} {s0 : Slot} {v : V} (h0 : S.sl[i]? = some s0) (nl : s0.isL = false) (h : TvR K A W S σ H (.fresh x) v) : Wd K A W { S with sl := S.sl.set i (.own x) } (σ.set i (some v)) H := by
  obtain ⟨p, rfl, f1, f2, f3, f4, f5⟩ := h
  have hσ : i < σ.length := by rw [w.sl]; exact (List.getElem?_eq_some_iff.mp h0).1
  exact w.set h0 nl (fun _ => ⟨p, rfl, f3⟩) ⟨p, List.getElem?_set_self hσ, f1, f2, f4, f5⟩
/-! ### what is read, by its form -/
theorem RR.val {v : V} {x : PV} (h : Rp K W.ρ W.B v x) : RR K W H v x := .inl h
theorem RR.lst {v : V} {xs : List PV} (h : RR K W H v (.lst xs)) (e : Same W.B H) : ∃ a vs, v = .ref a ∧ H a = some (.lst vs) ∧ RpA K W.ρ W.B vs xs := by
  rcases h with h | ⟨p, rfl, vs, a, b⟩
  · cases h with
    | lst a b => exact ⟨_, _, rfl, e _ _ a, b⟩
  · exact ⟨p, vs, rfl, a, b⟩
theorem RR.dct {v : V} {xs : List (Key × PV)} (h : RR K W H v (.dct xs)) (e : Same W.B H) : ∃ a vs, v = .ref a ∧ H a = some (.dK vs) ∧ RpK K W.ρ W.B vs xs := by
  rcases h with h | ⟨p, rfl, vs, a, b⟩
  · cases h with
    | dct a b => exact ⟨_, _, rfl, e _ _ a, b⟩
  · exact ⟨p, vs, rfl, a, b⟩
theorem RR.obj {v : V} {C : Addr} {xs : List (Str × PV)} (h : RR K W H v (.obj C xs)) (e : Same W.B H) : ∃ a dx vs, v = .ref a ∧ H a = some (.ins C dx vs) ∧ RpF K W.ρ W.B vs xs := by
  rcases h with h | ⟨p, rfl, dx, vs, a, b⟩
  · cases h with
    | obj a b => exact ⟨_, _, _, rfl, e _ _ a, b⟩
  · exact ⟨p, dx, vs, rfl, a, b⟩
theorem RR.tup {v : V} {xs : List PV} (h : RR K W H v (.tup xs)) (e : Same W.B H) : ∃ a vs, v = .ref a ∧ SqT K H a vs ∧ RpA K W.ρ W.B vs xs ∧ Rp K W.ρ W.B v (.tup xs) := by
  rcases h with h | ⟨p, rfl, h⟩
  · cases h with
    | tup a b => exact ⟨_, _, rfl, same_t e a, b, .tup a b⟩
  · exact h.elim
theorem RR.int {v : V} {i : Int} (h : RR K W H v (.int i)) : v = .int i := by
  rcases h with h | ⟨p, rfl, h⟩
  · cases h; rfl
  · exact h.elim
theorem RR.bl {v : V} {i : Bool} (h : RR K W H v (.bl i)) : v = .bl i := by
  rcases h with h | ⟨p, rfl, h⟩
  · cases h; rfl
  · exact h.elim
theorem RR.str {v : V} {i : Str} (h : RR K W H v (.str i)) : v = .str i := by
  rcases h with h | ⟨p, rfl, h⟩
  · cases h; rfl
  · exact h.elim
theorem RR.non {v : V} (h : RR K W H v .non) : v = .non := by
  rcases h with h | ⟨p, rfl, h⟩
  · cases h; rfl
  · exact h.elim
theorem RR.scr {v : V} {ns : List Int} (h : RR K W H v (.scr ns)) (e : Same W.B H) : ∃ a, v = .ref a ∧ SqL K H a (ns.map V.int) := by
  rcases h with h | ⟨p, rfl, h⟩
  · cases h with
    | scr a => exact ⟨_, rfl, same_l e a⟩
  · exact h.elim
theorem RR.cel {v : V} {n : Nat} (h : RR K W H v (.cel n)) : ∃ a : Addr, v = .ref a ∧ W.ρ[n]? = some a := by
  rcases h with h | ⟨p, rfl, h⟩
  · cases h with
    | cel a => exact ⟨_, rfl, a⟩
  · exact h.elim
theorem RR.bagN {v : V} (h : RR K W H v .bag) : False := by
  rcases h with h | ⟨p, rfl, h⟩
  · cases h
  · exact h.elim
end
end BV

/-! The by-value layer, part b: judgements, calls, statements. -/
namespace BV
open PySem L2

/-- an exception by value: its class, its fields -/
structure Ex where
  C : Addr
  fs : List (Str × PV)
def XR (K : PySem.W.Frag) (W : Wo) (H : Hp) (x : Ex) (cls : Value) (d : Option Addr) : Prop :=
  cls = .ref x.C ∧ (x.fs = [] ∨ ∃ dd fs, d = some dd ∧ W.B dd = some (.xd fs) ∧ RpF K W.ρ W.B fs x.fs)

abbrev EW := MS → (TV → MS → Prop) → (Ex → MS → Prop) → Prop
abbrev TW := MS → (Bool → MS → Prop) → (Ex → MS → Prop) → Prop
abbrev AW := MS → (List TV → MS → Prop) → (Ex → MS → Prop) → Prop
/-- the ends of a statement -/
structure En where
  nx : MS → Prop
  rt : TV → MS → Prop
  bk : MS → Prop
  ct : MS → Prop
  ex : Ex → MS → Prop
abbrev SW := MS → En → Prop

/-- the link to what is wanted of exceptions -/
def LkX (K : PySem.W.Frag) (WW : WX) (A : An) (W : Wo) (PX : Ex → MS → Prop) : Prop :=
  ∀ x S' cls d W' σ' H', W.le W' → Wd K A W' S' σ' H' → XR K W' H' x cls d → PX x S' → WW cls d σ' H'
def TvRs (K : PySem.W.Frag) (A : An) (W : Wo) (S : MS) (σ : L2.St) (H : Hp) : List TV → List V → Prop := Paired fun t v => TvR K A W S σ H t v ∧ ∀ x, t ≠ .fresh x
section
variable (K : PySem.W.Frag) (WW : WX)
def embE (w : EW) : TE := fun σ H Q => ∃ A W S P PX, Wd K A W S σ H ∧ w S P PX ∧
  (∀ t S' v W' H', W.le W' → Wd K A W' S' σ H' → TvR K A W' S' σ H' t v → P t S' → Q v H') ∧ LkX K WW A W PX
def embT (w : TW) : TT := fun σ H Q => ∃ A W S P PX, Wd K A W S σ H ∧ w S P PX ∧
  (∀ b S' W' H', W.le W' → Wd K A W' S' σ H' → P b S' → Q b H') ∧ LkX K WW A W PX
def embA (w : AW) : TA := fun σ H Q => ∃ A W S P PX, Wd K A W S σ H ∧ w S P PX ∧
  (∀ ts S' vs W' H', W.le W' → Wd K A W' S' σ H' → TvRs K A W' S' σ H' ts vs → P ts S' → Q vs H') ∧ LkX K WW A W PX
structure Lk (A : An) (W : Wo) (D : Ends) (E : En) : Prop where
  nx : ∀ S' W' σ' H', W.le W' → Wd K A W' S' σ' H' → E.nx S' → D.nx σ' H'
  rt : ∀ t S' v W' σ' H', W.le W' → Wd K A W' S' σ' H' → TvR K A W' S' σ' H' t v → E.rt t S' → D.rt v H'
  bk : ∀ S' W' σ' H', W.le W' → Wd K A W' S' σ' H' → E.bk S' → D.bk σ' H'
  ct : ∀ S' W' σ' H', W.le W' → Wd K A W' S' σ' H' → E.ct S' → D.ct σ' H'
  ex : LkX K WW A W E.ex
def embS (w : SW) : TS := fun D σ H => ∃ A W S E, Wd K A W S σ H ∧ w S E ∧ Lk K WW A W D E
end
section
variable {K : PySem.W.Frag} {WW : WX} {A : An} {W W' : Wo}
theorem LkX.le {PX : Ex → MS → Prop} (h : LkX K WW A W PX) (l : W.le W') : LkX K WW A W' PX := fun x S' cls d W2 σ' H' l2 w xr p => h x S' cls d W2 σ' H' (l.trans l2) w xr p
theorem Lk.le {D : Ends} {E : En} (h : Lk K WW A W D E) (l : W.le W') : Lk K WW A W' D E :=
  ⟨fun S' W2 σ' H' l2 => h.nx S' W2 σ' H' (l.trans l2), fun t S' v W2 σ' H' l2 => h.rt t S' v W2 σ' H' (l.trans l2), fun S' W2 σ' H' l2 => h.bk S' W2 σ' H' (l.trans l2), fun S' W2 σ' H' l2 => h.ct S' W2 σ' H' (l.trans l2), h.ex.le l⟩
end

section
variable {X : Cx}
theorem pe_imp {e : Expr} {t t' : TE} (h : PE X e t) (i : ∀ σ H Q, t' σ H Q → t σ H Q) : PE X e t' := ⟨fun pins s σ H Q I q => h.run pins s σ H Q I (i σ H Q q)⟩
theorem pt_imp {e : Expr} {t t' : TT} (h : PT X e t) (i : ∀ σ H Q, t' σ H Q → t σ H Q) : PT X e t' := ⟨fun pins s σ H Q I q => h.run pins s σ H Q I (i σ H Q q)⟩
theorem pw_imp {e : Expr} {t t' : TT} (h : PW X e t) (i : ∀ σ H Q, t' σ H Q → t σ H Q) : PW X e t' := ⟨fun wh pins s σ H Q I q => h.run wh pins s σ H Q I (i σ H Q q)⟩
theorem pa_imp {e : List Expr} {t t' : TA} (h : PA X e t) (i : ∀ σ H Q, t' σ H Q → t σ H Q) : PA X e t' := ⟨fun pos pins s σ H Q I q => h.run pos pins s σ H Q I (i σ H Q q)⟩
theorem ps_imp {e : Stmt} {t t' : TS} (h : PS X e t) (i : ∀ D σ H, t' D σ H → t D σ H) : PS X e t' := ⟨fun pins s σ H D I q => h.run pins s σ H D I (i D σ H q)⟩
theorem pss_imp {e : List Stmt} {t t' : TS} (h : PSs X e t) (i : ∀ D σ H, t' D σ H → t D σ H) : PSs X e t' := ⟨fun pins s σ H D I q => h.run pins s σ H D I (i D σ H q)⟩
theorem opr_imp {f : Value → Value → Sem Value} {r r' : R2} (h : OpR X f r) (i : ∀ x y H Q, r' x y H Q → r x y H Q) : OpR X f r' := fun pins s σ H x y v u Q I rx ry q => h pins s σ H x y v u Q I rx ry (i x y H Q q)
theorem callr_imp {f : Value} {r r' : List V → Hp → VK → Prop} (h : CallR X f r) (i : ∀ xs H Q, r' xs H Q → r xs H Q) : CallR X f r' := fun pins s σ H xs us Q I rs q => h pins s σ H xs us Q I rs (i xs H Q q)
theorem mtr_imp {id : String} {r r' : V → List V → Hp → VK → Prop} (h : MtR X id r) (i : ∀ x xs H Q, r' x xs H Q → r x xs H Q) : MtR X id r' := fun pins s σ H x xs v us Q I rx rs q => h pins s σ H x xs v us Q I rx rs (i x xs H Q q)
theorem ixr_imp {r r' : R2} (h : IxR X r) (i : ∀ x y H Q, r' x y H Q → r x y H Q) : IxR X r' := fun a b pins s σ H x y v u Q I rx ry q z => h a b pins s σ H x y v u Q I rx ry (i x y H Q q) z
end

/-- the judgements by value -/
structure EM (X : Cx) (WW : WX) (e : Expr) (w : EW) : Prop where pe : PE X e (embE X.K WW w)
structure TM (X : Cx) (WW : WX) (e : Expr) (w : TW) : Prop where pt : PT X e (embT X.K WW w)
structure AM (X : Cx) (WW : WX) (es : List Expr) (w : AW) : Prop where pa : PA X es (embA X.K WW w)
structure SM (X : Cx) (WW : WX) (st : Stmt) (w : SW) : Prop where ps : PS X st (embS X.K WW w)
structure SSM (X : Cx) (WW : WX) (st : List Stmt) (w : SW) : Prop where pss : PSs X st (embS X.K WW w)

/-! ### names, constants -/
def wVar (i : Nat) : EW := fun S P _ => match S.sl[i]? with
  | some (.val x) => P (.val x) S
  | some (.own _) => P (.slot i) S
  | some (.lent _) => P (.slot i) S
  | some (.slf _) => P (.slot i) S
  | some (.bor x) => P (.bor x) S
  | _ => False
def wC (x : PV) : EW := fun S P _ => P (.val x) S
section
variable {X : Cx} {WW : WX}
theorem em_var (i : Nat) {x : Str} {pos : Pos} (hN : X.N[i]? = some x := by rfl) (hv : Vis X.env.scope x := by first | exact Or.inl rfl | exact Or.inr (Or.inl rfl) | exact Or.inr (Or.inr rfl)) (hd : (x == ("__debug__" : Str)) = false := by decide)
    (hcd : (x == ("__classdict__" : Str)) = false := by decide) : EM X WW (.Name x pos) (wVar i) := ⟨pe_imp (pe_var hN hv hd hcd) fun σ H Q ⟨A, W, S, P, PX, w, h, hp, _⟩ => by
  have h' : (match S.sl[i]? with | some (.val x) => P (.val x) S | some (.own _) => P (.slot i) S | some (.lent _) => P (.slot i) S | some (.slf _) => P (.slot i) S | some (.bor x) => P (.bor x) S | _ => False) := h
  cases q : S.sl[i]? with
  | none => rw [q] at h'; exact h'.elim
  | some s =>
    rw [q] at h'
    have z := w.slot i s q
    cases s with
    | emp => exact h'.elim
    | exc a d C fs => exact h'.elim
    | val y =>
      obtain ⟨v, e, r⟩ := z
      exact ⟨v, e, hp (.val y) S v W H (Wo.le.refl _) w r h'⟩
    | own y =>
      obtain ⟨p, e, r⟩ := z
      exact ⟨.ref p, e, hp (.slot i) S _ W H (Wo.le.refl _) w e h'⟩
    | lent y =>
      obtain ⟨p, e, r⟩ := z
      exact ⟨.ref p, e, hp (.slot i) S _ W H (Wo.le.refl _) w e h'⟩
    | slf y =>
      obtain ⟨p, e, r⟩ := z
      exact ⟨.ref p, e, hp (.slot i) S _ W H (Wo.le.refl _) w e h'⟩
    | bor y =>
      obtain ⟨p, e, r⟩ := z
      exact ⟨.ref p, e, hp (.bor y) S _ W H (Wo.le.refl _) w ⟨p, rfl, r⟩ h'⟩⟩
theorem em_const {e : Expr} {v : V} {x : PV} (h : PE X e (tC v)) (r : ∀ ρ B, Rp X.K ρ B v x) : EM X WW e (wC x) := ⟨pe_imp h fun σ H Q ⟨A, W, S, P, PX, w, h, hp, _⟩ => hp (.val x) S v W H (Wo.le.refl _) w (r _ _) h⟩
theorem em_int {i : Int} {j : Nat} {pos : Pos} : EM X WW (.Constant (.int i) j pos) (wC (.int i)) := em_const pe_int fun _ _ => .int i
theorem em_bl {i : Bool} {j : Nat} {pos : Pos} : EM X WW (.Constant (.bool i) j pos) (wC (.bl i)) := em_const pe_bl fun _ _ => .bl i
theorem em_non {j : Nat} {pos : Pos} : EM X WW (.Constant .none j pos) (wC .non) := em_const pe_non fun _ _ => .non
theorem em_str {i : Str} {j : Nat} {pos : Pos} : EM X WW (.Constant (.str i) j pos) (wC (.str i)) := em_const pe_str fun _ _ => .str i
/-- a module's constant -/
theorem em_glob {x : Str} {v : V} {u : Value} {pos : Pos} {y : PV} (hg : Gl X x) (hm : X.mg x = some u) (r : RelV v u) (ry : ∀ ρ B, Rp X.K ρ B v y) (hd : (x == ("__debug__" : Str)) = false := by decide) : EM X WW (.Name x pos) (wC y) := em_const (pe_glob hg hm r hd) ry
end

/-! ### two-place operations -/
abbrev RS2 := PV → PV → (TV → Prop) → Prop
def wOp2 (rs : RS2) (wa wb : EW) : EW := fun S P PX => wa S (fun ta S1 => wb S1 (fun tb S2 => rdK S2 ta fun x => rdK S2 tb fun y => rs x y fun t => P t S2) PX) PX
/-- the reading that a by-value operation stands for -/
def embR (K : PySem.W.Frag) (rs : RS2) : R2 := fun vx vy H Q => ∃ A W S σ x y k, Wd K A W S σ H ∧ RR K W H vx x ∧ RR K W H vy y ∧ rs x y k ∧
  ∀ t v W' H', W.le W' → Wd K A W' S σ H' → TvR K A W' S σ H' t v → k t → Q v H'
theorem emb_op2 {K : PySem.W.Frag} {WW : WX} {rs : RS2} {wa wb : EW} {σ : L2.St} {H : Hp} {Q : VK} : embE K WW (wOp2 rs wa wb) σ H Q → tOp (embR K rs) (embE K WW wa) (embE K WW wb) σ H Q := fun ⟨A, W, S, P, PX, w, h, hp, hx⟩ => by
  refine ⟨A, W, S, _, PX, w, h, fun t S1 v W1 H1 l1 w1 tv1 h1 => ?_, hx⟩
  obtain ⟨W2, l2, w2, tv2⟩ := w1.stl tv1
  refine ⟨A, W2, S1, _, PX, w2, h1, fun t2 S2 u W3 H3 l3 w3 tv3 h3 => ?_, hx.le (l1.trans l2)⟩
  have h3' : rdK S2 (stl t) fun x => rdK S2 t2 fun y => rs x y fun r => P r S2 := by rw [rdK_stl]; exact h3
  obtain ⟨x, h4, r1⟩ := w3.rd (tv2.le (S' := S2) (H' := H3) (stl_nf _) l3) h3'
  obtain ⟨y, h5, r2⟩ := w3.rd tv3 h4
  exact ⟨A, W3, S2, σ, x, y, _, w3, r1, r2, h5, fun r v' W' H' l w' tv k => hp r S2 v' W' H' (((l1.trans l2).trans l3).trans l) w' tv k⟩
section
variable {X : Cx} {WW : WX} {a b : Expr} {wa wb : EW} {rs : RS2} {pos : Pos}
theorem em_bin {op : Operator} (ho : OpR X (binaryOp op) (embR X.K rs)) (ha : EM X WW a wa) (hb : EM X WW b wb) : EM X WW (.BinOp a op b pos) (wOp2 rs wa wb) := ⟨pe_imp (pe_op ho ha.pe hb.pe) fun _ _ _ => emb_op2⟩
theorem em_cmp {op : CmpOp} (ho : OpR X (compareOp op) (embR X.K rs)) (ha : EM X WW a wa) (hb : EM X WW b wb) (hm : behindInMarks op b = false := by first | exact nomark _ | rfl) : EM X WW (.Compare a [op] [b] pos) (wOp2 rs wa wb) :=
  ⟨pe_imp (pe_cmpR ho ha.pe hb.pe hm) fun _ _ _ => emb_op2⟩
theorem em_ix (ho : IxR X (embR X.K rs)) (ha : EM X WW a wa) (hb : EM X WW b wb) (hs : PlainIx b := by intro _ _; rfl) : EM X WW (.Subscript a b pos) (wOp2 rs wa wb) := ⟨pe_imp (pe_ix ho ha.pe hb.pe hs) fun _ _ _ => emb_op2⟩
end
/-- a truth value -/
def isBl (x : PV) (k : Bool → Prop) : Prop := match x with | .bl b => k b | _ => False
def wTest (w : EW) : TW := fun S P PX => w S (fun t S1 => rdK S1 t fun x => isBl x fun b => P b S1) PX
theorem emb_test {K : PySem.W.Frag} {WW : WX} {w : EW} {σ : L2.St} {H : Hp} {Q : Bool → Hp → Prop} : embT K WW (wTest w) σ H Q → tB (embE K WW w) σ H Q := fun ⟨A, W, S, P, PX, wd, h, hp, hx⟩ => by
  refine ⟨A, W, S, _, PX, wd, h, fun t S1 v W1 H1 l1 w1 tv1 h1 => ?_, hx⟩
  obtain ⟨x, h2, r⟩ := w1.rd tv1 h1
  cases x with
  | bl b =>
    obtain rfl := r.bl
    exact ⟨b, rfl, hp b S1 W1 H1 l1 w1 h2⟩
  | _ => exact h2.elim
section
variable {X : Cx} {WW : WX} {a b : Expr} {wa wb : EW} {rs : RS2} {pos : Pos}
/-- an expression whose value is a truth value, as a test -/
theorem tm_val {e : Expr} {w : EW} (h : EM X WW e w) (he : ∀ whole, isTrue e X.env whole = (do let v ← whole; standAt e.pos; holding [v] (truthy v)) := by intro _; rfl) : TM X WW e (wTest w) := ⟨pt_imp (pt_val h.pe he) fun _ _ _ => emb_test⟩
theorem tm_cmp {op : CmpOp} (ho : OpR X (compareOp op) (embR X.K rs)) (ha : EM X WW a wa) (hb : EM X WW b wb) (hm : behindInMarks op b = false := by first | exact nomark _ | rfl) : TM X WW (.Compare a [op] [b] pos) (wTest (wOp2 rs wa wb)) :=
  ⟨pt_imp (pt_cmpR ho ha.pe hb.pe hm) fun σ H Q q => by
    obtain ⟨A, W, S, P, PX, w, h, hp, hx⟩ := q
    refine emb_op2 ⟨A, W, S, _, PX, w, h, fun t S1 v W1 H1 l1 w1 tv1 h1 => ?_, hx⟩
    obtain ⟨x, h2, r⟩ := w1.rd tv1 h1
    cases x with
    | bl b =>
      obtain rfl := r.bl
      exact ⟨b, rfl, hp b S1 W1 H1 l1 w1 h2⟩
    | _ => exact h2.elim⟩
end
/-! ### and, or, not, if as tests -/
def wAnd (u w : TW) : TW := fun S P PX => u S (fun b S1 => (b = true → w S1 P PX) ∧ (b = false → P false S1)) PX
def wOr (u w : TW) : TW := fun S P PX => u S (fun b S1 => (b = false → w S1 P PX) ∧ (b = true → P true S1)) PX
def wNot (u : TW) : TW := fun S P PX => u S (fun b S1 => P (!b) S1) PX
structure PWM (X : Cx) (WW : WX) (e : Expr) (w : TW) : Prop where pw : PW X e (embT X.K WW w)
section
variable {X : Cx} {WW : WX} {a b : Expr} {rest : List Expr} {u w : TW} {pos : Pos}
theorem PWM.tm {e : Expr} (h : PWM X WW e w) : TM X WW e w := ⟨h.pw.pt⟩
theorem pwm_and1 (ha : TM X WW a u) : PWM X WW (.BoolOp .And [a] pos) u := ⟨pw_and1 ha.pt⟩
theorem pwm_or1 (ha : TM X WW a u) : PWM X WW (.BoolOp .Or [a] pos) u := ⟨pw_or1 ha.pt⟩
theorem pwm_and (ha : TM X WW a u) (hb : PWM X WW (.BoolOp .And (b :: rest) pos) w) : PWM X WW (.BoolOp .And (a :: b :: rest) pos) (wAnd u w) := ⟨pw_imp (pw_and ha.pt hb.pw) fun σ H Q ⟨A, W, S, P, PX, wd, h, hp, hx⟩ => by
  refine ⟨A, W, S, _, PX, wd, h, fun c S1 W1 H1 l1 w1 h1 => ?_, hx⟩
  cases c with
  | true => exact iteT ⟨A, W1, S1, P, PX, w1, h1.1 rfl, fun b S' W' H' l => hp b S' W' H' (l1.trans l), hx.le l1⟩
  | false => exact iteF (hp false S1 W1 H1 l1 w1 (h1.2 rfl))⟩
theorem pwm_or (ha : TM X WW a u) (hb : PWM X WW (.BoolOp .Or (b :: rest) pos) w) : PWM X WW (.BoolOp .Or (a :: b :: rest) pos) (wOr u w) := ⟨pw_imp (pw_or ha.pt hb.pw) fun σ H Q ⟨A, W, S, P, PX, wd, h, hp, hx⟩ => by
  refine ⟨A, W, S, _, PX, wd, h, fun c S1 W1 H1 l1 w1 h1 => ?_, hx⟩
  cases c with
  | false => exact iteF ⟨A, W1, S1, P, PX, w1, h1.1 rfl, fun b S' W' H' l => hp b S' W' H' (l1.trans l), hx.le l1⟩
  | true => exact iteT (hp true S1 W1 H1 l1 w1 (h1.2 rfl))⟩
theorem tm_not (ha : TM X WW a u) : TM X WW (.UnaryOp .Not a pos) (wNot u) := ⟨pt_imp (pt_not ha.pt) fun σ H Q ⟨A, W, S, P, PX, wd, h, hp, hx⟩ =>
  ⟨A, W, S, _, PX, wd, h, fun c S1 W1 H1 l1 w1 h1 => hp (!c) S1 W1 H1 l1 w1 h1, hx⟩⟩
end
/-! ### and, or, not, if as values -/
def wAndV (u w : EW) : EW := fun S P PX => u S (fun t S1 => rdK S1 t fun x => isBl x fun b => (b = true → w S1 P PX) ∧ (b = false → P (.val (.bl false)) S1)) PX
def wOrV (u w : EW) : EW := fun S P PX => u S (fun t S1 => rdK S1 t fun x => isBl x fun b => (b = false → w S1 P PX) ∧ (b = true → P (.val (.bl true)) S1)) PX
def wNotV (u : EW) : EW := fun S P PX => u S (fun t S1 => rdK S1 t fun x => isBl x fun b => P (.val (.bl (!b))) S1) PX
def wIfE (c : TW) (u w : EW) : EW := fun S P PX => c S (fun b S1 => (b = true → u S1 P PX) ∧ (b = false → w S1 P PX)) PX
section
variable {X : Cx} {WW : WX} {a b c : Expr} {rest : List Expr} {u w : EW} {tc : TW} {op : BoolOp} {pos : Pos}
theorem em_one (ha : EM X WW a u) : EM X WW (.BoolOp op [a] pos) u := ⟨pe_one ha.pe⟩
theorem em_and (ha : EM X WW a u) (hb : EM X WW (.BoolOp .And (b :: rest) pos) w) : EM X WW (.BoolOp .And (a :: b :: rest) pos) (wAndV u w) := ⟨pe_imp (pe_and ha.pe hb.pe) fun σ H Q ⟨A, W, S, P, PX, wd, h, hp, hx⟩ => by
  refine ⟨A, W, S, _, PX, wd, h, fun t S1 v W1 H1 l1 w1 tv1 h1 => ?_, hx⟩
  obtain ⟨x, h2, r⟩ := w1.rd tv1 h1
  cases x with
  | bl c =>
    obtain rfl := r.bl
    refine ⟨c, rfl, ?_⟩
    cases c with
    | true => exact iteT ⟨A, W1, S1, P, PX, w1, h2.1 rfl, fun t S' v W' H' l => hp t S' v W' H' (l1.trans l), hx.le l1⟩
    | false => exact iteF (hp (.val (.bl false)) S1 _ W1 H1 l1 w1 (Rp.bl false) (h2.2 rfl))
  | _ => exact h2.elim⟩
theorem em_or (ha : EM X WW a u) (hb : EM X WW (.BoolOp .Or (b :: rest) pos) w) : EM X WW (.BoolOp .Or (a :: b :: rest) pos) (wOrV u w) := ⟨pe_imp (pe_or ha.pe hb.pe) fun σ H Q ⟨A, W, S, P, PX, wd, h, hp, hx⟩ => by
  refine ⟨A, W, S, _, PX, wd, h, fun t S1 v W1 H1 l1 w1 tv1 h1 => ?_, hx⟩
  obtain ⟨x, h2, r⟩ := w1.rd tv1 h1
  cases x with
  | bl c =>
    obtain rfl := r.bl
    refine ⟨c, rfl, ?_⟩
    cases c with
    | false => exact iteF ⟨A, W1, S1, P, PX, w1, h2.1 rfl, fun t S' v W' H' l => hp t S' v W' H' (l1.trans l), hx.le l1⟩
    | true => exact iteT (hp (.val (.bl true)) S1 _ W1 H1 l1 w1 (Rp.bl true) (h2.2 rfl))
  | _ => exact h2.elim⟩
theorem em_not (ha : EM X WW a u) : EM X WW (.UnaryOp .Not a pos) (wNotV u) := ⟨pe_imp (pe_not ha.pe) fun σ H Q ⟨A, W, S, P, PX, wd, h, hp, hx⟩ => by
  refine ⟨A, W, S, _, PX, wd, h, fun t S1 v W1 H1 l1 w1 tv1 h1 => ?_, hx⟩
  obtain ⟨x, h2, r⟩ := w1.rd tv1 h1
  cases x with
  | bl c =>
    obtain rfl := r.bl
    exact ⟨c, rfl, hp (.val (.bl !c)) S1 _ W1 H1 l1 w1 (Rp.bl _) h2⟩
  | _ => exact h2.elim⟩
theorem em_if (hc : TM X WW c tc) (ha : EM X WW a u) (hb : EM X WW b w) : EM X WW (.IfExp c a b pos) (wIfE tc u w) := ⟨pe_imp (pe_ifExp hc.pt ha.pe hb.pe) fun σ H Q ⟨A, W, S, P, PX, wd, h, hp, hx⟩ => by
  refine ⟨A, W, S, _, PX, wd, h, fun b S1 W1 H1 l1 w1 h1 => ?_, hx⟩
  cases b with
  | true => exact iteT ⟨A, W1, S1, P, PX, w1, h1.1 rfl, fun t S' v W' H' l => hp t S' v W' H' (l1.trans l), hx.le l1⟩
  | false => exact iteF ⟨A, W1, S1, P, PX, w1, h1.2 rfl, fun t S' v W' H' l => hp t S' v W' H' (l1.trans l), hx.le l1⟩⟩
end
/-! ### argument lists, displays -/
def aNil : AW := fun S P _ => P [] S
def aCons (wa : EW) (wr : AW) : AW := fun S P PX => wa S (fun t S1 => wr S1 (fun ts S2 => P (stl t :: ts) S2) PX) PX
def kpAll (S : MS) : List TV → (List PV → MS → Prop) → Prop
  | [], k => k [] S
  | t :: ts, k => kpK S t fun x S1 => kpAll S1 ts fun xs S2 => k (x :: xs) S2
section
variable {K : PySem.W.Frag} {A : An} {W W' : Wo} {S S' : MS} {σ : L2.St} {H H' : Hp}
theorem TvRs.le {ts : List TV} {vs : List V} (h : TvRs K A W S σ H ts vs) (l : W.le W') : TvRs K A W' S' σ H' ts vs := by
  induction h with
  | nil => exact .nil
  | cons r _ ih => exact .cons ⟨r.1.le r.2 l, r.2⟩ ih
theorem Wd.kpAll (w : Wd K A W S σ H) {ts : List TV} {vs : List V} {k : List PV → MS → Prop} (h : TvRs K A W S σ H ts vs) (r : kpAll S ts k) : ∃ W' S' xs, W.le W' ∧ Wd K A W' S' σ H ∧ RpA K W'.ρ W'.B vs xs ∧ k xs S' := by
  induction ts generalizing S W vs k with
  | nil => cases h with
    | nil => exact ⟨W, S, [], Wo.le.refl _, w, .nil, r⟩
  | cons t ts ih => cases h with
    | cons h1 h2 =>
      obtain ⟨W1, S1, x, l1, w1, rx, k1⟩ := w.kp h1.1 r
      obtain ⟨W2, S2, xs, l2, w2, rxs, k2⟩ := ih w1 (TvRs.le h2 l1) k1
      exact ⟨W2, S2, x :: xs, l1.trans l2, w2, .cons (rx.mono l2.b l2.r) rxs, k2⟩
end
def wLst (wr : AW) : EW := fun S P PX => wr S (fun ts S1 => ts.length ≤ sizeLine ∧ kpAll S1 ts fun xs S2 => P (.fresh (.lst xs)) S2) PX
def wTup (wr : AW) : EW := fun S P PX => wr S (fun ts S1 => ts.length ≤ sizeLine ∧ kpAll S1 ts fun xs S2 => P (.val (.tup xs)) S2) PX
section
variable {X : Cx} {WW : WX} {e : Expr} {es : List Expr} {u : EW} {wr : AW} {pos : Pos}
theorem am_nil : AM X WW [] aNil := ⟨pa_imp pa_nil fun σ H Q ⟨A, W, S, P, PX, wd, h, hp, hx⟩ => hp [] S [] W H (Wo.le.refl _) wd .nil h⟩
theorem am_cons (ha : EM X WW e u) (hr : AM X WW es wr) (hs : starEach (e :: es) X.env = (false, eval e X.env) :: starEach es X.env := by rfl) : AM X WW (e :: es) (aCons u wr) := ⟨pa_imp (pa_cons ha.pe hr.pa hs) fun σ H Q ⟨A, W, S, P, PX, wd, h, hp, hx⟩ => by
  refine ⟨A, W, S, _, PX, wd, h, fun t S1 v W1 H1 l1 w1 tv1 h1 => ?_, hx⟩
  obtain ⟨W2, l2, w2, tv2⟩ := w1.stl tv1
  refine ⟨A, W2, S1, _, PX, w2, h1, fun ts S2 vs W3 H3 l3 w3 tv3 h3 => ?_, hx.le (l1.trans l2)⟩
  exact hp _ S2 _ W3 H3 ((l1.trans l2).trans l3) w3 (.cons ⟨tv2.le (stl_nf _) l3, stl_nf _⟩ tv3) h3⟩
theorem em_lst (hr : AM X WW es wr) : EM X WW (.List es pos) (wLst wr) := ⟨pe_imp (pe_lst hr.pa) fun σ H Q ⟨A, W, S, P, PX, wd, h, hp, hx⟩ => by
  refine ⟨A, W, S, _, PX, wd, h, fun ts S1 vs W1 H1 l1 w1 tv1 h1 => ?_, hx⟩
  obtain ⟨hz, h1⟩ := h1
  refine ⟨by rw [← Paired.length tv1]; exact hz, fun p np => ?_⟩
  obtain ⟨W2, S2, xs, l2, w2, rp, k⟩ := w1.kpAll tv1 h1
  exact hp (.fresh (.lst xs)) S2 _ W2 _ (l1.trans l2) (w2.lay np) (w2.layFresh np ⟨vs, upd_same, rp⟩) k⟩
theorem em_tup {kk : Nat} (hr : AM X WW es wr) : EM X WW (.Tuple es kk pos) (wTup wr) := ⟨pe_imp (pe_tup hr.pa) fun σ H Q ⟨A, W, S, P, PX, wd, h, hp, hx⟩ => by
  refine ⟨A, W, S, _, PX, wd, h, fun ts S1 vs W1 H1 l1 w1 tv1 h1 => ?_, hx⟩
  obtain ⟨hz, h1⟩ := h1
  refine ⟨by rw [← Paired.length tv1]; exact hz, fun p np => ?_⟩
  obtain ⟨W2, S2, xs, l2, w2, rp, k⟩ := w1.kpAll tv1 h1
  obtain ⟨W3, l3, w3, r3⟩ := w2.layTup np rp
  exact hp (.val (.tup xs)) S2 _ W3 _ ((l1.trans l2).trans l3) w3 r3 k⟩
end
end BV

/-! The by-value layer, part c: defs and calls, statements, loops, comprehensions. -/
namespace BV
open PySem L2
section
open PyProof.Rows PySem.Spec
/-! ### room, with nothing of a text under way -/
structure RoomG (k : Nat) (A : Around) : Prop where
  room : Room k A
  gd : A.guards = some []
theorem RoomG.mono {j k : Nat} {A : Around} (r : RoomG k A) (h : j ≤ k) : RoomG j A := ⟨r.room.mono h, r.gd⟩
theorem RoomG.deeper {k : Nat} {A : Around} (r : RoomG (k + 1) A) (env : Env) : RoomG k (A.deeper env) := ⟨r.room.deeper env, r.gd⟩
theorem RoomG.in1 {k : Nat} {A : Around} (r : RoomG (k + 1) A) : RoomG k A.in1 := ⟨r.room.in1, r.gd⟩
theorem RoomG.make {k : Nat} {A : Around} (r : RoomG (k + 1) A) (C : Addr) (us : List Value) (kw : List (Str × Value)) : RoomG k (A.under (.builtin "type.__call__" ⟨.ref C :: us, kw⟩)) :=
  ⟨r.room.make C us kw, by
    have e : (A.under (.builtin "type.__call__" ⟨.ref C :: us, kw⟩)).guards = A.guards := by
      simp [Around.under, Code.guards, Code.isGuard, guardIds, pushGuards]
      try (cases A.guards <;> rfl)
    rw [e]; exact r.gd⟩
theorem RoomG.units {k : Nat} {A : Around} (r : RoomG k A) : A.units + 64 < cLine := r.room.units
theorem RoomG.units0 {k : Nat} {A : Around} (r : RoomG k A) : A.units < cLine := r.room.units0
theorem RoomG.depth {k : Nat} {A : Around} (r : RoomG k A) : A.depth < recursionLimit := r.room.depth
theorem RoomG.hd {k : Nat} {A : Around} (r : RoomG k A) : A.handled = none := r.room.hd
theorem RoomG.un {k : Nat} {A : Around} (r : RoomG k A) : A.units + 16 * k + 200 < cLine := r.room.un
/-- a def's promise where no text is under way -/
structure FnG (P : Program) (w : World) (K : PySem.W.Frag) (mg : Str → Option Value) (base : Heap) (CX : CXT) (k : Nat) (f : Addr) (fd : FuncData) (ps : List Str) (sp : Sp) : Prop where
  len : ∀ vs H Q E, sp vs H Q E → vs.length = ps.length
  run : ∀ (A : Around) (outer : List Env) (s : Shared) (H : Hp) (args : Args) (us : List Value) (vs : List V) (Q : VK) (E : XK), RoomG k A → Env0 P w K mg base A outer s H → BindsTo s fd args (ps.zip us) → Vals vs us → sp vs H Q E →
    codeAny (model P w) A (.call (.ref f) args) (CR CX outer P w H s Q E) s
section
variable {P : Program} {w : World} {K : PySem.W.Frag} {mg : Str → Option Value} {base : Heap} {CX : CXT} {f : Addr} {fd : FuncData} {ps : List Str} {sp sp' : Sp}
theorem FnG.mono {j k : Nat} (F : FnG P w K mg base CX j f fd ps sp) (h : j ≤ k) : FnG P w K mg base CX k f fd ps sp := ⟨F.len, fun A outer s H args us vs Q E hr => F.run A outer s H args us vs Q E (hr.mono h)⟩
theorem FnG.imp {k : Nat} (F : FnG P w K mg base CX k f fd ps sp) (h : ∀ vs H Q E, sp' vs H Q E → sp vs H Q E) : FnG P w K mg base CX k f fd ps sp' :=
  ⟨fun vs H Q E q => F.len vs H Q E (h _ _ _ _ q), fun A outer s H args us vs Q E hr he hb hv hs => F.run A outer s H args us vs Q E hr he hb hv (h _ _ _ _ hs)⟩
/-- by its body -/
theorem FunD_okG {N : List Str} {x qual : Str} {params : Arguments} {body : List Stmt} {scope : Scope} {dvs kws} {k : Nat} (F : FunD K x qual params body scope dvs kws f fd) (S : FnScope N ps scope) (len : ∀ vs H Q E, sp vs H Q E → vs.length = ps.length)
    (hbody : ∀ (cdv : Value) (A : Around) (outer : List Env) (s : Shared) (H : Hp) (vs : List V) (Q : VK) (E : XK), RoomG k (A.deeper (PyProof.Rows.envOfC qual scope s.heap.objs.size f cdv)) → sp vs H Q E →
      ∃ t, PSs (cxOf CX P w K mg base N qual scope f cdv A outer s H E) body t ∧ t { nx := fun _ H' => Q .non H', rt := Q } (start N vs) H) : FnG P w K mg base CX (k + 1) f fd ps sp := by
  obtain ⟨oc, od, dV, kV, doc, pm, an, cdv, ct, osl, rfl, lk, hcd, _, _⟩ := F.ex
  refine ⟨len, fun A outer s H args us vs Q E hr e0 hb r hsp => ?_⟩
  have KX : K.In s.heap := e0.mod.kin.keeps fun b o e => (e0.bs b o e).1
  have lim : s.heap.NoLimit := e0.mod.nolimit.keeps fun b o e => (e0.bs b o e).1
  have hkind : ∀ y ∈ ps.zip us, scope.names.lookup y.1 = some .local ∨ (scope.names.lookup y.1 = some .cell ∧ ((cellsFrom (s.heap.objs.size + 1) scope.names []).lookup y.1).isSome = true) := fun ⟨n, v⟩ hy =>
    (S.par n (List.of_mem_zip hy).1).elim .inl fun q => .inr ⟨q, PySem.W.cellsFrom_some _ _ _ (.inl q)⟩
  refine codeAny_call_function hr.depth (KX _ _ lk) rfl S.co S.gen rfl (PySem.W.codeRec_of KX hcd) (hb _ _ _ _ (wpAny_newFunctionEnv_cells S.kind hkind fun env he s1 x => ?_))
  subst he
  refine ⟨lim.keeps x.toInCall.keep, codeAny_func ?_⟩
  obtain ⟨t, ht, hq⟩ := hbody cdv A outer s H vs Q E (hr.deeper _) hsp
  refine wpAny_mono (ht.run [] s1 (start N vs) H _ (inv_start S hr.hd e0 (len _ _ _ _ hsp) r x) hq) (fun fl s' hs => ?_) fun e s' hs => hs
  cases fl with
  | ret u =>
    obtain ⟨v, σ', H', J, rv, q⟩ := hs
    exact ⟨v, H', J.os, J.bare, J.base, J.hok, rv, q⟩
  | next =>
    obtain ⟨σ', H', J, q⟩ := hs
    exact ⟨.non, H', J.os, J.bare, J.base, J.hok, rfl, q⟩
  | brk => exact hs.elim fun _ h => h.elim fun _ h => h.2.elim
  | cont => exact hs.elim fun _ h => h.elim fun _ h => h.2.elim
end
section
variable {X : Cx} {CX : CXT} {k : Nat} {f : Addr} {fd : FuncData} {ps : List Str} {sp : Sp} {E : L2.St → XK} {x : Str} {p pos : Pos} {e : Expr} {es : List Expr} {t : TA}
theorem run_fnG {pins : List (Addr × Obj)} {σ : L2.St} {H : Hp} {s : Shared} {Q : VK} {us : List Value} {vs : List V} (F : FnG X.prog X.w X.K X.mg X.base CX k f fd ps sp) (hr : RoomG k X.A) (hb : Binds X.K fd ps []) (hx : PassesAt CX X σ (E σ))
    (I : Inv X pins σ H s) (r : Vals vs us) (h : sp vs H Q (E σ)) : wpAny (model X.prog X.w) X.A (call (.ref f) us) (EP X pins σ Q) X.xe s := by
  have b := hb s us I.kIn (by rw [List.append_nil, ← r.length]; exact F.len _ _ _ _ h)
  rw [List.append_nil] at b
  refine wpAny_call (codeAny_mono (F.run X.A X.stack s H ⟨us, []⟩ us vs Q (E σ) hr I.env0 b r h) fun r s' hq => ?_)
  match r, hq with
  | .error e, hq => exact hx pins H s e s' I hq
  | .ok (.ret u), hq => exact I.after hq
  | .ok .next, hq => exact hq.elim
  | .ok .brk, hq => exact hq.elim
  | .ok .cont, hq => exact hq.elim
theorem pe_callG (F : FnG X.prog X.w X.K X.mg X.base CX k f fd ps sp) (hr : RoomG k X.A) (hg : Gl X x) (hm : X.mg x = some (.ref f)) (hk : PySem.W.keepIn X.K (.ref f) = true) (hb : Binds X.K fd ps []) (hx : ∀ σ, PassesAt CX X σ (E σ))
    (ha : PA X (e :: es) t) (hdb : (x == ("__debug__" : Str)) = false := by decide) (he : starEach (e :: es) X.env = (false, eval e X.env) :: starEach es X.env := by rfl) (hpl : (backTo pos (starEach es X.env)).any (·.1) = false := by rfl) :
    PE X (.Call (.Name x p) (e :: es) [] pos) (tCallS sp E t) :=
  ⟨fun pins s σ H Q I h => wpAny_Call_Name_kw (ld_glob I hg hm (PySem.W.callWith_K (h₀ := X.base) I.ok.mod.kin hk (thn (ha.run pos pins s σ H _ I h) fun us s1 ⟨vs, H1, I1, r, q⟩ => ⟨I1.kIn, run_fnG F hr hb (hx σ) I1 r q⟩) he hpl) hdb)⟩
end
end

/-! ### calls -/
structure WdC (K : PySem.W.Frag) (ρ : List Addr) (B F : Hp) (c : List PV) (H : Hp) : Prop where
  bf : Same B F
  fh : Same F H
  cl : ρ.length = c.length
  nd : ρ.Nodup
  cel : ∀ (n : Nat) (x : PV), c[n]? = some x → ∃ a : Addr, ρ[n]? = some a ∧ F a = none ∧ CelR K ρ B H a x
def ArgR (K : PySem.W.Frag) (ρ : List Addr) (B F : Hp) (v : V) : Slot → Prop
  | .val x => Rp K ρ B v x
  | .bor x => ∃ p, v = .ref p ∧ OwnR K ρ B F p x
  | _ => False
structure Out (K : PySem.W.Frag) (ρ : List Addr) (B H : Hp) (ρ' : List Addr) (B' : Hp) (c' : List PV) (H' : Hp) : Prop where
  r : Pre ρ ρ'
  b : Same B B'
  bh : Same B' H'
  cl : ρ'.length = c'.length
  nd : ρ'.Nodup
  cel : ∀ (n : Nat) (x : PV), c'[n]? = some x → ∃ a : Addr, ρ'[n]? = some a ∧ B' a = none ∧ CelR K ρ' B' H' a x
  keep : ∀ a o, H a = some o → a ∉ ρ → H' a = some o
  new : ∀ a o, B' a = some o → B a = none → H a = none
  newr : ∀ a, a ∈ ρ' → a ∉ ρ → H a = none
def ResR (K : PySem.W.Frag) (ρ' : List Addr) (B' H H' : Hp) : TV → V → Prop
  | .val x, v => Rp K ρ' B' v x
  | .fresh x, v => ∃ p, v = .ref p ∧ B' p = none ∧ p ∉ ρ' ∧ OwnR K ρ' B' H' p x ∧ H p = none
  | _, _ => False
abbrev FW := List Slot → List PV → (TV → List PV → Prop) → (Ex → List PV → Prop) → Prop
def spM (K : PySem.W.Frag) (n : Nat) (fw : FW) : Sp := fun vs H Q E => ∃ ρ B F c args rt ex, WdC K ρ B F c H ∧ vs.length = n ∧ Paired (fun v s => ArgR K ρ B F v s) vs args ∧ fw args c rt ex ∧
  (∀ r c' v ρ' B' H', Out K ρ B H ρ' B' c' H' → ResR K ρ' B' H H' r v → rt r c' → Q v H') ∧
  (∀ x c' cls d ρ' B' H', Out K ρ B H ρ' B' c' H' → XR K ⟨ρ', B', B'⟩ H' x cls d → ex x c' → E cls d H')
/-- arguments as a callee gets them -/
def argK (S : MS) : List TV → (List Slot → Prop) → Prop
  | [], k => k []
  | t :: ts, k => match t with
    | .val x => argK S ts fun as => k (.val x :: as)
    | .bor x => argK S ts fun as => k (.bor x :: as)
    | .fresh _ => False
    | .slot i => match S.sl[i]? with
      | some (.own x) => argK S ts fun as => k (.bor x :: as)
      | some (.lent x) => argK S ts fun as => k (.bor x :: as)
      | some (.slf x) => argK S ts fun as => k (.bor x :: as)
      | some (.val x) => argK S ts fun as => k (.val x :: as)
      | _ => False
def wCall (n : Nat) (fw : FW) (wr : AW) : EW := fun S P PX => wr S (fun ts S1 => argK S1 ts fun as => as.length = n ∧ fw as S1.c (fun r c' => P r { S1 with c := c' }) (fun x c' => PX x { S1 with c := c' })) PX

/-- all that is not a cell -/
def offR (ρ : List Addr) (H : Hp) : Hp := fun a => if a ∈ ρ then none else H a
section
variable {K : PySem.W.Frag} {A : An} {W W' : Wo} {S S' : MS} {σ : L2.St} {H H' : Hp}
theorem offR_in {ρ : List Addr} {a : Addr} (h : a ∈ ρ) : offR ρ H a = none := by unfold offR; rw [if_pos h]
theorem offR_out {ρ : List Addr} {a : Addr} (h : a ∉ ρ) : offR ρ H a = H a := by unfold offR; rw [if_neg h]
theorem offR_same (ρ : List Addr) : Same (offR ρ H) H := fun a o e => by
  by_cases h : a ∈ ρ
  · rw [offR_in h] at e; cases e
  · rw [offR_out h] at e; exact e
theorem Wd.offF (w : Wd K A W S σ H) : Same W.F (offR W.ρ H) := fun a o e => by
  have : a ∉ W.ρ := fun q => by rw [(w.rhoSome q).1] at e; cases e
  rw [offR_out this]; exact w.fh a o e
theorem Wd.toC (w : Wd K A W S σ H) : WdC K W.ρ W.B (offR W.ρ H) S.c H :=
  ⟨w.bf.trans w.offF, offR_same _, w.cl, w.nd, fun n x e => by
    obtain ⟨a, e1, e2, e3⟩ := w.cel n x e
    exact ⟨a, e1, offR_in (List.mem_iff_getElem?.mpr ⟨n, e1⟩), e3⟩⟩
theorem Wd.args (w : Wd K A W S σ H) {ts : List TV} {vs : List V} {k : List Slot → Prop} (h : TvRs K A W S σ H ts vs) (r : argK S ts k) : ∃ as, k as ∧ Paired (fun v s => ArgR K W.ρ W.B (offR W.ρ H) v s) vs as := by
  induction ts generalizing vs k with
  | nil => cases h with
    | nil => exact ⟨[], r, .nil⟩
  | cons t ts ih => cases h with
    | cons h1 h2 =>
      obtain ⟨h1, nf⟩ := h1
      cases t with
      | val x =>
        obtain ⟨as, k1, p1⟩ := ih h2 r
        exact ⟨_, k1, .cons h1 p1⟩
      | bor x =>
        obtain ⟨as, k1, p1⟩ := ih h2 r
        obtain ⟨p, e, ho⟩ := h1
        exact ⟨_, k1, .cons ⟨p, e, ho.mono (Same.refl _) (Pre.refl _) fun _ z => w.offF _ _ z⟩ p1⟩
      | fresh x => exact absurd rfl (nf x)
      | slot i =>
        have r' : (match S.sl[i]? with | some (.own x) => argK S ts fun as => k (.bor x :: as) | some (.lent x) => argK S ts fun as => k (.bor x :: as) | some (.slf x) => argK S ts fun as => k (.bor x :: as) | some (.val x) => argK S ts fun as => k (.val x :: as) | _ => False) := r
        rename_i v vs
        have h1' : σ[i]? = some (some v) := h1
        cases q : S.sl[i]? with
        | none => rw [q] at r'; exact r'.elim
        | some s =>
          rw [q] at r'
          have z := w.slot i s q
          cases s with
          | emp => exact r'.elim
          | exc a d C fs => exact r'.elim
          | bor x => exact r'.elim
          | val x =>
            obtain ⟨u, e, rp⟩ := z
            rw [h1'] at e; cases e
            obtain ⟨as, k1, p1⟩ := ih h2 r'
            exact ⟨_, k1, .cons rp p1⟩
          | own x =>
            obtain ⟨p, e, f1, f2, f3, f4⟩ := z
            rw [h1'] at e; cases e
            obtain ⟨as, k1, p1⟩ := ih h2 r'
            exact ⟨_, k1, .cons ⟨p, rfl, f3.mono (Same.refl _) (Pre.refl _) fun _ z => by rw [offR_out f2]; exact z⟩ p1⟩
          | lent x =>
            obtain ⟨p, e, f1, f2, f3, _⟩ := z
            rw [h1'] at e; cases e
            obtain ⟨as, k1, p1⟩ := ih h2 r'
            exact ⟨_, k1, .cons ⟨p, rfl, f3.mono (Same.refl _) (Pre.refl _) fun _ z => by rw [offR_out f2]; exact z⟩ p1⟩
          | slf x =>
            obtain ⟨p, e, f1, f2, f3, _⟩ := z
            rw [h1'] at e; cases e
            obtain ⟨as, k1, p1⟩ := ih h2 r'
            exact ⟨_, k1, .cons ⟨p, rfl, f3.mono (Same.refl _) (Pre.refl _) fun _ z => by rw [offR_out f2]; exact z⟩ p1⟩
/-- the union of what is kept -/
def orB (F B : Hp) : Hp := fun a => match F a with | some o => some o | none => B a
theorem orB_l {F B : Hp} {a : Addr} {o : HO} (h : F a = some o) : orB F B a = some o := by unfold orB; rw [h]
theorem orB_r {F B : Hp} {a : Addr} (h : F a = none) : orB F B a = B a := by unfold orB; rw [h]
/-- behind a call -/
theorem Wd.called (w : Wd K A W S σ H) {ρ' : List Addr} {B' : Hp} {c' : List PV} (o : Out K W.ρ W.B H ρ' B' c' H') : W.le ⟨ρ', B', orB W.F B'⟩ ∧ Wd K A ⟨ρ', B', orB W.F B'⟩ { S with c := c' } σ H' := by
  have fF : Same W.F H' := fun a u e => by
    have : a ∉ W.ρ := fun q => by rw [(w.rhoSome q).1] at e; cases e
    exact o.keep a u (w.fh a u e) this
  have l : W.le ⟨ρ', B', orB W.F B'⟩ := ⟨o.r, o.b, fun a u e => orB_l e⟩
  have nB : ∀ a, W.F a = none → (∃ u, H a = some u) → B' a = none := fun a f ⟨u, e⟩ => by
    cases q : B' a with
    | none => rfl
    | some v => rw [o.new a v q (w.bf.free f)] at e; cases e
  have nρ : ∀ a, a ∉ W.ρ → (∃ u, H a = some u) → a ∉ ρ' := fun a f ⟨u, e⟩ q => by rw [o.newr a q f] at e; cases e
  refine ⟨l, ⟨fun a u e => ?_, fun a u e => ?_, o.cl, o.nd, fun n x e => ?_, w.sl, fun i s e => ?_, w.dis, w.pinOk, w.ar.trans o.r, w.ab.trans o.b, fun a u e => l.f _ _ (w.af _ _ e), fun a u e r => ?_, fun a u e e0 => ?_, fun a m r => ?_, fun a u e e0 => ?_⟩⟩
  · cases q : W.F a with
    | some v =>
      have h1 := fF a v q
      have h2 : B' a = some u := e
      rw [o.bh a u h2] at h1
      cases h1
      exact orB_l q
    | none => exact (orB_r q).trans e
  · cases q : W.F a with
    | some v =>
      have e' : orB W.F B' a = some u := e
      rw [orB_l q] at e'; cases e'
      exact fF a _ q
    | none =>
      have e' : orB W.F B' a = some u := e
      rw [orB_r q] at e'
      exact o.bh a u e'
  · obtain ⟨a, e1, e2, e3⟩ := o.cel n x e
    refine ⟨a, e1, ?_, e3⟩
    have ma : a ∈ ρ' := List.mem_iff_getElem?.mpr ⟨n, e1⟩
    have fa : W.F a = none := by
      by_cases q : a ∈ W.ρ
      · exact (w.rhoSome q).1
      · exact w.freeF (o.newr a ma q)
    exact (orB_r fa).trans e2
  · refine (w.slot i s e).mono l fun p x es ep f1 f2 f3 => ?_
    obtain ⟨u, hu⟩ := f3.ex
    refine ⟨(orB_r f1).trans (nB p f1 ⟨u, hu⟩), nρ p f2 ⟨u, hu⟩, f3.mono o.b o.r fun v z => o.keep p v z f2⟩
  · have : a ∉ W.ρ := fun q => by rw [w.newr a q r] at e; cases e
    exact o.keep a u (w.keep a u e r) this
  · cases q : W.B a with
    | some v => exact w.new a v q e0
    | none => exact w.h0 (o.new a u e q)
  · by_cases q : a ∈ W.ρ
    · exact w.newr a q r
    · exact w.h0 (o.newr a m q)
  · cases q : W.F a with
    | some v => exact w.newF a v q e0
    | none =>
      have e' : orB W.F B' a = some u := e
      rw [orB_r q] at e'
      exact w.h0 (o.new a u e' (w.bf.free q))
theorem Wd.result (w : Wd K A W S σ H) {ρ' : List Addr} {B' : Hp} {c' : List PV} (o : Out K W.ρ W.B H ρ' B' c' H') {r : TV} {v : V} (h : ResR K ρ' B' H H' r v) : TvR K A ⟨ρ', B', orB W.F B'⟩ { S with c := c' } σ H' r v := by
  cases r with
  | val x => exact h
  | fresh x =>
    obtain ⟨p, rfl, h1, h2, h3, h4⟩ := h
    exact ⟨p, rfl, (orB_r (w.freeF h4)).trans h1, h2, w.newOwn h4, h3, w.h0 h4⟩
  | slot i => exact h.elim
  | bor x => exact h.elim
/-- a callee's end -/
theorem Wd.out (w : Wd K A W S σ H) : Out K A.ρ0 A.B0 A.H0 W.ρ W.B S.c H :=
  ⟨w.ar, w.ab, w.bh, w.cl, w.nd, fun n x e => by
    obtain ⟨a, e1, e2, e3⟩ := w.cel n x e
    exact ⟨a, e1, w.bf.free e2, e3⟩, w.keep, w.new, w.newr⟩
/-- what a def hands back -/
def retK (S : MS) (t : TV) (k : TV → Prop) : Prop :=
  match t with
  | .val x => k (.val x)
  | .fresh x => k (.fresh x)
  | .bor _ => False
  | .slot i => match S.sl[i]? with
    | some (.own x) => k (.fresh x)
    | some (.slf x) => k (.fresh x)
    | some (.val x) => k (.val x)
    | _ => False
theorem Wd.ret (w : Wd K A W S σ H) {t : TV} {v : V} {k : TV → Prop} (h : TvR K A W S σ H t v) (r : retK S t k) : ∃ t', k t' ∧ ResR K W.ρ W.B A.H0 H t' v := by
  cases t with
  | val x => exact ⟨.val x, r, h⟩
  | bor x => exact r.elim
  | fresh x =>
    obtain ⟨p, e, h1, h2, _, h3, h4⟩ := h
    exact ⟨.fresh x, r, p, e, w.bf.free h1, h2, h3, h4⟩
  | slot i =>
    have r' : (match S.sl[i]? with | some (.own x) => k (.fresh x) | some (.slf x) => k (.fresh x) | some (.val x) => k (.val x) | _ => False) := r
    have h' : σ[i]? = some (some v) := h
    cases q : S.sl[i]? with
    | none => rw [q] at r'; exact r'.elim
    | some s =>
      rw [q] at r'
      have z := w.slot i s q
      cases s with
      | emp => exact r'.elim
      | exc a d C fs => exact r'.elim
      | bor x => exact r'.elim
      | lent x => exact r'.elim
      | slf x =>
        obtain ⟨p, e, f1, f2, f3, f4, _⟩ := z
        rw [h'] at e; cases e
        exact ⟨.fresh x, r', p, rfl, w.bf.free f1, f2, f3, f4⟩
      | val x =>
        obtain ⟨u, e, rp⟩ := z
        rw [h'] at e; cases e
        exact ⟨.val x, r', rp⟩
      | own x =>
        obtain ⟨p, e, f1, f2, f3, f4⟩ := z
        rw [h'] at e; cases e
        exact ⟨.fresh x, r', p, rfl, w.bf.free f1, f2, f3, f4⟩
/-- a callee's beginning -/
theorem enter {ρ : List Addr} {B F : Hp} {c : List PV} {vs : List V} {args : List Slot} {n : Nat} (w : WdC K ρ B F c H) (h : Paired (fun v s => ArgR K ρ B F v s) vs args) :
    Wd K ⟨ρ, B, F, H, fun _ => none, fun _ => none⟩ ⟨ρ, B, F⟩ ⟨args ++ List.replicate n .emp, c⟩ (vs.map some ++ List.replicate n none) H := by
  have hl : vs.length = args.length := Paired.length h
  have get : ∀ {vs : List V} {args : List Slot} {i : Nat} {s : Slot}, Paired (fun v s => ArgR K ρ B F v s) vs args → args[i]? = some s → ∃ v, vs[i]? = some v ∧ ArgR K ρ B F v s := by
    intro vs args i s h
    induction h generalizing i with
    | nil => intro e; simp at e
    | cons r _ ih =>
      intro e
      cases i with
      | zero =>
        simp at e; subst e
        exact ⟨_, rfl, r⟩
      | succ i =>
        simp at e
        obtain ⟨v, e1, e2⟩ := ih e
        exact ⟨v, by simpa using e1, e2⟩
  have noO : ∀ (i : Nat) (x : Slot), (args ++ List.replicate n .emp)[i]? = some x → x.isH = true → False := fun i x e hh => by
    by_cases hi : i < args.length
    · rw [List.getElem?_append_left hi] at e
      obtain ⟨v, _, r⟩ := get h e
      cases x with
      | own x => exact r.elim
      | lent x => exact r.elim
      | slf x => exact r.elim
      | _ => cases hh
    · rw [List.getElem?_append_right (by omega)] at e
      rw [List.getElem?_replicate] at e
      split at e
      · cases e; cases hh
      · cases e
  refine ⟨w.bf, w.fh, w.cl, w.nd, w.cel, by simp [hl], fun i s e => ?_, fun i j p x y _ e _ hh _ _ _ => (noO i x e hh).elim, fun i p x e => (by cases e), Pre.refl _, Same.refl _, Same.refl _, fun a o e _ => e, fun a o e e0 => ?_, fun a m r => absurd m r, fun a o e e0 => ?_⟩
  · by_cases hi : i < args.length
    · have e' : (args ++ List.replicate n .emp)[i]? = some s := e
      rw [List.getElem?_append_left hi] at e'
      obtain ⟨v, e1, r⟩ := get h e'
      have ev : (vs.map some ++ List.replicate n none)[i]? = some (some v) := by
        rw [List.getElem?_append_left (by simp [hl]; exact hi), List.getElem?_map, e1]; rfl
      cases s with
      | emp => exact trivial
      | exc a d C fs => exact r.elim
      | val x => exact ⟨v, ev, r⟩
      | bor x =>
        obtain ⟨p, rfl, q⟩ := r
        exact ⟨p, ev, q⟩
      | own x => exact r.elim
      | lent x => exact r.elim
      | slf x => exact r.elim
    · have e' : (args ++ List.replicate n .emp)[i]? = some s := e
      rw [List.getElem?_append_right (by omega), List.getElem?_replicate] at e'
      split at e'
      · cases e'; exact trivial
      · cases e'
  · have e1 : B a = some o := e
    have e2 : B a = none := e0
    rw [e1] at e2; cases e2
  · have e1 : F a = some o := e
    have e2 : F a = none := e0
    rw [e1] at e2; cases e2
end
/-- a def's wp, from its body's -/
def fwOf (N n : Nat) (w : SW) : FW := fun args c rt ex => args.length = n ∧ w ⟨args ++ List.replicate (N - args.length) .emp, c⟩
  { nx := fun S => rt (.val .non) S.c, rt := fun t S => retK S t fun r => rt r S.c, bk := fun _ => False, ct := fun _ => False, ex := fun x S => ex x S.c }
theorem spM_of {K : PySem.W.Frag} {ps N : List Str} {w : SW} {vs : List V} {H : Hp} {Q : VK} {E : XK} (h : spM K ps.length (fwOf N.length ps.length w) vs H Q E) :
    embS K (fun cls d _ H => E cls d H) w { nx := fun _ H' => Q .non H', rt := Q } (start N vs) H := by
  obtain ⟨ρ, B, F, c, args, rt, ex, wc, hl, hp, ⟨hn, hw⟩, h1, h2⟩ := h
  have wd := enter (n := N.length - vs.length) wc hp
  have hl2 : vs.length = args.length := Paired.length hp
  rw [← hl2] at hw
  refine ⟨_, _, _, _, wd, hw, fun S' W' σ' H' l w' q => ?_, fun t S' v W' σ' H' l w' tv q => ?_, fun _ _ _ _ _ _ q => q.elim, fun _ _ _ _ _ _ q => q.elim, fun x S' cls d W' σ' H' l w' xr q => ?_⟩
  · exact h1 (.val .non) S'.c .non _ _ _ w'.out Rp.non q
  · have q' : retK S' t fun r => rt r S'.c := q
    obtain ⟨t', k, r⟩ := w'.ret tv q'
    exact h1 t' S'.c v _ _ _ w'.out r k
  · exact h2 x S'.c cls d _ _ _ w'.out xr q
section
variable {P : Program} {w : World} {K : PySem.W.Frag} {mg : Str → Option Value} {base : Heap}
/-- a def that keeps its by-value promise -/
structure FM (P : Program) (w : World) (K : PySem.W.Frag) (mg : Str → Option Value) (base : Heap) (k : Nat) (f : Addr) (fd : FuncData) (ps : List Str) (fw : FW) : Prop where
  ok : FnG P w K mg base (L2.CX P w) k f fd ps (spM K ps.length fw)
theorem FM.imp {k : Nat} {f : Addr} {fd : FuncData} {ps : List Str} {fw fw' : FW} (F : FM P w K mg base k f fd ps fw) (h : ∀ args c rt ex, fw' args c rt ex → fw args c rt ex) : FM P w K mg base k f fd ps fw' :=
  ⟨F.ok.imp fun vs H Q E ⟨ρ, B, F, c, args, rt, ex, wc, hl, hp, hw, h1, h2⟩ => ⟨ρ, B, F, c, args, rt, ex, wc, hl, hp, h _ _ _ _ hw, h1, h2⟩⟩
theorem FM.mono {j k : Nat} {f : Addr} {fd : FuncData} {ps : List Str} {fw : FW} (F : FM P w K mg base j f fd ps fw) (h : j ≤ k) : FM P w K mg base k f fd ps fw := ⟨F.ok.mono h⟩
end
section
variable {X : Cx} {WW : WX}
theorem emb_call {K : PySem.W.Frag} {n : Nat} {fw : FW} {wr : AW} {σ : L2.St} {H : Hp} {Q : VK} : embE K WW (wCall n fw wr) σ H Q → embA K WW wr σ H fun vs H1 => spM K n fw vs H1 Q (WE WW σ) := fun ⟨A, W, S, P, PX, wd, h, hp, hx⟩ => by
  refine ⟨A, W, S, _, PX, wd, h, fun ts S1 vs W1 H1 l1 w1 tv1 h1 => ?_, hx⟩
  obtain ⟨as, ⟨hn, hw⟩, ha⟩ := w1.args tv1 h1
  refine ⟨W1.ρ, W1.B, _, S1.c, as, _, _, w1.toC, (Paired.length ha).trans hn, ha, hw, fun r c' v ρ' B' H' o rr q => ?_, fun x c' cls d ρ' B' H' o xr q => ?_⟩
  · obtain ⟨l2, w2⟩ := w1.called o
    exact hp r _ v _ H' (l1.trans l2) w2 (w1.result o rr) q
  · obtain ⟨l2, w2⟩ := w1.called o
    exact hx x _ cls d _ σ H' (l1.trans l2) w2 xr q
theorem em_call {k : Nat} {f : Addr} {fd : FuncData} {ps : List Str} {fw : FW} {x : Str} {p pos : Pos} {e : Expr} {es : List Expr} {wr : AW} (F : FM X.prog X.w X.K X.mg X.base k f fd ps fw) (hr : RoomG k X.A) (tk : Takes X WW) (hg : Gl X x) (hm : X.mg x = some (.ref f))
    (hk : PySem.W.keepIn X.K (.ref f) = true) (hb : Binds X.K fd ps []) (ha : AM X WW (e :: es) wr) (hdb : (x == ("__debug__" : Str)) = false := by decide) (he : starEach (e :: es) X.env = (false, eval e X.env) :: starEach es X.env := by rfl)
    (hpl : (backTo pos (starEach es X.env)).any (·.1) = false := by rfl) : EM X WW (.Call (.Name x p) (e :: es) [] pos) (wCall ps.length fw wr) :=
  ⟨pe_imp (pe_callG F.ok hr hg hm hk hb (fun σ => passAt tk σ) ha.pa hdb he hpl) fun _ _ _ => emb_call⟩
end

/-! ### statements -/
def asgK (i : Nat) (t : TV) (S : MS) (k : MS → Prop) : Prop :=
  (match S.sl[i]? with | some s => s.isL = false | none => False) ∧ match t with
  | .val x => k { S with sl := S.sl.set i (.val x) }
  | .bor x => k { S with sl := S.sl.set i (.bor x) }
  | .fresh x => k { S with sl := S.sl.set i (.own x) }
  | .slot j => match S.sl[j]? with
    | some (.own x) => k { S with sl := (S.sl.set j (.val x)).set i (.val x) }
    | some (.val x) => k { S with sl := S.sl.set i (.val x) }
    | _ => False
theorem isL_get {S : MS} {i : Nat} (h : match S.sl[i]? with | some s => s.isL = false | none => False) : ∃ s, S.sl[i]? = some s ∧ s.isL = false := by
  cases q : S.sl[i]? with
  | none => rw [q] at h; exact h.elim
  | some s => rw [q] at h; exact ⟨s, rfl, h⟩
theorem Wd.asg {K : PySem.W.Frag} {A : An} {W : Wo} {S : MS} {σ : L2.St} {H : Hp} {i : Nat} {t : TV} {v : V} {k : MS → Prop} (w : Wd K A W S σ H) (h : TvR K A W S σ H t v) (r : asgK i t S k) : ∃ W' S', W.le W' ∧ Wd K A W' S' (σ.set i (some v)) H ∧ k S' := by
  obtain ⟨hi, r⟩ := r
  obtain ⟨s0, h0, nl⟩ := isL_get hi
  have hσ : i < σ.length := by rw [w.sl]; exact (List.getElem?_eq_some_iff.mp h0).1
  cases t with
  | val x => exact ⟨W, _, Wo.le.refl _, w.set (s := .val x) h0 nl (fun z => nomatch z) ⟨v, List.getElem?_set_self hσ, h⟩, r⟩
  | bor x =>
    obtain ⟨p, rfl, ho⟩ := h
    exact ⟨W, _, Wo.le.refl _, w.set (s := .bor x) h0 nl (fun z => nomatch z) ⟨p, List.getElem?_set_self hσ, ho⟩, r⟩
  | fresh x => exact ⟨W, _, Wo.le.refl _, w.setOwn h0 nl h, r⟩
  | slot j =>
    have h' : σ[j]? = some (some v) := h
    have r' : (match S.sl[j]? with | some (.own x) => k { S with sl := (S.sl.set j (.val x)).set i (.val x) } | some (.val x) => k { S with sl := S.sl.set i (.val x) } | _ => False) := r
    cases q : S.sl[j]? with
    | none => rw [q] at r'; exact r'.elim
    | some s =>
      rw [q] at r'
      cases s with
      | emp => exact r'.elim
      | exc a d C fs => exact r'.elim
      | bor x => exact r'.elim
      | lent x => exact r'.elim
      | slf x => exact r'.elim
      | val x =>
        obtain ⟨u, e, rp⟩ := w.slot j _ q
        rw [h'] at e; cases e
        exact ⟨W, _, Wo.le.refl _, w.set (s := .val x) h0 nl (fun z => nomatch z) ⟨v, List.getElem?_set_self hσ, rp⟩, r'⟩
      | own x =>
        obtain ⟨W1, l1, w1⟩ := w.freeze q
        have hj : j < S.sl.length := (List.getElem?_eq_some_iff.mp q).1
        obtain ⟨u, e, rp⟩ := w1.slot j (.val x) (List.getElem?_set_self hj)
        rw [h'] at e; cases e
        by_cases ij : j = i
        · subst ij
          exact ⟨W1, _, l1, w1.set (s := .val x) (s0 := .val x) (List.getElem?_set_self hj) rfl (fun z => nomatch z) ⟨v, List.getElem?_set_self hσ, rp⟩, r'⟩
        · exact ⟨W1, _, l1, w1.set (s := .val x) (s0 := s0) (by show (S.sl.set j (.val x))[i]? = _; rw [List.getElem?_set_ne ij]; exact h0) nl (fun z => nomatch z) ⟨v, List.getElem?_set_self hσ, rp⟩, r'⟩
def wSet (i : Nat) (w : EW) : SW := fun S E => w S (fun t S1 => asgK i t S1 E.nx) E.ex
def wSeq (u w : SW) : SW := fun S E => u S { E with nx := fun S1 => w S1 E }
def wSkip : SW := fun S E => E.nx S
def wIf (c : TW) (u w : SW) : SW := fun S E => c S (fun b S1 => (b = true → u S1 E) ∧ (b = false → w S1 E)) E.ex
def wDrop (w : EW) : SW := fun S E => w S (fun _ S1 => E.nx S1) E.ex
def wRet (w : EW) : SW := fun S E => w S E.rt E.ex
def wRetN : SW := fun S E => E.rt (.val .non) S
def wBrk : SW := fun S E => E.bk S
def wCnt : SW := fun S E => E.ct S
def wNev : SW := fun _ _ => False
section
variable {X : Cx} {WW : WX} {st : Stmt} {rest a b : List Stmt} {u w : SW} {e c : Expr} {ew : EW} {tw : TW} {pos : Pos}
theorem ssm_nil : SSM X WW [] wSkip := ⟨pss_imp pss_nil fun D σ H ⟨A, W, S, E, wd, h, k⟩ => k.nx S W σ H (Wo.le.refl _) wd h⟩
theorem ssm_cons (h1 : SM X WW st u) (h2 : SSM X WW rest w) : SSM X WW (st :: rest) (wSeq u w) := ⟨pss_imp (pss_cons h1.ps h2.pss) fun D σ H ⟨A, W, S, E, wd, h, k⟩ =>
  ⟨A, W, S, _, wd, h, fun S' W' σ' H' l w' q => ⟨A, W', S', E, w', q, k.le l⟩, k.rt, k.bk, k.ct, k.ex⟩⟩
theorem ssm_one (h1 : SM X WW st u) : SSM X WW [st] u := ⟨pss_one h1.ps⟩
theorem sm_pass : SM X WW (.Pass pos) wSkip := ⟨ps_imp ps_pass fun D σ H ⟨A, W, S, E, wd, h, k⟩ => k.nx S W σ H (Wo.le.refl _) wd h⟩
theorem sm_break : SM X WW (.Break pos) wBrk := ⟨ps_imp ps_break fun D σ H ⟨A, W, S, E, wd, h, k⟩ => k.bk S W σ H (Wo.le.refl _) wd h⟩
theorem sm_cont : SM X WW (.Continue pos) wCnt := ⟨ps_imp ps_continue fun D σ H ⟨A, W, S, E, wd, h, k⟩ => k.ct S W σ H (Wo.le.refl _) wd h⟩
theorem sm_never : SM X WW st wNev := ⟨ps_imp ps_never fun D σ H ⟨A, W, S, E, wd, h, k⟩ => h⟩
theorem sm_expr (he : EM X WW e ew) (hs : swapsWith e none pos.line X.env = pure false := by rfl) : SM X WW (.Expr e pos) (wDrop ew) := ⟨ps_imp (ps_expr he.pe hs) fun D σ H ⟨A, W, S, E, wd, h, k⟩ =>
  ⟨A, W, S, _, _, wd, h, fun t S' v W' H' l w' _ q => k.nx S' W' σ H' l w' q, k.ex⟩⟩
theorem sm_ret (he : EM X WW e ew) : SM X WW (.Return (some e) pos) (wRet ew) := ⟨ps_imp (ps_ret he.pe) fun D σ H ⟨A, W, S, E, wd, h, k⟩ =>
  ⟨A, W, S, _, _, wd, h, fun t S' v W' H' l w' tv q => k.rt t S' v W' σ H' l w' tv q, k.ex⟩⟩
theorem sm_retN : SM X WW (.Return none pos) wRetN := ⟨ps_imp ps_retN fun D σ H ⟨A, W, S, E, wd, h, k⟩ => k.rt (.val .non) S _ W σ H (Wo.le.refl _) wd Rp.non h⟩
theorem sm_if (hc : TM X WW c tw) (ha : SSM X WW a u) (hb : SSM X WW b w) : SM X WW (.If c a b pos) (wIf tw u w) := ⟨ps_imp (ps_if hc.pt ha.pss hb.pss) fun D σ H ⟨A, W, S, E, wd, h, k⟩ =>
  ⟨A, W, S, _, _, wd, h, fun d S' W' H' l w' q => by
    cases d with
    | true => exact iteT ⟨A, W', S', E, w', q.1 rfl, k.le l⟩
    | false => exact iteF ⟨A, W', S', E, w', q.2 rfl, k.le l⟩, k.ex⟩⟩
theorem emb_set {i : Nat} {D : Ends} {σ : L2.St} {H : Hp} : embS X.K WW (wSet i ew) D σ H → tAsg (embE X.K WW ew) (gName i) D σ H := fun ⟨A, W, S, E, wd, h, k⟩ =>
  ⟨A, W, S, _, _, wd, h, fun t S' v W' H' l w' tv q => by
    obtain ⟨W2, S2, l2, w2, q2⟩ := w'.asg tv q
    exact k.nx S2 W2 _ H' (l.trans l2) w2 q2, k.ex⟩
theorem sm_set {i : Nat} {x : Str} {pos' : Pos} (hN : X.N.Nodup) (he : EM X WW e ew) (hi : X.N[i]? = some x := by rfl) (hx : Loc X.env.scope x := by first | exact Or.inl rfl | exact Or.inr rfl) (hs : swapsWith e (some (.Name x pos')) pos.line X.env = pure false := by rfl)
    (hf : X.fn x = true ∨ X.env.scope.names.lookup x = some .local := by first | exact .inl rfl | exact .inr rfl | assumption) : SM X WW (.Assign [.Name x pos'] e pos) (wSet i ew) := ⟨ps_imp (ps_set hN hi hx he.pe hs hf) fun _ _ _ => emb_set⟩
end

/-! ### targets, sources, for -/
abbrev GW := PV → MS → (MS → Prop) → Prop
def embG (K : PySem.W.Frag) (vs : List Nat) (g : GW) : TG := fun v σ H Q => ∃ A W S x P, Wd K A W S σ H ∧ Rp K W.ρ W.B v x ∧ g x S P ∧
  ∀ S' W' σ' H', W.le W' → Wd K A W' S' σ' H' → wipe σ' vs = wipe σ vs → P S' → Q σ' H'
structure GM (X : Cx) (vs : List Nat) (tg : Expr) (g : GW) : Prop where pg : PG X tg (embG X.K vs g)
theorem pg_imp {X : Cx} {e : Expr} {t t' : TG} (h : PG X e t) (i : ∀ v σ H Q, t' v σ H Q → t v σ H Q) : PG X e t' := ⟨fun pins s σ H v u Q I r q => h.run pins s σ H v u Q I r (i v σ H Q q)⟩
theorem wipe_set {σ : L2.St} {i : Nat} {v : Option V} : ∀ {vs : List Nat}, i ∈ vs → wipe (σ.set i v) vs = wipe σ vs
  | [], h => absurd h (by simp)
  | j :: vs, h => by
    unfold wipe
    by_cases e : i = j
    · subst e
      by_cases h2 : i ∈ vs
      · rw [wipe_set h2]
      · have : ∀ (l : List Nat) (τ : L2.St), i ∉ l → wipe (τ.set i v) l = (wipe τ l).set i v := by
          intro l
          induction l with
          | nil => intro τ _; rfl
          | cons k l ih =>
            intro τ hn
            simp only [List.mem_cons, not_or] at hn
            unfold wipe
            rw [ih τ hn.2, List.set_comm _ _ hn.1]
        rw [this vs σ h2, List.set_set]
    · rw [wipe_set (by simpa [e] using h)]
def gwName (i : Nat) : GW := fun x S P => (match S.sl[i]? with | some s => s.isL = false | none => False) ∧ P { S with sl := S.sl.set i (.val x) }
section
variable {X : Cx} {WW : WX} {pos : Pos}
theorem gm_name {vs : List Nat} {i : Nat} {x : Str} (hN : X.N.Nodup) (hv : i ∈ vs) (hi : X.N[i]? = some x := by rfl) (hx : Loc X.env.scope x := by first | exact Or.inl rfl | exact Or.inr rfl)
    (hf : X.fn x = true ∨ X.env.scope.names.lookup x = some .local := by first | exact .inl rfl | exact .inr rfl | assumption) : GM X vs (.Name x pos) (gwName i) := ⟨pg_imp (pg_name hN hi hx hf) fun v σ H Q ⟨A, W, S, y, P, wd, r, ⟨h1, h2⟩, k⟩ => by
  obtain ⟨s0, h0, nl⟩ := isL_get h1
  have hσ : i < σ.length := by rw [wd.sl]; exact (List.getElem?_eq_some_iff.mp h0).1
  exact k _ W _ H (Wo.le.refl _) (wd.set (s := .val y) h0 nl (fun z => nomatch z) ⟨v, List.getElem?_set_self hσ, r⟩) (wipe_set hv) h2⟩
end
/-- several targets -/
abbrev GWs := List PV → MS → (MS → Prop) → Prop
def embGs (K : PySem.W.Frag) (vs : List Nat) (g : GWs) : TGs := fun v σ H Q => ∃ A W S x P, Wd K A W S σ H ∧ RpA K W.ρ W.B v x ∧ g x S P ∧
  ∀ S' W' σ' H', W.le W' → Wd K A W' S' σ' H' → wipe σ' vs = wipe σ vs → P S' → Q σ' H'
structure GMs (X : Cx) (vs : List Nat) (tg : List Expr) (g : GWs) : Prop where pg : PGs X tg (embGs X.K vs g)
theorem pgs_imp {X : Cx} {e : List Expr} {t t' : TGs} (h : PGs X e t) (i : ∀ v σ H Q, t' v σ H Q → t v σ H Q) : PGs X e t' := ⟨fun pins s σ H v u Q I r q => h.run pins s σ H v u Q I r (i v σ H Q q)⟩
def gwNil : GWs := fun xs S P => match xs with | [] => P S | _ => False
def gwCons (g : GW) (gs : GWs) : GWs := fun xs S P => match xs with | x :: r => g x S fun S1 => gs r S1 P | _ => False
def gwTup (gs : GWs) : GW := fun x S P => match x with | .tup xs => gs xs S P | _ => False
section
variable {X : Cx} {WW : WX} {pos : Pos} {vs : List Nat} {e : Expr} {es : List Expr} {g : GW} {gs : GWs}
theorem gms_nil : GMs X vs [] gwNil := ⟨pgs_imp pgs_nil fun v σ H Q ⟨A, W, S, y, P, wd, r, h, k⟩ => by
  cases r with
  | nil => exact ⟨rfl, k S W σ H (Wo.le.refl _) wd rfl h⟩
  | cons _ _ => exact h.elim⟩
theorem gms_cons (h1 : GM X vs e g) (h2 : GMs X vs es gs) (hs : (assignEach (e :: es) X.env).map (·.2) = assign e X.env :: (assignEach es X.env).map (·.2) := by rfl) : GMs X vs (e :: es) (gwCons g gs) := ⟨pgs_imp (pgs_cons h1.pg h2.pg hs) fun v σ H Q ⟨A, W, S, y, P, wd, r, h, k⟩ => by
  cases r with
  | nil => exact h.elim
  | cons r1 r2 =>
    refine ⟨_, _, rfl, A, W, S, _, _, wd, r1, h, fun S1 W1 σ1 H1 l1 w1 e1 h1 => ?_⟩
    exact ⟨A, W1, S1, _, _, w1, r2.mono l1.b l1.r, h1, fun S2 W2 σ2 H2 l2 w2 e2 h2 => k S2 W2 σ2 H2 (l1.trans l2) w2 (e2.trans e1) h2⟩⟩
/-- the targets' number is the tuple's: a fact of the wp -/
def gwTupN (n : Nat) (gs : GWs) : GW := fun x S P => match x with | .tup xs => xs.length = n ∧ gs xs S P | _ => False
theorem gm_tup {n kk : Nat} (hc : X.calm = true) (h : GMs X vs es gs) (hn : (assignEach es X.env).length = n := by rfl) (hst : (assignEach es X.env).findIdx? (·.1) = none := by rfl) : GM X vs (.Tuple es kk pos) (gwTupN n gs) := ⟨pg_imp (pg_tup hc h.pg hn hst) fun v σ H Q ⟨A, W, S, y, P, wd, r, h, k⟩ => by
  cases y with
  | tup xs =>
    obtain ⟨a, us, rfl, ht, ra, _⟩ := (RR.val (H := H) r).tup wd.bh
    exact ⟨a, us, rfl, ht, ra.length.trans h.1, A, W, S, xs, P, wd, ra, h.2, k⟩
  | _ => exact h.elim⟩
end
/-- an object is told to stand still; a slot is walked -/
def An.plus (A : An) (D : Addr) (o : HO) : An := { A with H0 := fun a => if a = D then some o else A.H0 a }
def An.loan (A : An) (i : Nat) (D : Addr) (o : HO) (x : PV) : An := { A with H0 := (fun a => if a = D then some o else A.H0 a), pin := fun j => if j = i then some (D, x) else A.pin j }
section
variable {K : PySem.W.Frag} {A : An} {W W' : Wo} {S S' : MS} {σ : L2.St} {H H' : Hp}
theorem Wd.plus (w : Wd K A W S σ H) {D : Addr} {o : HO} (hD : H D = some o) (hF : W.F D = none) (hr : D ∉ W.ρ) (hs : ∀ (i : Nat) (y : Slot), S.sl[i]? = some y → y.isH = true → σ[i]? ≠ some (some (.ref D))) : Wd K (A.plus D o) W S σ H := by
  refine ⟨w.bf, w.fh, w.cl, w.nd, w.cel, w.sl, fun i s e => ?_, w.dis, w.pinOk, w.ar, w.ab, w.af, fun a u e r => ?_, fun a u e e0 => ?_, fun a m r => ?_, fun a u e e0 => ?_⟩
  · have z := w.slot i s e
    cases s with
    | emp => exact trivial
    | exc a d C fs => exact z
    | val x => exact z
    | bor x => exact z
    | lent x => exact z
    | own x =>
      obtain ⟨p, a, b, c, d, e'⟩ := z
      have : p ≠ D := fun q => hs i _ e rfl (by rw [← q]; exact a)
      exact ⟨p, a, b, c, d, by show (if p = D then some o else A.H0 p) = none; rw [if_neg this]; exact e'⟩
    | slf x =>
      obtain ⟨p, a, b, c, d, e', e2⟩ := z
      have : p ≠ D := fun q => hs i _ e rfl (by rw [← q]; exact a)
      exact ⟨p, a, b, c, d, by show (if p = D then some o else A.H0 p) = none; rw [if_neg this]; exact e', e2⟩
  · have e' : (if a = D then some o else A.H0 a) = some u := e
    by_cases q : a = D
    · rw [if_pos q] at e'; cases e'; rw [q]; exact hD
    · rw [if_neg q] at e'; exact w.keep a u e' r
  · have : a ≠ D := fun q => by
      subst q
      rw [w.bf a u e] at hF; cases hF
    show (if a = D then some o else A.H0 a) = none
    rw [if_neg this]; exact w.new a u e e0
  · have : a ≠ D := fun q => hr (by rw [← q]; exact m)
    show (if a = D then some o else A.H0 a) = none
    rw [if_neg this]; exact w.newr a m r
  · have : a ≠ D := fun q => by
      subst q
      rw [e] at hF; cases hF
    show (if a = D then some o else A.H0 a) = none
    rw [if_neg this]; exact w.newF a u e e0
/-- the entry's facts, fewer -/
theorem Wd.less {A2 : An} (w : Wd K A2 W S σ H) (h : ∀ a, A2.H0 a = none → A.H0 a = none) (h' : Same A.H0 A2.H0) (er : A.ρ0 = A2.ρ0) (eb : A.B0 = A2.B0) (ef : A.F0 = A2.F0) (ep : A.pin = A2.pin) (ex : A.fix = A2.fix) : Wd K A W S σ H := by
  refine ⟨w.bf, w.fh, w.cl, w.nd, w.cel, w.sl, fun i s e => ?_, w.dis, fun i p x e => w.pinOk i p x (by rw [← ep]; exact e), by rw [er]; exact w.ar, by rw [eb]; exact w.ab, by rw [ef]; exact w.af, fun a u e r => w.keep a u (h' a u e) (by rw [← er]; exact r), fun a u e e0 => h a (w.new a u e (by rw [← eb]; exact e0)), fun a m r => h a (w.newr a m (by rw [← er]; exact r)), fun a u e e0 => h a (w.newF a u e (by rw [← ef]; exact e0))⟩
  have z := w.slot i s e
  cases s with
  | emp => exact trivial
  | exc a d C fs => exact z
  | val x => exact z
  | bor x => exact z
  | lent x =>
    obtain ⟨p, a, b, c, d, e'⟩ := z
    exact ⟨p, a, b, c, d, by rw [ep]; exact e'⟩
  | own x =>
    obtain ⟨p, a, b, c, d, e'⟩ := z
    exact ⟨p, a, b, c, d, h p e'⟩
  | slf x =>
    obtain ⟨p, a, b, c, d, e', e2⟩ := z
    exact ⟨p, a, b, c, d, h p e', by rw [ex]; exact e2.1, e2.2⟩
theorem plus_none {D : Addr} {o : HO} {a : Addr} (h : (A.plus D o).H0 a = none) : A.H0 a = none := by
  have h' : (if a = D then some o else A.H0 a) = none := h
  by_cases q : a = D
  · rw [if_pos q] at h'; cases h'
  · rw [if_neg q] at h'; exact h'
theorem plus_same {D : Addr} {o : HO} (h0 : A.H0 D = none) : Same A.H0 (A.plus D o).H0 := fun a u e => by
  have : a ≠ D := ne_of_none e h0
  show (if a = D then some o else A.H0 a) = some u
  rw [if_neg this]; exact e
theorem Wd.unplus {D : Addr} {o : HO} (w : Wd K (A.plus D o) W S σ H) (h0 : A.H0 D = none) : Wd K A W S σ H :=
  w.less (fun a h => plus_none h) (plus_same h0) rfl rfl rfl rfl rfl
/-- where the object stands that was told to stand still -/
theorem Wd.stands {D : Addr} {o : HO} (w : Wd K (A.plus D o) W S σ H) (hr : D ∉ A.ρ0) (hf : A.F0 D = none) (hpin : ∀ i p x, A.pin i = some (p, x) → p ≠ D) : H D = some o ∧ W.F D = none ∧ D ∉ W.ρ ∧ ∀ (i : Nat) (x : Slot), S.sl[i]? = some x → x.isH = true → σ[i]? ≠ some (some (.ref D)) := by
  have e0 : (A.plus D o).H0 D = some o := by show (if D = D then some o else A.H0 D) = some o; rw [if_pos rfl]
  refine ⟨w.keep D o e0 hr, ?_, fun q => ?_, fun i x e hh z => ?_⟩
  · cases q : W.F D with
    | none => rfl
    | some u =>
      have := w.newF D u q hf
      rw [e0] at this; cases this
  · have := w.newr D q hr
    rw [e0] at this; cases this
  · cases x with
    | own x =>
      have := (w.ownSome e z).2.2.2
      rw [e0] at this; cases this
    | lent x =>
      obtain ⟨q, e1, _, _, _, e2⟩ := w.slot i _ e
      rw [z] at e1; cases e1
      exact hpin i D x e2 rfl
    | slf x =>
      obtain ⟨q, e1, _, _, _, e2, _⟩ := w.slot i _ e
      rw [z] at e1; cases e1
      rw [e0] at e2; cases e2
    | _ => cases hh
/-- a slot's object is lent for a walk -/
theorem Wd.loan (w : Wd K A W S σ H) {i : Nat} {x : PV} {p : Addr} {o : HO} (h : S.sl[i]? = some (.own x)) (hp : σ[i]? = some (some (.ref p))) (ho : H p = some o) (hpin : A.pin i = none) :
    Wd K (A.loan i p o x) W { S with sl := S.sl.set i (.lent x) } σ H := by
  obtain ⟨f1, f2, f3, f4⟩ := w.ownSome h hp
  have hi : i < S.sl.length := (List.getElem?_eq_some_iff.mp h).1
  have w1 := w.tell (i := i) (s := .emp) h (fun z => nomatch z) (fun z => nomatch z) trivial
  have w2 := w1.plus ho f1 f2 (fun j y ej hh z => by
    rcases get_set ej with ⟨_, q⟩ | ⟨ne, ej⟩
    · subst q; cases hh
    · exact w.dis i j p (.own x) y ne h ej rfl hh hp z)
  refine ⟨w2.bf, w2.fh, w2.cl, w2.nd, w2.cel, by show σ.length = (S.sl.set i (.lent x)).length; rw [List.length_set]; exact w.sl, fun j s e => ?_, fun j k q y1 y2 ne e1 e2 h1 h2 z1 z2 => ?_, fun j q y e => ?_, w2.ar, w2.ab, w2.af, w2.keep, w2.new, w2.newr, w2.newF⟩
  · rcases get_set e with ⟨rfl, rfl⟩ | ⟨ne, e⟩
    · exact ⟨p, hp, f1, f2, f3, by show (if i = i then some (p, x) else A.pin i) = _; rw [if_pos rfl]⟩
    · have z := w2.slot j s (by show (S.sl.set i .emp)[j]? = _; rw [List.getElem?_set_ne ne]; exact e)
      cases s with
      | emp => exact trivial
      | exc a d C fs => exact z
      | val x => exact z
      | bor x => exact z
      | lent y =>
        obtain ⟨q, a, b, c, d, e'⟩ := z
        exact ⟨q, a, b, c, d, by show (if j = i then some (p, x) else A.pin j) = _; rw [if_neg (Ne.symm ne)]; exact e'⟩
      | own x => exact z
      | slf x => exact z
  · have go : ∀ (k : Nat) (x' : Slot), (S.sl.set i (.lent x))[k]? = some x' → x'.isH = true → ∃ x0, S.sl[k]? = some x0 ∧ x0.isH = true := fun k x' e hh => by
      rcases get_set e with ⟨rfl, _⟩ | ⟨_, e⟩
      · exact ⟨_, h, rfl⟩
      · exact ⟨_, e, hh⟩
    obtain ⟨y1, g1, g1'⟩ := go j y1 e1 h1
    obtain ⟨y2, g2, g2'⟩ := go k y2 e2 h2
    exact w.dis j k q y1 y2 ne g1 g2 g1' g2' z1 z2
  · have e' : (if j = i then some (p, x) else A.pin j) = some (q, y) := e
    by_cases ji : j = i
    · subst ji
      rw [if_pos rfl] at e'; cases e'
      exact ⟨hp, List.getElem?_set_self hi⟩
    · rw [if_neg ji] at e'
      obtain ⟨a, b⟩ := w.pinOk j q y e'
      exact ⟨a, by show (S.sl.set i (.lent x))[j]? = _; rw [List.getElem?_set_ne (Ne.symm ji)]; exact b⟩
/-- .. and given back -/
theorem Wd.unloan {i : Nat} {x : PV} {p : Addr} {o : HO} (w : Wd K (A.loan i p o x) W S σ H) (h0 : A.H0 p = none) (hpin : A.pin i = none) : Wd K A W { S with sl := S.sl.set i (.own x) } σ H := by
  obtain ⟨hp, hl⟩ := w.pinOk i p x (by show (if i = i then some (p, x) else A.pin i) = _; rw [if_pos rfl])
  have hi : i < S.sl.length := (List.getElem?_eq_some_iff.mp hl).1
  obtain ⟨q, e, f1, f2, f3, _⟩ := w.slot i _ hl
  rw [hp] at e; cases e
  have n0 : ∀ a, (A.loan i p o x).H0 a = none → A.H0 a = none := fun a h => by
    have h' : (if a = p then some o else A.H0 a) = none := h
    by_cases q : a = p
    · rw [if_pos q] at h'; cases h'
    · rw [if_neg q] at h'; exact h'
  have s0 : Same A.H0 (A.loan i p o x).H0 := fun a u e => by
    have : a ≠ p := ne_of_none e h0
    show (if a = p then some o else A.H0 a) = some u
    rw [if_neg this]; exact e
  refine ⟨w.bf, w.fh, w.cl, w.nd, w.cel, by show σ.length = (S.sl.set i (.own x)).length; rw [List.length_set]; exact w.sl, fun j s e => ?_, fun j k q y1 y2 ne e1 e2 h1 h2 z1 z2 => ?_, fun j q y e => ?_, w.ar, w.ab, w.af, fun a u e r => w.keep a u (s0 a u e) r, fun a u e e0 => n0 a (w.new a u e e0), fun a m r => n0 a (w.newr a m r), fun a u e e0 => n0 a (w.newF a u e e0)⟩
  · rcases get_set e with ⟨rfl, rfl⟩ | ⟨ne, e⟩
    · exact ⟨p, hp, f1, f2, f3, h0⟩
    · have z := w.slot j s e
      cases s with
      | emp => exact trivial
      | exc a d C fs => exact z
      | val x => exact z
      | bor x => exact z
      | lent y =>
        obtain ⟨q, a, b, c, d, e'⟩ := z
        have e2 : (if j = i then some (p, x) else A.pin j) = some (q, y) := e'
        rw [if_neg (Ne.symm ne)] at e2
        exact ⟨q, a, b, c, d, e2⟩
      | own y =>
        obtain ⟨q, a, b, c, d, e'⟩ := z
        exact ⟨q, a, b, c, d, n0 q e'⟩
      | slf y =>
        obtain ⟨q, a, b, c, d, e', e2⟩ := z
        exact ⟨q, a, b, c, d, n0 q e', e2⟩
  · have go : ∀ (k : Nat) (x' : Slot), (S.sl.set i (.own x))[k]? = some x' → x'.isH = true → ∃ x0, S.sl[k]? = some x0 ∧ x0.isH = true := fun k x' e hh => by
      rcases get_set e with ⟨rfl, _⟩ | ⟨_, e⟩
      · exact ⟨_, hl, rfl⟩
      · exact ⟨_, e, hh⟩
    obtain ⟨y1, g1, g1'⟩ := go j y1 e1 h1
    obtain ⟨y2, g2, g2'⟩ := go k y2 e2 h2
    exact w.dis j k q y1 y2 ne g1 g2 g1' g2' z1 z2
  · have ne : j ≠ i := fun q => by
      subst q
      rw [hpin] at e; cases e
    obtain ⟨a, b⟩ := w.pinOk j q y (by show (if j = i then some (p, x) else A.pin j) = _; rw [if_neg ne]; exact e)
    exact ⟨a, by show (S.sl.set i (.own x))[j]? = _; rw [List.getElem?_set_ne (Ne.symm ne)]; exact b⟩
theorem TvR.unloan {i : Nat} {x : PV} {p : Addr} {o : HO} (w : Wd K (A.loan i p o x) W S σ H) {t : TV} {v : V} (h : TvR K (A.loan i p o x) W S σ H t v) : TvR K A W { S with sl := S.sl.set i (.own x) } σ H t v := by
  obtain ⟨hp, hl⟩ := w.pinOk i p x (by show (if i = i then some (p, x) else A.pin i) = _; rw [if_pos rfl])
  cases t with
  | val y => exact h
  | bor y => exact h
  | slot y => exact h
  | fresh y =>
    obtain ⟨q, e, a1, a2, a3, a4, a5⟩ := h
    refine ⟨q, e, a1, a2, fun j s ej hh => ?_, a4, ?_⟩
    · rcases get_set ej with ⟨rfl, rfl⟩ | ⟨_, ej⟩
      · exact a3 i _ hl rfl
      · exact a3 j s ej hh
    · have h' : (if q = p then some o else A.H0 q) = none := a5
      by_cases z : q = p
      · rw [if_pos z] at h'; cases h'
      · rw [if_neg z] at h'; exact h'
/-- an object that nothing of ours holds is written -/
theorem Wd.other (w : Wd K A W S σ H) {D : Addr} {o : HO} (hF : W.F D = none) (hr : D ∉ W.ρ) (hs : ∀ (i : Nat) (y : Slot), S.sl[i]? = some y → y.isH = true → σ[i]? ≠ some (some (.ref D))) (h0 : A.H0 D = none) : Wd K A W S σ (upd H D o) := by
  refine ⟨w.bf, fun b u e => ?_, w.cl, w.nd, fun n z e => ?_, w.sl, fun j s e => ?_, w.dis, w.pinOk, w.ar, w.ab, w.af, fun a u e r => ?_, w.new, w.newr, w.newF⟩
  · rw [upd_ne (ne_of_none e hF)]; exact w.fh b u e
  · obtain ⟨a, e1, e2, e3⟩ := w.cel n z e
    have : a ≠ D := fun q => hr (by rw [← q]; exact List.mem_iff_getElem?.mpr ⟨n, e1⟩)
    exact ⟨a, e1, e2, e3.mono (Same.refl _) (Pre.refl _) fun _ z => by rw [upd_ne this]; exact z⟩
  · refine (w.slot j s e).mono (Wo.le.refl _) fun q z es eq g1 g2 g3 => ⟨g1, g2, g3.mono (Same.refl _) (Pre.refl _) fun _ z => ?_⟩
    have : q ≠ D := fun qq => hs j s e es (by rw [← qq]; exact eq)
    rw [upd_ne this]; exact z
  · rw [upd_ne (ne_of_none e h0)]; exact w.keep a u e r
end

/-! ### sources -/
/-- what a for or a comprehension walks: its items; what the walk's end does to the state -/
abbrev IW := MS → (List PV → (MS → MS) → MS → Prop) → (Ex → MS → Prop) → Prop
def SrcR (K : PySem.W.Frag) (A : An) (W : Wo) (xs : List PV) (J : It) : Prop := ∀ (i : Nat) S' W' σ' H', W.le W' → Wd K A W' S' σ' H' →
  (i < xs.length → J.go i H' ∧ ∀ v H3, J.yld i H' v H3 → ∃ W3 x, W'.le W3 ∧ (∀ A2, Wd K A2 W' S' σ' H' → Wd K A2 W3 S' σ' H3) ∧ xs[i]? = some x ∧ Rp K W3.ρ W3.B v x) ∧ (xs.length ≤ i → J.stop i H')
/-- the walk's anchor A' gives A back -/
def Back (K : PySem.W.Frag) (A A' : An) (undo : MS → MS) : Prop := ∀ W S σ H, Wd K A' W S σ H → Wd K A W (undo S) σ H ∧ ∀ t v, TvR K A' W S σ H t v → TvR K A W (undo S) σ H t v
def embI (K : PySem.W.Frag) (WW : WX) (wi : IW) : TI := fun σ H R => ∃ A W S P PX, Wd K A W S σ H ∧ wi S P PX ∧
  (∀ xs undo A' S' W' H' J, W.le W' → Wd K A' W' S' σ H' → Back K A A' undo → SrcR K A' W' xs J → A'.ρ0 = A.ρ0 → A'.F0 = A.F0 → P xs undo S' → R J H') ∧ LkX K WW A W PX
structure IM (X : Cx) (WW : WX) (tg iter : Expr) (w : IW) : Prop where pi : PI X tg iter (embI X.K WW w)
theorem pi_imp {X : Cx} {tg e : Expr} {t t' : TI} (h : PI X tg e t) (i : ∀ σ H Q, t' σ H Q → t σ H Q) : PI X tg e t' := ⟨fun pins s σ H R I q => h.run pins s σ H R I (i σ H R q)⟩
/-- a list or a tuple -/
def iSeq (K : PySem.W.Frag) (tl : TE) : TI := fun σ H R => tl σ H fun x H1 => ∃ a, x = .ref a ∧ ((∃ xs, SqL K H1 a xs ∧ R (Itl K a) H1) ∨ (∃ xs, SqT K H1 a xs ∧ R (Itt K a) H1))
theorem pi_seq {X : Cx} {tg l : Expr} {tl : TE} (hl : PE X l tl) : PI X tg l (iSeq X.K tl) := by
  refine ⟨fun pins s σ H R I h => ?_⟩
  refine thn (hl.run pins s σ H _ I h) fun v s1 ⟨x, H1, I1, r1, q1⟩ => ?_
  obtain ⟨a, e, q1⟩ := q1
  subst e
  cases r1
  rcases q1 with ⟨xs, hq, q⟩ | ⟨xs, hq, q⟩
  · obtain ⟨its, rv, p, hz⟩ := I1.list hq
    refine wpAny_pyIter_list p.isList ?_
    refine ⟨s1.heap.objs.size, [s1.heap.objs.size], _, _, H1, rfl, I1.kept (t' := s1.toks) fun b o e => Heap.get?_push_of_some _ e, turn_list a _, ⟨_, Heap.get?_push_size _ rfl, rfl, rfl⟩, fun b hb => ?_, q⟩
    have e : b = s1.heap.objs.size := by simpa using hb
    subst e
    exact I1.fpOk (Nat.le_refl _) (I1.hok.fresh (Nat.le_refl _))
  · obtain ⟨its, rv, p, hz⟩ := I1.tuple hq
    refine wpAny_pyIter_tuple (show s1.heap.IsTuple a its.toArray from p) ?_
    refine ⟨s1.heap.objs.size, [s1.heap.objs.size], _, _, H1, rfl, I1.kept (t' := s1.toks) fun b o e => Heap.get?_push_of_some _ e, turn_tuple a _, ⟨_, Heap.get?_push_size _ rfl, rfl, rfl⟩, fun b hb => ?_, q⟩
    have e : b = s1.heap.objs.size := by simpa using hb
    subst e
    exact I1.fpOk (Nat.le_refl _) (I1.hok.fresh (Nat.le_refl _))
end BV

/-! The by-value layer, part d: walks. -/
namespace BV
open PySem L2

def itemsK (x : PV) (k : List PV → Prop) : Prop := match x with
  | .lst xs => k xs
  | .tup xs => k xs
  | _ => False
def srcK (t : TV) (S : MS) (P : List PV → (MS → MS) → MS → Prop) : Prop := match t with
  | .val x => itemsK x fun xs => P xs id S
  | .fresh x => itemsK x fun xs => P xs id S
  | .bor x => itemsK x fun xs => P xs id S
  | .slot i => match S.sl[i]? with
    | some (.own x) => itemsK x fun xs => P xs (fun S2 => { S2 with sl := S2.sl.set i (.own x) }) { S with sl := S.sl.set i (.lent x) }
    | some (.val x) => itemsK x fun xs => P xs id S
    | _ => False
def wSrc (w : EW) : IW := fun S P PX => w S (fun t S1 => srcK t S1 P) PX
/-- .. the list frozen -/
def srcZ (t : TV) (S : MS) (P : List PV → (MS → MS) → MS → Prop) : Prop := kpK S t fun x S1 => itemsK x fun xs => P xs id S1
def wSrcZ (w : EW) : IW := fun S P PX => w S (fun t S1 => srcZ t S1 P) PX
section
variable {K : PySem.W.Frag} {A : An} {W W' : Wo} {S S' : MS} {σ : L2.St} {H H' : Hp}
theorem back_id : Back K A A id := fun _ _ _ _ w => ⟨w, fun _ _ h => h⟩
theorem srcR_list {a : Addr} {vs : List V} {xs : List PV} (r : RpA K W.ρ W.B vs xs) (hs : ∀ W' S' σ' H', W.le W' → Wd K A W' S' σ' H' → H' a = some (.lst vs)) : SrcR K A W xs (Itl K a) := fun i S' W' σ' H' l w => by
  have e := hs W' S' σ' H' l w
  refine ⟨fun hi => ?_, fun hi => ⟨vs, SqL.of e, by rw [r.length]; exact hi⟩⟩
  obtain ⟨v, hv, rv⟩ := r.get (List.getElem?_eq_getElem hi)
  refine ⟨⟨vs, v, SqL.of e, hv⟩, fun u H3 hy => ?_⟩
  obtain ⟨rfl, hy⟩ := hy
  have := hy vs (SqL.of e)
  rw [hv] at this; cases this
  exact ⟨W', _, Wo.le.refl _, fun A2 w2 => w2, List.getElem?_eq_getElem hi, rv.mono l.b l.r⟩
theorem srcR_tup {a : Addr} {vs : List V} {xs : List PV} (r : RpA K W.ρ W.B vs xs) (hs : SqT K W.B a vs) : SrcR K A W xs (Itt K a) := fun i S' W' σ' H' l w => by
  have e : SqT K H' a vs := same_t (l.b.trans w.bh) hs
  refine ⟨fun hi => ?_, fun hi => ⟨vs, e, by rw [r.length]; exact hi⟩⟩
  obtain ⟨v, hv, rv⟩ := r.get (List.getElem?_eq_getElem hi)
  refine ⟨⟨vs, v, e, hv⟩, fun u H3 hy => ?_⟩
  obtain ⟨rfl, hy⟩ := hy
  have := hy vs e
  rw [hv] at this; cases this
  exact ⟨W', _, Wo.le.refl _, fun A2 w2 => w2, List.getElem?_eq_getElem hi, rv.mono l.b l.r⟩
/-- what is kept, walked -/
theorem src_val {x : PV} {v : V} {xs0 : List PV → Prop} {R : It → Hp → Prop} (w : Wd K A W S σ H) (h : Rp K W.ρ W.B v x) (k : itemsK x xs0) (hR : ∀ xs J, SrcR K A W xs J → xs0 xs → R J H) :
    ∃ a, v = .ref a ∧ ((∃ xs, SqL K H a xs ∧ R (Itl K a) H) ∨ (∃ xs, SqT K H a xs ∧ R (Itt K a) H)) := by
  cases x with
  | lst xs => cases h with
    | lst e r => exact ⟨_, rfl, .inl ⟨_, SqL.of (w.bh _ _ e), hR xs _ (srcR_list r fun W' S' σ' H' l w' => w'.bh _ _ (l.b _ _ e)) k⟩⟩
  | tup xs => cases h with
    | tup e r => exact ⟨_, rfl, .inr ⟨_, same_t w.bh e, hR xs _ (srcR_tup r e) k⟩⟩
  | _ => exact k.elim
theorem Wd.pinN (w : Wd K A W S σ H) {i : Nat} {x : PV} (h : S.sl[i]? = some (.own x)) : A.pin i = none := by
  cases q : A.pin i with
  | none => rfl
  | some y =>
    obtain ⟨p, z⟩ := y
    have := (w.pinOk i p z q).2
    rw [h] at this; cases this
theorem Wd.notRho (w : Wd K A W S σ H) {p : Addr} (h : p ∉ W.ρ) : p ∉ A.ρ0 := fun q => by
  obtain ⟨n, hn⟩ := List.mem_iff_getElem?.mp q
  exact h (List.mem_iff_getElem?.mpr ⟨n, w.ar _ _ hn⟩)
end
section
variable {X : Cx} {WW : WX} {tg l : Expr} {w : EW}
theorem im_seqZ (h : EM X WW l w) : IM X WW tg l (wSrcZ w) := ⟨pi_imp (pi_seq h.pe) fun σ H R ⟨A, W, S, P, PX, wd, hw, hp, hx⟩ => by
  refine ⟨A, W, S, _, PX, wd, hw, fun t S1 v W1 H1 l1 w1 tv1 h1 => ?_, hx⟩
  obtain ⟨W2, S2, x, l2, w2, rp, k⟩ := w1.kp tv1 h1
  exact src_val w2 rp k fun xs J sr q => hp xs id A S2 W2 H1 J (l1.trans l2) w2 back_id sr rfl rfl q⟩
theorem im_seq (h : EM X WW l w) : IM X WW tg l (wSrc w) := ⟨pi_imp (pi_seq h.pe) fun σ H R ⟨A, W, S, P, PX, wd, hw, hp, hx⟩ => by
  refine ⟨A, W, S, _, PX, wd, hw, fun t S1 v W1 H1 l1 w1 tv1 h1 => ?_, hx⟩
  have viaVal : ∀ x, Rp X.K W1.ρ W1.B v x → (itemsK x fun xs => P xs id S1) → _ := fun x rp k => src_val (R := R) w1 rp k fun xs J sr q => hp xs id A S1 W1 H1 J l1 w1 back_id sr rfl rfl q
  cases t with
  | val x => exact viaVal x tv1 h1
  | fresh x =>
    obtain ⟨W2, l2, w2, rp⟩ := w1.settle tv1
    exact src_val w2 rp h1 fun xs J sr q => hp xs id A S1 W2 H1 J (l1.trans l2) w2 back_id sr rfl rfl q
  | bor x =>
    obtain ⟨p, rfl, ho⟩ := tv1
    have h1' : itemsK x fun xs => P xs id S1 := h1
    cases x with
    | lst xs =>
      obtain ⟨vs, e, r⟩ := ho
      exact ⟨p, rfl, .inl ⟨vs, SqL.of (w1.fh _ _ e), hp xs id A S1 W1 H1 _ l1 w1 back_id (srcR_list r fun W' S' σ' H' l w' => w'.fh _ _ (l.f _ _ e)) rfl rfl h1'⟩⟩
    | tup xs => exact ho.elim
    | _ => exact h1'.elim
  | slot i =>
    have h1' : (match S1.sl[i]? with
      | some (.own x) => itemsK x fun xs => P xs (fun S2 => { S2 with sl := S2.sl.set i (.own x) }) { S1 with sl := S1.sl.set i (.lent x) }
      | some (.val x) => itemsK x fun xs => P xs id S1
      | _ => False) := h1
    have tv1' : σ[i]? = some (some v) := tv1
    cases q : S1.sl[i]? with
    | none => rw [q] at h1'; exact h1'.elim
    | some s =>
      rw [q] at h1'
      cases s with
      | emp => exact h1'.elim
      | exc a d C fs => exact h1'.elim
      | bor x => exact h1'.elim
      | lent x => exact h1'.elim
      | slf x => exact h1'.elim
      | val x =>
        obtain ⟨u, e, rp⟩ := w1.slot i _ q
        rw [tv1'] at e; cases e
        exact viaVal x rp h1'
      | own x =>
        obtain ⟨p, e, f1, f2, f3, f4⟩ := w1.slot i _ q
        rw [tv1'] at e; cases e
        have h2 : itemsK x fun xs => P xs (fun S2 => { S2 with sl := S2.sl.set i (.own x) }) { S1 with sl := S1.sl.set i (.lent x) } := h1'
        cases x with
        | lst xs =>
          obtain ⟨vs, e, r⟩ := f3
          have w2 := w1.loan q tv1' e (w1.pinN q)
          refine ⟨p, rfl, .inl ⟨vs, SqL.of e, hp xs _ (A.loan i p (.lst vs) (.lst xs)) _ W1 H1 _ l1 w2 (fun W S σ H w => ⟨w.unloan f4 (w1.pinN q), fun t v h => h.unloan w⟩) (srcR_list r fun W' S' σ' H' l w' => ?_) rfl rfl h2⟩⟩
          exact w'.keep p _ (by show (if p = p then some (HO.lst vs) else A.H0 p) = _; rw [if_pos rfl]) (w1.notRho f2)
        | tup xs => exact f3.elim
        | _ => exact h2.elim⟩
end

/-! ### range -/
def rgP (lo : Int) (n : Nat) : List PV := (List.range n).map fun (k : Nat) => .int (lo + (k : Int))
theorem rgP_length (lo : Int) (n : Nat) : (rgP lo n).length = n := by simp [rgP]
theorem rgP_get {lo : Int} {n i : Nat} (h : i < n) : (rgP lo n)[i]? = some (.int (lo + (i : Int))) := by
  unfold rgP
  rw [List.getElem?_map, List.getElem?_range h]
  rfl
def asInt (x : PV) (k : Int → Prop) : Prop := match x with | .int i => k i | _ => False
def wRng1 (w : EW) : IW := fun S P PX => w S (fun t S1 => rdK S1 t fun x => asInt x fun j => (-(2 ^ 62) ≤ j ∧ j < 2 ^ 62) ∧ P (rgP 0 j.toNat) id S1) PX
def wRng2 (wa wb : EW) : IW := fun S P PX => wa S (fun t S1 => wb S1 (fun t2 S2 => rdK S2 t fun x => rdK S2 t2 fun y => asInt x fun i => asInt y fun j => (-(2 ^ 62) ≤ i ∧ i < 2 ^ 62 ∧ -(2 ^ 62) ≤ j ∧ j < 2 ^ 62) ∧ P (rgP i (j - i).toNat) id S2) PX) PX
section
variable {K : PySem.W.Frag} {A : An} {W : Wo}
theorem srcR_rg {lo : Int} {n : Nat} : SrcR K A W (rgP lo n) (Itr lo n) := fun i S' W' σ' H' l w => by
  rw [rgP_length]
  refine ⟨fun hi => ⟨hi, fun v H3 hy => ?_⟩, fun hi => hi⟩
  obtain ⟨rfl, rfl⟩ := hy
  exact ⟨W', _, Wo.le.refl _, fun A2 w2 => w2, rgP_get hi, .int _⟩
end
section
variable {X : Cx} {WW : WX} {tg a b : Expr} {wa wb : EW} {p pos : Pos}
theorem im_range1 (ha : EM X WW a wa) (hg : Gl X "range") (hm : X.mg "range" = none) (hs : starEach [a] X.env = [(false, eval a X.env)] := by rfl) : IM X WW tg (.Call (.Name "range" p) [a] [] pos) (wRng1 wa) :=
  ⟨pi_imp (pi_range1 hg hm (pa_cons ha.pe pa_nil hs) hs) fun σ H R ⟨A, W, S, P, PX, wd, hw, hp, hx⟩ => by
    refine ⟨A, W, S, _, PX, wd, hw, fun t S1 v W1 H1 l1 w1 tv1 h1 => ?_, hx⟩
    obtain ⟨x, h2, r⟩ := w1.rd tv1 h1
    cases x with
    | int j =>
      obtain rfl := r.int
      obtain ⟨⟨q1, q2⟩, h2⟩ := h2
      exact ⟨j, rfl, q1, q2, hp _ id A S1 W1 H1 _ l1 w1 back_id srcR_rg rfl rfl h2⟩
    | _ => exact h2.elim⟩
theorem im_range2 (ha : EM X WW a wa) (hb : EM X WW b wb) (hg : Gl X "range") (hm : X.mg "range" = none) (hs : starEach [a, b] X.env = [(false, eval a X.env), (false, eval b X.env)] := by rfl) (hs2 : starEach [b] X.env = [(false, eval b X.env)] := by rfl) :
    IM X WW tg (.Call (.Name "range" p) [a, b] [] pos) (wRng2 wa wb) :=
  ⟨pi_imp (pi_range2 hg hm (pa_cons ha.pe (pa_cons hb.pe pa_nil hs2) (by rw [hs, hs2])) hs hs2) fun σ H R ⟨A, W, S, P, PX, wd, hw, hp, hx⟩ => by
    refine ⟨A, W, S, _, PX, wd, hw, fun t S1 v W1 H1 l1 w1 tv1 h1 => ?_, hx⟩
    obtain ⟨W2, l2, w2, tv2⟩ := w1.stl tv1
    refine ⟨A, W2, S1, _, PX, w2, h1, fun t2 S2 u W3 H3 l3 w3 tv3 h3 => ?_, hx.le (l1.trans l2)⟩
    obtain ⟨x, h4, r1⟩ := w3.rd (k := fun x => rdK S2 t2 fun y => asInt x fun i => asInt y fun j => (-(2 ^ 62) ≤ i ∧ i < 2 ^ 62 ∧ -(2 ^ 62) ≤ j ∧ j < 2 ^ 62) ∧ P (rgP i (j - i).toNat) id S2) (tv2.le (S' := S2) (H' := H3) (stl_nf _) l3) (by rw [rdK_stl]; exact h3)
    obtain ⟨y, h5, r2⟩ := w3.rd tv3 h4
    cases x with
    | int i =>
      cases y with
      | int j =>
        obtain rfl := r1.int
        obtain rfl := r2.int
        obtain ⟨q, h6⟩ := h5
        exact ⟨i, j, rfl, q, hp _ id A S2 W3 H3 _ ((l1.trans l2).trans l3) w3 back_id srcR_rg rfl rfl h6⟩
      | _ => exact h5.elim
    | _ => exact h5.elim⟩
end

/-! ### for -/
def wForL (g : GW) (body : SW) (undo : MS → MS) : List PV → MS → En → Prop
  | [], S, E => E.nx (undo S)
  | x :: r, S, E => g x S fun S1 => body S1 { nx := fun S2 => wForL g body undo r S2 E, rt := fun t S2 => E.rt t (undo S2), bk := fun S2 => E.nx (undo S2), ct := fun S2 => wForL g body undo r S2 E, ex := fun x S2 => E.ex x (undo S2) }
def wFor (wi : IW) (g : GW) (body : SW) : SW := fun S E => wi S (fun xs undo S1 => wForL g body undo xs S1 E) E.ex
section
variable {X : Cx} {WW : WX} {tg iter : Expr} {body : List Stmt} {wi : IW} {g : GW} {w : SW} {vs : List Nat} {pos : Pos}
theorem emb_for {K : PySem.W.Frag} {D : Ends} {σ : L2.St} {H : Hp} : embS K WW (wFor wi g w) D σ H → tFor (embI K WW wi) (embG K vs g) (embS K WW w) D σ H := fun ⟨A, W, S, E, wd, h, k⟩ => by
  refine ⟨A, W, S, _, _, wd, h, fun xs undo A' S1 W1 H1 J l1 w1 bk sr er ef q => ?_, k.ex⟩
  refine ⟨fun i m σ2 H2 => m = xs.length - i ∧ i ≤ xs.length ∧ ∃ W2 S2, W1.le W2 ∧ Wd K A' W2 S2 σ2 H2 ∧ wForL g w undo (xs.drop i) S2 E, ⟨xs.length, rfl, Nat.zero_le _, W1, S1, Wo.le.refl _, w1, q⟩, ?_⟩
  rintro i m σ2 H2 ⟨rfl, hi, W2, S2, l2, w2, q2⟩
  have l12 := l1.trans l2
  by_cases hlt : i < xs.length
  · refine .inr ?_
    obtain ⟨go, yl⟩ := (sr i S2 W2 σ2 H2 l2 w2).1 hlt
    refine ⟨go, fun σ3 H3 => xs.length - (i + 1) = xs.length - (i + 1) ∧ i + 1 ≤ xs.length ∧ ∃ W3 S3, W1.le W3 ∧ Wd K A' W3 S3 σ3 H3 ∧ wForL g w undo (xs.drop (i + 1)) S3 E, fun σ3 H3 z => ⟨xs.length - (i + 1), by omega, z⟩, fun v H3 hy => ?_⟩
    obtain ⟨W3, x, l3, w3, hx, rx⟩ := yl v H3 hy
    have w3' := w3 A' w2
    rw [List.drop_eq_getElem_cons hlt] at q2
    have ex : xs[i] = x := by
      rw [List.getElem?_eq_getElem hlt] at hx
      exact Option.some.inj hx
    rw [ex] at q2
    refine ⟨A', W3, S2, x, _, w3', rx, q2, fun S4 W4 σ4 H4 l4 w4 _ q4 => ?_⟩
    refine ⟨A', W4, S4, _, w4, q4, ⟨fun S5 W5 σ5 H5 l5 w5 q5 => ⟨rfl, hlt, W5, S5, ((l2.trans l3).trans l4).trans l5, w5, q5⟩, fun t S5 v5 W5 σ5 H5 l5 w5 tv q5 => ?_, fun S5 W5 σ5 H5 l5 w5 q5 => ?_, fun S5 W5 σ5 H5 l5 w5 q5 => ⟨rfl, hlt, W5, S5, ((l2.trans l3).trans l4).trans l5, w5, q5⟩, fun x5 S5 cls d W5 σ5 H5 l5 w5 xr q5 => ?_⟩⟩
    · obtain ⟨w6, tr⟩ := bk _ _ _ _ w5
      exact k.rt t _ v5 W5 σ5 H5 (((l12.trans l3).trans l4).trans l5) w6 (tr t v5 tv) q5
    · exact k.nx _ W5 σ5 H5 (((l12.trans l3).trans l4).trans l5) (bk _ _ _ _ w5).1 q5
    · exact k.ex x5 _ cls d W5 σ5 H5 (((l12.trans l3).trans l4).trans l5) (bk _ _ _ _ w5).1 xr q5
  · have e : i = xs.length := by omega
    subst e
    refine .inl ⟨(sr _ S2 W2 σ2 H2 l2 w2).2 (Nat.le_refl _), ?_⟩
    rw [List.drop_length] at q2
    exact k.nx _ W2 σ2 H2 l12 (bk _ _ _ _ w2).1 q2
theorem sm_for (hp : PassesOwn (model X.prog X.w) X.A X.env X.xe) (hc : X.calm = true) (hi : IM X WW tg iter wi) (hg : GM X vs tg g) (hb : SSM X WW body w) (hs : ∀ x, foldedSetIterable iter X.env x = pure x := by intro _; rfl) :
    SM X WW (.For tg iter body [] pos) (wFor wi g w) := ⟨ps_imp (ps_for hp hc hi.pi hg.pg hb.pss hs) fun _ _ _ => emb_for⟩
end

/-! ### while -/
def wWhileN (c : TW) (body : SW) : Nat → SW
  | 0 => fun _ _ => False
  | n + 1 => fun S E => c S (fun b S1 => (b = true → body S1 { nx := fun S2 => wWhileN c body n S2 E, rt := E.rt, bk := E.nx, ct := fun S2 => wWhileN c body n S2 E, ex := E.ex }) ∧ (b = false → E.nx S1)) E.ex
def wWhile (c : TW) (body : SW) : SW := fun S E => ∃ n, wWhileN c body n S E
section
variable {X : Cx} {WW : WX} {c : Expr} {body : List Stmt} {tc : TW} {w : SW} {pos : Pos}
theorem emb_while {K : PySem.W.Frag} {D : Ends} {σ : L2.St} {H : Hp} : embS K WW (wWhile tc w) D σ H → tWhile (embT K WW tc) (embS K WW w) D σ H := fun ⟨A, W, S, E, wd, ⟨n, h⟩, k⟩ => by
  refine ⟨fun m σ2 H2 => ∃ W2 S2, W.le W2 ∧ Wd K A W2 S2 σ2 H2 ∧ wWhileN tc w m S2 E, ⟨n, W, S, Wo.le.refl _, wd, h⟩, ?_⟩
  rintro m σ2 H2 ⟨W2, S2, l2, w2, q2⟩
  cases m with
  | zero => exact q2.elim
  | succ m =>
    refine ⟨A, W2, S2, _, _, w2, q2, fun b S3 W3 H3 l3 w3 q3 => ?_, k.ex.le l2⟩
    cases b with
    | true =>
      refine iteT ⟨fun σ4 H4 => ∃ W4 S4, W.le W4 ∧ Wd K A W4 S4 σ4 H4 ∧ wWhileN tc w m S4 E, fun σ4 H4 z => ⟨m, Nat.lt_succ_self _, z⟩, A, W3, S3, _, w3, q3.1 rfl, ?_⟩
      have l := l2.trans l3
      exact ⟨fun S5 W5 σ5 H5 l5 w5 q5 => ⟨W5, S5, l.trans l5, w5, q5⟩, fun t S5 v5 W5 σ5 H5 l5 w5 tv q5 => k.rt t S5 v5 W5 σ5 H5 (l.trans l5) w5 tv q5, fun S5 W5 σ5 H5 l5 w5 q5 => k.nx S5 W5 σ5 H5 (l.trans l5) w5 q5,
        fun S5 W5 σ5 H5 l5 w5 q5 => ⟨W5, S5, l.trans l5, w5, q5⟩, k.ex.le l⟩
    | false => exact iteF (k.nx S3 W3 σ2 H3 (l2.trans l3) w3 (q3.2 rfl))
theorem sm_while (hp : PassesOwn (model X.prog X.w) X.A X.env X.xe) (hc : TM X WW c tc) (hb : SSM X WW body w) : SM X WW (.While c body [] pos) (wWhile tc w) := ⟨ps_imp (ps_while hp hc.pt hb.pss) fun _ _ _ => emb_while⟩
end
end BV

/-! The by-value layer, part e: list comprehensions. -/
namespace BV
open PySem L2

def wipeL (l : List Slot) : List Nat → List Slot
  | [] => l
  | v :: vs => (wipeL l vs).set v .emp
def wipeS (S : MS) (vs : List Nat) : MS := { S with sl := wipeL S.sl vs }
def noLent (l : List Slot) : List Nat → Prop
  | [] => True
  | v :: vs => (match l[v]? with | some s => s.isL = false | none => True) ∧ noLent l vs
section
variable {K : PySem.W.Frag} {A : An} {W W' : Wo} {S S' : MS} {σ : L2.St} {H H' : Hp}
theorem wipeL_length (l : List Slot) : ∀ vs : List Nat, (wipeL l vs).length = l.length
  | [] => rfl
  | v :: vs => by unfold wipeL; rw [List.length_set, wipeL_length l vs]
theorem wipeL_get {l : List Slot} {j : Nat} {s : Slot} : ∀ {vs : List Nat}, (wipeL l vs)[j]? = some s → s = .emp ∨ (l[j]? = some s)
  | [], h => .inr h
  | v :: vs, h => by
    unfold wipeL at h
    rcases get_set h with ⟨_, e⟩ | ⟨_, h⟩
    · exact .inl e
    · exact wipeL_get h
theorem wipeL_out {l : List Slot} {j : Nat} : ∀ {vs : List Nat}, j ∉ vs → (wipeL l vs)[j]? = l[j]?
  | [], _ => rfl
  | v :: vs, h => by
    simp only [List.mem_cons, not_or] at h
    unfold wipeL
    rw [List.getElem?_set_ne (Ne.symm h.1), wipeL_out h.2]
theorem noLent_get {l : List Slot} {j : Nat} {x : PV} : ∀ {vs : List Nat}, noLent l vs → l[j]? = some (.lent x) → j ∉ vs
  | [], _, _ => by simp
  | v :: vs, h, e => by
    simp only [List.mem_cons, not_or]
    refine ⟨fun q => ?_, noLent_get h.2 e⟩
    subst q
    have := h.1
    rw [e] at this
    cases this
theorem wipe_out {σ : L2.St} {j : Nat} : ∀ {vs : List Nat}, j ∉ vs → (wipe σ vs)[j]? = σ[j]?
  | [], _ => rfl
  | v :: vs, h => by
    simp only [List.mem_cons, not_or] at h
    unfold wipe
    rw [List.getElem?_set_ne (Ne.symm h.1), wipe_out h.2]
/-- slots told as empty -/
theorem wipeL_in {l : List Slot} {j : Nat} {s : Slot} : ∀ {vs : List Nat}, j ∈ vs → (wipeL l vs)[j]? = some s → s = .emp
  | [], h, _ => absurd h (by simp)
  | v :: vs, h, e => by
    unfold wipeL at e
    rcases get_set e with ⟨_, q⟩ | ⟨ne, e⟩
    · exact q
    · exact wipeL_in (by simpa [Ne.symm ne] using h) e
theorem SlotR.at {j : Nat} {s : Slot} {τ : L2.St} (e : τ[j]? = σ[j]?) (z : SlotR K A W σ H j s) : SlotR K A W τ H j s := by
  cases s with
  | emp => exact trivial
  | exc a d C fs => exact ⟨e.trans z.1, z.2⟩
  | val x => obtain ⟨u, a, b⟩ := z; exact ⟨u, e.trans a, b⟩
  | bor x => obtain ⟨u, a, b⟩ := z; exact ⟨u, e.trans a, b⟩
  | own x => obtain ⟨u, a, b⟩ := z; exact ⟨u, e.trans a, b⟩
  | lent x => obtain ⟨u, a, b⟩ := z; exact ⟨u, e.trans a, b⟩
  | slf x => obtain ⟨u, a, b⟩ := z; exact ⟨u, e.trans a, b⟩
theorem Wd.over (w : Wd K A W S σ H) {τ : L2.St} {vs : List Nat} (hl : τ.length = σ.length) (h : ∀ j, j ∉ vs → τ[j]? = σ[j]?) (nl : noLent S.sl vs) : Wd K A W (wipeS S vs) τ H := by
  have ne : ∀ (j : Nat) (s : Slot), (wipeL S.sl vs)[j]? = some s → s = .emp ∨ (j ∉ vs ∧ S.sl[j]? = some s) := fun j s e => by
    by_cases q : j ∈ vs
    · exact .inl (wipeL_in q e)
    · exact .inr ⟨q, by rw [wipeL_out q] at e; exact e⟩
  refine ⟨w.bf, w.fh, w.cl, w.nd, w.cel, by show τ.length = (wipeL S.sl vs).length; rw [wipeL_length, hl]; exact w.sl, fun j s e => ?_, fun i j p x y nij e1 e2 h1 h2 z1 z2 => ?_, fun j p x e => ?_, w.ar, w.ab, w.af, w.keep, w.new, w.newr, w.newF⟩
  · rcases ne j s e with rfl | ⟨q, e⟩
    · exact trivial
    · exact (w.slot j s e).at (h j q)
  · rcases ne i x e1 with rfl | ⟨q1, e1⟩
    · cases h1
    · rcases ne j y e2 with rfl | ⟨q2, e2⟩
      · cases h2
      · rw [h i q1] at z1
        rw [h j q2] at z2
        exact w.dis i j p x y nij e1 e2 h1 h2 z1 z2
  · obtain ⟨a, b⟩ := w.pinOk j p x e
    have q := noLent_get nl b
    exact ⟨by rw [h j q]; exact a, by show (wipeL S.sl vs)[j]? = _; rw [wipeL_out q]; exact b⟩
theorem Wd.wipe (w : Wd K A W S σ H) {vs : List Nat} (nl : noLent S.sl vs) : Wd K A W (wipeS S vs) (L2.wipe σ vs) H := w.over (wipe_length σ vs) (fun j q => wipe_out q) nl
/-- back from a block: its own names are forgotten -/
theorem Wd.unwipe (w : Wd K A W S (L2.wipe σ vs) H) : Wd K A W (wipeS S vs) σ H := by
  refine w.over (wipe_length σ vs).symm (fun j q => (wipe_out q).symm) ?_
  have : ∀ (us : List Nat), (∀ v ∈ us, v ∈ vs) → noLent S.sl us := by
    intro us
    induction us with
    | nil => intro _; exact trivial
    | cons v us ih =>
      intro h
      refine ⟨?_, ih fun u hu => h u (List.mem_cons_of_mem _ hu)⟩
      cases q : S.sl[v]? with
      | none => exact trivial
      | some s =>
        cases s with
        | lent x =>
          obtain ⟨p, e, _⟩ := w.slot v _ q
          have := (wipe_some e).2
          exact absurd (h v List.mem_cons_self) this
        | slf x =>
          obtain ⟨p, e, _⟩ := w.slot v _ q
          have := (wipe_some e).2
          exact absurd (h v List.mem_cons_self) this
        | _ => rfl
  exact this vs fun _ h => h
end

theorem wipeL_in2 {l : List Slot} {j : Nat} : ∀ {vs : List Nat}, j ∈ vs → j < l.length → (wipeL l vs)[j]? = some .emp
  | [], h, _ => absurd h (by simp)
  | v :: vs, h, hl => by
    unfold wipeL
    by_cases e : v = j
    · subst e
      exact List.getElem?_set_self (by rw [wipeL_length]; exact hl)
    · rw [List.getElem?_set_ne e]
      exact wipeL_in2 (by simpa [Ne.symm e] using h) hl
theorem wipeL_idem (l : List Slot) (vs : List Nat) : wipeL (wipeL l vs) vs = wipeL l vs := by
  refine List.ext_getElem? fun j => ?_
  by_cases h : j ∈ vs
  · by_cases hl : j < l.length
    · rw [wipeL_in2 h hl, wipeL_in2 h (by rw [wipeL_length]; exact hl)]
    · rw [List.getElem?_eq_none (by rw [wipeL_length, wipeL_length]; omega), List.getElem?_eq_none (by rw [wipeL_length]; omega)]
  · rw [wipeL_out h]
theorem noLent_of {l : List Slot} {vs : List Nat} (h : ∀ (v : Nat) (x : PV), v ∈ vs → l[v]? ≠ some (.lent x)) (h2 : ∀ (v : Nat) (x : PV), v ∈ vs → l[v]? ≠ some (.slf x)) : noLent l vs := by
  induction vs with
  | nil => exact trivial
  | cons v us ih =>
    refine ⟨?_, ih (fun u x hu => h u x (List.mem_cons_of_mem _ hu)) fun u x hu => h2 u x (List.mem_cons_of_mem _ hu)⟩
    cases q : l[v]? with
    | none => exact trivial
    | some s =>
      cases s with
      | lent x => exact absurd q (h v x List.mem_cons_self)
      | slf x => exact absurd q (h2 v x List.mem_cons_self)
      | _ => rfl
theorem wipe_idem (σ : L2.St) (vs : List Nat) : wipe (wipe σ vs) vs = wipe σ vs := by
  have : ∀ us : List Nat, (∀ v ∈ us, v ∈ vs) → wipe (wipe σ us) vs = wipe σ vs := by
    intro us
    induction us with
    | nil => intro _; rfl
    | cons v us ih =>
      intro h
      show wipe ((wipe σ us).set v none) vs = _
      rw [wipe_set (h v List.mem_cons_self)]
      exact ih fun u hu => h u (List.mem_cons_of_mem _ hu)
  exact this vs fun _ h => h
def wLcL (vs : List Nat) (g : GW) (tt : TW) (we : EW) : List PV → List PV → MS → (List PV → MS → Prop) → Prop
  | [], ys, S, k => k ys S
  | x :: r, ys, S, k => g x S fun S1 => tt S1 (fun b S2 => (b = true → we S2 (fun t S3 => kpK S3 t fun y S4 => ys.length < sizeLine ∧ wLcL vs g tt we r (ys ++ [y]) (wipeS S4 vs) k) (fun _ _ => False)) ∧ (b = false → wLcL vs g tt we r ys (wipeS S2 vs) k)) (fun _ _ => False)
def wLc (vs : List Nat) (wi : IW) (g : GW) (tt : TW) (we : EW) : EW := fun S P PX => wi S (fun xs undo S1 => noLent S1.sl vs ∧ wLcL vs g tt we xs [] (wipeS S1 vs) fun ys S2 => P (.fresh (.lst ys)) (undo S2)) PX
def wYes : TW := fun S P _ => P true S
abbrev WF : WX := fun _ _ _ _ => False
theorem lkF {K : PySem.W.Frag} {A : An} {W : Wo} : LkX K WF A W (fun _ _ => False) := fun _ _ _ _ _ _ _ _ _ _ q => q
theorem emb_lc {K : PySem.W.Frag} {WW : WX} {vs : List Nat} {wi : IW} {g : GW} {tt : TW} {we : EW} {σ : L2.St} {H : Hp} {Q : VK} (v0 : 0 ∉ vs) : embE K WW (wLc vs wi g tt we) σ H Q → tLc (embI K WW wi) (embG K vs g) (embT K WF tt) (embE K WF we) vs σ H Q := fun ⟨A, W, S, P, PX, wd, h, hp, hx⟩ => by
  refine ⟨A, W, S, _, PX, wd, h, fun xs undo A' S1 W1 H1 J l1 w1 bk sr er ef q D hD => ?_, hx⟩
  obtain ⟨nl, q⟩ := q
  have hF := w1.freeF hD
  have hr := w1.newRho hD
  have h0 := w1.h0 hD
  have hr0 : D ∉ A'.ρ0 := w1.notRho hr
  have hf0 : A'.F0 D = none := w1.af.free hF
  have hpin : ∀ i p x, A'.pin i = some (p, x) → p ≠ D := fun i p x e z => by
    obtain ⟨a, b⟩ := w1.pinOk i p x e
    subst z
    obtain ⟨_, _, o, ho⟩ := w1.heldSome b rfl a
    rw [hD] at ho; cases ho
  refine ⟨fun i m H2 => m = xs.length - i ∧ i ≤ xs.length ∧ ∃ W2 S2 us ys, W1.le W2 ∧ wipeL S2.sl vs = S2.sl ∧ Wd K (A'.plus D (.lst us)) W2 S2 σ H2 ∧ RpA K W2.ρ W2.B us ys ∧ wLcL vs g tt we (xs.drop i) ys S2 (fun ys S2 => P (.fresh (.lst ys)) (undo S2)), ⟨xs.length, rfl, Nat.zero_le _, W1, wipeS S1 vs, [], [], Wo.le.refl _, wipeL_idem _ _, ?_, .nil, q⟩, ?_⟩
  · have w2 : Wd K A' W1 (wipeS S1 vs) σ H1 := w1.over rfl (fun _ _ => rfl) nl
    exact (w2.lay (o := .lst []) hD).plus upd_same hF hr (w2.newOwn hD)
  rintro i m H2 ⟨rfl, hi, W2, S2, us, ys, l2, id2, w2, ra, q2⟩
  have w2' := w2.unplus h0
  by_cases hlt : i < xs.length
  · refine .inr ?_
    obtain ⟨go, yl⟩ := (sr i S2 W2 σ H2 l2 w2').1 hlt
    refine ⟨go, fun H3 => xs.length - (i + 1) = xs.length - (i + 1) ∧ i + 1 ≤ xs.length ∧ ∃ W3 S3 us ys, W1.le W3 ∧ wipeL S3.sl vs = S3.sl ∧ Wd K (A'.plus D (.lst us)) W3 S3 σ H3 ∧ RpA K W3.ρ W3.B us ys ∧ wLcL vs g tt we (xs.drop (i + 1)) ys S3 (fun ys S2 => P (.fresh (.lst ys)) (undo S2)), fun H3 z => ⟨xs.length - (i + 1), by omega, z⟩, fun v H3 hy => ?_⟩
    obtain ⟨W3, x, l3, w3, hx3, rx⟩ := yl v H3 hy
    have w3' := w3 _ w2
    rw [List.drop_eq_getElem_cons hlt] at q2
    have ex : xs[i] = x := by
      rw [List.getElem?_eq_getElem hlt] at hx3
      exact Option.some.inj hx3
    rw [ex] at q2
    have empS : ∀ (v : Nat) (x : PV), v ∈ vs → S2.sl[v]? ≠ some (.lent x) := fun v x hv e => by
      rw [← id2] at e
      cases wipeL_in hv e
    have w4 := w3'.wipe (noLent_of empS fun v x hv e => by rw [← id2] at e; cases wipeL_in hv e)
    have eS : wipeS S2 vs = S2 := by
      show ({ S2 with sl := wipeL S2.sl vs } : MS) = S2
      rw [id2]
    rw [eS] at w4
    refine ⟨_, W3, S2, x, _, w4, rx, q2, fun S4 W4 σ4 H4 l4 w4 e4 q4 => ?_⟩
    rw [wipe_idem] at e4
    refine ⟨e4, _, W4, S4, _, _, w4, q4, fun b S5 W5 H5 l5 w5 q5 => ?_, lkF⟩
    have fin : ∀ {S6 : MS} {W6 : Wo} {H6 : Hp}, Wd K (A'.plus D (.lst us)) W6 S6 σ4 H6 → Wd K (A'.plus D (.lst us)) W6 (wipeS S6 vs) σ H6 := fun {S6 W6 H6} w6 => by
      refine w6.over (by rw [← wipe_length σ vs, ← e4, wipe_length]) (fun j q => by rw [← wipe_out (σ := σ) q, ← e4, wipe_out q]) (noLent_of (fun v x hv e => ?_) fun v x hv e => ?_)
      · obtain ⟨p, _, _, _, _, e5⟩ := w6.slot v _ e
        exact empS v x hv (w2.pinOk v p x e5).2
      · obtain ⟨p, _, _, _, _, _, _, e5⟩ := w6.slot v _ e
        subst e5
        exact v0 hv
    cases b with
    | true =>
      refine iteT ⟨_, W5, S5, _, _, w5, q5.1 rfl, fun t S6 v6 W6 H6 l6 w6 tv6 q6 => ?_, lkF⟩
      obtain ⟨W7, S7, y, l7, w7, ry, hlen, q7⟩ := w6.kp tv6 q6
      have w8 := fin w7
      obtain ⟨e1, e2, e3, e5⟩ := w8.stands hr0 hf0 hpin
      have l37 := ((l4.trans l5).trans l6).trans l7
      have l27 := l3.trans l37
      refine ⟨us, e1, by rw [ra.length]; exact hlen, rfl, hlt, W7, wipeS S7 vs, us ++ [v6], ys ++ [y], l2.trans l27, wipeL_idem _ _, ?_, (ra.mono l27.b l27.r).snoc ry, q7⟩
      exact ((w8.unplus h0).other e2 e3 e5 h0).plus upd_same e2 e3 e5
    | false =>
      have l35 := l4.trans l5
      exact iteF ⟨rfl, hlt, W5, wipeS S5 vs, us, ys, l2.trans (l3.trans l35), wipeL_idem _ _, fin w5, ra.mono (l3.trans l35).b (l3.trans l35).r, q5.2 rfl⟩
  · have e : i = xs.length := by omega
    subst e
    refine .inl ⟨(sr _ S2 W2 σ H2 l2 w2').2 (Nat.le_refl _), ?_⟩
    rw [List.drop_length] at q2
    obtain ⟨e1, e2, e3, e4⟩ := w2.stands hr0 hf0 hpin
    obtain ⟨w6, tr⟩ := bk _ _ _ _ w2'
    exact hp (.fresh (.lst ys)) _ (.ref D) W2 H2 (l1.trans l2) w6 (tr (.fresh (.lst ys)) _ ⟨D, rfl, e2, e3, e4, ⟨us, e1, ra⟩, h0⟩) q2
/-! ### the rules -/
structure TMs (X : Cx) (ifs : List Expr) (tt : TW) : Prop where pts : PTs X ifs (embT X.K WF tt)
theorem tms_nil {X : Cx} : TMs X [] wYes := ⟨⟨fun pins s σ H Q I ⟨A, W, S, P, PX, wd, h, hp, hx⟩ => pts_nil.run pins s σ H Q I (hp true S W H (Wo.le.refl _) wd h)⟩⟩
theorem tms_one {X : Cx} {c : Expr} {tt : TW} (h : TM X WF c tt) : TMs X [c] tt := ⟨pts_one h.pt⟩
theorem em_lc {X : Cx} {WW : WX} {elt tg iter : Expr} {ifs : List Expr} {scope : Scope} {own : List (Str × Nat)} {pos : Pos} {wi : IW} {g : GW} {tt : TW} {we : EW} (hN : X.N.Nodup) (hc : X.calm = true) (hi : IM X WW tg iter wi) (ok : BlkOk X.N X.env.scope scope own)
    (hg : ∀ (s : Shared) (H : Hp) (C : Addr) (cl : List (Str × Addr)) (fp : List Addr), GM (X.blk s H scope (compEnvC scope cl C X.env) fp) (own.map (·.2)) tg g)
    (ht : ∀ (s : Shared) (H : Hp) (C : Addr) (cl : List (Str × Addr)) (fp : List Addr), TMs (X.blk s H scope (compEnvC scope cl C X.env) fp) ifs tt)
    (he : ∀ (s : Shared) (H : Hp) (C : Addr) (cl : List (Str × Addr)) (fp : List Addr), EM (X.blk s H scope (compEnvC scope cl C X.env) fp) WF elt we) (hs : ∀ x, foldedSetIterable iter X.env x = pure x := by intro _; rfl) (v0 : 0 ∉ own.map (·.2) := by decide) :
    EM X WW (.ListComp elt [⟨tg, iter, ifs, 0⟩] scope pos) (wLc (own.map (·.2)) wi g tt we) :=
  ⟨pe_imp (pe_lc hc hN hi.pi ok (fun s H C cl fp => (hg s H C cl fp).pg) (fun s H C cl fp => (ht s H C cl fp).pts) (fun s H C cl fp => (he s H C cl fp).pe) hs) fun _ _ _ => emb_lc v0⟩
/-- y = [..], y a local name -/
theorem sm_setLc {X : Cx} {WW : WX} {i : Nat} {y : Str} {py : Pos} {elt tg iter : Expr} {ifs : List Expr} {scope : Scope} {own : List (Str × Nat)} {pos spos : Pos} {wi : IW} {g : GW} {tt : TW} {we : EW} (hN : X.N.Nodup) (hc : X.calm = true) (hy : X.N[i]? = some y) (hyl : X.env.scope.names.lookup y = some .local)
    (hsw : swapsWith (.ListComp elt [⟨tg, iter, ifs, 0⟩] scope pos) (some (.Name y py)) spos.line X.env = pure true) (hi : IM X WW tg iter wi) (ok : BlkOk X.N X.env.scope scope own)
    (hg : ∀ (s : Shared) (H : Hp) (C : Addr) (cl : List (Str × Addr)) (fp : List Addr), GM (X.blk s H scope (compEnvC scope cl C X.env) fp) (own.map (·.2)) tg g)
    (ht : ∀ (s : Shared) (H : Hp) (C : Addr) (cl : List (Str × Addr)) (fp : List Addr), TMs (X.blk s H scope (compEnvC scope cl C X.env) fp) ifs tt)
    (he : ∀ (s : Shared) (H : Hp) (C : Addr) (cl : List (Str × Addr)) (fp : List Addr), EM (X.blk s H scope (compEnvC scope cl C X.env) fp) WF elt we) (hs : ∀ x, foldedSetIterable iter X.env x = pure x := by intro _; rfl) (v0 : 0 ∉ own.map (·.2) := by decide) :
    SM X WW (.Assign [.Name y py] (.ListComp elt [⟨tg, iter, ifs, 0⟩] scope pos) spos) (wSet i (wLc (own.map (·.2)) wi g tt we)) :=
  ⟨ps_imp (ps_setLc hc hN hy hyl hsw hi.pi ok (fun s H C cl fp => (hg s H C cl fp).pg) (fun s H C cl fp => (ht s H C cl fp).pts) (fun s H C cl fp => (he s H C cl fp).pe) hs) fun D σ H q => by
    have : tAsg (embE X.K WW (wLc (own.map (·.2)) wi g tt we)) (gName i) D σ H := emb_set q
    exact emb_lc v0 this⟩
end BV

/-! The by-value layer, part f: == != in, not in of data. -/
namespace BV
open PySem L2

mutual
def pvEq : PV → PV → Bool
  | .non, y => match y with | .non => true | _ => false
  | .bl a, y => match y with | .bl b => a == b | .int j => (if a then (1 : Int) else 0) == j | _ => false
  | .int i, y => match y with | .int j => i == j | .bl b => i == (if b then (1 : Int) else 0) | _ => false
  | .str a, y => match y with | .str b => a == b | _ => false
  | .tup xs, y => match y with | .tup ys => pvEqs xs ys | _ => false
  | .lst xs, y => match y with | .lst ys => pvEqs xs ys | _ => false
  | .dct _, _ => false
  | .obj _ _, _ => false
  | .cel _, _ => false
  | .bag, _ => false
  | .scr _, _ => false
def pvEqs : List PV → List PV → Bool
  | [], ys => match ys with | [] => true | _ => false
  | x :: xs, ys => match ys with | [] => false | y :: ys => pvEq x y && pvEqs xs ys
end
/-- data, of a bounded depth -/
def datN : Nat → PV → Bool
  | _, .non => true
  | _, .bl _ => true
  | _, .int _ => true
  | _, .str _ => true
  | n + 1, .tup xs => xs.all (datN n)
  | n + 1, .lst xs => xs.all (datN n)
  | _, _ => false
abbrev pairP (xs ys : List PV) (j : Nat) : Bool := pvEq (xs.getD j .non) (ys.getD j .non)
theorem pvEqs_min : ∀ xs ys : List PV, ((List.range (min xs.length ys.length)).all (pairP xs ys) && xs.length == ys.length) = pvEqs xs ys
  | [], [] => rfl
  | [], _ :: _ => by simp [pvEqs]
  | _ :: _, [] => by simp [pvEqs]
  | x :: xs, y :: ys => by
    have ih := pvEqs_min xs ys
    have a1 : min (x :: xs).length (y :: ys).length = min xs.length ys.length + 1 := by rw [List.length_cons, List.length_cons]; omega
    have a2 : (List.range (min xs.length ys.length + 1)).all (pairP (x :: xs) (y :: ys)) = (pvEq x y && (List.range (min xs.length ys.length)).all (pairP xs ys)) := by
      rw [List.range_succ_eq_map, List.all_cons, List.all_map]
      rfl
    have a3 : pvEqs (x :: xs) (y :: ys) = (pvEq x y && pvEqs xs ys) := by rw [pvEqs]
    rw [a1, a2, a3, ← ih, Bool.and_assoc]
    simp
theorem pvEqs_len {xs ys : List PV} (h : xs.length = ys.length) : (List.range xs.length).all (pairP xs ys) = pvEqs xs ys := by
  rw [← pvEqs_min xs ys, ← h, Nat.min_self]
  simp
theorem pvEqs_ne {xs ys : List PV} (h : xs.length ≠ ys.length) : pvEqs xs ys = false := by
  rw [← pvEqs_min xs ys]
  simp [h]
theorem pvEqs_all {xs ys : List PV} (hl : xs.length = ys.length) (h : ∀ (j : Nat) (x y : PV), xs[j]? = some x → ys[j]? = some y → pvEq x y = true) : pvEqs xs ys = true := by
  induction xs generalizing ys with
  | nil => cases ys with
    | nil => rw [pvEqs]
    | cons _ _ => cases hl
  | cons x xs ih => cases ys with
    | nil => cases hl
    | cons y ys =>
      rw [pvEqs]
      show (pvEq x y && pvEqs xs ys) = true
      rw [h 0 x y rfl rfl, ih (by simpa using hl) fun j a b e1 e2 => h (j + 1) a b (by simpa using e1) (by simpa using e2)]
      rfl
section
variable {X : Cx} {pins : List (Addr × Obj)} {σ : L2.St} {H : Hp} {s : Shared} {ρ : List Addr}
theorem isList_uniq {h : Heap} {a : Addr} {x y : List Value} (p : h.IsList a x.toArray) (q : h.IsList a y.toArray) : x = y := by
  obtain ⟨o, h1, h2, n, h3⟩ := p
  obtain ⟨o', k1, k2, m, k3⟩ := q
  rw [h1] at k1; cases k1
  rw [h3] at k3
  injection k3 with k3
  injection k3
theorem isTup_uniq {h : Heap} {a : Addr} {x y : List Value} (p : h.IsTuple a x.toArray) (q : h.IsTuple a y.toArray) : x = y := by
  obtain ⟨o, h1, h2, n, h3⟩ := p
  obtain ⟨o', k1, k2, m, k3⟩ := q
  rw [h1] at k1; cases k1
  rw [h3] at k3
  injection k3 with k3
  injection k3
theorem isLT {h : Heap} {a : Addr} {x y : List Value} (p : h.IsList a x.toArray) (q : h.IsTuple a y.toArray) : False := by
  obtain ⟨o, h1, h2, n, h3⟩ := p
  obtain ⟨o', k1, k2, m, k3⟩ := q
  rw [h1] at k1; cases k1
  rw [h2] at k2
  exact absurd k2 (by simp)
/-- the kinds of data -/
inductive DK (I : Inv X pins σ H s) (ρ : List Addr) (n : Nat) : Value → PV → Prop
  | non : DK I ρ n .none .non
  | bl (b : Bool) : DK I ρ n (.bool b) (.bl b)
  | int (i : Int) (t : Tok) : DK I ρ n (.int i t) (.int i)
  | str (i : Str) (t : Tok) : DK I ρ n (.str i t) (.str i)
  | tup {a : Addr} {its : List Value} {vs : List V} {xs : List PV} {m : Nat} : n = m + 1 → s.heap.IsTuple a its.toArray → Vals vs its → RpA X.K ρ H vs xs → (∀ x ∈ xs, datN m x = true) → DK I ρ n (.ref a) (.tup xs)
  | lst {a : Addr} {its : List Value} {vs : List V} {xs : List PV} {m : Nat} : n = m + 1 → s.heap.IsList a its.toArray → Vals vs its → RpA X.K ρ H vs xs → (∀ x ∈ xs, datN m x = true) → DK I ρ n (.ref a) (.lst xs)
theorem dk_of (I : Inv X pins σ H s) {n : Nat} {v : V} {u : Value} {x : PV} (d : datN n x = true) (r : Rp X.K ρ H v x) (ru : RelV v u) : DK I ρ n u x := by
  cases r with
  | non => cases ru; exact .non
  | bl b => cases ru; exact .bl b
  | int i => obtain ⟨t, rfl⟩ := ru; exact .int i t
  | str i => obtain ⟨t, rfl⟩ := ru; exact .str i t
  | tup ht ra =>
    cases ru
    obtain ⟨its, rv, pl, hz⟩ := I.tuple ht
    cases n with
    | zero => cases d
    | succ m => exact .tup rfl pl rv ra fun y hy => List.all_eq_true.mp d y hy
  | lst ht ra =>
    cases ru
    obtain ⟨its, rv, pl, hz⟩ := I.list (SqL.of ht)
    cases n with
    | zero => cases d
    | succ m => exact .lst rfl pl.isList rv ra fun y hy => List.all_eq_true.mp d y hy
  | dct _ _ => cases n <;> cases d
  | obj _ _ => cases n <;> cases d
  | cel _ => cases n <;> cases d
  | scr _ => cases n <;> cases d
theorem at_all {vs : List V} {its : List Value} {xs : List PV} (rv : Vals vs its) (ra : RpA X.K ρ H vs xs) {j : Nat} {x : PV} (e : xs[j]? = some x) : ∃ v u, its[j]? = some u ∧ Rp X.K ρ H v x ∧ RelV v u := by
  obtain ⟨v, e1, r1⟩ := ra.get e
  obtain ⟨u, e2, r2⟩ := rv.get e1
  exact ⟨v, u, e2, r1, r2⟩
/-- one value read twice -/
theorem same_pv (I : Inv X pins σ H s) : ∀ (n : Nat) {u : Value} {x y : PV}, DK I ρ n u x → DK I ρ n u y → pvEq x y = true := by
  intro n
  induction n with
  | zero =>
    intro u x y dx dy
    cases dx with
    | non => cases dy; rfl
    | bl b => cases dy; simp [pvEq]
    | int i t => cases dy; simp [pvEq]
    | str i t => cases dy; simp [pvEq]
    | tup e _ _ _ _ => cases e
    | lst e _ _ _ _ => cases e
  | succ n ih =>
    have go : ∀ {vs ws : List V} {its : List Value} {xs ys : List PV}, Vals vs its → Vals ws its → RpA X.K ρ H vs xs → RpA X.K ρ H ws ys → (∀ x ∈ xs, datN n x = true) → (∀ x ∈ ys, datN n x = true) → pvEqs xs ys = true := by
      intro vs ws its xs ys r1 r2 a1 a2 d1 d2
      have l1 := r1.length
      have l2 := r2.length
      have l3 := a1.length
      have l4 := a2.length
      refine pvEqs_all (by omega) fun j x y e1 e2 => ?_
      obtain ⟨v, u, z1, z2, z3⟩ := at_all r1 a1 e1
      obtain ⟨v', u', y1, y2, y3⟩ := at_all r2 a2 e2
      rw [z1] at y1; cases y1
      exact ih (dk_of I (d1 x (List.mem_iff_getElem?.mpr ⟨j, e1⟩)) z2 z3) (dk_of I (d2 y (List.mem_iff_getElem?.mpr ⟨j, e2⟩)) y2 y3)
    intro u x y dx dy
    cases dx with
    | non => cases dy; rfl
    | bl b => cases dy; simp [pvEq]
    | int i t => cases dy; simp [pvEq]
    | str i t => cases dy; simp [pvEq]
    | tup e p r a d =>
      cases e
      cases dy with
      | tup e' p' r' a' d' =>
        cases e'
        have := isTup_uniq p p'
        subst this
        rw [pvEq]
        exact go r r' a a' d d'
      | lst e' p' r' a' d' => exact (isLT p' p).elim
    | lst e p r a d =>
      cases e
      cases dy with
      | lst e' p' r' a' d' =>
        cases e'
        have := isList_uniq p p'
        subst this
        rw [pvEq]
        exact go r r' a a' d d'
      | tup e' p' r' a' d' => exact (isLT p p').elim
theorem pair_at {ts us : List Value} {vs ws : List V} {xs ys : List PV} {A : Around} (r1 : Vals vs ts) (r2 : Vals ws us) (a1 : RpA X.K ρ H vs xs) (a2 : RpA X.K ρ H ws ys)
    (h : ∀ {u u' : Value} {v v' : V} {x y : PV}, x ∈ xs → y ∈ ys → Rp X.K ρ H v x → Rp X.K ρ H v' y → RelV v u → RelV v' u' → SeqAt.EqAt A s u u' (pvEq x y)) :
    ∀ j (h1 : j < ts.toArray.size) (h2 : j < us.toArray.size), SeqAt.EqAt A s ts.toArray[j] us.toArray[j] (pairP xs ys j) := fun j h1 h2 => by
  have l1 := r1.length
  have l2 := r2.length
  have l3 := a1.length
  have l4 := a2.length
  have k1 : j < ts.length := by simpa using h1
  have k2 : j < us.length := by simpa using h2
  have e1 : xs[j]? = some xs[j] := List.getElem?_eq_getElem (by omega)
  have e2 : ys[j]? = some ys[j] := List.getElem?_eq_getElem (by omega)
  obtain ⟨v, u, z1, z2, z3⟩ := at_all r1 a1 e1
  obtain ⟨v', u', y1, y2, y3⟩ := at_all r2 a2 e2
  have q1 : ts.toArray[j] = u := by
    rw [List.getElem?_eq_getElem k1] at z1
    simpa using z1
  have q2 : us.toArray[j] = u' := by
    rw [List.getElem?_eq_getElem k2] at y1
    simpa using y1
  have q3 : pairP xs ys j = pvEq xs[j] ys[j] := by
    show pvEq (xs.getD j .non) (ys.getD j .non) = _
    rw [List.getD_eq_getElem?_getD, List.getD_eq_getElem?_getD, e1, e2]
    rfl
  rw [q1, q2, q3]
  exact h (List.getElem_mem _) (List.getElem_mem _) z2 y2 z3 y3
theorem rm_here {A : Around} {n : Nat} (h : A.units + n < cLine) : A.units < cLine := by omega
theorem rm_in {A : Around} {n : Nat} (h : A.units + (n + 1) < cLine) : A.in1.units + n < cLine := by
  show A.units + 1 + n < cLine
  omega
theorem eqAt_pv (I : Inv X pins σ H s) : ∀ (n : Nat) (A : Around) {u u' : Value} {x y : PV}, DK I ρ n u x → DK I ρ n u' y → A.units + n < cLine → SeqAt.EqAt A s u u' (pvEq x y) := by
  intro n
  induction n with
  | zero =>
    intro A u u' x y dx dy hu
    have hr := rm_here hu
    have go_tup : ∀ {a b : Addr} {its its' : List Value} {vs ws : List V} {xs ys : List PV} {m m' : Nat}, (0 : Nat) = m + 1 → (0 : Nat) = m' + 1 → s.heap.IsTuple a its.toArray → s.heap.IsTuple b its'.toArray → Vals vs its → Vals ws its' → RpA X.K ρ H vs xs → RpA X.K ρ H ws ys → (∀ x ∈ xs, datN m x = true) → (∀ x ∈ ys, datN m' x = true) → SeqAt.EqAt A s (.ref a) (.ref b) (pvEq (.tup xs) (.tup ys)) := fun e => nomatch e
    have go_lst : ∀ {a b : Addr} {its its' : List Value} {vs ws : List V} {xs ys : List PV} {m m' : Nat}, (0 : Nat) = m + 1 → (0 : Nat) = m' + 1 → s.heap.IsList a its.toArray → s.heap.IsList b its'.toArray → Vals vs its → Vals ws its' → RpA X.K ρ H vs xs → RpA X.K ρ H ws ys → (∀ x ∈ xs, datN m x = true) → (∀ x ∈ ys, datN m' x = true) → SeqAt.EqAt A s (.ref a) (.ref b) (pvEq (.lst xs) (.lst ys)) := fun e => nomatch e
    cases dx with
    | non =>
      cases dy with
      | non => exact SeqAt.EqAt.same _
      | bl b' => exact SeqAt.EqAt.none_bool  b'
      | int i' t' => exact SeqAt.EqAt.none_int  i' t'
      | str i' t' => exact SeqAt.EqAt.none_str  i' t'
      | tup e' p' r' a' d' => exact SeqAt.EqAt.none_tuple  p' hr
      | lst e' p' r' a' d' => exact SeqAt.EqAt.none_list  p' hr
    | bl b =>
      cases dy with
      | non => exact SeqAt.EqAt.bool_none b 
      | bl b' => exact SeqAt.EqAt.bool_bool b b'
      | int i' t' => exact SeqAt.EqAt.bool_int b i' t'
      | str i' t' => exact SeqAt.EqAt.bool_str b i' t'
      | tup e' p' r' a' d' => exact SeqAt.EqAt.bool_tuple b p' hr
      | lst e' p' r' a' d' => exact SeqAt.EqAt.bool_list b p' hr
    | int i t =>
      cases dy with
      | non => exact SeqAt.EqAt.int_none i t 
      | bl b' => exact SeqAt.EqAt.int_bool i t b'
      | int i' t' => exact SeqAt.EqAt.int_int i t i' t'
      | str i' t' => exact SeqAt.EqAt.int_str i t i' t'
      | tup e' p' r' a' d' => exact SeqAt.EqAt.int_tuple i t p' hr
      | lst e' p' r' a' d' => exact SeqAt.EqAt.int_list i t p' hr
    | str i t =>
      cases dy with
      | non => exact SeqAt.EqAt.str_none i t 
      | bl b' => exact SeqAt.EqAt.str_bool i t b'
      | int i' t' => exact SeqAt.EqAt.str_int i t i' t'
      | str i' t' => exact SeqAt.EqAt.str_str i t i' t'
      | tup e' p' r' a' d' => exact SeqAt.EqAt.str_tuple i t p' hr
      | lst e' p' r' a' d' => exact SeqAt.EqAt.str_list i t p' hr
    | tup e p r a d =>
      cases dy with
      | non => exact SeqAt.EqAt.tuple_none  p hr
      | bl b' => exact SeqAt.EqAt.tuple_bool b' p hr
      | int i' t' => exact SeqAt.EqAt.tuple_int i' t' p hr
      | str i' t' => exact SeqAt.EqAt.tuple_str i' t' p hr
      | tup e' p' r' a' d' => exact go_tup e e' p p' r r' a a' d d'
      | lst e' p' r' a' d' => exact SeqAt.EqAt.tuple_list p p' hr
    | lst e p r a d =>
      cases dy with
      | non => exact SeqAt.EqAt.list_none  p hr
      | bl b' => exact SeqAt.EqAt.list_bool b' p hr
      | int i' t' => exact SeqAt.EqAt.list_int i' t' p hr
      | str i' t' => exact SeqAt.EqAt.list_str i' t' p hr
      | tup e' p' r' a' d' => exact SeqAt.EqAt.list_tuple p p' hr
      | lst e' p' r' a' d' => exact go_lst e e' p p' r r' a a' d d'
  | succ n ih =>
    intro A u u' x y dx dy hu
    have hr := rm_here hu
    have go_tup : ∀ {a b : Addr} {its its' : List Value} {vs ws : List V} {xs ys : List PV} {m m' : Nat}, n + 1 = m + 1 → n + 1 = m' + 1 → s.heap.IsTuple a its.toArray → s.heap.IsTuple b its'.toArray → Vals vs its → Vals ws its' → RpA X.K ρ H vs xs → RpA X.K ρ H ws ys → (∀ x ∈ xs, datN m x = true) → (∀ x ∈ ys, datN m' x = true) → SeqAt.EqAt A s (.ref a) (.ref b) (pvEq (.tup xs) (.tup ys)) := by
      intro a b its its' vs ws xs ys m m' e1 e2 p1 p2 r1 r2 a1 a2 d1 d2
      have d0 : DK I ρ (n + 1) (.ref a) (.tup xs) := .tup e1 p1 r1 a1 d1
      cases e1
      cases e2
      by_cases q : a = b
      · subst q
        have := isTup_uniq p1 p2
        subst this
        rw [same_pv I (n + 1) (.tup rfl p1 r1 a1 d1) (.tup rfl p1 r2 a2 d2)]
        exact SeqAt.EqAt.same _
      · have hh := SeqAt.RcAt.tuples p1 p2 hr (pair_at r1 r2 a1 a2 fun m1 m2 g1 g2 f1 f2 => ih A.in1 (dk_of I (d1 _ m1) g1 f1) (dk_of I (d2 _ m2) g2 f2) (rm_in hu))
        have l1 := r1.length
        have l2 := r2.length
        have l3 := a1.length
        have l4 := a2.length
        rw [List.size_toArray, List.size_toArray, show its.length = xs.length by omega, show its'.length = ys.length by omega, pvEqs_min] at hh
        rw [pvEq]
        exact SeqAt.EqAt.of_refs q hh
    have go_lst : ∀ {a b : Addr} {its its' : List Value} {vs ws : List V} {xs ys : List PV} {m m' : Nat}, n + 1 = m + 1 → n + 1 = m' + 1 → s.heap.IsList a its.toArray → s.heap.IsList b its'.toArray → Vals vs its → Vals ws its' → RpA X.K ρ H vs xs → RpA X.K ρ H ws ys → (∀ x ∈ xs, datN m x = true) → (∀ x ∈ ys, datN m' x = true) → SeqAt.EqAt A s (.ref a) (.ref b) (pvEq (.lst xs) (.lst ys)) := by
      intro a b its its' vs ws xs ys m m' e1 e2 p1 p2 r1 r2 a1 a2 d1 d2
      cases e1
      cases e2
      by_cases q : a = b
      · subst q
        have := isList_uniq p1 p2
        subst this
        rw [same_pv I (n + 1) (.lst rfl p1 r1 a1 d1) (.lst rfl p1 r2 a2 d2)]
        exact SeqAt.EqAt.same _
      · have l1 := r1.length
        have l2 := r2.length
        have l3 := a1.length
        have l4 := a2.length
        rw [pvEq]
        refine SeqAt.EqAt.of_refs q ?_
        by_cases hz : xs.length = ys.length
        · have hh := SeqAt.RcAt.lists p1 p2 (by rw [List.size_toArray, List.size_toArray]; omega) hr (pair_at r1 r2 a1 a2 fun m1 m2 g1 g2 f1 f2 => ih A.in1 (dk_of I (d1 _ m1) g1 f1) (dk_of I (d2 _ m2) g2 f2) (rm_in hu))
          rw [List.size_toArray, show its.length = xs.length by omega, pvEqs_len hz] at hh
          exact hh
        · rw [show pvEqs xs ys = false from pvEqs_ne hz]
          exact SeqAt.RcAt.lists_lengths p1 p2 (by rw [List.size_toArray, List.size_toArray]; simp; omega) hr
    cases dx with
    | non =>
      cases dy with
      | non => exact SeqAt.EqAt.same _
      | bl b' => exact SeqAt.EqAt.none_bool  b'
      | int i' t' => exact SeqAt.EqAt.none_int  i' t'
      | str i' t' => exact SeqAt.EqAt.none_str  i' t'
      | tup e' p' r' a' d' => exact SeqAt.EqAt.none_tuple  p' hr
      | lst e' p' r' a' d' => exact SeqAt.EqAt.none_list  p' hr
    | bl b =>
      cases dy with
      | non => exact SeqAt.EqAt.bool_none b 
      | bl b' => exact SeqAt.EqAt.bool_bool b b'
      | int i' t' => exact SeqAt.EqAt.bool_int b i' t'
      | str i' t' => exact SeqAt.EqAt.bool_str b i' t'
      | tup e' p' r' a' d' => exact SeqAt.EqAt.bool_tuple b p' hr
      | lst e' p' r' a' d' => exact SeqAt.EqAt.bool_list b p' hr
    | int i t =>
      cases dy with
      | non => exact SeqAt.EqAt.int_none i t 
      | bl b' => exact SeqAt.EqAt.int_bool i t b'
      | int i' t' => exact SeqAt.EqAt.int_int i t i' t'
      | str i' t' => exact SeqAt.EqAt.int_str i t i' t'
      | tup e' p' r' a' d' => exact SeqAt.EqAt.int_tuple i t p' hr
      | lst e' p' r' a' d' => exact SeqAt.EqAt.int_list i t p' hr
    | str i t =>
      cases dy with
      | non => exact SeqAt.EqAt.str_none i t 
      | bl b' => exact SeqAt.EqAt.str_bool i t b'
      | int i' t' => exact SeqAt.EqAt.str_int i t i' t'
      | str i' t' => exact SeqAt.EqAt.str_str i t i' t'
      | tup e' p' r' a' d' => exact SeqAt.EqAt.str_tuple i t p' hr
      | lst e' p' r' a' d' => exact SeqAt.EqAt.str_list i t p' hr
    | tup e p r a d =>
      cases dy with
      | non => exact SeqAt.EqAt.tuple_none  p hr
      | bl b' => exact SeqAt.EqAt.tuple_bool b' p hr
      | int i' t' => exact SeqAt.EqAt.tuple_int i' t' p hr
      | str i' t' => exact SeqAt.EqAt.tuple_str i' t' p hr
      | tup e' p' r' a' d' => exact go_tup e e' p p' r r' a a' d d'
      | lst e' p' r' a' d' => exact SeqAt.EqAt.tuple_list p p' hr
    | lst e p r a d =>
      cases dy with
      | non => exact SeqAt.EqAt.list_none  p hr
      | bl b' => exact SeqAt.EqAt.list_bool b' p hr
      | int i' t' => exact SeqAt.EqAt.list_int i' t' p hr
      | str i' t' => exact SeqAt.EqAt.list_str i' t' p hr
      | tup e' p' r' a' d' => exact SeqAt.EqAt.list_tuple p p' hr
      | lst e' p' r' a' d' => exact go_lst e e' p p' r r' a a' d d'
theorem rcAt_pv (I : Inv X pins σ H s) (n : Nat) (A : Around) {u u' : Value} {x y : PV} (dx : DK I ρ n u x) (dy : DK I ρ n u' y) (hu : A.units + n < cLine) : SeqAt.RcAt A s u u' (pvEq x y) := by
  have hr := rm_here hu
  cases n with
  | zero =>
    have go_tup : ∀ {a b : Addr} {its its' : List Value} {vs ws : List V} {xs ys : List PV} {m m' : Nat}, (0 : Nat) = m + 1 → (0 : Nat) = m' + 1 → s.heap.IsTuple a its.toArray → s.heap.IsTuple b its'.toArray → Vals vs its → Vals ws its' → RpA X.K ρ H vs xs → RpA X.K ρ H ws ys → (∀ x ∈ xs, datN m x = true) → (∀ x ∈ ys, datN m' x = true) → SeqAt.RcAt A s (.ref a) (.ref b) (pvEqs xs ys) := fun e => nomatch e
    have go_lst : ∀ {a b : Addr} {its its' : List Value} {vs ws : List V} {xs ys : List PV} {m m' : Nat}, (0 : Nat) = m + 1 → (0 : Nat) = m' + 1 → s.heap.IsList a its.toArray → s.heap.IsList b its'.toArray → Vals vs its → Vals ws its' → RpA X.K ρ H vs xs → RpA X.K ρ H ws ys → (∀ x ∈ xs, datN m x = true) → (∀ x ∈ ys, datN m' x = true) → SeqAt.RcAt A s (.ref a) (.ref b) (pvEqs xs ys) := fun e => nomatch e
    cases dx with
    | non =>
      cases dy with
      | non => exact SeqAt.RcAt.none_none  
      | bl b' => exact SeqAt.RcAt.none_bool  b'
      | int i' t' => exact SeqAt.RcAt.none_int  i' t'
      | str i' t' => exact SeqAt.RcAt.none_str  i' t'
      | tup e' p' r' a' d' => exact SeqAt.RcAt.none_tuple  p' hr
      | lst e' p' r' a' d' => exact SeqAt.RcAt.none_list  p' hr
    | bl b =>
      cases dy with
      | non => exact SeqAt.RcAt.bool_none b 
      | bl b' => exact SeqAt.RcAt.bool_bool b b'
      | int i' t' => exact SeqAt.RcAt.bool_int b i' t'
      | str i' t' => exact SeqAt.RcAt.bool_str b i' t'
      | tup e' p' r' a' d' => exact SeqAt.RcAt.bool_tuple b p' hr
      | lst e' p' r' a' d' => exact SeqAt.RcAt.bool_list b p' hr
    | int i t =>
      cases dy with
      | non => exact SeqAt.RcAt.int_none i t 
      | bl b' => exact SeqAt.RcAt.int_bool i t b'
      | int i' t' => exact SeqAt.RcAt.int_int i t i' t'
      | str i' t' => exact SeqAt.RcAt.int_str i t i' t'
      | tup e' p' r' a' d' => exact SeqAt.RcAt.int_tuple i t p' hr
      | lst e' p' r' a' d' => exact SeqAt.RcAt.int_list i t p' hr
    | str i t =>
      cases dy with
      | non => exact SeqAt.RcAt.str_none i t 
      | bl b' => exact SeqAt.RcAt.str_bool i t b'
      | int i' t' => exact SeqAt.RcAt.str_int i t i' t'
      | str i' t' => exact SeqAt.RcAt.str_str i t i' t'
      | tup e' p' r' a' d' => exact SeqAt.RcAt.str_tuple i t p' hr
      | lst e' p' r' a' d' => exact SeqAt.RcAt.str_list i t p' hr
    | tup e p r a d =>
      cases dy with
      | non => exact SeqAt.RcAt.tuple_none  p hr
      | bl b' => exact SeqAt.RcAt.tuple_bool b' p hr
      | int i' t' => exact SeqAt.RcAt.tuple_int i' t' p hr
      | str i' t' => exact SeqAt.RcAt.tuple_str i' t' p hr
      | tup e' p' r' a' d' => exact go_tup e e' p p' r r' a a' d d'
      | lst e' p' r' a' d' => exact SeqAt.RcAt.tuple_list p p' hr
    | lst e p r a d =>
      cases dy with
      | non => exact SeqAt.RcAt.list_none  p hr
      | bl b' => exact SeqAt.RcAt.list_bool b' p hr
      | int i' t' => exact SeqAt.RcAt.list_int i' t' p hr
      | str i' t' => exact SeqAt.RcAt.list_str i' t' p hr
      | tup e' p' r' a' d' => exact SeqAt.RcAt.list_tuple p p' hr
      | lst e' p' r' a' d' => exact go_lst e e' p p' r r' a a' d d'
  | succ n =>
    have go_tup : ∀ {a b : Addr} {its its' : List Value} {vs ws : List V} {xs ys : List PV} {m m' : Nat}, n + 1 = m + 1 → n + 1 = m' + 1 → s.heap.IsTuple a its.toArray → s.heap.IsTuple b its'.toArray → Vals vs its → Vals ws its' → RpA X.K ρ H vs xs → RpA X.K ρ H ws ys → (∀ x ∈ xs, datN m x = true) → (∀ x ∈ ys, datN m' x = true) → SeqAt.RcAt A s (.ref a) (.ref b) (pvEqs xs ys) := by
      intro a b its its' vs ws xs ys m m' e1 e2 p1 p2 r1 r2 a1 a2 d1 d2
      cases e1
      cases e2
      have hh := SeqAt.RcAt.tuples p1 p2 hr (pair_at r1 r2 a1 a2 fun m1 m2 g1 g2 f1 f2 => eqAt_pv I n A.in1 (dk_of I (d1 _ m1) g1 f1) (dk_of I (d2 _ m2) g2 f2) (rm_in hu))
      have l1 := r1.length
      have l2 := r2.length
      have l3 := a1.length
      have l4 := a2.length
      rw [List.size_toArray, List.size_toArray, show its.length = xs.length by omega, show its'.length = ys.length by omega, pvEqs_min] at hh
      exact hh
    have go_lst : ∀ {a b : Addr} {its its' : List Value} {vs ws : List V} {xs ys : List PV} {m m' : Nat}, n + 1 = m + 1 → n + 1 = m' + 1 → s.heap.IsList a its.toArray → s.heap.IsList b its'.toArray → Vals vs its → Vals ws its' → RpA X.K ρ H vs xs → RpA X.K ρ H ws ys → (∀ x ∈ xs, datN m x = true) → (∀ x ∈ ys, datN m' x = true) → SeqAt.RcAt A s (.ref a) (.ref b) (pvEqs xs ys) := by
      intro a b its its' vs ws xs ys m m' e1 e2 p1 p2 r1 r2 a1 a2 d1 d2
      cases e1
      cases e2
      have l1 := r1.length
      have l2 := r2.length
      have l3 := a1.length
      have l4 := a2.length
      by_cases hz : xs.length = ys.length
      · have hh := SeqAt.RcAt.lists p1 p2 (by rw [List.size_toArray, List.size_toArray]; omega) hr (pair_at r1 r2 a1 a2 fun m1 m2 g1 g2 f1 f2 => eqAt_pv I n A.in1 (dk_of I (d1 _ m1) g1 f1) (dk_of I (d2 _ m2) g2 f2) (rm_in hu))
        rw [List.size_toArray, show its.length = xs.length by omega, pvEqs_len hz] at hh
        exact hh
      · rw [show pvEqs xs ys = false from pvEqs_ne hz]
        exact SeqAt.RcAt.lists_lengths p1 p2 (by rw [List.size_toArray, List.size_toArray]; simp; omega) hr
    cases dx with
    | non =>
      cases dy with
      | non => exact SeqAt.RcAt.none_none  
      | bl b' => exact SeqAt.RcAt.none_bool  b'
      | int i' t' => exact SeqAt.RcAt.none_int  i' t'
      | str i' t' => exact SeqAt.RcAt.none_str  i' t'
      | tup e' p' r' a' d' => exact SeqAt.RcAt.none_tuple  p' hr
      | lst e' p' r' a' d' => exact SeqAt.RcAt.none_list  p' hr
    | bl b =>
      cases dy with
      | non => exact SeqAt.RcAt.bool_none b 
      | bl b' => exact SeqAt.RcAt.bool_bool b b'
      | int i' t' => exact SeqAt.RcAt.bool_int b i' t'
      | str i' t' => exact SeqAt.RcAt.bool_str b i' t'
      | tup e' p' r' a' d' => exact SeqAt.RcAt.bool_tuple b p' hr
      | lst e' p' r' a' d' => exact SeqAt.RcAt.bool_list b p' hr
    | int i t =>
      cases dy with
      | non => exact SeqAt.RcAt.int_none i t 
      | bl b' => exact SeqAt.RcAt.int_bool i t b'
      | int i' t' => exact SeqAt.RcAt.int_int i t i' t'
      | str i' t' => exact SeqAt.RcAt.int_str i t i' t'
      | tup e' p' r' a' d' => exact SeqAt.RcAt.int_tuple i t p' hr
      | lst e' p' r' a' d' => exact SeqAt.RcAt.int_list i t p' hr
    | str i t =>
      cases dy with
      | non => exact SeqAt.RcAt.str_none i t 
      | bl b' => exact SeqAt.RcAt.str_bool i t b'
      | int i' t' => exact SeqAt.RcAt.str_int i t i' t'
      | str i' t' => exact SeqAt.RcAt.str_str i t i' t'
      | tup e' p' r' a' d' => exact SeqAt.RcAt.str_tuple i t p' hr
      | lst e' p' r' a' d' => exact SeqAt.RcAt.str_list i t p' hr
    | tup e p r a d =>
      cases dy with
      | non => exact SeqAt.RcAt.tuple_none  p hr
      | bl b' => exact SeqAt.RcAt.tuple_bool b' p hr
      | int i' t' => exact SeqAt.RcAt.tuple_int i' t' p hr
      | str i' t' => exact SeqAt.RcAt.tuple_str i' t' p hr
      | tup e' p' r' a' d' => exact go_tup e e' p p' r r' a a' d d'
      | lst e' p' r' a' d' => exact SeqAt.RcAt.tuple_list p p' hr
    | lst e p r a d =>
      cases dy with
      | non => exact SeqAt.RcAt.list_none  p hr
      | bl b' => exact SeqAt.RcAt.list_bool b' p hr
      | int i' t' => exact SeqAt.RcAt.list_int i' t' p hr
      | str i' t' => exact SeqAt.RcAt.list_str i' t' p hr
      | tup e' p' r' a' d' => exact SeqAt.RcAt.list_tuple p p' hr
      | lst e' p' r' a' d' => exact go_lst e e' p p' r r' a a' d d'
theorem rnAt_pv (I : Inv X pins σ H s) (n : Nat) (A : Around) {u u' : Value} {x y : PV} (dx : DK I ρ n u x) (dy : DK I ρ n u' y) (hu : A.units + n < cLine) : SeqAt.RcNeAt A s u u' (!pvEq x y) := by
  have hr := rm_here hu
  cases n with
  | zero =>
    have go_tup : ∀ {a b : Addr} {its its' : List Value} {vs ws : List V} {xs ys : List PV} {m m' : Nat}, (0 : Nat) = m + 1 → (0 : Nat) = m' + 1 → s.heap.IsTuple a its.toArray → s.heap.IsTuple b its'.toArray → Vals vs its → Vals ws its' → RpA X.K ρ H vs xs → RpA X.K ρ H ws ys → (∀ x ∈ xs, datN m x = true) → (∀ x ∈ ys, datN m' x = true) → SeqAt.RcNeAt A s (.ref a) (.ref b) (!pvEqs xs ys) := fun e => nomatch e
    have go_lst : ∀ {a b : Addr} {its its' : List Value} {vs ws : List V} {xs ys : List PV} {m m' : Nat}, (0 : Nat) = m + 1 → (0 : Nat) = m' + 1 → s.heap.IsList a its.toArray → s.heap.IsList b its'.toArray → Vals vs its → Vals ws its' → RpA X.K ρ H vs xs → RpA X.K ρ H ws ys → (∀ x ∈ xs, datN m x = true) → (∀ x ∈ ys, datN m' x = true) → SeqAt.RcNeAt A s (.ref a) (.ref b) (!pvEqs xs ys) := fun e => nomatch e
    cases dx with
    | non =>
      cases dy with
      | non => exact SeqAt.RcNeAt.none_none  
      | bl b' => exact SeqAt.RcNeAt.none_bool  b'
      | int i' t' => exact SeqAt.RcNeAt.none_int  i' t'
      | str i' t' => exact SeqAt.RcNeAt.none_str  i' t'
      | tup e' p' r' a' d' => exact SeqAt.RcNeAt.none_tuple  p' hr
      | lst e' p' r' a' d' => exact SeqAt.RcNeAt.none_list  p' hr
    | bl b =>
      cases dy with
      | non => exact SeqAt.RcNeAt.bool_none b 
      | bl b' => exact SeqAt.RcNeAt.bool_bool b b'
      | int i' t' => exact SeqAt.RcNeAt.bool_int b i' t'
      | str i' t' => exact SeqAt.RcNeAt.bool_str b i' t'
      | tup e' p' r' a' d' => exact SeqAt.RcNeAt.bool_tuple b p' hr
      | lst e' p' r' a' d' => exact SeqAt.RcNeAt.bool_list b p' hr
    | int i t =>
      cases dy with
      | non => exact SeqAt.RcNeAt.int_none i t 
      | bl b' => exact SeqAt.RcNeAt.int_bool i t b'
      | int i' t' => exact SeqAt.RcNeAt.int_int i t i' t'
      | str i' t' => exact SeqAt.RcNeAt.int_str i t i' t'
      | tup e' p' r' a' d' => exact SeqAt.RcNeAt.int_tuple i t p' hr
      | lst e' p' r' a' d' => exact SeqAt.RcNeAt.int_list i t p' hr
    | str i t =>
      cases dy with
      | non => exact SeqAt.RcNeAt.str_none i t 
      | bl b' => exact SeqAt.RcNeAt.str_bool i t b'
      | int i' t' => exact SeqAt.RcNeAt.str_int i t i' t'
      | str i' t' => exact SeqAt.RcNeAt.str_str i t i' t'
      | tup e' p' r' a' d' => exact SeqAt.RcNeAt.str_tuple i t p' hr
      | lst e' p' r' a' d' => exact SeqAt.RcNeAt.str_list i t p' hr
    | tup e p r a d =>
      cases dy with
      | non => exact SeqAt.RcNeAt.tuple_none  p hr
      | bl b' => exact SeqAt.RcNeAt.tuple_bool b' p hr
      | int i' t' => exact SeqAt.RcNeAt.tuple_int i' t' p hr
      | str i' t' => exact SeqAt.RcNeAt.tuple_str i' t' p hr
      | tup e' p' r' a' d' => exact go_tup e e' p p' r r' a a' d d'
      | lst e' p' r' a' d' => exact SeqAt.RcNeAt.tuple_list p p' hr
    | lst e p r a d =>
      cases dy with
      | non => exact SeqAt.RcNeAt.list_none  p hr
      | bl b' => exact SeqAt.RcNeAt.list_bool b' p hr
      | int i' t' => exact SeqAt.RcNeAt.list_int i' t' p hr
      | str i' t' => exact SeqAt.RcNeAt.list_str i' t' p hr
      | tup e' p' r' a' d' => exact SeqAt.RcNeAt.list_tuple p p' hr
      | lst e' p' r' a' d' => exact go_lst e e' p p' r r' a a' d d'
  | succ n =>
    have go_tup : ∀ {a b : Addr} {its its' : List Value} {vs ws : List V} {xs ys : List PV} {m m' : Nat}, n + 1 = m + 1 → n + 1 = m' + 1 → s.heap.IsTuple a its.toArray → s.heap.IsTuple b its'.toArray → Vals vs its → Vals ws its' → RpA X.K ρ H vs xs → RpA X.K ρ H ws ys → (∀ x ∈ xs, datN m x = true) → (∀ x ∈ ys, datN m' x = true) → SeqAt.RcNeAt A s (.ref a) (.ref b) (!pvEqs xs ys) := by
      intro a b its its' vs ws xs ys m m' e1 e2 p1 p2 r1 r2 a1 a2 d1 d2
      cases e1
      cases e2
      have hh := SeqAt.RcNeAt.tuples p1 p2 hr (pair_at r1 r2 a1 a2 fun m1 m2 g1 g2 f1 f2 => eqAt_pv I n A.in1 (dk_of I (d1 _ m1) g1 f1) (dk_of I (d2 _ m2) g2 f2) (rm_in hu))
      have l1 := r1.length
      have l2 := r2.length
      have l3 := a1.length
      have l4 := a2.length
      rw [List.size_toArray, List.size_toArray, show its.length = xs.length by omega, show its'.length = ys.length by omega, pvEqs_min] at hh
      exact hh
    have go_lst : ∀ {a b : Addr} {its its' : List Value} {vs ws : List V} {xs ys : List PV} {m m' : Nat}, n + 1 = m + 1 → n + 1 = m' + 1 → s.heap.IsList a its.toArray → s.heap.IsList b its'.toArray → Vals vs its → Vals ws its' → RpA X.K ρ H vs xs → RpA X.K ρ H ws ys → (∀ x ∈ xs, datN m x = true) → (∀ x ∈ ys, datN m' x = true) → SeqAt.RcNeAt A s (.ref a) (.ref b) (!pvEqs xs ys) := by
      intro a b its its' vs ws xs ys m m' e1 e2 p1 p2 r1 r2 a1 a2 d1 d2
      cases e1
      cases e2
      have l1 := r1.length
      have l2 := r2.length
      have l3 := a1.length
      have l4 := a2.length
      by_cases hz : xs.length = ys.length
      · have hh := SeqAt.RcNeAt.lists p1 p2 (by rw [List.size_toArray, List.size_toArray]; omega) hr (pair_at r1 r2 a1 a2 fun m1 m2 g1 g2 f1 f2 => eqAt_pv I n A.in1 (dk_of I (d1 _ m1) g1 f1) (dk_of I (d2 _ m2) g2 f2) (rm_in hu))
        rw [List.size_toArray, show its.length = xs.length by omega, pvEqs_len hz] at hh
        exact hh
      · rw [show pvEqs xs ys = false from pvEqs_ne hz]
        exact SeqAt.RcNeAt.lists_lengths p1 p2 (by rw [List.size_toArray, List.size_toArray]; simp; omega) hr
    cases dx with
    | non =>
      cases dy with
      | non => exact SeqAt.RcNeAt.none_none  
      | bl b' => exact SeqAt.RcNeAt.none_bool  b'
      | int i' t' => exact SeqAt.RcNeAt.none_int  i' t'
      | str i' t' => exact SeqAt.RcNeAt.none_str  i' t'
      | tup e' p' r' a' d' => exact SeqAt.RcNeAt.none_tuple  p' hr
      | lst e' p' r' a' d' => exact SeqAt.RcNeAt.none_list  p' hr
    | bl b =>
      cases dy with
      | non => exact SeqAt.RcNeAt.bool_none b 
      | bl b' => exact SeqAt.RcNeAt.bool_bool b b'
      | int i' t' => exact SeqAt.RcNeAt.bool_int b i' t'
      | str i' t' => exact SeqAt.RcNeAt.bool_str b i' t'
      | tup e' p' r' a' d' => exact SeqAt.RcNeAt.bool_tuple b p' hr
      | lst e' p' r' a' d' => exact SeqAt.RcNeAt.bool_list b p' hr
    | int i t =>
      cases dy with
      | non => exact SeqAt.RcNeAt.int_none i t 
      | bl b' => exact SeqAt.RcNeAt.int_bool i t b'
      | int i' t' => exact SeqAt.RcNeAt.int_int i t i' t'
      | str i' t' => exact SeqAt.RcNeAt.int_str i t i' t'
      | tup e' p' r' a' d' => exact SeqAt.RcNeAt.int_tuple i t p' hr
      | lst e' p' r' a' d' => exact SeqAt.RcNeAt.int_list i t p' hr
    | str i t =>
      cases dy with
      | non => exact SeqAt.RcNeAt.str_none i t 
      | bl b' => exact SeqAt.RcNeAt.str_bool i t b'
      | int i' t' => exact SeqAt.RcNeAt.str_int i t i' t'
      | str i' t' => exact SeqAt.RcNeAt.str_str i t i' t'
      | tup e' p' r' a' d' => exact SeqAt.RcNeAt.str_tuple i t p' hr
      | lst e' p' r' a' d' => exact SeqAt.RcNeAt.str_list i t p' hr
    | tup e p r a d =>
      cases dy with
      | non => exact SeqAt.RcNeAt.tuple_none  p hr
      | bl b' => exact SeqAt.RcNeAt.tuple_bool b' p hr
      | int i' t' => exact SeqAt.RcNeAt.tuple_int i' t' p hr
      | str i' t' => exact SeqAt.RcNeAt.tuple_str i' t' p hr
      | tup e' p' r' a' d' => exact go_tup e e' p p' r r' a a' d d'
      | lst e' p' r' a' d' => exact SeqAt.RcNeAt.tuple_list p p' hr
    | lst e p r a d =>
      cases dy with
      | non => exact SeqAt.RcNeAt.list_none  p hr
      | bl b' => exact SeqAt.RcNeAt.list_bool b' p hr
      | int i' t' => exact SeqAt.RcNeAt.list_int i' t' p hr
      | str i' t' => exact SeqAt.RcNeAt.list_str i' t' p hr
      | tup e' p' r' a' d' => exact SeqAt.RcNeAt.list_tuple p p' hr
      | lst e' p' r' a' d' => exact go_lst e e' p p' r r' a a' d d'
end
end BV

/-! The by-value layer, part g: operators, subscripts, slices. -/
namespace BV
open PySem L2
section
variable {X : Cx} {pins : List (Addr × Obj)} {σ : L2.St} {H : Hp} {s : Shared} {ρ : List Addr} {K : PySem.W.Frag} {W : Wo} {A : An} {S : MS}
theorem RR.rp {v : V} {x : PV} (h : RR K W H v x) (e : Same W.B H) : Rp K W.ρ H v x := by
  rcases h with h | ⟨p, rfl, h⟩
  · exact h.mono e (Pre.refl _)
  · exact h.rp e
theorem dk_uniq (I : Inv X pins σ H s) : ∀ (n : Nat) {u : Value} {x y : PV}, DK I ρ n u x → DK I ρ n u y → x = y := by
  intro n
  induction n with
  | zero =>
    intro u x y dx dy
    cases dx with
    | non => cases dy; rfl
    | bl b => cases dy; rfl
    | int i t => cases dy; rfl
    | str i t => cases dy; rfl
    | tup e _ _ _ _ => cases e
    | lst e _ _ _ _ => cases e
  | succ n ih =>
    have go : ∀ {vs ws : List V} {its : List Value} {xs ys : List PV}, Vals vs its → Vals ws its → RpA X.K ρ H vs xs → RpA X.K ρ H ws ys → (∀ x ∈ xs, datN n x = true) → (∀ x ∈ ys, datN n x = true) → xs = ys := by
      intro vs ws its xs ys r1 r2 a1 a2 d1 d2
      have l1 := r1.length
      have l2 := r2.length
      have l3 := a1.length
      have l4 := a2.length
      refine List.ext_getElem (by omega) fun j j1 j2 => ?_
      have e1 : xs[j]? = some xs[j] := List.getElem?_eq_getElem (by omega)
      have e2 : ys[j]? = some ys[j] := List.getElem?_eq_getElem (by omega)
      obtain ⟨v, u, z1, z2, z3⟩ := at_all r1 a1 e1
      obtain ⟨v', u', y1, y2, y3⟩ := at_all r2 a2 e2
      rw [z1] at y1; cases y1
      exact ih (dk_of I (d1 _ (List.getElem_mem _)) z2 z3) (dk_of I (d2 _ (List.getElem_mem _)) y2 y3)
    intro u x y dx dy
    cases dx with
    | non => cases dy; rfl
    | bl b => cases dy; rfl
    | int i t => cases dy; rfl
    | str i t => cases dy; rfl
    | tup e p r a d =>
      cases e
      cases dy with
      | tup e' p' r' a' d' =>
        cases e'
        have := isTup_uniq p p'
        subst this
        rw [go r r' a a' d d']
      | lst e' p' r' a' d' => exact (isLT p' p).elim
    | lst e p r a d =>
      cases e
      cases dy with
      | lst e' p' r' a' d' =>
        cases e'
        have := isList_uniq p p'
        subst this
        rw [go r r' a a' d d']
      | tup e' p' r' a' d' => exact (isLT p p').elim
open Classical in
/-- the read of a value -/
noncomputable def rdU (I : Inv X pins σ H s) (ρ : List Addr) (n : Nat) (x : PV) (u : Value) : Bool := if h : ∃ y, DK I ρ n u y then pvEq h.choose x else false
theorem rdU_of (I : Inv X pins σ H s) {n : Nat} {x y : PV} {u : Value} (d : DK I ρ n u y) : rdU I ρ n x u = pvEq y x := by
  have h : ∃ y, DK I ρ n u y := ⟨y, d⟩
  unfold rdU
  rw [dif_pos h, dk_uniq I n h.choose_spec d]
theorem any_rd (I : Inv X pins σ H s) {n : Nat} {x : PV} : ∀ {vs : List V} {its : List Value} {ys : List PV}, Vals vs its → RpA X.K ρ H vs ys → (∀ y ∈ ys, datN n y = true) → its.any (rdU I ρ n x) = ys.any fun y => pvEq y x
  | _, _, _, .nil, .nil, _ => rfl
  | _, _, _, .cons r rs, .cons a as, d => by
    rw [List.any_cons, List.any_cons, rdU_of I (dk_of I (d _ (by simp)) a r), any_rd I rs as fun y hy => d y (by simp [hy])]
theorem mem_rd (I : Inv X pins σ H s) {n : Nat} {x : PV} {u : Value} {A : Around} (dx : DK I ρ n u x) (hu : A.units + n < cLine) : ∀ {vs : List V} {its : List Value} {ys : List PV}, Vals vs its → RpA X.K ρ H vs ys → (∀ y ∈ ys, datN n y = true) → ∀ w ∈ its, SeqAt.EqAt A s w u (rdU I ρ n x w)
  | _, _, _, .nil, .nil, _ => fun w hw => by cases hw
  | _, _, _, .cons r rs, .cons a as, d => fun w hw => by
    rcases List.mem_cons.mp hw with rfl | hw
    · have dy := dk_of I (d _ (by simp)) a r
      rw [rdU_of I dy]
      exact eqAt_pv I n A dy dx hu
    · exact mem_rd I dx hu rs as (fun y hy => d y (by simp [hy])) w hw
end
/-! ### == != in -/
def rsEq : RS2 := fun x y k => (datN 40 x = true ∧ datN 40 y = true) ∧ k (.val (.bl (pvEq x y)))
def rsNe : RS2 := fun x y k => (datN 40 x = true ∧ datN 40 y = true) ∧ k (.val (.bl (!pvEq x y)))
def inK (x y : PV) (k : Bool → Prop) : Prop := match y with
  | .lst ys => (datN 40 x = true ∧ ys.all (datN 40) = true) ∧ k (ys.any fun y => pvEq y x)
  | .tup ys => (datN 40 x = true ∧ ys.all (datN 40) = true) ∧ k (ys.any fun y => pvEq y x)
  | .str z => match x with
    | .str a => ∃ c : Nat, a = ⟨#[c]⟩ ∧ k (decide (c ∈ z.cps.toList))
    | _ => False
  | _ => False
def rsIn : RS2 := fun x y k => inK x y fun b => k (.val (.bl b))
def rsNotIn : RS2 := fun x y k => inK x y fun b => k (.val (.bl !b))
section
variable {X : Cx}
theorem op_eqP (hu : X.A.units + 64 < cLine) : OpR X (compareOp .Eq) (embR X.K rsEq) := by
  intro pins s σ H x y v u Q I rx ry ⟨A, W, S, τ, px, py, k, w, r1, r2, ⟨⟨d1, d2⟩, h⟩, hq⟩
  exact rcAt_pv I 40 X.A (dk_of I d1 (r1.rp w.bh) rx) (dk_of I d2 (r2.rp w.bh) ry) (by omega) X.prog X.w _ _ ⟨.bl _, H, I, rfl, hq (.val (.bl _)) _ W H (Wo.le.refl _) w (Rp.bl _) h⟩
theorem op_neP (hu : X.A.units + 64 < cLine) : OpR X (compareOp .NotEq) (embR X.K rsNe) := by
  intro pins s σ H x y v u Q I rx ry ⟨A, W, S, τ, px, py, k, w, r1, r2, ⟨⟨d1, d2⟩, h⟩, hq⟩
  exact rnAt_pv I 40 X.A (dk_of I d1 (r1.rp w.bh) rx) (dk_of I d2 (r2.rp w.bh) ry) (by omega) X.prog X.w _ _ ⟨.bl _, H, I, rfl, hq (.val (.bl _)) _ W H (Wo.le.refl _) w (Rp.bl _) h⟩
theorem RR.seq {K : PySem.W.Frag} {W : Wo} {H : Hp} {v : V} {ys : List PV} (h : RR K W H v (.lst ys) ∨ RR K W H v (.tup ys)) (e : Same W.B H) : ∃ a vs, v = .ref a ∧ (SqL K H a vs ∨ SqT K H a vs) ∧ RpA K W.ρ W.B vs ys := by
  rcases h with h | h
  · obtain ⟨a, vs, rfl, h1, h2⟩ := h.lst e
    exact ⟨a, vs, rfl, .inl (SqL.of h1), h2⟩
  · obtain ⟨a, vs, rfl, h1, h2, _⟩ := h.tup e
    exact ⟨a, vs, rfl, .inr h1, h2⟩
theorem in_run (hu : X.A.units + 64 < cLine) {pins : List (Addr × Obj)} {s : Shared} {σ : L2.St} {H : Hp} {x y : V} {v u : Value} {W : Wo} {px : PV} {ys : List PV} {Q : Bool → Prop} (I : Inv X pins σ H s) (rx : RelV x v) (ry : RelV y u) (e : Same W.B H) (r1 : RR X.K W H x px)
    (r2 : RR X.K W H y (.lst ys) ∨ RR X.K W H y (.tup ys)) (d1 : datN 40 px = true) (d2 : ys.all (datN 40) = true) :
    ((∀ Q : Value → Shared → Prop, Q (.bool (ys.any fun y => pvEq y px)) s → wpAny (model X.prog X.w) X.A (compareOp .In v u) Q X.xe s) ∧
      ∀ Q : Value → Shared → Prop, Q (.bool (!(ys.any fun y => pvEq y px))) s → wpAny (model X.prog X.w) X.A (compareOp .NotIn v u) Q X.xe s) := by
  obtain ⟨a, vs, rfl, hq, ra⟩ := RR.seq r2 e
  cases ry
  have dx := dk_of I d1 (r1.rp e) rx
  have ra' := ra.mono e (Pre.refl W.ρ)
  have d3 : ∀ y ∈ ys, datN 40 y = true := fun y hy => List.all_eq_true.mp d2 y hy
  have hr : X.A.in1.units + 40 < cLine := by
    show X.A.units + 1 + 40 < cLine
    omega
  rcases hq with hq | hq
  · obtain ⟨its, rv, pl, hz⟩ := I.list hq
    have hm : ∀ w, w ∈ its.toArray → SeqAt.EqAt X.A.in1 s w v (rdU I W.ρ 40 px w) := fun w hw => mem_rd I dx hr rv ra' d3 w (by simpa using hw)
    have ha : its.toArray.any (rdU I W.ρ 40 px) = ys.any fun y => pvEq y px := by rw [show its.toArray.any (rdU I W.ρ 40 px) = its.any (rdU I W.ρ 40 px) by simp]; exact any_rd I rv ra' d3
    exact ⟨fun Q q => SeqAt.in_listAt _ pl.isList hm (by rw [ha]; exact q), fun Q q => SeqAt.notIn_listAt _ pl.isList hm (by rw [ha]; exact q)⟩
  · obtain ⟨its, rv, pl, hz⟩ := I.tuple hq
    have hm : ∀ w, w ∈ its.toArray → SeqAt.EqAt X.A.in1 s w v (rdU I W.ρ 40 px w) := fun w hw => mem_rd I dx hr rv ra' d3 w (by simpa using hw)
    have ha : its.toArray.any (rdU I W.ρ 40 px) = ys.any fun y => pvEq y px := by rw [show its.toArray.any (rdU I W.ρ 40 px) = its.any (rdU I W.ρ 40 px) by simp]; exact any_rd I rv ra' d3
    exact ⟨fun Q q => SeqAt.in_tupleAt _ pl hm (by rw [ha]; exact q), fun Q q => SeqAt.notIn_tupleAt _ pl hm (by rw [ha]; exact q)⟩
theorem op_inP (hu : X.A.units + 64 < cLine) : OpR X (compareOp .In) (embR X.K rsIn) := by
  intro pins s σ H x y v u Q I rx ry ⟨A, W, S, τ, px, py, k, w, r1, r2, h, hq⟩
  cases py with
  | lst ys => exact (in_run (Q := fun _ => True) hu I rx ry w.bh r1 (.inl r2) h.1.1 h.1.2).1 _ ⟨.bl _, H, I, rfl, hq (.val (.bl _)) _ W H (Wo.le.refl _) w (Rp.bl _) h.2⟩
  | tup ys => exact (in_run (Q := fun _ => True) hu I rx ry w.bh r1 (.inr r2) h.1.1 h.1.2).1 _ ⟨.bl _, H, I, rfl, hq (.val (.bl _)) _ W H (Wo.le.refl _) w (Rp.bl _) h.2⟩
  | str z =>
    cases px with
    | str a =>
      obtain ⟨c, rfl, h⟩ := h
      exact op_in_sign pins s σ H x y v u Q I rx ry ⟨c, z, r1.str, r2.str, hq (.val (.bl _)) _ W H (Wo.le.refl _) w (Rp.bl _) h⟩
    | _ => exact h.elim
  | _ => exact h.elim
theorem op_notInP (hu : X.A.units + 64 < cLine) : OpR X (compareOp .NotIn) (embR X.K rsNotIn) := by
  intro pins s σ H x y v u Q I rx ry ⟨A, W, S, τ, px, py, k, w, r1, r2, h, hq⟩
  cases py with
  | lst ys => exact (in_run (Q := fun _ => True) hu I rx ry w.bh r1 (.inl r2) h.1.1 h.1.2).2 _ ⟨.bl _, H, I, rfl, hq (.val (.bl _)) _ W H (Wo.le.refl _) w (Rp.bl _) h.2⟩
  | tup ys => exact (in_run (Q := fun _ => True) hu I rx ry w.bh r1 (.inr r2) h.1.1 h.1.2).2 _ ⟨.bl _, H, I, rfl, hq (.val (.bl _)) _ W H (Wo.le.refl _) w (Rp.bl _) h.2⟩
  | str z =>
    cases px with
    | str a =>
      obtain ⟨c, rfl, h⟩ := h
      exact op_notIn_sign pins s σ H x y v u Q I rx ry ⟨c, z, r1.str, r2.str, hq (.val (.bl _)) _ W H (Wo.le.refl _) w (Rp.bl _) h⟩
    | _ => exact h.elim
  | _ => exact h.elim
end
/-! ### arithmetic, joins, order, identity with None -/
def intK (x y : PV) (k : Int → Int → Prop) : Prop := match x with | .int i => (match y with | .int j => k i j | _ => False) | _ => False
def rsInt (C : Int → Int → Prop) (g : Int → Int → PV) : RS2 := fun x y k => intK x y fun i j => C i j ∧ k (.val (g i j))
def rsInt0 (g : Int → Int → PV) : RS2 := fun x y k => intK x y fun i j => k (.val (g i j))
def rsAdd : RS2 := fun x y k => match x with
  | .int i => (match y with | .int j => k (.val (.int (i + j))) | _ => False)
  | .str a => (match y with | .str b => a.length + b.length ≤ sizeLine ∧ k (.val (.str (a ++ b))) | _ => False)
  | .lst a => (match y with | .lst b => a.length + b.length ≤ sizeLine ∧ k (.fresh (.lst (a ++ b))) | _ => False)
  | .tup a => (match y with | .tup b => a.length + b.length ≤ sizeLine ∧ k (.val (.tup (a ++ b))) | _ => False)
  | _ => False
def rsSub : RS2 := rsInt0 fun i j => .int (i - j)
def rsMulI : RS2 := rsInt CMul fun i j => .int (i * j)
def rsFdiv : RS2 := rsInt CDivN fun i j => .int (i.fdiv j)
def rsMod : RS2 := rsInt (fun _ j => j ≠ 0) fun i j => .int (i.fmod j)
def rsPow : RS2 := rsInt CPow fun i j => .int (i ^ j.toNat)
def rsLt : RS2 := rsInt0 fun i j => .bl (decide (i < j))
def rsLe : RS2 := rsInt0 fun i j => .bl (decide (i ≤ j))
def rsGt : RS2 := rsInt0 fun i j => .bl (decide (j < i))
def rsGe : RS2 := rsInt0 fun i j => .bl (decide (j ≤ i))
def isNonP : PV → Bool | .non => true | _ => false
def rsIsN : RS2 := fun x y k => match y with | .non => k (.val (.bl (isNonP x))) | _ => False
def rsNotN : RS2 := fun x y k => match y with | .non => k (.val (.bl (!isNonP x))) | _ => False
section
variable {X : Cx} {K : PySem.W.Frag}
theorem intK_run {W : Wo} {H : Hp} {x y : V} {px py : PV} {k : Int → Int → Prop} (h : intK px py k) (r1 : RR K W H x px) (r2 : RR K W H y py) : ∃ i j, x = .int i ∧ y = .int j ∧ k i j := by
  cases px with
  | int i => cases py with
    | int j => exact ⟨i, j, r1.int, r2.int, h⟩
    | _ => exact h.elim
  | _ => exact h.elim
theorem opI_P {f : Value → Value → Sem Value} {C : Int → Int → Prop} {g : Int → Int → V} {g' : Int → Int → PV} (h : OpR X f (rI C g)) (hg : ∀ i j ρ B, Rp X.K ρ B (g i j) (g' i j)) : OpR X f (embR X.K (rsInt C g')) :=
  opr_imp h fun x y H Q ⟨A, W, S, τ, px, py, k, w, r1, r2, h, hq⟩ => by
    obtain ⟨i, j, e1, e2, hc, hk⟩ := intK_run h r1 r2
    exact ⟨i, j, e1, e2, hc, hq (.val _) _ W H (Wo.le.refl _) w (hg i j _ _) hk⟩
theorem opI0_P {f : Value → Value → Sem Value} {g : Int → Int → V} {g' : Int → Int → PV} (h : OpR X f (rI0 g)) (hg : ∀ i j ρ B, Rp X.K ρ B (g i j) (g' i j)) : OpR X f (embR X.K (rsInt0 g')) :=
  opr_imp h fun x y H Q ⟨A, W, S, τ, px, py, k, w, r1, r2, h, hq⟩ => by
    obtain ⟨i, j, e1, e2, hk⟩ := intK_run h r1 r2
    exact ⟨i, j, e1, e2, hq (.val _) _ W H (Wo.le.refl _) w (hg i j _ _) hk⟩
theorem op_subP : OpR X (binaryOp .Sub) (embR X.K rsSub) := opI0_P op_sub fun _ _ _ _ => .int _
theorem op_mulP : OpR X (binaryOp .Mult) (embR X.K rsMulI) := opI_P op_mul fun _ _ _ _ => .int _
theorem op_fdivP : OpR X (binaryOp .FloorDiv) (embR X.K rsFdiv) := opI_P op_fdivN fun _ _ _ _ => .int _
theorem op_modP : OpR X (binaryOp .Mod) (embR X.K rsMod) := opI_P op_modN fun _ _ _ _ => .int _
theorem op_powP : OpR X (binaryOp .Pow) (embR X.K rsPow) := opI_P op_pow fun _ _ _ _ => .int _
theorem op_ltP : OpR X (compareOp .Lt) (embR X.K rsLt) := opI0_P op_lt fun _ _ _ _ => .bl _
theorem op_leP : OpR X (compareOp .LtE) (embR X.K rsLe) := opI0_P op_le fun _ _ _ _ => .bl _
theorem op_gtP : OpR X (compareOp .Gt) (embR X.K rsGt) := opI0_P op_gt fun _ _ _ _ => .bl _
theorem op_geP : OpR X (compareOp .GtE) (embR X.K rsGe) := opI0_P op_ge fun _ _ _ _ => .bl _
theorem RR.isN {W : Wo} {H : Hp} {x : V} {px : PV} (r : RR K W H x px) : decide (x = V.non) = isNonP px := by
  rcases r with r | ⟨p, rfl, r⟩
  · cases r <;> rfl
  · cases px with
    | lst _ => rfl
    | dct _ => rfl
    | obj _ _ => rfl
    | _ => exact r.elim
theorem op_isP : OpR X (compareOp .Is) (embR X.K rsIsN) := opr_imp op_isN fun x y H Q ⟨A, W, S, τ, px, py, k, w, r1, r2, h, hq⟩ => by
  cases py with
  | non => exact ⟨r2.non, by rw [r1.isN]; exact hq (.val (.bl _)) _ W H (Wo.le.refl _) w (Rp.bl _) h⟩
  | _ => exact h.elim
theorem op_isnP : OpR X (compareOp .IsNot) (embR X.K rsNotN) := opr_imp op_notN fun x y H Q ⟨A, W, S, τ, px, py, k, w, r1, r2, h, hq⟩ => by
  cases py with
  | non => exact ⟨r2.non, by rw [r1.isN]; exact hq (.val (.bl _)) _ W H (Wo.le.refl _) w (Rp.bl _) h⟩
  | _ => exact h.elim
theorem op_addP : OpR X (binaryOp .Add) (embR X.K rsAdd) := opr_imp (((op_add.or op_add_str).or op_cat).or op_catA) fun x y H Q ⟨A, W, S, τ, px, py, k, w, r1, r2, h, hq⟩ => by
  cases px with
  | int i => cases py with
    | int j => exact .inl (.inl (.inl ⟨i, j, r1.int, r2.int, hq (.val (.int _)) _ W H (Wo.le.refl _) w (Rp.int _) h⟩))
    | _ => exact h.elim
  | str i => cases py with
    | str j => exact .inl (.inl (.inr ⟨i, j, r1.str, r2.str, h.1, hq (.val (.str _)) _ W H (Wo.le.refl _) w (Rp.str _) h.2⟩))
    | _ => exact h.elim
  | lst i => cases py with
    | lst j =>
      obtain ⟨a, us, e1, h1, a1⟩ := r1.lst w.bh
      obtain ⟨b, vs, e2, h2, a2⟩ := r2.lst w.bh
      refine .inl (.inr ⟨a, b, us, vs, e1, e2, h1, h2, by rw [a1.length, a2.length]; exact h.1, fun p np => ?_⟩)
      exact hq (.fresh (.lst _)) _ W _ (Wo.le.refl _) (w.lay np) (w.layFresh np ⟨_, upd_same, a1.append a2⟩) h.2
    | _ => exact h.elim
  | tup i => cases py with
    | tup j =>
      obtain ⟨a, us, e1, h1, a1, q1⟩ := r1.tup w.bh
      obtain ⟨b, vs, e2, h2, a2, q2⟩ := r2.tup w.bh
      subst e1 e2
      refine .inr ?_
      have hz : us.length + vs.length ≤ sizeLine := by rw [a1.length, a2.length]; exact h.1
      refine ⟨a, b, us, vs, rfl, rfl, h1, h2, hz, fun e => ?_, fun _ e => ?_, fun _ _ p np => ?_⟩
      · subst e
        cases a1
        exact hq (.val (.tup _)) _ W H (Wo.le.refl _) w q2 h.2
      · subst e
        cases a2
        have h2 := h.2
        rw [List.append_nil] at h2
        exact hq (.val (.tup _)) _ W H (Wo.le.refl _) w q1 h2
      · obtain ⟨W', l, w', rp⟩ := w.layTup np (a1.append a2)
        exact hq (.val (.tup _)) _ W' _ l w' rp h.2
    | _ => exact h.elim
  | _ => exact h.elim
end
end BV

/-! The by-value layer, part h: subscripts, slices, signs, chains, built-in calls. -/
namespace BV
open PySem L2
section
variable {K : PySem.W.Frag} {ρ : List Addr} {B : Hp}
theorem RpA.atI {vs : List V} {xs : List PV} {i : Int} {x : PV} (r : RpA K ρ B vs xs) (h : L2.atI xs i = some x) : ∃ v, L2.atI vs i = some v ∧ Rp K ρ B v x := by
  unfold L2.atI at h ⊢
  rw [r.length]
  cases q : ixN xs.length i with
  | none => rw [q] at h; cases h
  | some j =>
    rw [q] at h
    exact r.get h
theorem RpA.bls : ∀ {vs : List V} {bs : List Bool}, RpA K ρ B vs (bs.map PV.bl) → vs = bs.map V.bl
  | _, [], .nil => rfl
  | _, b :: bs, .cons h t => by cases h; rw [RpA.bls t]; rfl
theorem RpA.ints : ∀ {vs : List V} {bs : List Int}, RpA K ρ B vs (bs.map PV.int) → vs = bs.map V.int
  | _, [], .nil => rfl
  | _, b :: bs, .cons h t => by cases h; rw [RpA.ints t]; rfl
theorem RpA.strs : ∀ {vs : List V} {bs : List Str}, RpA K ρ B vs (bs.map PV.str) → vs = bs.map V.str
  | _, [], .nil => rfl
  | _, b :: bs, .cons h t => by cases h; rw [RpA.strs t]; rfl
theorem RpA.ofInts : ∀ (bs : List Int), RpA K ρ B (bs.map V.int) (bs.map PV.int)
  | [] => .nil
  | b :: bs => .cons (.int b) (RpA.ofInts bs)
theorem RpA.ofStrs : ∀ (bs : List Str), RpA K ρ B (bs.map V.str) (bs.map PV.str)
  | [] => .nil
  | b :: bs => .cons (.str b) (RpA.ofStrs bs)
end
/-! ### a[i] -/
def rsIx : RS2 := fun x y k => match y with
  | .int i => (match x with
    | .lst xs => (match atI xs i with | some v => k (.val v) | none => False)
    | .tup xs => (match atI xs i with | some v => k (.val v) | none => False)
    | .str z => z.length ≤ sizeLine ∧ (match atI z.cps.toList i with | some c => k (.val (.str ⟨#[c]⟩)) | none => False)
    | _ => False)
  | _ => False
section
variable {X : Cx}
theorem ix_P : IxR X (embR X.K rsIx) := ixr_imp ix_seq fun x y H Q ⟨A, W, S, τ, px, py, k, w, r1, r2, h, hq⟩ => by
  cases py with
  | int i =>
    cases px with
    | lst xs =>
      obtain ⟨a, vs, rfl, h1, ra⟩ := r1.lst w.bh
      have h' : (match atI xs i with | some v => k (.val v) | none => False) := h
      cases q : atI xs i with
      | none => rw [q] at h'; exact h'.elim
      | some z =>
        rw [q] at h'
        obtain ⟨v, e, rv⟩ := ra.atI q
        exact .inl ⟨a, vs, i, v, rfl, r2.int, SqL.of h1, e, hq (.val z) v W H (Wo.le.refl _) w rv h'⟩
    | tup xs =>
      obtain ⟨a, vs, rfl, h1, ra, _⟩ := r1.tup w.bh
      have h' : (match atI xs i with | some v => k (.val v) | none => False) := h
      cases q : atI xs i with
      | none => rw [q] at h'; exact h'.elim
      | some z =>
        rw [q] at h'
        obtain ⟨v, e, rv⟩ := ra.atI q
        exact .inr (.inl ⟨a, vs, i, v, rfl, r2.int, h1, e, hq (.val z) v W H (Wo.le.refl _) w rv h'⟩)
    | str z =>
      obtain ⟨hz, h⟩ := h
      have h' : (match atI z.cps.toList i with | some c => k (.val (.str ⟨#[c]⟩)) | none => False) := h
      cases q : atI z.cps.toList i with
      | none => rw [q] at h'; exact h'.elim
      | some c =>
        rw [q] at h'
        exact .inr (.inr ⟨z, i, c, r1.str, r2.int, hz, q, hq (.val (.str _)) _ W H (Wo.le.refl _) w (Rp.str _) h'⟩)
    | _ => exact h.elim
  | _ => exact h.elim
end
/-! ### a[lo:hi] -/
def cutP (xs : List PV) (lo hi : Option Int) : List PV := (xs.drop (HT.sIx xs.length 0 lo)).take (HT.sIx xs.length xs.length hi - HT.sIx xs.length 0 lo)
theorem RpA.cut {K : PySem.W.Frag} {ρ : List Addr} {B : Hp} {vs : List V} {xs : List PV} (r : RpA K ρ B vs xs) (lo hi : Option Int) : RpA K ρ B (cutV vs lo hi) (cutP xs lo hi) := by
  unfold cutV cutP
  rw [r.length]
  exact RpA.take _ (RpA.drop _ r)
abbrev OW := MS → (Option Int → MS → Prop) → (Ex → MS → Prop) → Prop
def embO (K : PySem.W.Frag) (WW : WX) (w : OW) : TO := fun σ H Q => ∃ A W S P PX, Wd K A W S σ H ∧ w S P PX ∧
  (∀ b S' W' H', W.le W' → Wd K A W' S' σ H' → P b S' → Q b H') ∧ LkX K WW A W PX
structure OM (X : Cx) (WW : WX) (e : Option Expr) (w : OW) : Prop where po : PO X e (embO X.K WW w)
def oNo : OW := fun S P _ => P none S
def oOf (w : EW) : OW := fun S P PX => w S (fun t S1 => rdK S1 t fun x => asInt x fun i => P (some i) S1) PX
def slK (x : PV) (lo hi : Option Int) (k : TV → Prop) : Prop := match x with
  | .lst xs => k (.fresh (.lst (cutP xs lo hi)))
  | .tup xs => k (.val (.tup (cutP xs lo hi)))
  | .str z => z.length ≤ sizeLine ∧ k (.val (.str (cutS z lo hi)))
  | _ => False
def wSl (we : EW) (wl wh : OW) : EW := fun S P PX => we S (fun t S1 => wl S1 (fun lo S2 => wh S2 (fun hi S3 => rdK S3 t fun x => slK x lo hi fun r => P r S3) PX) PX) PX
section
variable {X : Cx} {WW : WX} {e a b c : Expr} {we wa wb wc : EW} {lo hi : Option Expr} {wl wh : OW} {p2 pos : Pos}
theorem po_imp {e : Option Expr} {t t' : TO} (h : PO X e t) (i : ∀ σ H Q, t' σ H Q → t σ H Q) : PO X e t' := ⟨fun pins s σ H Q I q => h.run pins s σ H Q I (i σ H Q q)⟩
theorem om_no : OM X WW none oNo := ⟨po_imp po_none fun σ H Q ⟨A, W, S, P, PX, wd, h, hp, _⟩ => hp none S W H (Wo.le.refl _) wd h⟩
theorem om_of (h : EM X WW e we) : OM X WW (some e) (oOf we) := ⟨po_imp (po_some h.pe) fun σ H Q ⟨A, W, S, P, PX, wd, h, hp, hx⟩ => by
  refine ⟨A, W, S, _, PX, wd, h, fun t S1 v W1 H1 l1 w1 tv1 h1 => ?_, hx⟩
  obtain ⟨x, h2, r⟩ := w1.rd tv1 h1
  cases x with
  | int i =>
    obtain rfl := r.int
    exact ⟨i, rfl, hp (some i) S1 W1 H1 l1 w1 h2⟩
  | _ => exact h2.elim⟩
def rSlP (K : PySem.W.Frag) : V → Option Int → Option Int → Hp → VK → Prop := fun vx lo hi H Q => ∃ A W S σ x k, Wd K A W S σ H ∧ RR K W H vx x ∧ slK x lo hi k ∧
  ∀ t v W' H', W.le W' → Wd K A W' S σ H' → TvR K A W' S σ H' t v → k t → Q v H'
theorem slr_imp {r r' : V → Option Int → Option Int → Hp → VK → Prop} (h : SlR X r) (i : ∀ x lo hi H Q, r' x lo hi H Q → r x lo hi H Q) : SlR X r' := fun pins s σ H x v vl vu lo hi sl Q I rx hs pl pu q => h pins s σ H x v vl vu lo hi sl Q I rx hs pl pu (i x lo hi H Q q)
theorem sl_P : SlR X (rSlP X.K) := slr_imp ((sl_list.or sl_tupA).or sl_str) fun x lo hi H Q ⟨A, W, S, τ, px, k, w, r1, h, hq⟩ => by
  cases px with
  | lst xs =>
    obtain ⟨a, vs, rfl, h1, ra⟩ := r1.lst w.bh
    exact .inl (.inl ⟨a, vs, rfl, SqL.of h1, fun p np => hq (.fresh (.lst _)) _ W _ (Wo.le.refl _) (w.lay np) (w.layFresh np ⟨_, upd_same, ra.cut lo hi⟩) h⟩)
  | tup xs =>
    obtain ⟨a, vs, rfl, h1, ra, rp⟩ := r1.tup w.bh
    refine .inl (.inr ⟨a, vs, rfl, h1, fun e => ?_, fun _ p np => ?_⟩)
    · have : cutP xs lo hi = xs := by
        unfold cutP
        rw [← ra.length, e.1, e.2, ra.length]
        simp
      have h' : k (.val (.tup (cutP xs lo hi))) := h
      rw [this] at h'
      exact hq (.val (.tup _)) _ W H (Wo.le.refl _) w rp h'
    · obtain ⟨W', l, w', rp'⟩ := w.layTup np (ra.cut lo hi)
      exact hq (.val (.tup _)) _ W' _ l w' rp' h
  | str z => exact .inr ⟨z, r1.str, h.1, hq (.val (.str _)) _ W H (Wo.le.refl _) w (Rp.str _) h.2⟩
  | _ => exact h.elim
theorem em_sl (he : EM X WW e we) (hl : OM X WW lo wl) (hh : OM X WW hi wh) : EM X WW (.Subscript e (.Slice lo hi none p2) pos) (wSl we wl wh) := ⟨pe_imp (pe_slice sl_P he.pe hl.po hh.po) fun σ H Q ⟨A, W, S, P, PX, wd, h, hp, hx⟩ => by
  refine ⟨A, W, S, _, PX, wd, h, fun t S1 v W1 H1 l1 w1 tv1 h1 => ?_, hx⟩
  obtain ⟨W2, l2, w2, tv2⟩ := w1.stl tv1
  refine ⟨A, W2, S1, _, PX, w2, h1, fun lo S2 W3 H3 l3 w3 h3 => ?_, hx.le (l1.trans l2)⟩
  refine ⟨A, W3, S2, _, PX, w3, h3, fun hi S3 W4 H4 l4 w4 h4 => ?_, hx.le ((l1.trans l2).trans l3)⟩
  have h5 : rdK S3 (stl t) fun x => slK x lo hi fun r => P r S3 := by rw [rdK_stl]; exact h4
  obtain ⟨x, h6, r⟩ := w4.rd (tv2.le (S' := S3) (H' := H4) (stl_nf _) (l3.trans l4)) h5
  exact ⟨A, W4, S3, σ, x, _, w4, r, h6, fun r v' W' H' l w' tv k => hp r S3 v' W' H' ((((l1.trans l2).trans l3).trans l4).trans l) w' tv k⟩⟩
/-- xs[::-1] -/
def revK (x : PV) (k : TV → Prop) : Prop := match x with | .lst xs => k (.fresh (.lst xs.reverse)) | _ => False
def wRev (we : EW) : EW := fun S P PX => we S (fun t S1 => rdK S1 t fun x => revK x fun r => P r S1) PX
theorem em_rev {k : Nat} {p1 p2 p3 : Pos} (he : EM X WW e we) : EM X WW (.Subscript e (.Slice none none (some (.UnaryOp .USub (.Constant (.int 1) k p1) p2)) p3) pos) (wRev we) := ⟨pe_imp (pe_revL he.pe) fun σ H Q ⟨A, W, S, P, PX, wd, h, hp, hx⟩ => by
  refine ⟨A, W, S, _, PX, wd, h, fun t S1 v W1 H1 l1 w1 tv1 h1 => ?_, hx⟩
  obtain ⟨x, h2, r⟩ := w1.rd tv1 h1
  cases x with
  | lst xs =>
    obtain ⟨a, vs, rfl, hh, ra⟩ := r.lst w1.bh
    exact ⟨a, vs, rfl, SqL.of hh, fun p np => hp (.fresh (.lst _)) S1 _ W1 _ l1 (w1.lay np) (w1.layFresh np ⟨_, upd_same, ra.rev⟩) h2⟩
  | _ => exact h2.elim⟩
/-! ### -x -/
def wNeg (we : EW) : EW := fun S P PX => we S (fun t S1 => rdK S1 t fun x => asInt x fun i => P (.val (.int (-i))) S1) PX
theorem em_neg (he : EM X WW e we) : EM X WW (.UnaryOp .USub e pos) (wNeg we) := ⟨pe_imp (pe_un un_neg he.pe) fun σ H Q ⟨A, W, S, P, PX, wd, h, hp, hx⟩ => by
  refine ⟨A, W, S, _, PX, wd, h, fun t S1 v W1 H1 l1 w1 tv1 h1 => ?_, hx⟩
  obtain ⟨x, h2, r⟩ := w1.rd tv1 h1
  cases x with
  | int i => exact ⟨i, r.int, hp (.val (.int _)) S1 _ W1 H1 l1 w1 (Rp.int _) h2⟩
  | _ => exact h2.elim⟩
/-! ### a op b op c -/
def isBlT (t : TV) (k : Bool → Prop) : Prop := match t with | .val (.bl b) => k b | _ => False
def wCh (rs rs' : RS2) (wa wb wc : EW) : EW := fun S P PX => wa S (fun ta S1 => wb S1 (fun tb S2 => rdK S2 ta fun x => rdK S2 tb fun y => rs x y fun t => isBlT t fun b =>
  (b = true → wc S2 (fun tc S3 => rdK S3 tb fun y' => rdK S3 tc fun z => rs' y' z fun t => P t S3) PX) ∧ (b = false → P (.val (.bl false)) S2)) PX) PX
theorem emb_ch {K : PySem.W.Frag} {rs rs' : RS2} {σ : L2.St} {H : Hp} {Q : VK} : embE K WW (wCh rs rs' wa wb wc) σ H Q → tChain (embR K rs) (embR K rs') (embE K WW wa) (embE K WW wb) (embE K WW wc) σ H Q := fun ⟨A, W, S, P, PX, w, h, hp, hx⟩ => by
  refine ⟨A, W, S, _, PX, w, h, fun t S1 v W1 H1 l1 w1 tv1 h1 => ?_, hx⟩
  obtain ⟨W2, l2, w2, tv2⟩ := w1.stl tv1
  refine ⟨A, W2, S1, _, PX, w2, h1, fun t2 S2 u W3 H3 l3 w3 tv3 h3 => ?_, hx.le (l1.trans l2)⟩
  obtain ⟨W4, l4, w4, tv4⟩ := w3.stl tv3
  obtain ⟨x, h4, r1⟩ := w4.rd (tv2.le (S' := S2) (H' := H3) (stl_nf _) (l3.trans l4)) (show rdK S2 (stl t) _ by rw [rdK_stl]; exact h3)
  obtain ⟨y, h5, r2⟩ := w4.rd tv4 (show rdK S2 (stl t2) _ by rw [rdK_stl]; exact h4)
  refine ⟨A, W4, S2, σ, x, y, _, w4, r1, r2, h5, fun r v' W5 H5 l5 w5 tv k => ?_⟩
  have ll := ((((l1.trans l2).trans l3).trans l4).trans l5)
  cases r with
  | val pb => cases pb with
    | bl b =>
      cases tv
      refine ⟨b, rfl, ?_⟩
      cases b with
      | false => exact iteF (hp (.val (.bl false)) S2 _ W5 H5 ll w5 (Rp.bl _) (k.2 rfl))
      | true =>
        refine iteT ⟨A, W5, S2, _, PX, w5, k.1 rfl, fun t3 S3 v3 W6 H6 l6 w6 tv6 h6 => ?_, hx.le ll⟩
        obtain ⟨y', h7, r7⟩ := w6.rd (tv4.le (S' := S3) (H' := H6) (stl_nf _) (l5.trans l6)) (show rdK S3 (stl t2) _ by rw [rdK_stl]; exact h6)
        obtain ⟨z, h8, r8⟩ := w6.rd tv6 h7
        exact ⟨A, W6, S3, σ, y', z, _, w6, r7, r8, h8, fun r v' W' H' l w' tv k => hp r S3 v' W' H' ((ll.trans l6).trans l) w' tv k⟩
    | _ => exact k.elim
  | _ => exact k.elim
theorem em_ch {op op' : CmpOp} {rs rs' : RS2} (ho : OpR X (compareOp op) (embR X.K rs)) (ho' : OpR X (compareOp op') (embR X.K rs')) (ha : EM X WW a wa) (hb : EM X WW b wb) (hc : EM X WW c wc)
    (hm : lastMarks [op, op'] [b, c] = false := by with_unfolding_all rfl) : EM X WW (.Compare a [op, op'] [b, c] pos) (wCh rs rs' wa wb wc) := ⟨pe_imp (pe_chain ho ho' ha.pe hb.pe hc.pe hm) fun _ _ _ => emb_ch⟩
theorem tm_ch {op op' : CmpOp} {rs rs' : RS2} (ho : OpR X (compareOp op) (embR X.K rs)) (ho' : OpR X (compareOp op') (embR X.K rs')) (ha : EM X WW a wa) (hb : EM X WW b wb) (hc : EM X WW c wc)
    (hm : lastMarks [op, op'] [b, c] = false := by with_unfolding_all rfl) : TM X WW (.Compare a [op, op'] [b, c] pos) (wTest (wCh rs rs' wa wb wc)) := ⟨pt_imp (pt_chain ho ho' ha.pe hb.pe hc.pe hm) fun σ H Q q => by
  obtain ⟨A, W, S, P, PX, w, h, hp, hx⟩ := q
  refine emb_ch ⟨A, W, S, _, PX, w, h, fun t S1 v W1 H1 l1 w1 tv1 h1 => ?_, hx⟩
  obtain ⟨x, h2, r⟩ := w1.rd tv1 h1
  cases x with
  | bl b =>
    obtain rfl := r.bl
    exact ⟨b, rfl, hp b S1 W1 H1 l1 w1 h2⟩
  | _ => exact h2.elim⟩
end
/-! ### calls of built-ins -/
abbrev RC := List PV → (TV → Prop) → Prop
def embC (K : PySem.W.Frag) (rc : RC) : List V → Hp → VK → Prop := fun vs H Q => ∃ A W S σ xs k, Wd K A W S σ H ∧ Paired (fun v x => RR K W H v x) vs xs ∧ rc xs k ∧
  ∀ t v W' H', W.le W' → Wd K A W' S σ H' → TvR K A W' S σ H' t v → k t → Q v H'
def rdAll (S : MS) : List TV → (List PV → Prop) → Prop
  | [], k => k []
  | t :: ts, k => rdK S t fun x => rdAll S ts fun xs => k (x :: xs)
theorem Wd.rdAll {K : PySem.W.Frag} {A : An} {W : Wo} {S : MS} {σ : L2.St} {H : Hp} (w : Wd K A W S σ H) {ts : List TV} {vs : List V} {k : List PV → Prop} (h : TvRs K A W S σ H ts vs) (r : rdAll S ts k) : ∃ xs, k xs ∧ Paired (fun v x => RR K W H v x) vs xs := by
  induction ts generalizing vs k with
  | nil => cases h with
    | nil => exact ⟨[], r, .nil⟩
  | cons t ts ih => cases h with
    | cons h1 h2 =>
      obtain ⟨x, k1, r1⟩ := w.rd h1.1 r
      obtain ⟨xs, k2, r2⟩ := ih h2 k1
      exact ⟨x :: xs, k2, .cons r1 r2⟩
def wBlt (rc : RC) (wr : AW) : EW := fun S P PX => wr S (fun ts S1 => rdAll S1 ts fun xs => rc xs fun t => P t S1) PX
section
variable {X : Cx} {WW : WX} {e : Expr} {es : List Expr} {wr : AW} {rc : RC} {x : Str} {id : String} {p pos : Pos}
theorem emb_blt {K : PySem.W.Frag} {σ : L2.St} {H : Hp} {Q : VK} : embE K WW (wBlt rc wr) σ H Q → tCB (embC K rc) (embA K WW wr) σ H Q := fun ⟨A, W, S, P, PX, wd, h, hp, hx⟩ => by
  refine ⟨A, W, S, _, PX, wd, h, fun ts S1 vs W1 H1 l1 w1 tv1 h1 => ?_, hx⟩
  obtain ⟨xs, h2, r⟩ := w1.rdAll tv1 h1
  exact ⟨A, W1, S1, σ, xs, _, w1, r, h2, fun t v W' H' l w' tv k => hp t S1 v W' H' (l1.trans l) w' tv k⟩
theorem em_blt (hc : CallR X (.builtin id) (embC X.K rc)) (hg : Gl X x) (hm : X.mg x = none) (ha : AM X WW (e :: es) wr) (hv : bootBuiltins x = some (.builtin id) := by rfl) (hn : x ≠ "__name__" := by decide) (hdb : (x == ("__debug__" : Str)) = false := by decide)
    (he : starEach (e :: es) X.env = (false, eval e X.env) :: starEach es X.env := by rfl) (hpl : (backTo pos (starEach es X.env)).any (·.1) = false := by rfl) : EM X WW (.Call (.Name x p) (e :: es) [] pos) (wBlt rc wr) :=
  ⟨pe_imp (pe_callB hc hg hm hv ha.pa hn hdb he hpl) fun _ _ _ => emb_blt⟩
theorem em_ty (hc : CallR X (.type id) (embC X.K rc)) (hg : Gl X x) (hm : X.mg x = none) (ha : AM X WW (e :: es) wr) (hv : bootBuiltins x = some (.type id) := by rfl) (hn : x ≠ "__name__" := by decide) (hdb : (x == ("__debug__" : Str)) = false := by decide)
    (he : starEach (e :: es) X.env = (false, eval e X.env) :: starEach es X.env := by rfl) (hpl : (backTo pos (starEach es X.env)).any (·.1) = false := by rfl) : EM X WW (.Call (.Name x p) (e :: es) [] pos) (wBlt rc wr) :=
  ⟨pe_imp (pe_callTy hc hg hm hv ha.pa hn hdb he hpl) fun _ _ _ => emb_blt⟩
end
/-- one argument, two -/
def rc1 (f : PV → (TV → Prop) → Prop) : RC := fun xs k => match xs with | [x] => f x k | _ => False
def rc2 (f : PV → PV → (TV → Prop) → Prop) : RC := fun xs k => match xs with | [x, y] => f x y k | _ => False
def rcLen : RC := rc1 fun x k => match x with
  | .lst xs => k (.val (.int xs.length))
  | .tup xs => k (.val (.int xs.length))
  | .scr ns => k (.val (.int ns.length))
  | .str z => z.length ≤ sizeLine ∧ k (.val (.int z.length))
  | _ => False
def rcMax2 : RC := rc2 fun x y k => intK x y fun i j => k (.val (.int (if j > i then j else i)))
def rcMin2 : RC := rc2 fun x y k => intK x y fun i j => k (.val (.int (if j < i then j else i)))
def rcAbs : RC := rc1 fun x k => asInt x fun i => k (.val (.int (if i < 0 then -i else i)))
def rcInt : RC := rc1 fun x k => match x with | .int i => k (.val (.int i)) | .bl b => k (.val (.int (if b then 1 else 0))) | _ => False
def chars (z : Str) : List PV := z.cps.toList.map fun c => .str ⟨#[c]⟩
def rcList : RC := rc1 fun x k => match x with
  | .lst xs => k (.fresh (.lst xs))
  | .tup xs => k (.fresh (.lst xs))
  | _ => False
def rcTuple : RC := rc1 fun x k => match x with
  | .lst xs => k (.val (.tup xs))
  | .tup xs => k (.val (.tup xs))
  | _ => False
def rcAll : RC := rc1 fun x k => match x with | .lst xs => ∃ bs : List Bool, xs = bs.map PV.bl ∧ k (.val (.bl (bs.all id))) | _ => False
def rcSum : RC := rc1 fun x k => match x with | .lst xs => ∃ ns : List Int, xs = ns.map PV.int ∧ k (.val (.int ns.sum)) | _ => False
def rcSorted : RC := rc1 fun x k => match x with | .lst xs => ∃ ns : List Int, xs = ns.map PV.int ∧ ∀ ns' : List Int, ns'.Perm ns → ns'.Pairwise (· ≤ ·) → k (.fresh (.lst (ns'.map PV.int))) | _ => False
section
variable {X : Cx}
theorem par1 {K : PySem.W.Frag} {W : Wo} {H : Hp} {vs : List V} {xs : List PV} {f : PV → (TV → Prop) → Prop} {k : TV → Prop} (r : Paired (fun v x => RR K W H v x) vs xs) (h : rc1 f xs k) : ∃ v x, vs = [v] ∧ RR K W H v x ∧ f x k := by
  cases r with
  | nil => exact h.elim
  | cons r1 r2 => cases r2 with
    | nil => exact ⟨_, _, rfl, r1, h⟩
    | cons _ _ => exact h.elim
theorem par2 {K : PySem.W.Frag} {W : Wo} {H : Hp} {vs : List V} {xs : List PV} {f : PV → PV → (TV → Prop) → Prop} {k : TV → Prop} (r : Paired (fun v x => RR K W H v x) vs xs) (h : rc2 f xs k) : ∃ v u x y, vs = [v, u] ∧ RR K W H v x ∧ RR K W H u y ∧ f x y k := by
  cases r with
  | nil => exact h.elim
  | cons r1 r2 => cases r2 with
    | nil => exact h.elim
    | cons r2 r3 => cases r3 with
      | nil => exact ⟨_, _, _, _, rfl, r1, r2, h⟩
      | cons _ _ => exact h.elim
theorem call_lenP : CallR X (.builtin "len") (embC X.K rcLen) := callr_imp (call_len_seq.or call_len_str) fun vs H Q ⟨A, W, S, σ, xs, k, w, r, h, hq⟩ => by
  obtain ⟨v, x, rfl, r1, h1⟩ := par1 r h
  cases x with
  | lst xs =>
    obtain ⟨a, us, rfl, e, ra⟩ := r1.lst w.bh
    exact .inl ⟨a, us, rfl, .inl (SqL.of e), by rw [ra.length]; exact hq (.val (.int _)) _ W H (Wo.le.refl _) w (Rp.int _) h1⟩
  | tup xs =>
    obtain ⟨a, us, rfl, e, ra, _⟩ := r1.tup w.bh
    exact .inl ⟨a, us, rfl, .inr e, by rw [ra.length]; exact hq (.val (.int _)) _ W H (Wo.le.refl _) w (Rp.int _) h1⟩
  | scr ns =>
    obtain ⟨a, rfl, e⟩ := r1.scr w.bh
    exact .inl ⟨a, _, rfl, .inl e, by rw [List.length_map]; exact hq (.val (.int _)) _ W H (Wo.le.refl _) w (Rp.int _) h1⟩
  | str z => exact .inr ⟨z, by rw [r1.str], h1.1, hq (.val (.int _)) _ W H (Wo.le.refl _) w (Rp.int _) h1.2⟩
  | _ => exact h1.elim
theorem call_maxP (hc : X.calm = true) : CallR X (.builtin "max") (embC X.K rcMax2) := callr_imp (call_max2 hc) fun vs H Q ⟨A, W, S, σ, xs, k, w, r, h, hq⟩ => by
  obtain ⟨v, u, x, y, rfl, r1, r2, h1⟩ := par2 r h
  obtain ⟨i, j, rfl, rfl, hk⟩ := intK_run h1 r1 r2
  exact ⟨i, j, rfl, hq (.val (.int _)) _ W H (Wo.le.refl _) w (Rp.int _) hk⟩
theorem call_minP (hc : X.calm = true) : CallR X (.builtin "min") (embC X.K rcMin2) := callr_imp (call_min2 hc) fun vs H Q ⟨A, W, S, σ, xs, k, w, r, h, hq⟩ => by
  obtain ⟨v, u, x, y, rfl, r1, r2, h1⟩ := par2 r h
  obtain ⟨i, j, rfl, rfl, hk⟩ := intK_run h1 r1 r2
  exact ⟨i, j, rfl, hq (.val (.int _)) _ W H (Wo.le.refl _) w (Rp.int _) hk⟩
theorem call_absP : CallR X (.builtin "abs") (embC X.K rcAbs) := callr_imp call_abs fun vs H Q ⟨A, W, S, σ, xs, k, w, r, h, hq⟩ => by
  obtain ⟨v, x, rfl, r1, h1⟩ := par1 r h
  cases x with
  | int i => exact ⟨i, by rw [r1.int], hq (.val (.int _)) _ W H (Wo.le.refl _) w (Rp.int _) h1⟩
  | _ => exact h1.elim
theorem call_intP : CallR X (.type "int") (embC X.K rcInt) := callr_imp call_int1 fun vs H Q ⟨A, W, S, σ, xs, k, w, r, h, hq⟩ => by
  obtain ⟨v, x, rfl, r1, h1⟩ := par1 r h
  cases x with
  | int i => exact .inl ⟨i, by rw [r1.int], hq (.val (.int _)) _ W H (Wo.le.refl _) w (Rp.int _) h1⟩
  | bl i => exact .inr ⟨i, by rw [r1.bl], hq (.val (.int _)) _ W H (Wo.le.refl _) w (Rp.int _) h1⟩
  | _ => exact h1.elim
theorem call_listP : CallR X (.type "list") (embC X.K rcList) := callr_imp call_list_of fun vs H Q ⟨A, W, S, σ, xs, k, w, r, h, hq⟩ => by
  obtain ⟨v, x, rfl, r1, h1⟩ := par1 r h
  cases x with
  | lst xs =>
    obtain ⟨a, us, rfl, e, ra⟩ := r1.lst w.bh
    exact ⟨a, us, rfl, .inl (SqL.of e), fun p np => hq (.fresh (.lst _)) _ W _ (Wo.le.refl _) (w.lay np) (w.layFresh np ⟨_, upd_same, ra⟩) h1⟩
  | tup xs =>
    obtain ⟨a, us, rfl, e, ra, _⟩ := r1.tup w.bh
    exact ⟨a, us, rfl, .inr e, fun p np => hq (.fresh (.lst _)) _ W _ (Wo.le.refl _) (w.lay np) (w.layFresh np ⟨_, upd_same, ra⟩) h1⟩
  | _ => exact h1.elim
theorem call_tupleP : CallR X (.type "tuple") (embC X.K rcTuple) := callr_imp call_tuple_of fun vs H Q ⟨A, W, S, σ, xs, k, w, r, h, hq⟩ => by
  obtain ⟨v, x, rfl, r1, h1⟩ := par1 r h
  cases x with
  | lst xs =>
    obtain ⟨a, us, rfl, e, ra⟩ := r1.lst w.bh
    refine ⟨a, us, rfl, .inl ⟨SqL.of e, fun p np => ?_⟩⟩
    obtain ⟨W', l, w', rp'⟩ := w.layTup np ra
    exact hq (.val (.tup _)) _ W' _ l w' rp' h1
  | tup xs =>
    obtain ⟨a, us, rfl, e, ra, rp⟩ := r1.tup w.bh
    exact ⟨a, us, rfl, .inr ⟨e, hq (.val (.tup _)) _ W H (Wo.le.refl _) w rp h1⟩⟩
  | _ => exact h1.elim
theorem call_sumP (hc : X.calm = true) : CallR X (.builtin "sum") (embC X.K rcSum) := callr_imp (cr_sum hc) fun vs H Q ⟨A, W, S, σ, xs, k, w, r, h, hq⟩ => by
  obtain ⟨v, x, rfl, r1, h1⟩ := par1 r h
  cases x with
  | lst xs =>
    obtain ⟨ns, rfl, h2⟩ := h1
    obtain ⟨a, us, rfl, e, ra⟩ := r1.lst w.bh
    obtain rfl := ra.ints
    exact ⟨a, ns, rfl, SqL.of e, hq (.val (.int _)) _ W H (Wo.le.refl _) w (Rp.int _) h2⟩
  | _ => exact h1.elim
theorem call_sortedP : CallR X (.builtin "sorted") (embC X.K rcSorted) := callr_imp cr_sortedI fun vs H Q ⟨A, W, S, σ, xs, k, w, r, h, hq⟩ => by
  obtain ⟨v, x, rfl, r1, h1⟩ := par1 r h
  cases x with
  | lst xs =>
    obtain ⟨ns, rfl, h2⟩ := h1
    obtain ⟨a, us, rfl, e, ra⟩ := r1.lst w.bh
    obtain rfl := ra.ints
    exact ⟨a, ns, rfl, SqL.of e, fun ns' p p1 p2 np => hq (.fresh (.lst _)) _ W _ (Wo.le.refl _) (w.lay np) (w.layFresh np ⟨_, upd_same, RpA.ofInts ns'⟩) (h2 ns' p1 p2)⟩
  | _ => exact h1.elim
end
end BV

/-! The by-value layer, part i: enumerate of lists and tuples, walks of texts. -/
namespace BV
open PySem L2
open AutoSeq1 (wpAny_loadPart')
open PySem.Spec PyProof.Rows

/-! ### enumerate(x) of a tuple -/
theorem en1_meets {v : Value} {o : Obj} {P : Heap → Prop} (B : Begins v o P) :
    Meets (Builtin.«enumerate.__new__» ⟨[.type "enumerate", v], []⟩) (fun _ R s => P s.heap ∧ R (.ok (.ret (.ref (s.heap.push o).objs.size)))
      { s with heap := (s.heap.push o).push { cls := .type "enumerate", data := .fields #[.none, .bool false, .ref s.heap.objs.size, rawInt 0, .none, .none] } }) := .of_wp fun prog w A R s h => by
  obtain ⟨hp, g, d, tk, os⟩ := s
  obtain ⟨hb, hr⟩ := h
  have isSub := sub_enumerate
  have go : ∀ {A' : Around} {E : Value → Shared → Prop} {Q : Value → Shared → Prop}, Q (.ref hp.objs.size) ⟨hp.push o, g, d, tk, os⟩ → wpAny (model prog w) A' (pyIter v) Q E ⟨hp, g, d, tk, os⟩ := fun q => B.iter prog w _ _ ⟨hp, g, d, tk, os⟩ _ hb q
  wp_walk using go
  refine wpAny_stack_any fun st => wpAny_pure ?_
  split
  next c _ _ _ _ _ =>
    cases (c == Value.type "enumerate") with
    | false =>
      wp_walk using go
      exact ⟨_, rfl, hr⟩
    | true =>
      wp_walk using go
      exact ⟨_, rfl, hr⟩
  next =>
    wp_walk using go
    exact ⟨_, rfl, hr⟩
theorem en1_call {prog : Program} {w : World} {A : Around} {E : Value → Shared → Prop} {s : Shared} {v : Value} {o : Obj} {P : Heap → Prop} {Q : Value → Shared → Prop} (B : Begins v o P) (hb : P s.heap)
    (hQ : ∀ h', IsEnum h' (s.heap.objs.size + 1) s.heap.objs.size 0 .none → h'.get? s.heap.objs.size = some o → (∀ b u, s.heap.get? b = some u → h'.get? b = some u) → Q (.ref (s.heap.objs.size + 1)) { s with heap := h' }) :
    wpAny (model prog w) A (call (.type "enumerate") [v]) Q E s := by
  refine callType_new F.called_enumerate (by decide) (F.typeCall_enumerate_1 _) (F.newCall_enumerate_1 _) (fun obj => F.args_object_init_2 obj _) F.entry_enumerate_new (en1_meets B) ⟨hb, ?_⟩
  have sz : (s.heap.push o).objs.size = s.heap.objs.size + 1 := Heap.size_push ..
  show _ ∧ _
  rw [sz]
  have en : IsEnum ((s.heap.push o).push { cls := .type "enumerate", data := .fields #[.none, .bool false, .ref s.heap.objs.size, rawInt 0, .none, .none] }) (s.heap.objs.size + 1) s.heap.objs.size 0 .none := by
    have q := Heap.get?_push_size (s.heap.push o) (o := { cls := .type "enumerate", data := .fields #[.none, .bool false, .ref s.heap.objs.size, rawInt 0, .none, .none] }) rfl
    rw [sz] at q
    exact q
  exact ⟨⟨_, en, rfl⟩, hQ _ en (Heap.get?_push_of_some _ (Heap.get?_push_size _ B.free)) fun b u e => Heap.get?_push_of_some _ (Heap.get?_push_of_some _ e)⟩
/-- the tuple at a, each item in a new pair -/
def ItE (K : PySem.W.Frag) (a : Addr) : It where
  go := fun i H => ∃ (xs : List V) (x : V), SqT K H a xs ∧ xs[i]? = some x
  yld := fun i H v H' => ∃ T x, v = .ref T ∧ H T = none ∧ H' = upd H T (.tup [.int (i : Nat), x]) ∧ ∀ xs, SqT K H a xs → xs[i]? = some x
  stop := fun i H => ∃ xs : List V, SqT K H a xs ∧ xs.length ≤ i
theorem sqT_uniq {X : Cx} {pins : List (Addr × Obj)} {σ : L2.St} {H : Hp} {s : Shared} {a : Addr} {xs ys : List V} (I : Inv X pins σ H s) (h : SqT X.K H a xs) (g : SqT X.K H a ys) (i : Nat) {x : V} (hx : xs[i]? = some x) : ys[i]? = some x := by
  rw [I.tuple_inj g h]
  exact hx
theorem turn_en {P : Program} {w : World} {K : PySem.W.Frag} {elts : List Expr} {kk : Nat} {tpos : Pos} (a e it : Addr) :
    Turn P w K (.Tuple elts kk tpos) (ItE K a) [e, it] e (fun i h => (∃ old, IsEnum h e it ((i : Nat) : Int) old) ∧ h.IsTupleIter it a i ∧ e ≠ it) where
  mem := by simp
  obj := fun i h st b hb => by
    obtain ⟨⟨old, he⟩, ⟨o, ho, hc, hd⟩, _⟩ := st
    rcases (show b = e ∨ b = it by simpa using hb) with z | z
    · subst z
      exact ⟨_, he, fun v q => nomatch q⟩
    · subst z
      exact ⟨o, ho, fun v q => by rw [hd] at q; cases q⟩
  keep := fun i h h' st k => ⟨⟨st.1.choose, k e (by simp) _ st.1.choose_spec⟩, st.2.1.at fun o q => k it (by simp) o q, st.2.2⟩
  item := by
    intro X hP hw hK hc i pins s σ H E I hf st hg
    subst hP hw hK
    obtain ⟨⟨old, he⟩, hit, hne⟩ := st
    obtain ⟨xs, x, hq, hx⟩ := hg
    obtain ⟨its, rv, p, hz⟩ := I.tuple hq
    obtain ⟨u, hu, ru⟩ := rv.get hx
    have ltE : e < s.heap.objs.size := Heap.lt_size he
    have ltI : it < s.heap.objs.size := by
      obtain ⟨_, q, _⟩ := hit
      exact Heap.lt_size q
    have ai : a ≠ it := fun z => by
      obtain ⟨o, h1, h2, _⟩ := p
      obtain ⟨o', k1, k2, _⟩ := hit
      rw [z, k1] at h1
      cases h1
      rw [h2] at k2
      exact absurd k2 (by simp)
    have ea : e ≠ a := fun z => by
      obtain ⟨o, h1, h2, _⟩ := p
      rw [← z, he] at h1
      cases h1
      exact absurd h2 (by simp)
    have hD := Draws.tuple (prog := X.prog) (w := X.w) (A := X.A.in1) (I.ok.hd hc) it a ai its.toArray
    have hl : i < its.toArray.size := by
      have := (List.getElem?_eq_some_iff.mp hu).1
      simpa using this
    refine wpAny_pyNext_enum_itemC hD he ⟨hit, p⟩ hl hne (by simp [hne, ea]) fun y h' tk hy ho hst hT hsz hk => ?_
    have hy' : its[i]? = some y := by simpa using hy
    rw [hu] at hy'
    cases hy'
    refine ⟨_, rfl, wpAny_letOwnedTupleGo_enum (s := { s with heap := h', toks := tk + 1 }) ho fun h2 he2 sb => ?_⟩
    have hT2 : h2.get? s.heap.objs.size = some { cls := .type "tuple", data := .seq #[.int i tk, u] } := (sb.2 _ (Nat.ne_of_gt ltE)).trans hT
    have okT : ObjOk X.prog X.w (upd H s.heap.objs.size (.tup [.int (i : Nat), x])) h2 s.heap.objs.size (.tup [.int (i : Nat), x]) := ⟨by show 2 ≤ sizeLine; decide, [.int i tk, u], .cons ⟨_, rfl⟩ (.cons ru .nil), ⟨_, hT2, rfl, _, rfl⟩⟩
    have I1 : Inv X pins σ (upd H s.heap.objs.size (.tup [.int (i : Nat), x])) { s with heap := h2, toks := tk + 1 } := I.turnedNew (ch := [e, it]) (fun b ob hb q => by
      have b1 : b ≠ e := fun z => hb (by simp [z])
      have b2 : b ≠ it := fun z => hb (by simp [z])
      exact (sb.2 b b1).trans (hk b ob b1 b2 q)) hf (Nat.le_refl _) okT
    refine ⟨.ref s.heap.objs.size, _, I1, rfl, ⟨_, x, rfl, I.hok.fresh (Nat.le_refl _), rfl, fun ys hy => sqT_uniq I hq hy i hx⟩, ⟨⟨u, ?_⟩, hst.1.at fun o q => (sb.2 it (Ne.symm hne)).trans q, hne⟩, fun b hb => ?_⟩
    · rw [show ((i + 1 : Nat) : Int) = (i : Int) + 1 by omega]
      exact he2
    · have lt : b < s.heap.objs.size := by
        rcases (show b = e ∨ b = it by simpa using hb) with z | z
        · rw [z]; exact ltE
        · rw [z]; exact ltI
      rw [upd_ne (Nat.ne_of_lt lt)]
      exact (hf b hb).1
  done := by
    intro X hP hw hK hc i pins s σ H E I hf st hg
    subst hP hw hK
    obtain ⟨⟨old, he⟩, hit, hne⟩ := st
    obtain ⟨xs, hq, hx⟩ := hg
    obtain ⟨its, rv, p, hz⟩ := I.tuple hq
    obtain ⟨g0, g1, g2, g3, g4, g5⟩ := hf it (by simp)
    have hl := rv.length
    have hT : s.TypeIs (.ref e) "enumerate" := ⟨_, he, rfl⟩
    unfold pyNext
    refine wpAny_bind (wpAny_attempt (wpAny_callSpecial?_slot (name := Str.ofString "__next__") hT F.slot_enumerate_next (wpAny_call_entry F.slot_enumerate_next hT F.entry_enumerate_next ?_ (F.args_enumerate_next_1 _))))
    show wpAny _ _ (field (.ref e) 2 >>= _) _ _ _
    refine wpAny_bind (wpAny_field he rfl (x := .ref it) rfl ?_)
    refine wpAny_bind (wpAny_nextOf_tuple_end (I.ok.hd hc) hit p (by simp; omega) fun h' x eb hx' => ?_)
    obtain ⟨o, ho, hcl⟩ := hx'
    refine wpAny_bind (wpAny_isInstance (T := "StopIteration") (b := true) ⟨o, ho, hcl⟩ isSubtype_stop ?_)
    exact wpAny_pure ⟨rfl, I.turned (t' := s.toks) (fun b o hb q => eb b o hb q) g0 g1 g3 g4 g5⟩
  self := fun A i s Q E st h => wpAny_pyIter_enum st.1.choose_spec h
/-- enumerate(x), x a list or a tuple -/
def iEn (K : PySem.W.Frag) (te : TE) : TI := fun σ H R => te σ H fun v H1 => ∃ a, v = .ref a ∧ ((∃ xs, SqL K H1 a xs ∧ R (Ite K a) H1) ∨ (∃ xs, SqT K H1 a xs ∧ R (ItE K a) H1))
def oneV (Q : VK) : List V → Hp → Prop := fun vs H => match vs with | [v] => Q v H | _ => False
theorem oneV_get {Q : VK} {vs : List V} {H : Hp} (h : oneV Q vs H) : ∃ v, vs = [v] ∧ Q v H := by
  cases vs with
  | nil => exact h.elim
  | cons v r => cases r with
    | nil => exact ⟨v, rfl, h⟩
    | cons _ _ => exact h.elim
theorem pi_en {X : Cx} {e : Expr} {te : TE} {p pos tpos : Pos} {elts : List Expr} {kk : Nat} (hg : Gl X "enumerate") (hm : X.mg "enumerate" = none) (ha : PE X e te) (hs : starEach [e] X.env = [(false, eval e X.env)] := by rfl) :
    PI X (.Tuple elts kk tpos) (.Call (.Name "enumerate" p) [e] [] pos) (iEn X.K te) := by
  refine ⟨fun pins s σ H R I h => ?_⟩
  refine Call_ (ld_blt I hg hm boot_enumerate (PyProof.Rows.callWith_type1 (thn ((pa_cons ha pa_nil hs).run pos pins s σ H (oneV fun v H1 => ∃ a, v = V.ref a ∧ ((∃ xs, SqL X.K H1 a xs ∧ R (Ite X.K a) H1) ∨ (∃ xs, SqT X.K H1 a xs ∧ R (ItE X.K a) H1))) I h) fun us s1 ⟨vs, H1, I1, r1, q1⟩ => ?_) hs rfl))
  · obtain ⟨v, rfl, a, ex, q⟩ := oneV_get q1
    subst ex
    obtain ⟨u, rfl, ru⟩ := vals1 r1
    cases ru
    have le1 : s1.heap.objs.size ≤ s1.heap.objs.size + 1 := Nat.le_succ _
    rcases q with ⟨xs, hq, q⟩ | ⟨xs, hq, q⟩
    · obtain ⟨its, rv, pl, hz⟩ := I1.list hq
      refine en1_call (begins_list a its.toArray) pl.isList fun h' he hit hk => wpAny_pyIter_enum he ?_
      exact ⟨s1.heap.objs.size + 1, [s1.heap.objs.size + 1, s1.heap.objs.size], _, _, H1, rfl, I1.kept (t' := s1.toks) hk, turn_enum a (s1.heap.objs.size + 1) s1.heap.objs.size, ⟨⟨.none, he⟩, ⟨_, hit, rfl, rfl⟩, Nat.succ_ne_self _⟩, fun b hb => by
        have le : s1.heap.objs.size ≤ b := by
          rcases (show b = s1.heap.objs.size + 1 ∨ b = s1.heap.objs.size by simpa using hb) with z | z
          · rw [z]; exact le1
          · rw [z]; exact Nat.le_refl _
        exact I1.fpOk le (I1.hok.fresh le), q⟩
    · obtain ⟨its, rv, pl, hz⟩ := I1.tuple hq
      refine en1_call (begins_tuple a its.toArray) pl fun h' he hit hk => wpAny_pyIter_enum he ?_
      exact ⟨s1.heap.objs.size + 1, [s1.heap.objs.size + 1, s1.heap.objs.size], _, _, H1, rfl, I1.kept (t' := s1.toks) hk, turn_en a (s1.heap.objs.size + 1) s1.heap.objs.size, ⟨⟨.none, he⟩, ⟨_, hit, rfl, rfl⟩, Nat.succ_ne_self _⟩, fun b hb => by
        have le : s1.heap.objs.size ≤ b := by
          rcases (show b = s1.heap.objs.size + 1 ∨ b = s1.heap.objs.size by simpa using hb) with z | z
          · rw [z]; exact le1
          · rw [z]; exact Nat.le_refl _
        exact I1.fpOk le (I1.hok.fresh le), q⟩
end BV

/-! The by-value layer, part j: walks of enumerate and texts; more built-ins; methods of lists. -/
namespace BV
open PySem L2
section
variable {K : PySem.W.Frag} {A : An} {W W' : Wo} {S S' : MS} {σ : L2.St} {H H' : Hp}
/-- the list at a stands while it is walked -/
def StL (K : PySem.W.Frag) (A : An) (W : Wo) (a : Addr) (vs : List V) : Prop := ∀ W' S' σ' H', W.le W' → Wd K A W' S' σ' H' → H' a = some (.lst vs)
def Walk (K : PySem.W.Frag) (A : An) (W : Wo) (σ : L2.St) (H : Hp) (v : V) (P : List PV → (MS → MS) → MS → Prop) : Prop :=
  ∃ a A' undo S' W' xs vs, v = .ref a ∧ W.le W' ∧ Wd K A' W' S' σ H ∧ Back K A A' undo ∧ A'.ρ0 = A.ρ0 ∧ A'.F0 = A.F0 ∧ RpA K W'.ρ W'.B vs xs ∧ (StL K A' W' a vs ∨ SqT K W'.B a vs) ∧ P xs undo S'
theorem walked {t : TV} {v : V} {P : List PV → (MS → MS) → MS → Prop} (w : Wd K A W S σ H) (tv : TvR K A W S σ H t v) (h : srcK t S P) : Walk K A W σ H v P := by
  have viaVal : ∀ {W1 : Wo} (x : PV), W.le W1 → Wd K A W1 S σ H → Rp K W1.ρ W1.B v x → (itemsK x fun xs => P xs id S) → Walk K A W σ H v P := fun {W1} x l w1 rp k => by
    cases x with
    | lst xs => cases rp with
      | lst e r => exact ⟨_, A, id, S, W1, xs, _, rfl, l, w1, back_id, rfl, rfl, r, .inl fun W' S' σ' H' l w' => w'.bh _ _ (l.b _ _ e), k⟩
    | tup xs => cases rp with
      | tup e r => exact ⟨_, A, id, S, W1, xs, _, rfl, l, w1, back_id, rfl, rfl, r, .inr e, k⟩
    | _ => exact k.elim
  cases t with
  | val x => exact viaVal x (Wo.le.refl _) w tv h
  | fresh x =>
    obtain ⟨W2, l2, w2, rp⟩ := w.settle tv
    exact viaVal x l2 w2 rp h
  | bor x =>
    obtain ⟨p, rfl, ho⟩ := tv
    have h1' : itemsK x fun xs => P xs id S := h
    cases x with
    | lst xs =>
      obtain ⟨vs, e, r⟩ := ho
      exact ⟨p, A, id, S, W, xs, vs, rfl, Wo.le.refl _, w, back_id, rfl, rfl, r, .inl fun W' S' σ' H' l w' => w'.fh _ _ (l.f _ _ e), h1'⟩
    | tup xs => exact ho.elim
    | _ => exact h1'.elim
  | slot i =>
    have h1' : (match S.sl[i]? with
      | some (.own x) => itemsK x fun xs => P xs (fun S2 => { S2 with sl := S2.sl.set i (.own x) }) { S with sl := S.sl.set i (.lent x) }
      | some (.val x) => itemsK x fun xs => P xs id S
      | _ => False) := h
    have tv1' : σ[i]? = some (some v) := tv
    cases q : S.sl[i]? with
    | none => rw [q] at h1'; exact h1'.elim
    | some s =>
      rw [q] at h1'
      cases s with
      | emp => exact h1'.elim
      | exc a d C fs => exact h1'.elim
      | bor x => exact h1'.elim
      | lent x => exact h1'.elim
      | slf x => exact h1'.elim
      | val x =>
        obtain ⟨u, e, rp⟩ := w.slot i _ q
        rw [tv1'] at e; cases e
        exact viaVal x (Wo.le.refl _) w rp h1'
      | own x =>
        obtain ⟨p, e, f1, f2, f3, f4⟩ := w.slot i _ q
        rw [tv1'] at e; cases e
        have h2 : itemsK x fun xs => P xs (fun S2 => { S2 with sl := S2.sl.set i (.own x) }) { S with sl := S.sl.set i (.lent x) } := h1'
        cases x with
        | lst xs =>
          obtain ⟨vs, e, r⟩ := f3
          have w2 := w.loan q tv1' e (w.pinN q)
          refine ⟨p, A.loan i p (.lst vs) (.lst xs), _, _, W, xs, vs, rfl, Wo.le.refl _, w2, fun W S σ H w' => ⟨w'.unloan f4 (w.pinN q), fun t v h => h.unloan w'⟩, rfl, rfl, r, .inl fun W' S' σ' H' l w' => ?_, h2⟩
          exact w'.keep p _ (by show (if p = p then some (HO.lst vs) else A.H0 p) = _; rw [if_pos rfl]) (w.notRho f2)
        | tup xs => exact f3.elim
        | _ => exact h2.elim
/-- the pairs of enumerate -/
def enP (xs : List PV) : List PV := (List.range xs.length).map fun (k : Nat) => .tup [.int (k : Int), xs.getD k .non]
theorem enP_length (xs : List PV) : (enP xs).length = xs.length := by simp [enP]
theorem enP_get {xs : List PV} {i : Nat} {x : PV} (h : xs[i]? = some x) : (enP xs)[i]? = some (.tup [.int (i : Int), x]) := by
  unfold enP
  have hl := (List.getElem?_eq_some_iff.mp h).1
  rw [List.getElem?_map, List.getElem?_range hl]
  simp [List.getD_eq_getElem?_getD, h]
theorem en_yld {vs : List V} {xs : List PV} {i : Nat} {H3 : Hp} {u : V} (ra : RpA K W.ρ W.B vs xs) (l : W.le W') (w : Wd K A W' S' σ H') (hi : i < xs.length) (hy : ∃ T x, u = V.ref T ∧ H' T = none ∧ H3 = upd H' T (.tup [.int (i : Nat), x]) ∧ vs[i]? = some x) :
    ∃ W3 x, W'.le W3 ∧ (∀ A2, Wd K A2 W' S' σ H' → Wd K A2 W3 S' σ H3) ∧ (enP xs)[i]? = some x ∧ Rp K W3.ρ W3.B u x := by
  obtain ⟨T, v, rfl, hT, rfl, hv⟩ := hy
  obtain ⟨x, hx, rx⟩ := ra.getV hv
  refine ⟨⟨W'.ρ, upd W'.B T (.tup [.int (i : Nat), v]), upd W'.F T (.tup [.int (i : Nat), v])⟩, _, ⟨Pre.refl _, same_upd (w.newB hT), same_upd (w.freeF hT)⟩, fun A2 w2 => ?_, enP_get hx, ?_⟩
  · exact ((w2.lay (o := .tup [.int (i : Nat), v]) hT).absorb upd_same (w2.freeF hT) (w2.newRho hT) (w2.newOwn hT) (w2.h0 hT)).1
  · exact .tup (SqT.of upd_same) (.cons (.int _) (.cons (rx.mono (l.b.trans (same_upd (w.newB hT))) l.r) .nil))
theorem srcR_enL {a : Addr} {vs : List V} {xs : List PV} (ra : RpA K W.ρ W.B vs xs) (hs : StL K A W a vs) : SrcR K A W (enP xs) (Ite K a) := fun i S' W' σ' H' l w => by
  have e := hs W' S' σ' H' l w
  rw [enP_length]
  refine ⟨fun hi => ?_, fun hi => ⟨vs, SqL.of e, by rw [ra.length]; exact hi⟩⟩
  obtain ⟨v, hv, rv⟩ := ra.get (List.getElem?_eq_getElem hi)
  refine ⟨⟨vs, v, SqL.of e, hv⟩, fun u H3 hy => ?_⟩
  obtain ⟨T, x, h1, h2, h3, h4⟩ := hy
  exact en_yld ra l w hi ⟨T, x, h1, h2, h3, h4 vs (SqL.of e)⟩
theorem srcR_enT {a : Addr} {vs : List V} {xs : List PV} (ra : RpA K W.ρ W.B vs xs) (hs : SqT K W.B a vs) : SrcR K A W (enP xs) (ItE K a) := fun i S' W' σ' H' l w => by
  have e : SqT K H' a vs := same_t (l.b.trans w.bh) hs
  rw [enP_length]
  refine ⟨fun hi => ?_, fun hi => ⟨vs, e, by rw [ra.length]; exact hi⟩⟩
  obtain ⟨v, hv, rv⟩ := ra.get (List.getElem?_eq_getElem hi)
  refine ⟨⟨vs, v, e, hv⟩, fun u H3 hy => ?_⟩
  obtain ⟨T, x, h1, h2, h3, h4⟩ := hy
  exact en_yld ra l w hi ⟨T, x, h1, h2, h3, h4 vs e⟩
theorem chars_get {z : Str} {i : Nat} {c : Nat} (h : z.cps[i]? = some c) : (chars z)[i]? = some (.str ⟨#[c]⟩) := by
  unfold chars
  rw [List.getElem?_map, Array.getElem?_toList, h]
  rfl
theorem chars_length (z : Str) : (chars z).length = z.cps.size := by simp [chars]
theorem srcR_str {z : Str} : SrcR K A W (chars z) (Its z) := fun i S' W' σ' H' l w => by
  rw [chars_length]
  refine ⟨fun hi => ⟨hi, fun v H3 hy => ?_⟩, fun hi => hi⟩
  obtain ⟨rfl, c, hc, rfl⟩ := hy
  exact ⟨W', _, Wo.le.refl _, fun A2 w2 => w2, chars_get hc, .str _⟩
end
def wEn (w : EW) : IW := fun S P PX => w S (fun t S1 => srcK t S1 fun xs undo S2 => P (enP xs) undo S2) PX
def strK (x : PV) (k : Str → Prop) : Prop := match x with | .str z => k z | _ => False
def wChs (w : EW) : IW := fun S P PX => w S (fun t S1 => rdK S1 t fun x => strK x fun z => P (chars z) id S1) PX
section
variable {X : Cx} {WW : WX} {tg l : Expr} {w : EW} {elts : List Expr} {kk : Nat} {p pos tpos : Pos}
theorem im_en (h : EM X WW l w) (hg : Gl X "enumerate") (hm : X.mg "enumerate" = none) (hs : starEach [l] X.env = [(false, eval l X.env)] := by rfl) : IM X WW (.Tuple elts kk tpos) (.Call (.Name "enumerate" p) [l] [] pos) (wEn w) := ⟨pi_imp (pi_en hg hm h.pe hs) fun σ H R ⟨A, W, S, P, PX, wd, hw, hp, hx⟩ => by
  refine ⟨A, W, S, _, PX, wd, hw, fun t S1 v W1 H1 l1 w1 tv1 h1 => ?_, hx⟩
  obtain ⟨a, A', undo, S2, W2, xs, vs, rfl, l2, w2, bk, e1, e2, ra, st, hP⟩ := walked w1 tv1 h1
  rcases st with st | st
  · exact ⟨a, rfl, .inl ⟨vs, SqL.of (st W2 S2 σ H1 (Wo.le.refl _) w2), hp _ undo A' S2 W2 H1 _ (l1.trans l2) w2 bk (srcR_enL ra st) e1 e2 hP⟩⟩
  · exact ⟨a, rfl, .inr ⟨vs, same_t w2.bh st, hp _ undo A' S2 W2 H1 _ (l1.trans l2) w2 bk (srcR_enT ra st) e1 e2 hP⟩⟩⟩
theorem im_str (h : EM X WW l w) : IM X WW tg l (wChs w) := ⟨pi_imp (pi_str h.pe) fun σ H R ⟨A, W, S, P, PX, wd, hw, hp, hx⟩ => by
  refine ⟨A, W, S, _, PX, wd, hw, fun t S1 v W1 H1 l1 w1 tv1 h1 => ?_, hx⟩
  obtain ⟨x, h2, r⟩ := w1.rd tv1 h1
  cases x with
  | str z => exact ⟨z, r.str, hp _ id A S1 W1 H1 _ l1 w1 back_id srcR_str rfl rfl h2⟩
  | _ => exact h2.elim⟩
end
/-! ### all, list of a text -/
section
variable {X : Cx}
theorem call_allP (hc : X.calm = true) : CallR X (.builtin "all") (embC X.K rcAll) := callr_imp (cr_all hc) fun vs H Q ⟨A, W, S, σ, xs, k, w, r, h, hq⟩ => by
  obtain ⟨v, x, rfl, r1, h1⟩ := par1 r h
  cases x with
  | lst xs =>
    obtain ⟨ns, rfl, h2⟩ := h1
    obtain ⟨a, us, rfl, e, ra⟩ := r1.lst w.bh
    obtain rfl := ra.bls
    exact ⟨a, ns, rfl, SqL.of e, hq (.val (.bl _)) _ W H (Wo.le.refl _) w (Rp.bl _) h2⟩
  | _ => exact h1.elim
def signs (z : Str) : List V := z.cps.toList.map fun c => V.str ⟨#[c]⟩
theorem rpA_chars {K : PySem.W.Frag} {ρ : List Addr} {B : Hp} : ∀ (l : List Nat), RpA K ρ B (l.map fun c => V.str ⟨#[c]⟩) (l.map fun c => PV.str ⟨#[c]⟩)
  | [] => .nil
  | c :: l => .cons (.str _) (rpA_chars l)
theorem vals_of_items : ∀ (l : List Nat) (us : List Value), us.length = l.length → (∀ (j : Nat) (v : Value), us[j]? = some v → ∃ c u, l[j]? = some c ∧ v = .str ⟨#[c]⟩ u) → Vals (l.map fun c => V.str ⟨#[c]⟩) us
  | [], [], _, _ => .nil
  | c :: l, u :: us, e, h => by
    obtain ⟨c', t, e1, e2⟩ := h 0 u rfl
    cases e1
    exact .cons ⟨t, e2⟩ (vals_of_items l us (by simpa using e) fun j v q => by
      obtain ⟨c2, t2, q1, q2⟩ := h (j + 1) v (by simpa using q)
      exact ⟨c2, t2, by simpa using q1, q2⟩)
theorem call_list_signs (hc : X.calm = true) : CallR X (.type "list") (fun xs H Q => ∃ z : Str, xs = [.str z] ∧ z.length ≤ sizeLine ∧ ∀ p, H p = none → Q (.ref p) (upd H p (.lst (signs z)))) := by
  intro pins s σ H xs us Q I r h
  obtain ⟨z, rfl, hz, q⟩ := h
  obtain ⟨u, rfl, t, rfl⟩ := vals1 r
  refine call_list_str (I.ok.hd hc) z t (fun h' tk acc c' hk hS hit => ?_) hz
  have hv : Vals (signs z) acc.toList := vals_of_items _ _ (by simp [hit.1]) fun j v e => by
    have e' : acc[j]? = some v := by simpa using e
    obtain ⟨c, u, q1, q2⟩ := hit.2 j v e'
    exact ⟨c, u, by simpa using q1, q2⟩
  refine ⟨.ref s.heap.objs.size, _, I.laid (t' := tk) (o := .lst (signs z)) hk (Nat.le_refl _) ?_, rfl, q _ (I.hok.fresh (Nat.le_refl _))⟩
  refine ⟨?_, acc.toList, c', hv, ?_⟩
  · show (signs z).length ≤ sizeLine
    unfold signs
    rw [List.length_map, Array.length_toList]
    exact hz
  · simpa using hS
/-- list(x): of lists, tuples and texts -/
def rcListS : RC := rc1 fun x k => match x with
  | .str z => z.length ≤ sizeLine ∧ k (.fresh (.lst (chars z)))
  | _ => rcList [x] k
theorem call_listSP (hc : X.calm = true) : CallR X (.type "list") (embC X.K rcListS) := callr_imp ((call_listP (X := X)).or (call_list_signs hc)) fun vs H Q ⟨A, W, S, σ, xs, k, w, r, h, hq⟩ => by
  obtain ⟨v, x, rfl, r1, h1⟩ := par1 r h
  have alt : rcList [x] k → embC X.K rcList [v] H Q ∨ ∃ z : Str, [v] = [V.str z] ∧ z.length ≤ sizeLine ∧ ∀ p, H p = none → Q (.ref p) (upd H p (.lst (signs z))) := fun g => Or.inl ⟨A, W, S, σ, [x], k, w, .cons r1 .nil, g, hq⟩
  cases x with
  | str z =>
    refine .inr ⟨z, by rw [r1.str], h1.1, fun p np => ?_⟩
    exact hq (.fresh (.lst (chars z))) _ W _ (Wo.le.refl _) (w.lay np) (w.layFresh np ⟨_, upd_same, rpA_chars _⟩) h1.2
  | _ => exact alt h1
/-! ### repr, str -/
def rcRepr : RC := rc1 fun x k => match x with | .int i => i.natAbs.log2 < 1920 ∧ k (.val (.str (toString i))) | _ => False
def rcStr : RC := rc1 fun x k => match x with | .int i => i.natAbs.log2 < 1920 ∧ k (.val (.str (toString i))) | .str z => k (.val (.str z)) | _ => False
theorem call_strP : CallR X (.type "str") (embC X.K rcStr) := callr_imp (call_str_int.or SkE.call_str_str) fun vs H Q ⟨A, W, S, σ, xs, k, w, r, h, hq⟩ => by
  obtain ⟨v, x, rfl, r1, h1⟩ := par1 r h
  cases x with
  | int i => exact .inl ⟨i, by rw [r1.int], h1.1, hq (.val (.str _)) _ W H (Wo.le.refl _) w (Rp.str _) h1.2⟩
  | str i => exact .inr ⟨i, by rw [r1.str], hq (.val (.str _)) _ W H (Wo.le.refl _) w (Rp.str _) h1⟩
  | _ => exact h1.elim
end
/-! ### sep.join(xs) -/
def joinK (x y : PV) (k : Str → Prop) : Prop := strK x fun a => itemsK y fun ys => ∃ zs : List Str, ys = zs.map PV.str ∧ (zs.map (·.length)).sum + zs.length * a.length ≤ 16777216 ∧ k (Txt.join a zs)
def wJoin (wo we : EW) : EW := fun S P PX => wo S (fun t S1 => rdK S1 t fun x => strK x fun a => we S1 (fun t2 S2 => rdK S2 t2 fun y => joinK (.str a) y fun z => P (.val (.str z)) S2) PX) PX
section
variable {X : Cx} {WW : WX} {o e : Expr} {wo we : EW} {apos pos : Pos}
theorem em_join (ho : EM X WW o wo) (he : EM X WW e we) (hs : starEach [e] X.env = [(false, eval e X.env)] := by rfl) (hbase : attributeBase o "join" X.env (eval o X.env) = eval o X.env := by rfl) (hline : (apos.endLine == pos.line) = true := by rfl) :
    EM X WW (.Call (.Attribute o "join" apos) [e] [] pos) (wJoin wo we) := ⟨pe_imp (pe_join ho.pe he.pe hs hbase hline) fun σ H Q ⟨A, W, S, P, PX, wd, h, hp, hx⟩ => by
  refine ⟨A, W, S, _, PX, wd, h, fun t S1 v W1 H1 l1 w1 tv1 h1 => ?_, hx⟩
  obtain ⟨x, h2, r⟩ := w1.rd tv1 h1
  cases x with
  | str a =>
    obtain rfl := r.str
    refine ⟨⟨a, rfl⟩, A, W1, S1, _, PX, w1, h2, fun t2 S2 u W3 H3 l3 w3 tv3 h3 => ?_, hx.le l1⟩
    obtain ⟨y, h4, r4⟩ := w3.rd tv3 h3
    have fin : ∀ z, P (.val (.str z)) S2 → Q (.str z) H3 := fun z q => hp (.val (.str z)) S2 _ W3 H3 (l1.trans l3) w3 (Rp.str _) q
    cases y with
    | lst ys =>
      obtain ⟨zs, rfl, hz, hk⟩ := h4
      obtain ⟨b, us, rfl, eb, ra⟩ := r4.lst w3.bh
      obtain rfl := ra.strs
      exact ⟨a, b, zs, rfl, rfl, .inl (SqL.of eb), hz, fin _ hk⟩
    | tup ys =>
      obtain ⟨zs, rfl, hz, hk⟩ := h4
      obtain ⟨b, us, rfl, eb, ra, _⟩ := r4.tup w3.bh
      obtain rfl := ra.strs
      exact ⟨a, b, zs, rfl, rfl, .inr eb, hz, fin _ hk⟩
    | _ => exact h4.elim
  | _ => exact h2.elim⟩
end
end BV

/-! The by-value layer, part k: writes to lists, f-strings, isinstance. -/
namespace BV
open PySem L2

/-! ### writes -/
def wrK (S : MS) (t : TV) (k : PV → (PV → MS) → Prop) : Prop := match t with
  | .slot i => (match S.sl[i]? with | some (.own x) => k x fun y => { S with sl := S.sl.set i (.own y) } | some (.slf x) => k x fun y => { S with sl := S.sl.set i (.slf y) } | _ => False)
  | .val p => (match p with | .cel n => (match S.c[n]? with | some x => k x fun y => { S with c := S.c.set n y } | none => False) | _ => False)
  | _ => False
def lstK (x : PV) (k : List PV → Prop) : Prop := match x with | .lst xs => k xs | _ => False
theorem wrK_stl (S : MS) (t : TV) (k : PV → (PV → MS) → Prop) (h : wrK S t k) : stl t = t := by
  cases t with
  | fresh x => exact h.elim
  | _ => rfl
section
variable {K : PySem.W.Frag} {A : An} {W W' : Wo} {S S' : MS} {σ : L2.St} {H H' : Hp}
theorem Wd.wr (w : Wd K A W S σ H) {t : TV} {v : V} {k : PV → (PV → MS) → Prop} (tv : TvR K A W S σ H t v) (h : wrK S t k) :
    ∃ p x up, v = .ref p ∧ (OwnR K W.ρ W.B H p x ∨ x = .bag) ∧ k x up ∧ ∀ o y, OwnR K W.ρ W.B (upd H p o) p y → Wd K A W (up y) σ (upd H p o) := by
  cases t with
  | slot i =>
    have h' : (match S.sl[i]? with | some (.own x) => k x fun y => { S with sl := S.sl.set i (.own y) } | some (.slf x) => k x fun y => { S with sl := S.sl.set i (.slf y) } | _ => False) := h
    have tv' : σ[i]? = some (some v) := tv
    cases q : S.sl[i]? with
    | none => rw [q] at h'; exact h'.elim
    | some s =>
      rw [q] at h'
      cases s with
      | own x =>
        obtain ⟨p, e, f1, f2, f3, f4⟩ := w.slot i _ q
        rw [tv'] at e; cases e
        exact ⟨p, x, _, rfl, .inl f3, h', fun o y ho => w.wrOwn q tv' ho⟩
      | slf x =>
        obtain ⟨p, e, f1, f2, f3, f4⟩ := w.slot i _ q
        rw [tv'] at e; cases e
        exact ⟨p, x, _, rfl, .inl f3, h', fun o y ho => w.wrSlf q tv' ho⟩
      | _ => exact h'.elim
  | val x =>
    cases x with
    | cel n =>
      have h' : (match S.c[n]? with | some x => k x fun y => { S with c := S.c.set n y } | none => False) := h
      cases q : S.c[n]? with
      | none => rw [q] at h'; exact h'.elim
      | some x =>
        rw [q] at h'
        cases tv with
        | cel hr =>
          obtain ⟨b, e1, e2, e3⟩ := w.cel n x q
          rw [hr] at e1; cases e1
          refine ⟨_, x, _, rfl, ?_, h', fun o y ho => w.wrCel q hr (.inl ho)⟩
          rcases e3 with e3 | ⟨e3, _⟩
          · exact .inl e3
          · exact .inr e3
    | _ => exact h.elim
  | _ => exact h.elim
theorem own_lst {p : Addr} {x : PV} {k : List PV → Prop} (o : OwnR K W.ρ W.B H p x ∨ x = .bag) (h : lstK x k) : ∃ us xs, H p = some (.lst us) ∧ RpA K W.ρ W.B us xs ∧ k xs ∧ x = .lst xs := by
  cases x with
  | lst xs =>
    rcases o with ⟨us, e, r⟩ | o
    · exact ⟨us, xs, e, r, h, rfl⟩
    · cases o
  | _ => exact h.elim
end
/-! ### methods that write a list -/
abbrev MF := List PV → List PV → (PV → List PV → Prop) → Prop
def wMut (f : MF) (wo : EW) (wr : AW) : EW := fun S P PX => wo S (fun t S1 => (wrK S1 t fun x _ => lstK x fun _ => True) ∧ wr S1 (fun ts S2 => kpAll S2 ts fun xs S3 => wrK S3 t fun x up => lstK x fun old => f old xs fun r new => P (.val r) (up (.lst new))) PX) PX
def MutR (X : Cx) (id : String) (f : MF) : Prop := ∃ r, MtR X id r ∧ ∀ {ρ : List Addr} {B H : Hp} {p : Addr} {vs us : List V} {xs old : List PV} {k : PV → List PV → Prop} {Q : VK}, Same B H → H p = some (.lst us) → RpA X.K ρ B us old → RpA X.K ρ B vs xs → f old xs k →
  (∀ v r us' new, RpA X.K ρ B us' new → Rp X.K ρ B v r → k r new → Q v (upd H p (.lst us'))) → r (.ref p) vs H Q
def mfAppend : MF := fun old xs k => match xs with | [y] => old.length < sizeLine ∧ k .non (old ++ [y]) | _ => False
def mfPop : MF := fun old xs k => match xs with | [] => (match old[old.length - 1]? with | some y => k y old.dropLast | none => False) | _ => False
def mfReverse : MF := fun old xs k => match xs with | [] => k .non old.reverse | _ => False
def mfInsert : MF := fun old xs k => match xs with | [i, y] => (match i with | .int i => (old.length < sizeLine ∧ 0 ≤ i ∧ i < 2 ^ 63) ∧ k .non (old.take i.toNat ++ [y] ++ old.drop i.toNat) | _ => False) | _ => False
def mfExtend : MF := fun old xs k => match xs with | [y] => (match y with | .lst zs => old.length + zs.length ≤ sizeLine ∧ k .non (old ++ zs) | _ => False) | _ => False
section
variable {X : Cx} {WW : WX} {o e : Expr} {es : List Expr} {wo : EW} {wr : AW} {f : MF} {id : String} {name : Str} {apos pos cpos : Pos}
theorem mut_append : MutR X "list.append" mfAppend := ⟨_, mt_append, fun {ρ B H p vs us xs old k Q} sb e ro rx h hq => by
  cases rx with
  | nil => exact h.elim
  | cons r1 r2 => cases r2 with
    | nil => exact ⟨p, us, _, rfl, rfl, e, by rw [ro.length]; exact h.1, hq _ _ _ _ (ro.snoc r1) .non h.2⟩
    | cons _ _ => exact h.elim⟩
theorem mut_pop : MutR X "list.pop" mfPop := ⟨_, mt_pop, fun {ρ B H p vs us xs old k Q} sb e ro rx h hq => by
  cases rx with
  | nil =>
    have h' : (match old[old.length - 1]? with | some y => k y old.dropLast | none => False) := h
    cases q : old[old.length - 1]? with
    | none => rw [q] at h'; exact h'.elim
    | some y =>
      rw [q] at h'
      obtain ⟨v, e1, r1⟩ := ro.get q
      exact ⟨p, us, v, rfl, rfl, e, by rw [ro.length]; exact e1, hq _ _ _ _ ro.dropLast r1 h'⟩
  | cons _ _ => exact h.elim⟩
theorem mut_reverse : MutR X "list.reverse" mfReverse := ⟨_, mt_reverse, fun {ρ B H p vs us xs old k Q} sb e ro rx h hq => by
  cases rx with
  | nil => exact ⟨p, us, rfl, rfl, e, hq _ _ _ _ ro.rev .non h⟩
  | cons _ _ => exact h.elim⟩
theorem mut_insert : MutR X "list.insert" mfInsert := ⟨_, mt_insert, fun {ρ B H p vs us xs old k Q} sb e ro rx h hq => by
  cases rx with
  | nil => exact h.elim
  | cons r1 r2 => cases r2 with
    | nil => exact h.elim
    | cons r2 r3 => cases r3 with
      | cons _ _ => exact h.elim
      | nil =>
        cases r1 with
        | int i => exact ⟨p, us, i, _, rfl, rfl, e, by rw [ro.length]; exact h.1.1, h.1.2.1, h.1.2.2, hq _ _ _ _ (((ro.take _).append (.cons r2 .nil)).append (ro.drop _)) .non h.2⟩
        | _ => exact h.elim⟩
theorem mut_extend : MutR X "list.extend" mfExtend := ⟨_, mt_extend, fun {ρ B H p vs us xs old k Q} sb e ro rx h hq => by
  cases rx with
  | nil => exact h.elim
  | cons r1 r2 => cases r2 with
    | cons _ _ => exact h.elim
    | nil =>
      cases r1 with
      | lst e1 r1 => exact ⟨p, _, us, _, rfl, rfl, e, sb _ _ e1, by rw [ro.length, r1.length]; exact h.1, hq _ _ _ _ (ro.append r1) .non h.2⟩
      | _ => exact h.elim⟩
theorem emb_mut {K : PySem.W.Frag} {r : V → List V → Hp → VK → Prop}
    (run : ∀ {ρ : List Addr} {B H : Hp} {p : Addr} {vs us : List V} {xs old : List PV} {k : PV → List PV → Prop} {Q : VK}, Same B H → H p = some (.lst us) → RpA K ρ B us old → RpA K ρ B vs xs → f old xs k → (∀ v r us' new, RpA K ρ B us' new → Rp K ρ B v r → k r new → Q v (upd H p (.lst us'))) → r (.ref p) vs H Q)
    {σ : L2.St} {H : Hp} {Q : VK} : embE K WW (wMut f wo wr) σ H Q → tBM K "list" r (embE K WW wo) (embA K WW wr) σ H Q := fun ⟨A, W, S, P, PX, wd, h, hp, hx⟩ => by
  refine ⟨A, W, S, _, PX, wd, h, fun t S1 v W1 H1 l1 w1 tv1 h1 => ?_, hx⟩
  obtain ⟨h1a, h1b⟩ := h1
  obtain ⟨p, x, up, rfl, ho, hk, _⟩ := w1.wr tv1 h1a
  obtain ⟨us, xs, e, _, _, _⟩ := own_lst ho hk
  refine ⟨.inl ⟨rfl, us, SqL.of e⟩, A, W1, S1, _, PX, w1, h1b, fun ts S2 vs W2 H2 l2 w2 tvs h2 => ?_, hx.le l1⟩
  obtain ⟨W3, S3, ys, l3, w3, ra, h3⟩ := w2.kpAll tvs h2
  have nf : ∀ x, t ≠ .fresh x := fun x e => by subst e; exact h3.elim
  obtain ⟨p', x', up', e', ho', hk', hw⟩ := w3.wr (tv1.le (S' := S3) (H' := H2) nf (l2.trans l3)) h3
  cases e'
  obtain ⟨us', old, e2, ro, hf, _⟩ := own_lst ho' hk'
  exact run w3.bh e2 ro ra hf fun v r us2 new rn rv kk => hp (.val r) _ v W3 _ ((l1.trans l2).trans l3) (hw _ (.lst new) ⟨us2, upd_same, rn⟩) rv kk
theorem em_mut (hm : MutR X id f) (slot : PySem.Slot "list" name id) (hty : typeOf (.builtin id) = pure (.type "method_descriptor")) (ho : EM X WW o wo) (ha : AM X WW (e :: es) wr)
    (hbase : attributeBase o name X.env (eval o X.env) = eval o X.env := by rfl)
    (hfew : ((backTo cpos (starEach (e :: es) X.env)).all (fun x => !x.1) && (backToKw cpos (keywordEach [] X.env)).all (fun x => x.1.isSome)
      && decide ((e :: es).length + ([] : List Keyword).length + (if ([] : List Keyword).isEmpty then 0 else 1) < 30)) = true := by rfl)
    (hline : (apos.endLine == cpos.line) = true := by rfl) (hs : starEach (e :: es) X.env = (false, eval e X.env) :: starEach es X.env := by rfl) (hplain : (backTo cpos (starEach es X.env)).any (·.1) = false := by rfl) :
    EM X WW (.Call (.Attribute o name apos) (e :: es) [] cpos) (wMut f wo wr) := by
  obtain ⟨r, hr, run⟩ := hm
  exact ⟨pe_imp (pe_bm F.plainAttrs_list slot hty hr ho.pe ha.pa hbase hfew hline hs hplain) fun _ _ _ => emb_mut run⟩
theorem em_mut0 (hm : MutR X id f) (slot : PySem.Slot "list" name id) (hty : typeOf (.builtin id) = pure (.type "method_descriptor")) (ho : EM X WW o wo)
    (hbase : attributeBase o name X.env (eval o X.env) = eval o X.env := by rfl) (hline : (apos.endLine == cpos.line) = true := by rfl) :
    EM X WW (.Call (.Attribute o name apos) [] [] cpos) (wMut f wo aNil) := by
  obtain ⟨r, hr, run⟩ := hm
  refine ⟨pe_imp (pe_bm0 F.plainAttrs_list slot hty hr ho.pe hbase hline) fun σ H Q ⟨A, W, S, P, PX, wd, h, hp, hx⟩ => ?_⟩
  refine ⟨A, W, S, _, PX, wd, h, fun t S1 v W1 H1 l1 w1 tv1 h1 => ?_, hx⟩
  obtain ⟨h1a, h1b⟩ := h1
  have h1c : wrK S1 t fun x up => lstK x fun old => f old [] fun r new => P (.val r) (up (.lst new)) := h1b
  obtain ⟨p', x', up', rfl, ho', hk', hw⟩ := w1.wr tv1 h1c
  obtain ⟨us', old, e2, ro, hf, _⟩ := own_lst ho' hk'
  exact ⟨.inl ⟨rfl, us', SqL.of e2⟩, run w1.bh e2 ro .nil hf fun v r us2 new rn rv kk => hp (.val r) _ v W1 _ l1 (hw _ (.lst new) ⟨us2, upd_same, rn⟩) rv kk⟩
end
/-! ### o[i] = e -/
def wSetIx (wo wi we : EW) : SW := fun S E => we S (fun t S1 => kpK S1 t fun v S2 => wo S2 (fun ot S3 => (wrK S3 ot fun _ _ => True) ∧ wi S3 (fun ti S4 => rdK S4 ti fun y => asInt y fun i => wrK S4 ot fun x up => lstK x fun old =>
  match ixN old.length i with | some j => E.nx (up (.lst (old.set j v))) | none => False) E.ex) E.ex) E.ex
section
variable {X : Cx} {WW : WX} {o i e : Expr} {wo wi we : EW} {tpos pos : Pos}
theorem sm_setIx (he : EM X WW e we) (ho : EM X WW o wo) (hi : EM X WW i wi)
    (ha : ∀ v, assign (.Subscript o i tpos) X.env v = (do
      let ov ← holding [v] (eval o X.env)
      let iv ← holding [v, ov] (eval i X.env)
      standAt tpos
      holding [v, ov, iv] (setItem ov iv v)
      release [v, ov, iv] []) := by intro _; rfl) (hs : swapsWithSole [.Subscript o i tpos] e pos.line X.env = pure false := by rfl) (hw : swappedStores [.Subscript o i tpos] e X.env = pure none := by rfl)
    (h1 : (assignEach [.Subscript o i tpos] X.env).map (·.2) = [assign (.Subscript o i tpos) X.env] := by rfl) : SM X WW (.Assign [.Subscript o i tpos] e pos) (wSetIx wo wi we) :=
  ⟨ps_imp (ps_asg he.pe (pg_sub ho.pe hi.pe set_list ha) hs hw h1) fun D σ H ⟨A, W, S, E, wd, h, k⟩ => by
    refine ⟨A, W, S, _, _, wd, h, fun t S1 v W1 H1 l1 w1 tv1 h1 => ?_, k.ex⟩
    obtain ⟨W2, S2, x, l2, w2, rv, h2⟩ := w1.kp tv1 h1
    refine ⟨A, W2, S2, _, _, w2, h2, fun ot S3 ov W3 H3 l3 w3 tv3 h3 => ?_, (k.le (l1.trans l2)).ex⟩
    obtain ⟨h3a, h3b⟩ := h3
    refine ⟨A, W3, S3, _, _, w3, h3b, fun ti S4 iv W4 H4 l4 w4 tv4 h4 => ?_, (k.le ((l1.trans l2).trans l3)).ex⟩
    obtain ⟨y, h5, r5⟩ := w4.rd tv4 h4
    cases y with
    | int j =>
      obtain rfl := r5.int
      have h5' : wrK S4 ot fun x_1 up => lstK x_1 fun old => match ixN old.length j with | some n => E.nx (up (.lst (old.set n x))) | none => False := h5
      have nf : ∀ x, ot ≠ .fresh x := fun x e => by subst e; exact h5'.elim
      obtain ⟨p, y, up, rfl, ow, hk, hw⟩ := w4.wr (tv3.le (S' := S4) (H' := H4) nf l4) h5'
      obtain ⟨us, old, e, ro, hf, _⟩ := own_lst ow hk
      cases q : ixN old.length j with
      | none => rw [q] at hf; exact hf.elim
      | some n =>
        rw [q] at hf
        exact ⟨p, us, j, n, rfl, rfl, e, by rw [ro.length]; exact q, k.nx _ W4 σ _ (((l1.trans l2).trans l3).trans l4) (hw _ (.lst (old.set n x)) ⟨_, upd_same, RpA.set (rv.mono (l3.trans l4).b (l3.trans l4).r) n ro⟩) hf⟩
    | _ => exact h5.elim⟩
end
/-! ### f-strings -/
def fmtK (x : PV) (k : Str → Prop) : Prop := match x with
  | .str y => y.length ≤ sizeLine ∧ k y
  | .int i => i.natAbs.log2 < 1920 ∧ k (toString i)
  | _ => False
def fmtRK (x : PV) (k : Str → Prop) : Prop := match x with
  | .str y => (reprText y).length ≤ sizeLine ∧ k (reprText y)
  | .int i => i.natAbs.log2 < 1920 ∧ k (toString i)
  | _ => False
def wFmt (w : EW) : EW := fun S P PX => w S (fun t S1 => rdK S1 t fun x => fmtK x fun z => P (.val (.str z)) S1) PX
def wFmtR (w : EW) : EW := fun S P PX => w S (fun t S1 => rdK S1 t fun x => fmtRK x fun z => P (.val (.str z)) S1) PX
def wJs : List EW → Str → MS → (Str → MS → Prop) → (Ex → MS → Prop) → Prop
  | [], acc, S, P, _ => P acc S
  | w :: ws, acc, S, P, PX => w S (fun t S1 => rdK S1 t fun x => strK x fun y => (acc ++ y).length ≤ sizeLine ∧ wJs ws (acc ++ y) S1 P PX) PX
def wFs (ws : List EW) : EW := fun S P PX => wJs ws Str.empty S (fun z S1 => P (.val (.str z)) S1) PX
structure JM (X : Cx) (WW : WX) (es : List Expr) (ws : List EW) : Prop where pj : PJ X es (ws.map (embE X.K WW))
section
variable {X : Cx} {WW : WX} {e v1 v2 : Expr} {es : List Expr} {w : EW} {ws : List EW} {pos : Pos}
theorem em_fmt (he : EM X WW e w) : EM X WW (.FormattedValue e (-1) none pos) (wFmt w) := ⟨pe_imp (pe_fmt he.pe) fun σ H Q ⟨A, W, S, P, PX, wd, h, hp, hx⟩ => by
  refine ⟨A, W, S, _, PX, wd, h, fun t S1 v W1 H1 l1 w1 tv1 h1 => ?_, hx⟩
  obtain ⟨x, h2, r⟩ := w1.rd tv1 h1
  cases x with
  | str z => exact .inl ⟨z, r.str, h2.1, hp (.val (.str _)) S1 _ W1 H1 l1 w1 (Rp.str _) h2.2⟩
  | int z => exact .inr ⟨z, r.int, h2.1, hp (.val (.str _)) S1 _ W1 H1 l1 w1 (Rp.str _) h2.2⟩
  | _ => exact h2.elim⟩
theorem em_fmtR (he : EM X WW e w) : EM X WW (.FormattedValue e 114 none pos) (wFmtR w) := ⟨pe_imp (pe_fmtR he.pe) fun σ H Q ⟨A, W, S, P, PX, wd, h, hp, hx⟩ => by
  refine ⟨A, W, S, _, PX, wd, h, fun t S1 v W1 H1 l1 w1 tv1 h1 => ?_, hx⟩
  obtain ⟨x, h2, r⟩ := w1.rd tv1 h1
  cases x with
  | str z => exact .inl ⟨z, r.str, h2.1, hp (.val (.str _)) S1 _ W1 H1 l1 w1 (Rp.str _) h2.2⟩
  | int z => exact .inr ⟨z, r.int, h2.1, hp (.val (.str _)) S1 _ W1 H1 l1 w1 (Rp.str _) h2.2⟩
  | _ => exact h2.elim⟩
theorem jm_nil : JM X WW [] [] := ⟨.nil⟩
theorem jm_cons (he : EM X WW e w) (hr : JM X WW es ws) : JM X WW (e :: es) (w :: ws) := ⟨.cons he.pe hr.pj⟩
theorem emb_js {K : PySem.W.Frag} {A : An} {σ : L2.St} {Q : Str → Hp → Prop} {PX : Ex → MS → Prop} : ∀ {ws : List EW} {acc : Str} {W : Wo} {S : MS} {H : Hp} {P : Str → MS → Prop}, Wd K A W S σ H → wJs ws acc S P PX →
    (∀ z S' W' H', W.le W' → Wd K A W' S' σ H' → P z S' → Q z H') → LkX K WW A W PX → tJs (ws.map (embE K WW)) acc σ H Q
  | [], acc, W, S, H, P, wd, h, hp, hx => hp acc S W H (Wo.le.refl _) wd h
  | w :: ws, acc, W, S, H, P, wd, h, hp, hx => by
    refine ⟨A, W, S, _, PX, wd, h, fun t S1 v W1 H1 l1 w1 tv1 h1 => ?_, hx⟩
    obtain ⟨x, h2, r⟩ := w1.rd tv1 h1
    cases x with
    | str z => exact ⟨z, r.str, h2.1, emb_js w1 h2.2 (fun z S' W' H' l => hp z S' W' H' (l1.trans l)) (hx.le l1)⟩
    | _ => exact h2.elim
theorem em_fs (h : JM X WW (v1 :: v2 :: es) ws) : EM X WW (.JoinedStr (v1 :: v2 :: es) pos) (wFs ws) := ⟨pe_imp (pe_joined h.pj) fun σ H Q ⟨A, W, S, P, PX, wd, h, hp, hx⟩ =>
  emb_js wd h (fun z S' W' H' l w' q => hp (.val (.str z)) S' _ W' H' l w' (Rp.str _) q) hx⟩
theorem em_fs1 (h : EM X WW e w) : EM X WW (.JoinedStr [e] pos) w := ⟨pe_joined1 h.pe⟩
end
/-! ### isinstance -/
/-- a class whose instances' type can be asked -/
structure ClsF (K : PySem.W.Frag) (C : Addr) : Prop where
  cl : Cls K C
  ha : PySem.W.findIn K (.ref C) "__class__" = some (some (.builtin "object.__class__"))
  hn : PySem.W.specialIn K (.builtin "object.__class__") "__get__" = some (some (.builtin "getset_descriptor.__get__"))
  ht : PySem.W.takesIn K (.builtin "object.__class__") = some true
  hm : PySem.W.mroIn K C (.type "object") = some true
def isiK (K : PySem.W.Frag) (u : Value) (x : PV) (b : Bool) : Prop := match x with
  | .non => PySem.W.kitOne K (.type "NoneType") u = some b
  | .bl _ => PySem.W.kitOne K (.type "bool") u = some b
  | .int _ => PySem.W.kitOne K (.type "int") u = some b
  | .str _ => PySem.W.kitOne K (.type "str") u = some b
  | .tup _ => PySem.W.kitOne K (.type "tuple") u = some b
  | .lst _ => PySem.W.kitOne K (.type "list") u = some b
  | .dct _ => PySem.W.kitOne K (.type "dict") u = some b
  | .obj C _ => ClsF K C ∧ PySem.W.kitOne K (.ref C) u = some b
  | _ => False
/-- the answers of isinstance(_, u) -/
def IsiF (K : PySem.W.Frag) (u : Value) (f : PV → Option Bool) : Prop := ∀ x b, f x = some b → isiK K u x b
def wIsi (f : PV → Option Bool) (we : EW) : EW := fun S P PX => we S (fun t S1 => rdK S1 t fun x => match f x with | some b => P (.val (.bl b)) S1 | none => False) PX
section
variable {K : PySem.W.Frag} {W : Wo} {H : Hp}
theorem tyX_of {v : V} {x : PV} {u : Value} {b : Bool} (r : RR K W H v x) (e : Same W.B H) (h : isiK K u x b) : ∃ t, TyX K H v t ∧ PySem.W.kitOne K t u = some b := by
  cases x with
  | non => exact ⟨_, by rw [r.non]; exact .base .non, h⟩
  | bl c => exact ⟨_, by rw [r.bl]; exact .base (.bl c), h⟩
  | int c => exact ⟨_, by rw [r.int]; exact .base (.int c), h⟩
  | str c => exact ⟨_, by rw [r.str]; exact .base (.str c), h⟩
  | lst xs =>
    obtain ⟨a, us, rfl, ea, _⟩ := r.lst e
    exact ⟨_, .base (.lst ea), h⟩
  | dct xs =>
    obtain ⟨a, us, rfl, ea, _⟩ := r.dct e
    exact ⟨_, .base (.dK ea), h⟩
  | tup xs =>
    obtain ⟨a, us, rfl, ea, _, _⟩ := r.tup e
    rcases ea with (ea | ⟨o, ea⟩) | ⟨o, its, n, ea, ec, _⟩
    · exact ⟨_, .base (.tup ea), h⟩
    · exact ⟨_, .fTuple ea, h⟩
    · exact ⟨_, .kTuple ea ec, h⟩
  | obj C fs =>
    obtain ⟨a, dx, us, rfl, ea, _⟩ := r.obj e
    exact ⟨_, .base (.ins ea h.1.cl h.1.ha h.1.hn h.1.ht h.1.hm), h.2⟩
  | _ => exact h.elim
end
section
variable {X : Cx} {WW : WX} {e c : Expr} {we : EW} {f : PV → Option Bool} {cv : V} {u : Value} {p pos : Pos}
theorem em_isi (hg : Gl X "isinstance") (hm : X.mg "isinstance" = none) (he : EM X WW e we) (hc : PE X c (tC cv)) (hv : ClsV cv u) (hf : IsiF X.K u f)
    (h1 : starEach [e, c] X.env = (false, eval e X.env) :: starEach [c] X.env := by rfl) (h2 : starEach [c] X.env = (false, eval c X.env) :: starEach [] X.env := by rfl) (hpl : (backTo pos (starEach [c] X.env)).any (·.1) = false := by rfl) :
    EM X WW (.Call (.Name "isinstance" p) [e, c] [] pos) (wIsi f we) := ⟨pe_imp (pe_callB call_isi hg hm (by rfl) (pa_cons he.pe (pa_cons hc pa_nil h2) h1) (by decide) (by decide) h1 hpl) fun σ H Q ⟨A, W, S, P, PX, wd, h, hp, hx⟩ => by
  refine ⟨A, W, S, _, PX, wd, h, fun t S1 v W1 H1 l1 w1 tv1 h1 => ?_, hx⟩
  obtain ⟨x, h2, r⟩ := w1.rd tv1 h1
  cases q : f x with
  | none => rw [q] at h2; exact h2.elim
  | some b =>
    rw [q] at h2
    obtain ⟨ty, k1, k2⟩ := tyX_of r w1.bh (hf x b q)
    exact ⟨v, cv, ty, u, b, rfl, hv, k1, k2, hp (.val (.bl b)) S1 _ W1 H1 l1 w1 (Rp.bl _) h2⟩⟩
end
/-- of a built-in type: not of own objects -/
def fTy (nn bb ii ss tt ll dd : Bool) : PV → Option Bool
  | .non => some nn
  | .bl _ => some bb
  | .int _ => some ii
  | .str _ => some ss
  | .tup _ => some tt
  | .lst _ => some ll
  | .dct _ => some dd
  | _ => none
section
variable {K : PySem.W.Frag}
theorem isi_ty {T : String} {nn bb ii ss tt ll dd : Bool} (h1 : kitB "NoneType" T = some nn) (h2 : kitB "bool" T = some bb) (h3 : kitB "int" T = some ii) (h4 : kitB "str" T = some ss) (h5 : kitB "tuple" T = some tt) (h6 : kitB "list" T = some ll) (h7 : kitB "dict" T = some dd) :
    IsiF K (.type T) (fTy nn bb ii ss tt ll dd) := fun x b h => by
  cases x with
  | non => cases h; exact kit_ty h1
  | bl c => cases h; exact kit_ty h2
  | int c => cases h; exact kit_ty h3
  | str c => cases h; exact kit_ty h4
  | tup c => cases h; exact kit_ty h5
  | lst c => cases h; exact kit_ty h6
  | dct c => cases h; exact kit_ty h7
  | _ => cases h
def fInt := fTy false true true false false false false
def fBool := fTy false true false false false false false
def fStr := fTy false false false true false false false
def fTup := fTy false false false false true false false
def fLst := fTy false false false false false true false
theorem isi_int : IsiF K (.type "int") fInt := isi_ty (by decide +kernel) (by decide +kernel) (by decide +kernel) (by decide +kernel) (by decide +kernel) (by decide +kernel) (by decide +kernel)
theorem isi_bool : IsiF K (.type "bool") fBool := isi_ty (by decide +kernel) (by decide +kernel) (by decide +kernel) (by decide +kernel) (by decide +kernel) (by decide +kernel) (by decide +kernel)
theorem isi_str : IsiF K (.type "str") fStr := isi_ty (by decide +kernel) (by decide +kernel) (by decide +kernel) (by decide +kernel) (by decide +kernel) (by decide +kernel) (by decide +kernel)
theorem isi_tup : IsiF K (.type "tuple") fTup := isi_ty (by decide +kernel) (by decide +kernel) (by decide +kernel) (by decide +kernel) (by decide +kernel) (by decide +kernel) (by decide +kernel)
theorem isi_lst : IsiF K (.type "list") fLst := isi_ty (by decide +kernel) (by decide +kernel) (by decide +kernel) (by decide +kernel) (by decide +kernel) (by decide +kernel) (by decide +kernel)
end
end BV

/-! The by-value layer, part l: own classes. -/
namespace BV
open PySem L2
open PySem.Spec PyProof.Rows

/-! ### an own object, read -/
def obK (S : MS) (x : PV) (k : Addr → List (Str × PV) → Prop) : Prop := match x with
  | .obj C fs => k C fs
  | .cel n => (match S.c[n]? with | some y => (match y with | .obj C fs => k C fs | _ => False) | none => False)
  | _ => False
def objK (S : MS) (t : TV) (k : Addr → List (Str × PV) → Prop) : Prop := rdK S t fun x => obK S x k
section
variable {K : PySem.W.Frag} {A : An} {W W' : Wo} {S S' : MS} {σ : L2.St} {H H' : Hp}
theorem Wd.ob (w : Wd K A W S σ H) {t : TV} {v : V} {k : Addr → List (Str × PV) → Prop} (tv : TvR K A W S σ H t v) (h : objK S t k) : ∃ p C dx us fs, v = .ref p ∧ H p = some (.ins C dx us) ∧ RpF K W.ρ W.B us fs ∧ k C fs := by
  obtain ⟨x, h1, r⟩ := w.rd tv h
  cases x with
  | obj C fs =>
    obtain ⟨a, dx, us, rfl, ea, ra⟩ := r.obj w.bh
    exact ⟨a, C, dx, us, fs, rfl, ea, ra, h1⟩
  | cel n =>
    have h1' : (match S.c[n]? with | some y => (match y with | .obj C fs => k C fs | _ => False) | none => False) := h1
    cases q : S.c[n]? with
    | none => rw [q] at h1'; exact h1'.elim
    | some y =>
      rw [q] at h1'
      cases y with
      | obj C fs =>
        obtain ⟨a, rfl, ha⟩ := r.cel
        obtain ⟨b, e1, e2, e3⟩ := w.cel n _ q
        rw [ha] at e1; cases e1
        rcases e3 with ⟨dx, us, ea, ra⟩ | ⟨e3, _⟩
        · exact ⟨_, C, dx, us, fs, rfl, ea, ra, h1'⟩
        · cases e3
      | _ => exact h1'.elim
  | _ => exact h1.elim
end
/-- the classes Cs have no attribute f of their own -/
def FldF (K : PySem.W.Frag) (Cs : List Addr) (f : Str) : Prop := ∀ C, C ∈ Cs → Cls K C ∧ NoAttr K C f
def wFld (Cs : List Addr) (f : Str) (we : EW) : EW := fun S P PX => we S (fun t S1 => objK S1 t fun C fs => C ∈ Cs ∧ match fs.lookup f with | some y => P (.val y) S1 | none => False) PX
/-- o.f = e -/
def objW (x : PV) (k : Addr → List (Str × PV) → Prop) : Prop := match x with | .obj C fs => k C fs | _ => False
def wSetF (Cs : List Addr) (f : Str) (wo we : EW) : SW := fun S E => we S (fun t S1 => kpK S1 t fun v S2 => wo S2 (fun ot S3 => wrK S3 ot fun x up => objW x fun C fs => (C ∈ Cs ∧ fs.length < 1000) ∧ E.nx (up (.obj C (putP f v fs)))) E.ex) E.ex
section
variable {X : Cx} {WW : WX} {o e value : Expr} {f : Str} {pos pos' : Pos} {we wo : EW} {Cs : List Addr}
theorem em_fld (hf : FldF X.K Cs f) (he : EM X WW e we) (hb : attributeBase e f X.env (eval e X.env) = eval e X.env := by rfl) : EM X WW (.Attribute e f pos) (wFld Cs f we) := ⟨pe_imp (pe_fld he.pe hb) fun σ H Q ⟨A, W, S, P, PX, wd, h, hp, hx⟩ => by
  refine ⟨A, W, S, _, PX, wd, h, fun t S1 v W1 H1 l1 w1 tv1 h1 => ?_, hx⟩
  obtain ⟨p, C, dx, us, fs, rfl, ea, ra, hc, h2⟩ := w1.ob tv1 h1
  cases q : fs.lookup f with
  | none => rw [q] at h2; exact h2.elim
  | some y =>
    rw [q] at h2
    obtain ⟨v, e1, r1⟩ := ra.look q
    exact ⟨p, C, dx, us, v, rfl, ea, (hf C hc).1, (hf C hc).2, e1, hp (.val y) S1 v W1 H1 l1 w1 r1 h2⟩⟩
theorem sm_fld (hf : FldF X.K Cs f) (ho : EM X WW o wo) (he : EM X WW value we) (hs : swapsWith value (some (.Attribute o f pos')) pos.line X.env = pure false := by rfl) : SM X WW (.Assign [.Attribute o f pos'] value pos) (wSetF Cs f wo we) :=
  ⟨ps_imp (ps_fld ho.pe he.pe hs) fun D σ H ⟨A, W, S, E, wd, h, k⟩ => by
    refine ⟨A, W, S, _, _, wd, h, fun t S1 v W1 H1 l1 w1 tv1 h1 => ?_, k.ex⟩
    obtain ⟨W2, S2, x, l2, w2, rv, h2⟩ := w1.kp tv1 h1
    refine ⟨A, W2, S2, _, _, w2, h2, fun ot S3 ov W3 H3 l3 w3 tv3 h3 => ?_, (k.le (l1.trans l2)).ex⟩
    obtain ⟨p, y, up, rfl, ow, hk, hw⟩ := w3.wr tv3 h3
    cases y with
    | obj C fs =>
      rcases ow with ⟨dx, us, ea, ra⟩ | ow
      · exact ⟨p, C, dx, us, rfl, ea, (hf C hk.1.1).1, (hf C hk.1.1).2, by rw [ra.length]; exact hk.1.2, k.nx _ W3 σ _ ((l1.trans l2).trans l3) (hw _ (.obj C (putP f x fs)) ⟨dx, _, upd_same, RpF.put (rv.mono l3.b l3.r) ra⟩) hk.2⟩
      · cases ow
    | _ => exact hk.elim⟩
end
/-! ### C(..) -/
/-- an __init__: the object is new and empty -/
def spI (K : PySem.W.Frag) (C : Addr) (n : Nat) (fw : FW) : Sp := fun vs H Q E => ∃ H1 x dx vs', vs = .ref x :: vs' ∧ H1 x = none ∧ H1 dx = none ∧ dx ≠ x ∧ H = upd (upd H1 dx (.own x)) x (.ins C dx []) ∧
  ∃ ρ B F c args rt ex, WdC K ρ B F c H1 ∧ vs'.length = n ∧ Paired (fun v s => ArgR K ρ B F v s) vs' args ∧ fw args c rt ex ∧
  (∀ r c' ρ' B' H', Out K ρ B H1 ρ' B' c' H' → ResR K ρ' B' H1 H' r (.ref x) → rt r c' → Q .non H') ∧
  (∀ y c' cls d ρ' B' H', Out K ρ B H1 ρ' B' c' H' → XR K ⟨ρ', B', B'⟩ H' y cls d → ex y c' → E cls d H')
/-- an __init__'s wp, from its body's -/
def slfK (S : MS) (k : TV → Prop) : Prop := match (S.sl[(0 : Nat)]? : Option Slot) with | some (.slf y) => k (.fresh y) | _ => False
def isNonT (t : TV) : Prop := match t with | .val p => (match p with | .non => True | _ => False) | _ => False
def fwI (C : Addr) (N n : Nat) (w : SW) : FW := fun args c rt ex => args.length = n ∧ w ⟨.slf (.obj C []) :: (args ++ List.replicate (N - (args.length + 1)) .emp), c⟩
  { nx := fun S => slfK S fun r => rt r S.c, rt := fun t S => isNonT t ∧ slfK S fun r => rt r S.c, bk := fun _ => False, ct := fun _ => False, ex := fun x S => ex x S.c }
section
variable {K : PySem.W.Frag}
theorem args_get {ρ : List Addr} {B F : Hp} : ∀ {vs : List V} {args : List Slot} {i : Nat} {s : Slot}, Paired (fun v s => ArgR K ρ B F v s) vs args → args[i]? = some s → ∃ v, vs[i]? = some v ∧ ArgR K ρ B F v s := by
  intro vs args i s h
  induction h generalizing i with
  | nil => intro e; simp at e
  | cons r _ ih =>
    intro e
    cases i with
    | zero =>
      simp at e; subst e
      exact ⟨_, rfl, r⟩
    | succ i =>
      simp at e
      obtain ⟨v, e1, e2⟩ := ih e
      exact ⟨v, by simpa using e1, e2⟩
theorem args_noH {ρ : List Addr} {B F : Hp} {vs : List V} {args : List Slot} {n i : Nat} {s : Slot} (h : Paired (fun v s => ArgR K ρ B F v s) vs args) (e : (args ++ List.replicate n .emp)[i]? = some s) (hh : s.isH = true) : False := by
  by_cases hi : i < args.length
  · rw [List.getElem?_append_left hi] at e
    obtain ⟨v, _, r⟩ := args_get h e
    cases s with
    | own x => exact r
    | lent x => exact r
    | slf x => exact r
    | _ => cases hh
  · rw [List.getElem?_append_right (by omega), List.getElem?_replicate] at e
    split at e
    · cases e; cases hh
    · cases e
/-- an __init__'s beginning -/
theorem enterI {ρ : List Addr} {B F H1 : Hp} {c : List PV} {vs : List V} {args : List Slot} {n : Nat} {x dx C : Addr} (w : WdC K ρ B F c H1) (h : Paired (fun v s => ArgR K ρ B F v s) vs args) (hx : H1 x = none) (hd : H1 dx = none) (ne : dx ≠ x) :
    Wd K ⟨ρ, B, F, upd H1 dx (.own x), fun _ => none, fun i => if i = 0 then some x else none⟩ ⟨ρ, B, F⟩ ⟨.slf (.obj C []) :: (args ++ List.replicate n .emp), c⟩ (some (.ref x) :: (vs.map some ++ List.replicate n none)) (upd (upd H1 dx (.own x)) x (.ins C dx [])) := by
  have w0 := enter (n := n) w h
  have k1 : Same H1 (upd H1 dx (.own x)) := same_upd hd
  have ux : upd H1 dx (.own x) x = none := by rw [upd_ne (Ne.symm ne)]; exact hx
  have k2 : Same (upd H1 dx (.own x)) (upd (upd H1 dx (.own x)) x (.ins C dx [])) := same_upd ux
  have k := k1.trans k2
  have fx : F x = none := w.fh.free hx
  have rx : x ∉ ρ := fun q => by
    obtain ⟨_, o, e⟩ := w0.rhoSome q
    rw [hx] at e; cases e
  refine ⟨w.bf, w.fh.trans k, w.cl, w.nd, fun m y e => ?_, ?_, fun i s e => ?_, fun i j p y z nij e1 e2 h1 h2 z1 z2 => ?_, fun i p y e => (by cases e), Pre.refl _, Same.refl _, Same.refl _, fun a o e _ => k2 a o e, fun a o e e0 => ?_, fun a m r => absurd m r, fun a o e e0 => ?_⟩
  · obtain ⟨a, e1, e2, e3⟩ := w.cel m y e
    exact ⟨a, e1, e2, e3.mono (Same.refl _) (Pre.refl _) fun _ z => k _ _ z⟩
  · show (some (V.ref x) :: (vs.map some ++ List.replicate n none)).length = (Slot.slf (.obj C []) :: (args ++ List.replicate n .emp)).length
    have q : (vs.map some ++ List.replicate n (none : Option V)).length = (args ++ List.replicate n Slot.emp).length := w0.sl
    rw [List.length_cons, List.length_cons, q]
  · cases i with
    | zero =>
      have e' : some (Slot.slf (.obj C [])) = some s := e
      cases e'
      exact ⟨x, rfl, fx, rx, ⟨dx, [], upd_same, .nil⟩, ux, by show (if 0 = 0 then some x else none) = some x; rw [if_pos rfl], rfl⟩
    | succ i =>
      have e' : (args ++ List.replicate n .emp)[i]? = some s := e
      have z := w0.slot i s e'
      cases s with
      | emp => exact trivial
      | exc a d C fs => exact z
      | val y => exact z
      | bor y => exact z
      | own y => exact (args_noH h e' rfl).elim
      | lent y => exact (args_noH h e' rfl).elim
      | slf y => exact (args_noH h e' rfl).elim
  · cases i with
    | zero => cases j with
      | zero => exact nij rfl
      | succ j => exact args_noH h (show (args ++ List.replicate n .emp)[j]? = some z from e2) h2
    | succ i => exact args_noH h (show (args ++ List.replicate n .emp)[i]? = some y from e1) h1
  · have e1 : B a = some o := e
    have e2 : B a = none := e0
    rw [e1] at e2; cases e2
  · have e1 : F a = some o := e
    have e2 : F a = none := e0
    rw [e1] at e2; cases e2
theorem Out.less {ρ ρ' : List Addr} {B B' H1 H0 H' : Hp} {c' : List PV} (o : Out K ρ B H0 ρ' B' c' H') (l : Same H1 H0) : Out K ρ B H1 ρ' B' c' H' :=
  ⟨o.r, o.b, o.bh, o.cl, o.nd, o.cel, fun a u e r => o.keep a u (l a u e) r, fun a u e e0 => l.free (o.new a u e e0), fun a m r => l.free (o.newr a m r)⟩
theorem Wd.slf {A : An} {W : Wo} {S : MS} {σ : L2.St} {H : Hp} {x : Addr} {k : TV → Prop} (w : Wd K A W S σ H) (hf : A.fix 0 = some x) (h : slfK S k) : ∃ r, k r ∧ ∀ H1, Same H1 A.H0 → ResR K W.ρ W.B H1 H r (.ref x) := by
  have h' : (match (S.sl[(0 : Nat)]? : Option Slot) with | some (.slf y) => k (.fresh y) | _ => False) := h
  cases q : (S.sl[(0 : Nat)]? : Option Slot) with
  | none => rw [q] at h'; exact h'.elim
  | some s =>
    rw [q] at h'
    cases s with
    | slf y =>
      obtain ⟨p, e, f1, f2, f3, f4, f5, _⟩ := w.slot 0 _ q
      rw [hf] at f5; cases f5
      exact ⟨.fresh y, h', fun H1 l => ⟨_, rfl, w.bf.free f1, f2, f3, l.free f4⟩⟩
    | _ => exact h'.elim
theorem spI_of {N : List Str} {n : Nat} {C : Addr} {w : SW} {vs : List V} {H : Hp} {Q : VK} {E : XK} (h : spI K C n (fwI C N.length n w) vs H Q E) :
    embS K (fun cls d _ H => E cls d H) w { nx := fun _ H' => Q .non H', rt := Q } (start N vs) H := by
  obtain ⟨H1, x, dx, vs', rfl, hx, hd, ne, rfl, ρ, B, F, c, args, rt, ex, wc, hl, hp, ⟨hn, hw⟩, h1, h2⟩ := h
  have wd := enterI (C := C) (n := N.length - (vs'.length + 1)) wc hp hx hd ne
  have hl2 : vs'.length = args.length := Paired.length hp
  rw [← hl2] at hw
  have l : Same H1 (upd H1 dx (.own x)) := same_upd hd
  have f0 : (fun i => if i = 0 then some x else none : Nat → Option Addr) 0 = some x := by rfl
  refine ⟨_, _, _, _, wd, hw, fun S' W' σ' H' _ w' q => ?_, fun t S' v W' σ' H' _ w' tv q => ?_, fun _ _ _ _ _ _ q => q.elim, fun _ _ _ _ _ _ q => q.elim, fun y S' cls d W' σ' H' _ w' xr q => ?_⟩
  · have q' : slfK S' fun r => rt r S'.c := q
    obtain ⟨r, k, rr⟩ := w'.slf f0 q'
    exact h1 r S'.c _ _ _ (w'.out.less l) (rr H1 l) k
  · have q' : isNonT t ∧ slfK S' fun r => rt r S'.c := q
    obtain ⟨q1, q2⟩ := q'
    have ev : v = .non := by
      cases t with
      | val p => cases p with
        | non => cases tv; rfl
        | _ => exact q1.elim
      | _ => exact q1.elim
    subst ev
    obtain ⟨r, k, rr⟩ := w'.slf f0 q2
    exact h1 r S'.c _ _ _ (w'.out.less l) (rr H1 l) k
  · exact h2 y S'.c cls d _ _ _ (w'.out.less l) xr q
end
section
variable {P : Program} {w : World} {K : PySem.W.Frag} {mg : Str → Option Value} {base : Heap}
/-- an __init__ that keeps its by-value promise; n: its parameters but self -/
structure FI (P : Program) (w : World) (K : PySem.W.Frag) (mg : Str → Option Value) (base : Heap) (k : Nat) (C f : Addr) (fd : FuncData) (ps : List Str) (n : Nat) (fw : FW) : Prop where
  ok : FnG P w K mg base (L2.CX P w) k f fd ps (spI K C n fw)
theorem FI.imp {k : Nat} {C f : Addr} {fd : FuncData} {ps : List Str} {n : Nat} {fw fw' : FW} (F : FI P w K mg base k C f fd ps n fw) (h : ∀ args c rt ex, fw' args c rt ex → fw args c rt ex) : FI P w K mg base k C f fd ps n fw' :=
  ⟨F.ok.imp fun vs H Q E ⟨H1, x, dx, vs', e1, e2, e3, e4, e5, ρ, B, F, c, args, rt, ex, wc, hl, hp, hw, h1, h2⟩ => ⟨H1, x, dx, vs', e1, e2, e3, e4, e5, ρ, B, F, c, args, rt, ex, wc, hl, hp, h _ _ _ _ hw, h1, h2⟩⟩
theorem FI.mono {j k : Nat} {C f : Addr} {fd : FuncData} {ps : List Str} {n : Nat} {fw : FW} (F : FI P w K mg base j C f fd ps n fw) (h : j ≤ k) : FI P w K mg base k C f fd ps n fw := ⟨F.ok.mono h⟩
end
section
variable {X : Cx} {WW : WX} {k : Nat} {C f : Addr} {fd : FuncData} {ps : List Str} {n : Nat} {fw : FW} {x : Str} {p pos : Pos} {e : Expr} {es : List Expr} {wr : AW}
theorem run_mk {sp : Sp} {E : XK} {pins : List (Addr × Obj)} {σ : L2.St} {H : Hp} {s : Shared} {Q : VK} {us : List Value} {vs : List V} (M : Mk X.K C f) (F : FnG X.prog X.w X.K X.mg X.base (L2.CX X.prog X.w) k f fd ps sp) (hr : RoomG (k + 1) X.A) (hb : Binds X.K fd ps [])
    (hx : PassesAt (L2.CX X.prog X.w) X σ E) (I : Inv X pins σ H s) (r : Vals vs us)
    (h : ∀ y dy, H y = none → H dy = none → dy ≠ y → sp (.ref y :: vs) (upd (upd H dy (.own y)) y (.ins C dy [])) (fun v H2 => v = .non ∧ Q (.ref y) H2) E) : wpAny (model X.prog X.w) X.A (call (.ref C) us) (EP X pins σ Q) X.xe s := by
  have hq := h (s.heap.objs.size + 1) s.heap.objs.size (I.hok.fresh (Nat.le_succ _)) (I.hok.fresh (Nat.le_refl _)) (Nat.ne_of_lt (Nat.lt_succ_self _))
  have made := Inv.made (C := C) I
  have rr : Vals (V.ref (s.heap.objs.size + 1) :: vs) (Value.ref (s.heap.objs.size + 1) :: us) := .cons rfl r
  have hl : (Value.ref (s.heap.objs.size + 1) :: us).length = ps.length := by
    have z := rr.length
    rw [F.len _ _ _ _ hq] at z
    exact z.symm
  have hb' := hb _ (Value.ref (s.heap.objs.size + 1) :: us) made.kIn (by rw [List.append_nil]; exact hl)
  rw [List.append_nil] at hb'
  have run := F.run _ X.stack _ _ ⟨Value.ref (s.heap.objs.size + 1) :: us, []⟩ (Value.ref (s.heap.objs.size + 1) :: us) _ _ E (hr.make C us []) (made.env0.make C us []) hb' rr hq
  refine wpAny_call (make_map (f := f) I.kIn M.makes M.init (beq_iff_eq.mp M.fn) (codeAny_mono run fun r s' hq' => ?_))
  cases r with
  | error e => exact hx pins _ _ e s' made hq'
  | ok fl =>
    cases fl with
    | ret u =>
      obtain ⟨v, H', I3, rv, ev, q3⟩ := made.after hq'
      subst ev
      exact ⟨rv, ⟨V.ref (s.heap.objs.size + 1), H', I3, rfl, q3⟩⟩
    | _ => exact False.elim hq'
def tMk (C : Addr) (sp : Sp) (E : L2.St → XK) (t : TA) : TE := fun σ H Q => t σ H fun vs H1 => ∀ y dy, H1 y = none → H1 dy = none → dy ≠ y → sp (.ref y :: vs) (upd (upd H1 dy (.own y)) y (.ins C dy [])) (fun v H2 => v = .non ∧ Q (.ref y) H2) (E σ)
theorem pe_mkS {sp : Sp} {E : L2.St → XK} {t : TA} (M : Mk X.K C f) (F : FnG X.prog X.w X.K X.mg X.base (L2.CX X.prog X.w) k f fd ps sp) (hr : RoomG (k + 1) X.A) (hg : Gl X x) (hm : X.mg x = some (.ref C)) (hb : Binds X.K fd ps []) (hx : ∀ σ, PassesAt (L2.CX X.prog X.w) X σ (E σ))
    (ha : PA X (e :: es) t) (hdb : (x == ("__debug__" : Str)) = false := by decide) (he : starEach (e :: es) X.env = (false, eval e X.env) :: starEach es X.env := by rfl) (hpl : (backTo pos (starEach es X.env)).any (·.1) = false := by rfl) :
    PE X (.Call (.Name x p) (e :: es) [] pos) (tMk C sp E t) := by
  refine ⟨fun pins s σ H Q I h => wpAny_Call_Name_kw (ld_glob I hg hm ?_ hdb)⟩
  exact PySem.W.callWith_K (h₀ := X.base) I.ok.mod.kin M.kp (thn (ha.run pos pins s σ H _ I h) fun us s1 ⟨vs, H1, I1, r, q⟩ => ⟨I1.kIn, run_mk M F hr hb (hx σ) I1 r q⟩) he hpl
theorem em_make (M : Mk X.K C f) (F : FI X.prog X.w X.K X.mg X.base k C f fd ps n fw) (hr : RoomG (k + 1) X.A) (tk : Takes X WW) (hg : Gl X x) (hm : X.mg x = some (.ref C)) (hb : Binds X.K fd ps []) (ha : AM X WW (e :: es) wr)
    (hdb : (x == ("__debug__" : Str)) = false := by decide) (he : starEach (e :: es) X.env = (false, eval e X.env) :: starEach es X.env := by rfl) (hpl : (backTo pos (starEach es X.env)).any (·.1) = false := by rfl) :
    EM X WW (.Call (.Name x p) (e :: es) [] pos) (wCall n fw wr) := ⟨pe_imp (pe_mkS M F.ok hr hg hm hb (fun σ => passAt tk σ) ha.pa hdb he hpl) fun σ H Q ⟨A, W, S, P, PX, wd, h, hp, hx⟩ => by
  refine ⟨A, W, S, _, PX, wd, h, fun ts S1 vs W1 H1 l1 w1 tv1 h1 => ?_, hx⟩
  intro y dy ny nd ne
  obtain ⟨as, ⟨hn, hw⟩, ha⟩ := w1.args tv1 h1
  refine ⟨H1, y, dy, vs, rfl, ny, nd, ne, rfl, W1.ρ, W1.B, _, S1.c, as, _, _, w1.toC, (Paired.length ha).trans hn, ha, hw, fun r c' ρ' B' H' o rr q => ⟨rfl, ?_⟩, fun z c' cls d ρ' B' H' o xr q => ?_⟩
  · obtain ⟨l2, w2⟩ := w1.called o
    exact hp r _ _ _ H' (l1.trans l2) w2 (w1.result o rr) q
  · obtain ⟨l2, w2⟩ := w1.called o
    exact hx z _ cls d _ σ H' (l1.trans l2) w2 xr q⟩
end
end BV

/-! The by-value layer, part m: methods, special methods. -/
namespace PySem.W
open PyProof.Rows PySem.Calls
section
variable {prog : Program} {w : World} {A : Around} {E : Value → Shared → Prop} {s : Shared} {K : Frag} {x C L f : Addr} {h₀ : Heap} {m : Str → Option Value} {ox : Obj} {od : Option Obj} {b tb : Value}
open Builtin
theorem bv_bound {M : Model} {name : Str} {id : String} {args : List Value} {Q : Option Value → Shared → Prop} (X : K.In s.heap) (I : InstAt s.heap x ox C od) (hs : findIn K (.ref C) name = some (some (.builtin id)))
    (hb : ∀ self, bindSpecial (.builtin id) self = pure (.builtin id, [self])) (h : wpAny M A (call (.builtin id) (.ref x :: args)) (fun v => Q (some v)) E s) : wpAny M A (callSpecialIfBound? (.ref x) name args) Q E s := by
  simp only [callSpecialIfBound?, bindSpecialIfBound?]
  refine wpAny_holding (wpAny_bind (wpAny_bind (wpAny_bind (I.type.here ((looks_findIn X hs).here ?_)))))
  refine wpAny_bind (wpAny_askSetting (wpAny_ite ?_))
  have fin : wpAny M A (call (.builtin id) ([.ref x] ++ args) >>= fun v => pure (some v)) Q E s := wpAny_bind (wpAny_mono h (fun v s' z => wpAny_pure z) fun _ _ z => z)
  split
  · exact wpAny_bind ((Looks.of_pure (hb _)).here (wpAny_pure (by exact fin)))
  · exact wpAny_tryCatch (wpAny_bind ((Looks.of_pure (hb _)).here (wpAny_pure (by exact fin))))
/-- != of an own object whose class has __eq__ and no __ne__ -/
theorem bv_ne {Q : Value → Shared → Prop} (hu : A.units < cLine) (hu1 : A.in1.units < cLine) (F : Fr h₀ L s.heap m) (X₀ : K.In h₀) (I : InstAt s.heap x ox C od) (hb : Looks (model prog w) s.heap (typeOf b) tb) (hn : notFirst K C tb = true)
    (hs : findIn K (.ref C) "__ne__" = some (some (.builtin "object.__ne__"))) (hm : mroIn K C (.type "object") = some true) (he : findIn K (.ref C) "__eq__" = some (some (.ref f))) (hf : isFn K (.ref f) = true)
    (h : wpAny (model prog w) A.in1 (call (.ref f) [.ref x, b]) (fun v s' => ∃ r, v = .bool r ∧ Q (.bool (!r)) s') E s) : wpAny (model prog w) A (richCompare .NotEq (.ref x) b) Q E s := by
  have X := X₀.keeps F.keep
  have run : wpAny (model prog w) A (call (.builtin "object.__ne__") [.ref x, b]) (fun v s' => ∃ r, v = .bool r ∧ Q (.bool r) s') E s := by
    refine wpAny_call (codeAny_call_builtin PySem.F.cmp_object.ne.plain PySem.F.cmpEntry_ne (check_slot (i := "object.__ne__") (owner := "object") (n := "__ne__") PySem.F.cmpKind_ne PySem.F.cmpSplit_ne (I.type.andThen (looks_mroIn X hm)) (PySem.F.cmpArgs_ne _ _) ?_))
    unfold Builtin.«object.__ne__»
    refine wpAny_bind (m := slotArgs "__ne__" 1 _) (wpAny_pure ?_)
    refine wpAny_bind (m := cRoomFor _ _) (wpAny_cRoomFor hu1 ?_)
    refine wpAny_bind (m := callSpecialIfBound? (.ref x) (Str.ofString "__eq__") _) (ifBound_K X I he hf (wpAny_mono h (fun v s' hq => ?_) fun _ _ y => y))
    obtain ⟨r, rfl, q⟩ := hq
    exact wpAny_bind (wpAny_truthy_bool (wpAny_pure ⟨_, rfl, q⟩))
  have one : wpAny (model prog w) A (tryCompare (.ref x) (cmpInfo .NotEq).2.1 b) (fun r s' => ∃ v, r = some v ∧ Q v s') E s := by
    unfold tryCompare
    refine wpAny_bind (bv_bound X I hs PySem.F.cmp_object.ne.bind (wpAny_mono run (fun v s' z => ?_) fun _ _ z => z))
    obtain ⟨r, rfl, q⟩ := z
    exact wpAny_pure ⟨_, rfl, q⟩
  unfold richCompare
  simp only [oneThing_ref]
  refine wpAny_holding (wpAny_bind (wpAny_cRoomFor hu ?_))
  refine wpAny_bind (I.type.here (wpAny_bind (hb.here ?_)))
  split
  · rename_i q
    have e : subIn K tb (.ref C) = some false := by
      rcases Bool.or_eq_true_iff.mp hn with e | e
      · rw [beq_iff_eq.mp e] at q; simp at q
      · exact beq_iff_eq.mp e
    refine wpAny_bind ((looks_subIn X e).here ?_)
    simp only [Bool.false_eq_true, if_false]
    refine wpAny_bind (wpAny_mono one (fun r s' z => ?_) fun _ _ e => e)
    obtain ⟨v, rfl, hq⟩ := z
    exact wpAny_pure hq
  · refine wpAny_bind (wpAny_pure ?_)
    simp only [Bool.false_eq_true, if_false]
    refine wpAny_bind (wpAny_mono one (fun r s' z => ?_) fun _ _ e => e)
    obtain ⟨v, rfl, hq⟩ := z
    exact wpAny_pure hq
end
end PySem.W
namespace BV
open PySem L2
open PySem.Spec PyProof.Rows
theorem noneAt {X : Cx} (σ : L2.St) : PassesAt (L2.CX X.prog X.w) X σ (fun _ _ _ => False) := passAt (W := fun _ _ _ _ => False) takes0 σ
section
variable {X : Cx} {k : Nat} {f : Addr} {fd : FuncData} {ps : List Str} {sp : Sp} {A : Around}
/-- a def runs somewhere below the body -/
theorem run_at {E : XK} {pins : List (Addr × Obj)} {σ : L2.St} {H : Hp} {s : Shared} {Q : VK} {us : List Value} {vs : List V} (F : FnG X.prog X.w X.K X.mg X.base (L2.CX X.prog X.w) k f fd ps sp) (hr : RoomG k A) (fr : A.frames = X.A.frames) (hb : Binds X.K fd ps [])
    (hx : PassesAt (L2.CX X.prog X.w) X σ E) (I : Inv X pins σ H s) (r : Vals vs us) (h : sp vs H Q E) : wpAny (model X.prog X.w) A (call (.ref f) us) (EP X pins σ Q) X.xe s := by
  have hl : us.length = ps.length := by rw [← r.length]; exact F.len _ _ _ _ h
  have b := hb s us I.kIn (by rw [List.append_nil]; exact hl)
  rw [List.append_nil] at b
  have e0 : Env0 X.prog X.w X.K X.mg X.base A X.stack s H := by
    have e := I.env0
    exact ⟨by rw [fr]; exact e.frames, e.mod, e.bs, e.bsz, e.funs, e.frf, e.hok, e.bare⟩
  refine wpAny_call (codeAny_mono (F.run A X.stack s H ⟨us, []⟩ us vs Q E hr e0 b r h) fun r s' hq => ?_)
  cases r with
  | error e => exact hx pins H s e s' I hq
  | ok fl =>
    cases fl with
    | ret u => exact I.after hq
    | _ => exact False.elim hq
theorem looks_of {pins : List (Addr × Obj)} {σ : L2.St} {H : Hp} {s : Shared} {y : V} {u t : Value} (I : Inv X pins σ H s) (ry : RelV y u) (ty : TyX X.K H y t) : PySem.W.Looks (model X.prog X.w) s.heap (typeOf u) t := by
  obtain ⟨P, Z, p, _⟩ := kit_of I ry ty
  exact Z.ty _ _ I.kIn p
/-- an instance stands -/
theorem inst_of {pins : List (Addr × Obj)} {σ : L2.St} {H : Hp} {s : Shared} {a C dx : Addr} {fs : List (Str × V)} (I : Inv X pins σ H s) (e : H a = some (.ins C dx fs)) : ∃ ox od, PySem.W.InstAt s.heap a ox C od := by
  obtain ⟨mA, J, _⟩ := ins_get I.hok e
  obtain ⟨od, J, _⟩ := J.look
  exact ⟨_, od, J⟩
end
/-! ### what is told by a special method's answer -/
def eB (g : Bool → Bool) (v : V) (k : V → Prop) : Prop := ∃ b, v = .bl b ∧ k (.bl (g b))
def eI (v : V) (k : V → Prop) : Prop := ∃ n : Int, v = .int n ∧ (0 ≤ n ∧ n < 2 ^ 63) ∧ k (.int n)
def eS (v : V) (k : V → Prop) : Prop := ∃ z, v = .str z ∧ k (.str z)
def pB (g : Bool → Bool) (r : TV) (k : TV → Prop) : Prop := match r with | .val p => (match p with | .bl b => k (.val (.bl (g b))) | _ => False) | _ => False
def pI (r : TV) (k : TV → Prop) : Prop := match r with | .val p => (match p with | .int n => (0 ≤ n ∧ n < 2 ^ 63) ∧ k (.val (.int n)) | _ => False) | _ => False
def pS (r : TV) (k : TV → Prop) : Prop := match r with | .val p => (match p with | .str z => k (.val (.str z)) | _ => False) | _ => False
/-- the two agree -/
def Post (post : TV → (TV → Prop) → Prop) (e : V → (V → Prop) → Prop) : Prop := ∀ (K : PySem.W.Frag) (ρ : List Addr) (B H H' : Hp) r v (k : TV → Prop) (kv : V → Prop), ResR K ρ B H H' r v → post r k → (∀ p u, Rp K ρ B u p → k (.val p) → kv u) → e v kv
theorem post_B (g : Bool → Bool) : Post (pB g) (eB g) := fun K ρ B H H' r v k kv h p q => by
  cases r with
  | val x => cases x with
    | bl b => cases h; exact ⟨b, rfl, q _ _ (.bl _) p⟩
    | _ => exact p.elim
  | _ => exact p.elim
theorem post_I : Post pI eI := fun K ρ B H H' r v k kv h p q => by
  cases r with
  | val x => cases x with
    | int b => cases h; exact ⟨b, rfl, p.1, q _ _ (.int _) p.2⟩
    | _ => exact p.elim
  | _ => exact p.elim
theorem post_S : Post pS eS := fun K ρ B H H' r v k kv h p q => by
  cases r with
  | val x => cases x with
    | str b => cases h; exact ⟨b, rfl, q _ _ (.str _) p⟩
    | _ => exact p.elim
  | _ => exact p.elim
def spP (e : V → (V → Prop) → Prop) (sp : Sp) (vs : List V) (H : Hp) (Q : VK) : Prop := sp vs H (fun v H2 => e v fun u => Q u H2) (fun _ _ _ => False)
/-- a special method called on the values there -/
theorem Wd.spec {K : PySem.W.Frag} {A : An} {W : Wo} {S : MS} {σ : L2.St} {H : Hp} {ts : List TV} {vs : List V} {n : Nat} {fw : FW} {post : TV → (TV → Prop) → Prop} {e : V → (V → Prop) → Prop} {P : TV → MS → Prop} {Q : VK} (w : Wd K A W S σ H) (hp : Post post e) (tv : TvRs K A W S σ H ts vs)
    (h : argK S ts fun as => as.length = n ∧ fw as S.c (fun r c' => post r fun r' => P r' { S with c := c' }) (fun _ _ => False)) (hq : ∀ p S' v W' H', W.le W' → Wd K A W' S' σ H' → Rp K W'.ρ W'.B v p → P (.val p) S' → Q v H') : spP e (spM K n fw) vs H Q := by
  obtain ⟨as, ⟨hn, hw⟩, ha⟩ := w.args tv h
  refine ⟨W.ρ, W.B, _, S.c, as, _, _, w.toC, (Paired.length ha).trans hn, ha, hw, fun r c' v ρ' B' H' o rr q => ?_, fun _ _ _ _ _ _ _ _ _ q => q.elim⟩
  obtain ⟨l2, w2⟩ := w.called o
  exact hp K ρ' B' H H' r v _ _ rr q fun p u rp kp => hq p _ u _ H' l2 w2 rp kp
/-! ### len(o), repr(o) -/
def wSp1 (C : Addr) (fw : FW) (post : TV → (TV → Prop) → Prop) (we : EW) : EW := fun S P PX => we S (fun t S1 => (objK S1 t fun C' _ => C' = C) ∧ argK S1 [stl t] fun as => as.length = 1 ∧ fw as S1.c (fun r c' => post r fun r' => P r' { S1 with c := c' }) (fun _ _ => False)) PX
def tSp1 (C : Addr) (e : V → (V → Prop) → Prop) (sp : Sp) (te : TE) : TE := fun σ H Q => te σ H fun x H1 => (∃ a dx fs, x = .ref a ∧ H1 a = some (.ins C dx fs)) ∧ spP e sp [x] H1 Q
section
variable {X : Cx} {WW : WX} {k : Nat} {C f : Addr} {fd : FuncData} {ps : List Str} {fw : FW} {e a b : Expr} {we wa wb : EW} {p pos : Pos}
theorem emb_sp1 {K : PySem.W.Frag} {post : TV → (TV → Prop) → Prop} {ev : V → (V → Prop) → Prop} (hp : Post post ev) {σ : L2.St} {H : Hp} {Q : VK} : embE K WW (wSp1 C fw post we) σ H Q → tSp1 C ev (spM K 1 fw) (embE K WW we) σ H Q := fun ⟨A, W, S, P, PX, wd, h, hq, hx⟩ => by
  refine ⟨A, W, S, _, PX, wd, h, fun t S1 v W1 H1 l1 w1 tv1 h1 => ?_, hx⟩
  obtain ⟨h1a, h1b⟩ := h1
  obtain ⟨q, C', dx, us, fs, rfl, ea, ra, rfl⟩ := w1.ob tv1 h1a
  obtain ⟨W2, l2, w2, tv2⟩ := w1.stl tv1
  exact ⟨⟨q, dx, us, rfl, ea⟩, w2.spec hp (.cons ⟨tv2, stl_nf _⟩ .nil) h1b fun p S' v W' H' l w' rp k => hq (.val p) S' v W' H' ((l1.trans l2).trans l) w' rp k⟩
theorem em_lenO (F : FM X.prog X.w X.K X.mg X.base k f fd ps fw) (hr : RoomG (k + 1) X.A) (hg : Gl X "len") (hm : X.mg "len" = none) (hps : ps.length = 1) (hs : PySem.W.findIn X.K (.ref C) "__len__" = some (some (.ref f))) (hf : PySem.W.isFn X.K (.ref f) = true) (hb : Binds X.K fd ps []) (he : EM X WW e we)
    (h1 : starEach [e] X.env = (false, eval e X.env) :: starEach [] X.env := by rfl) (hpl : (backTo pos (starEach [] X.env)).any (·.1) = false := by rfl) : EM X WW (.Call (.Name "len" p) [e] [] pos) (wSp1 C fw pI we) := by
  have hp : PE X (.Call (.Name "len" p) [e] [] pos) (tSp1 C eI (spM X.K 1 fw) (embE X.K WW we)) := by
    refine ⟨fun pins s σ H Q I h => ?_⟩
    refine wpAny_Call_Name_kw (ld_blt I hg hm (by rfl) ?_ (by decide) (by decide))
    refine PyProof.Rows.callWith_builtin1 (thn ((pa_cons he.pe pa_nil h1).run pos pins s σ H (oneV fun x H1 => (∃ a dx fs, x = .ref a ∧ H1 a = some (.ins C dx fs)) ∧ spP eI (spM X.K 1 fw) [x] H1 Q) I h) fun us s1 ⟨vs, H1, I1, r1, q1⟩ => ?_) h1 hpl
    obtain ⟨v, rfl, ⟨a, dx, fs, rfl, ea⟩, q⟩ := oneV_get q1
    obtain ⟨u, rfl, ru⟩ := vals1 r1
    cases ru
    obtain ⟨ox, od, J⟩ := inst_of I1 ea
    obtain ⟨m, hF⟩ := I1.fr
    refine PySem.W.len_K hF I1.ok.mod.kin J hs hf (wpAny_mono (run_at F.ok hr.in1 rfl hb (noneAt σ) I1 (.cons (show RelV (V.ref a) (Value.ref a) from rfl) .nil) (by rw [hps]; exact q)) (fun v s2 z => ?_) fun _ _ z => z)
    obtain ⟨z, H2, I2, rz, n, rfl, hn, q2⟩ := z
    obtain ⟨t, rfl⟩ := rz
    exact ⟨hn, .int n, H2, I2.tok _, ⟨_, rfl⟩, q2⟩
  exact ⟨pe_imp hp fun _ _ _ => emb_sp1 post_I⟩
theorem em_reprO (F : FM X.prog X.w X.K X.mg X.base k f fd ps fw) (hr : RoomG (k + 1) X.A) (hg : Gl X "repr") (hm : X.mg "repr" = none) (hps : ps.length = 1) (hs : PySem.W.findIn X.K (.ref C) "__repr__" = some (some (.ref f))) (hf : PySem.W.isFn X.K (.ref f) = true) (hb : Binds X.K fd ps []) (he : EM X WW e we)
    (h1 : starEach [e] X.env = (false, eval e X.env) :: starEach [] X.env := by rfl) (hpl : (backTo pos (starEach [] X.env)).any (·.1) = false := by rfl) : EM X WW (.Call (.Name "repr" p) [e] [] pos) (wSp1 C fw pS we) := by
  have hp : PE X (.Call (.Name "repr" p) [e] [] pos) (tSp1 C eS (spM X.K 1 fw) (embE X.K WW we)) := by
    refine ⟨fun pins s σ H Q I h => ?_⟩
    refine wpAny_Call_Name_kw (ld_blt I hg hm (by rfl) ?_ (by decide) (by decide))
    refine PyProof.Rows.callWith_builtin1 (thn ((pa_cons he.pe pa_nil h1).run pos pins s σ H (oneV fun x H1 => (∃ a dx fs, x = .ref a ∧ H1 a = some (.ins C dx fs)) ∧ spP eS (spM X.K 1 fw) [x] H1 Q) I h) fun us s1 ⟨vs, H1, I1, r1, q1⟩ => ?_) h1 hpl
    obtain ⟨v, rfl, ⟨a, dx, fs, rfl, ea⟩, q⟩ := oneV_get q1
    obtain ⟨u, rfl, ru⟩ := vals1 r1
    cases ru
    obtain ⟨ox, od, J⟩ := inst_of I1 ea
    obtain ⟨m, hF⟩ := I1.fr
    refine PySem.W.repr_K hr.in1.units0 hF I1.ok.mod.kin J hs hf (wpAny_mono (run_at F.ok hr.in1 rfl hb (noneAt σ) I1 (.cons (show RelV (V.ref a) (Value.ref a) from rfl) .nil) (by rw [hps]; exact q)) (fun v s2 z => ?_) fun _ _ z => z)
    obtain ⟨z, H2, I2, rz, n, rfl, q2⟩ := z
    obtain ⟨t, rfl⟩ := rz
    exact ⟨.str n, H2, I2, ⟨_, rfl⟩, q2⟩
  exact ⟨pe_imp hp fun _ _ _ => emb_sp1 post_S⟩
end
/-! ### o == x, o != x, x in o, x not in o -/
/-- types that do not take the comparison away -/
structure NfF (K : PySem.W.Frag) (C : Addr) (Ds : List Addr) : Prop where
  nn : PySem.W.notFirst K C (.type "NoneType") = true
  bb : PySem.W.notFirst K C (.type "bool") = true
  ii : PySem.W.notFirst K C (.type "int") = true
  ss : PySem.W.notFirst K C (.type "str") = true
  tt : PySem.W.notFirst K C (.type "tuple") = true
  ll : PySem.W.notFirst K C (.type "list") = true
  dd : PySem.W.notFirst K C (.type "dict") = true
  oo : ∀ D, D ∈ Ds → ClsF K D ∧ PySem.W.notFirst K C (.ref D) = true
def nfK (Ds : List Addr) (S : MS) (x : PV) : Prop := match x with
  | .obj D _ => D ∈ Ds
  | .cel n => (match S.c[n]? with | some y => (match y with | .obj D _ => D ∈ Ds | .lst _ => True | .dct _ => True | _ => False) | none => False)
  | .bag => False
  | .scr _ => False
  | _ => True
section
variable {K : PySem.W.Frag} {A : An} {W : Wo} {S : MS} {σ : L2.St} {H : Hp} {C : Addr} {Ds : List Addr}
theorem NfF.ty (nf : NfF K C Ds) (w : Wd K A W S σ H) {v : V} {x : PV} (r : RR K W H v x) (h : nfK Ds S x) : ∃ t, TyX K H v t ∧ PySem.W.notFirst K C t = true := by
  have e := w.bh
  cases x with
  | non => exact ⟨_, by rw [r.non]; exact .base .non, nf.nn⟩
  | bl c => exact ⟨_, by rw [r.bl]; exact .base (.bl c), nf.bb⟩
  | int c => exact ⟨_, by rw [r.int]; exact .base (.int c), nf.ii⟩
  | str c => exact ⟨_, by rw [r.str]; exact .base (.str c), nf.ss⟩
  | lst xs =>
    obtain ⟨a, us, rfl, ea, _⟩ := r.lst e
    exact ⟨_, .base (.lst ea), nf.ll⟩
  | dct xs =>
    obtain ⟨a, us, rfl, ea, _⟩ := r.dct e
    exact ⟨_, .base (.dK ea), nf.dd⟩
  | tup xs =>
    obtain ⟨a, us, rfl, ea, _, _⟩ := r.tup e
    rcases ea with (ea | ⟨o, ea⟩) | ⟨o, its, n, ea, ec, _⟩
    · exact ⟨_, .base (.tup ea), nf.tt⟩
    · exact ⟨_, .fTuple ea, nf.tt⟩
    · exact ⟨_, .kTuple ea ec, nf.tt⟩
  | obj D fs =>
    obtain ⟨a, dx, us, rfl, ea, _⟩ := r.obj e
    obtain ⟨cf, hn⟩ := nf.oo D h
    exact ⟨_, .base (.ins ea cf.cl cf.ha cf.hn cf.ht cf.hm), hn⟩
  | cel n =>
    have h1' : (match S.c[n]? with | some y => (match y with | .obj D _ => D ∈ Ds | .lst _ => True | .dct _ => True | _ => False) | none => False) := h
    obtain ⟨a, rfl, ha⟩ := r.cel
    cases q : S.c[n]? with
    | none => rw [q] at h1'; exact h1'.elim
    | some y =>
      rw [q] at h1'
      obtain ⟨b, e1, e2, e3⟩ := w.cel n _ q
      rw [ha] at e1; cases e1
      rcases e3 with e3 | ⟨rfl, _⟩
      · cases y with
        | obj D fs =>
          obtain ⟨dx, us, ea, _⟩ := e3
          obtain ⟨cf, hn⟩ := nf.oo D h1'
          exact ⟨_, .base (.ins ea cf.cl cf.ha cf.hn cf.ht cf.hm), hn⟩
        | lst xs =>
          obtain ⟨us, ea, _⟩ := e3
          exact ⟨_, .base (.lst ea), nf.ll⟩
        | dct xs =>
          obtain ⟨us, ea, _⟩ := e3
          exact ⟨_, .base (.dK ea), nf.dd⟩
        | _ => exact h1'.elim
      · exact h1'.elim
  | bag => exact h.elim
  | scr _ => exact h.elim
end
def wEqO (g : Bool → Bool) (C : Addr) (Ds : List Addr) (fw : FW) (wa wb : EW) : EW := fun S P PX => wa S (fun ta S1 => wb S1 (fun tb S2 => (objK S2 (stl ta) fun C' _ => C' = C) ∧ (rdK S2 tb fun y => nfK Ds S2 y) ∧ argK S2 [stl ta, stl tb] fun as => as.length = 2 ∧ fw as S2.c (fun r c' => pB g r fun r' => P r' { S2 with c := c' }) (fun _ _ => False)) PX) PX
def wInO (g : Bool → Bool) (C : Addr) (fw : FW) (wa wb : EW) : EW := fun S P PX => wa S (fun ta S1 => wb S1 (fun tb S2 => (objK S2 (stl tb) fun C' _ => C' = C) ∧ argK S2 [stl tb, stl ta] fun as => as.length = 2 ∧ fw as S2.c (fun r c' => pB g r fun r' => P r' { S2 with c := c' }) (fun _ _ => False)) PX) PX
def rEqO (K : PySem.W.Frag) (g : Bool → Bool) (C : Addr) (sp : Sp) : R2 := fun x y H Q => (∃ a dx fs, x = .ref a ∧ H a = some (.ins C dx fs)) ∧ (∃ t, TyX K H y t ∧ PySem.W.notFirst K C t = true) ∧ spP (eB g) sp [x, y] H Q
def rInO (g : Bool → Bool) (C : Addr) (sp : Sp) : R2 := fun x y H Q => (∃ a dx fs, y = .ref a ∧ H a = some (.ins C dx fs)) ∧ spP (eB g) sp [y, x] H Q
section
variable {X : Cx} {WW : WX} {k : Nat} {C f : Addr} {Ds : List Addr} {fd : FuncData} {ps : List Str} {fw : FW} {a b : Expr} {wa wb : EW} {pos : Pos}
theorem op_eqO (F : FM X.prog X.w X.K X.mg X.base k f fd ps fw) (hr : RoomG k X.A) (hps : ps.length = 2) (hs : PySem.W.findIn X.K (.ref C) "__eq__" = some (some (.ref f))) (hf : PySem.W.isFn X.K (.ref f) = true) (hb : Binds X.K fd ps []) : OpR X (compareOp .Eq) (rEqO X.K id C (spM X.K 2 fw)) := by
  intro pins s σ H x y u v Q I rx ry ⟨⟨a, dx, fs, ex, ea⟩, ⟨t, ht, hn⟩, q⟩
  subst ex
  cases rx
  obtain ⟨ox, od, J⟩ := inst_of I ea
  obtain ⟨m, hF⟩ := I.fr
  refine PySem.W.cmp_K (op := .Eq) hr.units0 hF I.ok.mod.kin J (looks_of I ry ht) hn hs hf (wpAny_mono (run_at F.ok hr rfl hb (noneAt σ) I (.cons (show RelV (V.ref a) (Value.ref a) from rfl) (.cons ry .nil)) (by rw [hps]; exact q)) (fun v s2 z => ?_) fun _ _ z => z)
  obtain ⟨z, H2, I2, rz, n, rfl, q2⟩ := z
  cases rz
  exact ⟨.bl n, H2, I2, rfl, q2⟩
theorem op_neO (F : FM X.prog X.w X.K X.mg X.base k f fd ps fw) (hr : RoomG (k + 1) X.A) (hps : ps.length = 2) (hs : PySem.W.findIn X.K (.ref C) "__eq__" = some (some (.ref f))) (hf : PySem.W.isFn X.K (.ref f) = true) (hb : Binds X.K fd ps [])
    (hne : PySem.W.findIn X.K (.ref C) "__ne__" = some (some (.builtin "object.__ne__"))) (hm : PySem.W.mroIn X.K C (.type "object") = some true) : OpR X (compareOp .NotEq) (rEqO X.K (!·) C (spM X.K 2 fw)) := by
  intro pins s σ H x y u v Q I rx ry ⟨⟨a, dx, fs, ex, ea⟩, ⟨t, ht, hn⟩, q⟩
  subst ex
  cases rx
  obtain ⟨ox, od, J⟩ := inst_of I ea
  obtain ⟨m, hF⟩ := I.fr
  refine PySem.W.bv_ne hr.units0 hr.in1.units0 hF I.ok.mod.kin J (looks_of I ry ht) hn hne hm hs hf (wpAny_mono (run_at F.ok hr.in1 rfl hb (noneAt σ) I (.cons (show RelV (V.ref a) (Value.ref a) from rfl) (.cons ry .nil)) (by rw [hps]; exact q)) (fun v s2 z => ?_) fun _ _ z => z)
  obtain ⟨z, H2, I2, rz, n, rfl, q2⟩ := z
  cases rz
  exact ⟨n, rfl, .bl _, H2, I2, rfl, q2⟩
theorem op_inO (F : FM X.prog X.w X.K X.mg X.base k f fd ps fw) (hr : RoomG k X.A) (hps : ps.length = 2) (hs : PySem.W.findIn X.K (.ref C) "__contains__" = some (some (.ref f))) (hf : PySem.W.isFn X.K (.ref f) = true) (hb : Binds X.K fd ps []) :
    OpR X (compareOp .In) (rInO id C (spM X.K 2 fw)) ∧ OpR X (compareOp .NotIn) (rInO (!·) C (spM X.K 2 fw)) := by
  constructor
  · intro pins s σ H x y u v Q I rx ry ⟨⟨a, dx, fs, ex, ea⟩, q⟩
    subst ex
    cases ry
    obtain ⟨ox, od, J⟩ := inst_of I ea
    obtain ⟨m, hF⟩ := I.fr
    refine PySem.W.in_K hF I.ok.mod.kin J hs hf (wpAny_mono (run_at F.ok hr rfl hb (noneAt σ) I (.cons (show RelV (V.ref a) (Value.ref a) from rfl) (.cons rx .nil)) (by rw [hps]; exact q)) (fun v s2 z => ?_) fun _ _ z => z)
    obtain ⟨z, H2, I2, rz, n, rfl, q2⟩ := z
    cases rz
    exact wpAny_truthy_bool ⟨.bl n, H2, I2, rfl, q2⟩
  · intro pins s σ H x y u v Q I rx ry ⟨⟨a, dx, fs, ex, ea⟩, q⟩
    subst ex
    cases ry
    obtain ⟨ox, od, J⟩ := inst_of I ea
    obtain ⟨m, hF⟩ := I.fr
    refine PySem.W.notIn_K hF I.ok.mod.kin J hs hf (wpAny_mono (run_at F.ok hr rfl hb (noneAt σ) I (.cons (show RelV (V.ref a) (Value.ref a) from rfl) (.cons rx .nil)) (by rw [hps]; exact q)) (fun v s2 z => ?_) fun _ _ z => z)
    obtain ⟨z, H2, I2, rz, n, rfl, q2⟩ := z
    cases rz
    exact wpAny_truthy_bool ⟨.bl _, H2, I2, rfl, q2⟩
theorem emb_eqO {K : PySem.W.Frag} (nf : NfF K C Ds) {g : Bool → Bool} {σ : L2.St} {H : Hp} {Q : VK} : embE K WW (wEqO g C Ds fw wa wb) σ H Q → tOp (rEqO K g C (spM K 2 fw)) (embE K WW wa) (embE K WW wb) σ H Q := fun ⟨A, W, S, P, PX, w, h, hq, hx⟩ => by
  refine ⟨A, W, S, _, PX, w, h, fun t S1 v W1 H1 l1 w1 tv1 h1 => ?_, hx⟩
  obtain ⟨W2, l2, w2, tv2⟩ := w1.stl tv1
  refine ⟨A, W2, S1, _, PX, w2, h1, fun t2 S2 u W3 H3 l3 w3 tv3 h3 => ?_, hx.le (l1.trans l2)⟩
  obtain ⟨h3a, h3b, h3c⟩ := h3
  have tv4 := tv2.le (S' := S2) (H' := H3) (stl_nf _) l3
  obtain ⟨q, C', dx, us, fs, rfl, ea, ra, rfl⟩ := w3.ob tv4 h3a
  obtain ⟨y, hy, ry⟩ := w3.rd tv3 h3b
  obtain ⟨W5, l5, w5, tv5⟩ := w3.stl tv3
  refine ⟨⟨q, dx, us, rfl, ea⟩, nf.ty w3 ry hy, w5.spec (post_B g) (.cons ⟨tv4.le (stl_nf _) l5, stl_nf _⟩ (.cons ⟨tv5, stl_nf _⟩ .nil)) h3c fun p S' v W' H' l w' rp k => hq (.val p) S' v W' H' ((((l1.trans l2).trans l3).trans l5).trans l) w' rp k⟩
theorem emb_inO {K : PySem.W.Frag} {g : Bool → Bool} {σ : L2.St} {H : Hp} {Q : VK} : embE K WW (wInO g C fw wa wb) σ H Q → tOp (rInO g C (spM K 2 fw)) (embE K WW wa) (embE K WW wb) σ H Q := fun ⟨A, W, S, P, PX, w, h, hq, hx⟩ => by
  refine ⟨A, W, S, _, PX, w, h, fun t S1 v W1 H1 l1 w1 tv1 h1 => ?_, hx⟩
  obtain ⟨W2, l2, w2, tv2⟩ := w1.stl tv1
  refine ⟨A, W2, S1, _, PX, w2, h1, fun t2 S2 u W3 H3 l3 w3 tv3 h3 => ?_, hx.le (l1.trans l2)⟩
  obtain ⟨h3a, h3c⟩ := h3
  obtain ⟨W5, l5, w5, tv5⟩ := w3.stl tv3
  have tv4 := tv2.le (S' := S2) (H' := H3) (stl_nf _) (l3.trans l5)
  obtain ⟨q, C', dx, us, fs, rfl, ea, ra, rfl⟩ := w5.ob tv5 h3a
  refine ⟨⟨q, dx, us, rfl, ea⟩, w5.spec (post_B g) (.cons ⟨tv5, stl_nf _⟩ (.cons ⟨tv4, stl_nf _⟩ .nil)) h3c fun p S' v W' H' l w' rp k => hq (.val p) S' v W' H' ((((l1.trans l2).trans l3).trans l5).trans l) w' rp k⟩
/-- a comparison that an own special method answers -/
theorem em_eqO {op : CmpOp} {g : Bool → Bool} (nf : NfF X.K C Ds) (ho : OpR X (compareOp op) (rEqO X.K g C (spM X.K 2 fw))) (ha : EM X WW a wa) (hb : EM X WW b wb) (hm : behindInMarks op b = false := by first | exact nomark _ | rfl) : EM X WW (.Compare a [op] [b] pos) (wEqO g C Ds fw wa wb) :=
  ⟨pe_imp (pe_cmpR ho ha.pe hb.pe hm) fun _ _ _ => emb_eqO nf⟩
theorem tm_eqO {op : CmpOp} {g : Bool → Bool} (nf : NfF X.K C Ds) (ho : OpR X (compareOp op) (rEqO X.K g C (spM X.K 2 fw))) (ha : EM X WW a wa) (hb : EM X WW b wb) (hm : behindInMarks op b = false := by first | exact nomark _ | rfl) : TM X WW (.Compare a [op] [b] pos) (wTest (wEqO g C Ds fw wa wb)) :=
  ⟨pt_imp (pt_cmpR ho ha.pe hb.pe hm) fun σ H Q ⟨A, W, S, P, PX, w, h, hp, hx⟩ => by
    refine emb_eqO nf ⟨A, W, S, _, PX, w, h, fun t S1 v W1 H1 l1 w1 tv1 h1 => ?_, hx⟩
    obtain ⟨x, h2, r⟩ := w1.rd tv1 h1
    cases x with
    | bl b =>
      obtain rfl := r.bl
      exact ⟨b, rfl, hp b S1 W1 H1 l1 w1 h2⟩
    | _ => exact h2.elim⟩
theorem em_inO {op : CmpOp} {g : Bool → Bool} (ho : OpR X (compareOp op) (rInO g C (spM X.K 2 fw))) (ha : EM X WW a wa) (hb : EM X WW b wb) (hm : behindInMarks op b = false := by first | exact nomark _ | rfl) : EM X WW (.Compare a [op] [b] pos) (wInO g C fw wa wb) :=
  ⟨pe_imp (pe_cmpR ho ha.pe hb.pe hm) fun _ _ _ => emb_inO⟩
theorem tm_inO {op : CmpOp} {g : Bool → Bool} (ho : OpR X (compareOp op) (rInO g C (spM X.K 2 fw))) (ha : EM X WW a wa) (hb : EM X WW b wb) (hm : behindInMarks op b = false := by first | exact nomark _ | rfl) : TM X WW (.Compare a [op] [b] pos) (wTest (wInO g C fw wa wb)) :=
  ⟨pt_imp (pt_cmpR ho ha.pe hb.pe hm) fun σ H Q ⟨A, W, S, P, PX, w, h, hp, hx⟩ => by
    refine emb_inO ⟨A, W, S, _, PX, w, h, fun t S1 v W1 H1 l1 w1 tv1 h1 => ?_, hx⟩
    obtain ⟨x, h2, r⟩ := w1.rd tv1 h1
    cases x with
    | bl b =>
      obtain rfl := r.bl
      exact ⟨b, rfl, hp b S1 W1 H1 l1 w1 h2⟩
    | _ => exact h2.elim⟩
end
/-! ### o.m(..) -/
def wMeth (C : Addr) (m : Str) (n : Nat) (fw : FW) (wo : EW) (wr : AW) : EW := fun S P PX => wo S (fun t S1 => (objK S1 t fun C' fs => C' = C ∧ fs.lookup m = none) ∧ wr S1 (fun ts S2 => argK S2 (stl t :: ts) fun as => as.length = n ∧ fw as S2.c (fun r c' => P r { S2 with c := c' }) (fun x c' => PX x { S2 with c := c' })) PX) PX
def tMt (C : Addr) (m : Str) (sp : Sp) (E : L2.St → XK) (ta : TE) (t : TA) : TE := fun σ H Q => ta σ H fun x H1 => (∃ a dx fs, x = .ref a ∧ H1 a = some (.ins C dx fs) ∧ fs.lookup m = none) ∧ t σ H1 fun vs H2 => sp (x :: vs) H2 Q (E σ)
section
variable {X : Cx} {WW : WX} {k : Nat} {C f : Addr} {fd : FuncData} {ps : List Str} {fw : FW} {m : Str} {o e : Expr} {es : List Expr} {wo : EW} {wr : AW} {apos pos : Pos}
theorem emb_meth {K : PySem.W.Frag} {n : Nat} {σ : L2.St} {H : Hp} {Q : VK} : embE K WW (wMeth C m n fw wo wr) σ H Q → tMt C m (spM K n fw) (WE WW) (embE K WW wo) (embA K WW wr) σ H Q := fun ⟨A, W, S, P, PX, wd, h, hp, hx⟩ => by
  refine ⟨A, W, S, _, PX, wd, h, fun t S1 v W1 H1 l1 w1 tv1 h1 => ?_, hx⟩
  obtain ⟨h1a, h1b⟩ := h1
  obtain ⟨q, C', dx, us, fs, rfl, ea, ra, rfl, hl⟩ := w1.ob tv1 h1a
  obtain ⟨W2, l2, w2, tv2⟩ := w1.stl tv1
  refine ⟨⟨q, dx, us, rfl, ea, ra.lookN hl⟩, A, W2, S1, _, PX, w2, h1b, fun ts S2 vs W3 H3 l3 w3 tvs h3 => ?_, hx.le (l1.trans l2)⟩
  obtain ⟨as, ⟨hn, hw⟩, ha⟩ := w3.args (TvRs.le (.cons ⟨tv2, stl_nf _⟩ .nil) l3 |> fun z => by cases z with | cons z1 z2 => exact .cons z1 tvs) h3
  have ll := (l1.trans l2).trans l3
  refine ⟨W3.ρ, W3.B, _, S2.c, as, _, _, w3.toC, (Paired.length ha).trans hn, ha, hw, fun r c' v ρ' B' H' o rr q => ?_, fun x c' cls d ρ' B' H' o xr q => ?_⟩
  · obtain ⟨l2, w2⟩ := w3.called o
    exact hp r _ v _ H' (ll.trans l2) w2 (w3.result o rr) q
  · obtain ⟨l2, w2⟩ := w3.called o
    exact hx x _ cls d _ σ H' (ll.trans l2) w2 xr q
theorem em_meth {pl : Sem Bool} (c : Cls X.K C) (hm : Meth X.K C m f) (F : FM X.prog X.w X.K X.mg X.base k f fd ps fw) (hr : RoomG k X.A) (tk : Takes X WW) (hb : Binds X.K fd ps []) (ho : EM X WW o wo) (ha : AM X WW (e :: es) wr)
    (hst : starEach (e :: es) X.env = (false, eval e X.env) :: starEach es X.env := by rfl) (hpl : (backTo pos (starEach es X.env)).any (·.1) = false := by rfl)
    (ht : eval (.Call (.Attribute o m apos) (e :: es) [] pos) X.env = (do
      let ov ← eval o X.env
      standAt apos.atName
      let (f, first) ← holding [ov] (getMethod ov m pl)
      callWith pos f first (backTo pos (starEach (e :: es) X.env)) (backToKw pos (keywordEach [] X.env))) := by rfl) :
    EM X WW (.Call (.Attribute o m apos) (e :: es) [] pos) (wMeth C m ps.length fw wo wr) := by
  have hp : PE X (.Call (.Attribute o m apos) (e :: es) [] pos) (tMt C m (spM X.K ps.length fw) (WE WW) (embE X.K WW wo) (embA X.K WW wr)) := by
    refine ⟨fun pins s σ H Q I h => PySem.W.methodCall_KW (pl := pl) (thn (ho.pe.run pins s σ H _ I h) fun u s1 ⟨x, H1, I1, rx, ⟨a, dx, fs, ex, ea, l⟩, q⟩ => ?_) ht⟩
    subst ex
    cases rx
    refine getmeth_ok I1 ea c hm l (PySem.W.callWith_K (first := [.ref a]) (h₀ := X.base) I.ok.mod.kin hm.kp (thn (ha.pa.run pos pins s1 σ H1 _ I1 q) fun us s2 ⟨vs, H2, I2, r, q2⟩ => ⟨I2.kIn, ?_⟩) hst hpl)
    exact run_fnG (us := .ref a :: us) (vs := .ref a :: vs) (E := WE WW) F.ok hr hb (passAt tk σ) I2 (.cons rfl r) q2
  exact ⟨pe_imp hp fun _ _ _ => emb_meth⟩
theorem em_meth0 {pl : Sem Bool} (c : Cls X.K C) (hm : Meth X.K C m f) (F : FM X.prog X.w X.K X.mg X.base k f fd ps fw) (hr : RoomG k X.A) (tk : Takes X WW) (hb : Binds X.K fd ps []) (ho : EM X WW o wo)
    (ht : eval (.Call (.Attribute o m apos) [] [] pos) X.env = (do
      let ov ← eval o X.env
      standAt apos.atName
      let (f, first) ← holding [ov] (getMethod ov m pl)
      callWith pos f first (backTo pos (starEach [] X.env)) (backToKw pos (keywordEach [] X.env))) := by rfl) :
    EM X WW (.Call (.Attribute o m apos) [] [] pos) (wMeth C m ps.length fw wo aNil) := by
  have hp : PE X (.Call (.Attribute o m apos) [] [] pos) (tMt C m (spM X.K ps.length fw) (WE WW) (embE X.K WW wo) (embA X.K WW aNil)) := by
    refine ⟨fun pins s σ H Q I h => PySem.W.methodCall_KW (pl := pl) (thn (ho.pe.run pins s σ H _ I h) fun u s1 ⟨x, H1, I1, rx, ⟨a, dx, fs, ex, ea, l⟩, q⟩ => ?_) ht⟩
    subst ex
    cases rx
    obtain ⟨A, W, S, P, PX, w, hh, hp', hx⟩ := q
    have q := hp' [] S [] W H1 (Wo.le.refl _) w .nil hh
    exact getmeth_ok I1 ea c hm l (PySem.W.callWith_K0 (first := [.ref a]) I1.kIn hm.kp (run_fnG (us := [.ref a]) (vs := [.ref a]) (E := WE WW) F.ok hr hb (passAt tk σ) I1 (.cons rfl .nil) q))
  exact ⟨pe_imp hp fun _ _ _ => emb_meth⟩
end
end BV

/-! The by-value layer, part n: scripts, cells, bags, calls without arguments. -/
namespace BV
open PySem L2
open PySem.Spec PyProof.Rows

/-! ### o[i], o a cell or a script too -/
def derefK (c : List PV) (x : PV) (k : PV → Prop) : Prop := match x with
  | .cel n => (match c[n]? with | some y => (match y with | .bag => False | y => k y) | none => False)
  | x => k x
def scrL (ns : List Int) : List PV := ns.map PV.int
/-- a script as a list, read -/
def unscr (x : PV) : PV := match x with | .scr ns => .lst (scrL ns) | x => x
section
variable {K : PySem.W.Frag} {A : An} {W : Wo} {S : MS} {σ : L2.St} {H : Hp}
theorem Wd.deref (w : Wd K A W S σ H) {v : V} {x : PV} {k : PV → Prop} (r : RR K W H v x) (h : derefK S.c x k) : ∃ y, k y ∧ RR K W H v y := by
  cases x with
  | cel n =>
    have h' : (match S.c[n]? with | some y => (match y with | .bag => False | y => k y) | none => False) := h
    cases q : S.c[n]? with
    | none => rw [q] at h'; exact h'.elim
    | some y =>
      rw [q] at h'
      obtain ⟨a, rfl, ha⟩ := r.cel
      obtain ⟨b, e1, e2, e3⟩ := w.cel n _ q
      rw [ha] at e1; cases e1
      rcases e3 with e3 | ⟨rfl, _⟩
      · refine ⟨y, ?_, .inr ⟨_, rfl, e3⟩⟩
        cases y with
        | bag => exact h'.elim
        | _ => exact h'
      · exact h'.elim
  | _ => exact ⟨_, h, r⟩
end
def wIxC (wo wi : EW) : EW := fun S P PX => wo S (fun ta S1 => wi S1 (fun tb S2 => rdK S2 ta fun x => derefK S2.c x fun x => rdK S2 tb fun y => rsIx x y fun t => P t S2) PX) PX
def rIxScr (K : PySem.W.Frag) : R2 := rIx K
section
variable {X : Cx} {WW : WX} {a b e : Expr} {wa wb we : EW} {pos : Pos}
theorem em_ixC (ha : EM X WW a wa) (hb : EM X WW b wb) (hs : PlainIx b := by intro _ _; rfl) : EM X WW (.Subscript a b pos) (wIxC wa wb) := ⟨pe_imp (pe_ix ix_P ha.pe hb.pe hs) fun σ H Q ⟨A, W, S, P, PX, w, h, hp, hx⟩ => by
  refine ⟨A, W, S, _, PX, w, h, fun t S1 v W1 H1 l1 w1 tv1 h1 => ?_, hx⟩
  obtain ⟨W2, l2, w2, tv2⟩ := w1.stl tv1
  refine ⟨A, W2, S1, _, PX, w2, h1, fun t2 S2 u W3 H3 l3 w3 tv3 h3 => ?_, hx.le (l1.trans l2)⟩
  obtain ⟨x, h4, r1⟩ := w3.rd (tv2.le (S' := S2) (H' := H3) (stl_nf _) l3) (show rdK S2 (stl t) _ by rw [rdK_stl]; exact h3)
  obtain ⟨x', h5, r2⟩ := w3.deref r1 h4
  obtain ⟨y, h6, r3⟩ := w3.rd tv3 h5
  exact ⟨A, W3, S2, σ, x', y, _, w3, r2, r3, h6, fun r v' W' H' l w' tv k => hp r S2 v' W' H' (((l1.trans l2).trans l3).trans l) w' tv k⟩⟩
/-- script[i] -/
def rsIxS : RS2 := fun x y k => match x with
  | .scr ns => (match y with | .int i => (match atI ns i with | some z => k (.val (.int z)) | none => False) | _ => False)
  | _ => False
theorem atI_map {α β : Type} (f : α → β) (xs : List α) (i : Int) : atI (xs.map f) i = (atI xs i).map f := by
  unfold atI
  rw [List.length_map]
  cases ixN xs.length i with
  | none => rfl
  | some j => simp
theorem ix_S : IxR X (embR X.K rsIxS) := ixr_imp ix_seq fun x y H Q ⟨A, W, S, τ, px, py, k, w, r1, r2, h, hq⟩ => by
  cases px with
  | scr ns =>
    cases py with
    | int i =>
      obtain ⟨a, rfl, hs⟩ := r1.scr w.bh
      have h' : (match atI ns i with | some z => k (.val (.int z)) | none => False) := h
      cases q : atI ns i with
      | none => rw [q] at h'; exact h'.elim
      | some z =>
        rw [q] at h'
        exact .inl ⟨a, _, i, .int z, rfl, r2.int, hs, by rw [atI_map, q]; rfl, hq (.val (.int z)) _ W H (Wo.le.refl _) w (Rp.int _) h'⟩
    | _ => exact h.elim
  | _ => exact h.elim
/-- script[lo:hi] -/
def slSK (x : PV) (lo hi : Option Int) (k : TV → Prop) : Prop := match x with | .scr ns => k (.fresh (.lst (cutP (scrL ns) lo hi))) | _ => False
def wSlS (we : EW) (wl wh : OW) : EW := fun S P PX => we S (fun t S1 => wl S1 (fun lo S2 => wh S2 (fun hi S3 => rdK S3 t fun x => slSK x lo hi fun r => P r S3) PX) PX) PX
theorem em_slS {lo hi : Option Expr} {wl wh : OW} {p2 : Pos} (he : EM X WW e we) (hl : OM X WW lo wl) (hh : OM X WW hi wh) : EM X WW (.Subscript e (.Slice lo hi none p2) pos) (wSlS we wl wh) := ⟨pe_imp (pe_slice sl_list he.pe hl.po hh.po) fun σ H Q ⟨A, W, S, P, PX, wd, h, hp, hx⟩ => by
  refine ⟨A, W, S, _, PX, wd, h, fun t S1 v W1 H1 l1 w1 tv1 h1 => ?_, hx⟩
  obtain ⟨W2, l2, w2, tv2⟩ := w1.stl tv1
  refine ⟨A, W2, S1, _, PX, w2, h1, fun lo S2 W3 H3 l3 w3 h3 => ?_, hx.le (l1.trans l2)⟩
  refine ⟨A, W3, S2, _, PX, w3, h3, fun hi S3 W4 H4 l4 w4 h4 => ?_, hx.le ((l1.trans l2).trans l3)⟩
  obtain ⟨x, h6, r⟩ := w4.rd (tv2.le (S' := S3) (H' := H4) (stl_nf _) (l3.trans l4)) (show rdK S3 (stl t) _ by rw [rdK_stl]; exact h4)
  cases x with
  | scr ns =>
    obtain ⟨a, rfl, hs⟩ := r.scr w4.bh
    exact ⟨a, _, rfl, hs, fun p np => hp (.fresh (.lst _)) S3 _ W4 _ (((l1.trans l2).trans l3).trans l4) (w4.lay np) (w4.layFresh np ⟨_, upd_same, (RpA.ofInts ns).cut lo hi⟩) h6⟩
  | _ => exact h6.elim⟩
end
/-! ### calls without arguments -/
section
variable {X : Cx} {WW : WX} {k : Nat} {f : Addr} {fd : FuncData} {ps : List Str} {fw : FW} {x : Str} {p pos : Pos}
theorem em_call0 (F : FM X.prog X.w X.K X.mg X.base k f fd ps fw) (hr : RoomG k X.A) (tk : Takes X WW) (hg : Gl X x) (hm : X.mg x = some (.ref f))
    (hk : PySem.W.keepIn X.K (.ref f) = true) (hb : Binds X.K fd ps []) (hdb : (x == ("__debug__" : Str)) = false := by decide) : EM X WW (.Call (.Name x p) [] [] pos) (wCall ps.length fw aNil) := by
  have hp : PE X (.Call (.Name x p) [] [] pos) (fun σ H Q => spM X.K ps.length fw [] H Q (WE WW σ)) := by
    refine ⟨fun pins s σ H Q I h => wpAny_Call_Name_kw (ld_glob I hg hm ?_ hdb)⟩
    exact PySem.W.callWith_K0 I.kIn hk (run_fnG (us := []) F.ok hr hb (passAt tk σ) I .nil h)
  refine ⟨pe_imp hp fun σ H Q q => ?_⟩
  obtain ⟨A, W, S, P, PX, w, h, hq, hx⟩ := emb_call q
  exact hq [] S [] W H (Wo.le.refl _) w .nil h
end
/-! ### cells -/
section
variable {P : Program} {w : World} {K : PySem.W.Frag} {mg : Str → Option Value} {base : Heap} {k : Nat} {f : Addr} {fd : FuncData} {ps : List Str} {fw fw' : FW}
/-- what is new becomes a cell -/
theorem Out.cell {ρ ρ' : List Addr} {B B' H H' : Hp} {c' : List PV} {v : V} {x y : PV} (o : Out K ρ B H ρ' B' c' H') (r : ResR K ρ' B' H H' (.fresh x) v) (hy : ∀ p, OwnR K ρ' B' H' p x → CelR K ρ' B' H' p y) :
    ∃ p, Out K ρ B H (ρ' ++ [p]) B' (c' ++ [y]) H' ∧ ResR K (ρ' ++ [p]) B' H H' (.val (.cel c'.length)) v := by
  obtain ⟨p, rfl, h1, h2, h3, h4⟩ := r
  have pre : Pre ρ' (ρ' ++ [p]) := fun n a e => by
    rw [List.getElem?_append_left (List.getElem?_eq_some_iff.mp e).1]
    exact e
  refine ⟨p, ⟨o.r.trans pre, o.b, o.bh, by rw [List.length_append, List.length_append, o.cl]; rfl, ?_, fun n z e => ?_, o.keep, o.new, fun a m r => ?_⟩, ?_⟩
  · rw [List.nodup_append]
    exact ⟨o.nd, by simp, fun a ha b hb => by
      simp at hb
      subst hb
      intro e
      subst e
      exact h2 ha⟩
  · by_cases hn : n < c'.length
    · rw [List.getElem?_append_left hn] at e
      obtain ⟨a, e1, e2, e3⟩ := o.cel n z e
      exact ⟨a, pre _ _ e1, e2, e3.mono (Same.refl _) pre fun _ z => z⟩
    · rw [List.getElem?_append_right (by omega)] at e
      have hz : n - c'.length = 0 := by
        cases q : n - c'.length with
        | zero => rfl
        | succ m => rw [q] at e; simp at e
      rw [hz] at e
      simp at e
      subst e
      refine ⟨p, ?_, h1, (hy p h3).mono (Same.refl _) pre fun _ z => z⟩
      rw [List.getElem?_append_right (by rw [o.cl]; omega), o.cl, hz]
      rfl
  · rcases List.mem_append.mp m with m | m
    · exact o.newr a m r
    · simp at m
      subst m
      exact h4
  · refine Rp.cel ?_
    rw [List.getElem?_append_right (by rw [o.cl]; omega), o.cl]
    simp
/-- a def whose new object becomes a cell -/
theorem FM.cell (F : FM P w K mg base k f fd ps fw) : FM P w K mg base k f fd ps (fun args c rt ex => fw args c (fun r c' => ∃ x, r = .fresh x ∧ rt (.val (.cel c'.length)) (c' ++ [x])) ex) :=
  ⟨F.ok.imp fun vs H Q E ⟨ρ, B, F', c, args, rt, ex, wc, hl, hp, hw, h1, h2⟩ => ⟨ρ, B, F', c, args, _, ex, wc, hl, hp, hw, fun r c' v ρ' B' H' o rr q => by
    obtain ⟨x, rfl, q⟩ := q
    obtain ⟨p, o2, r2⟩ := o.cell rr (fun p h => .inl h)
    exact h1 _ _ v _ _ _ o2 r2 q, h2⟩⟩
/-- a def whose new list of two ints becomes a bag -/
def toBag (fw : FW) : FW := fun args c rt ex => fw args c (fun r c' => ∃ y m : Int, r = .fresh (.lst [.int y, .int m]) ∧ (0 ≤ y ∧ 0 ≤ m ∧ m < 4294967296) ∧ rt (.val (.cel c'.length)) (c' ++ [.bag])) ex
theorem FM.bag (F : FM P w K mg base k f fd ps fw) : FM P w K mg base k f fd ps (toBag fw) :=
  ⟨F.ok.imp fun vs H Q E ⟨ρ, B, F', c, args, rt, ex, wc, hl, hp, hw, h1, h2⟩ => ⟨ρ, B, F', c, args, _, ex, wc, hl, hp, hw, fun r c' v ρ' B' H' o rr q => by
    obtain ⟨y, m, rfl, hb, q⟩ := q
    obtain ⟨p, o2, r2⟩ := o.cell (y := .bag) rr fun p ⟨us, e, ra⟩ => .inr ⟨rfl, y, m, by
      cases ra with
      | cons a b => cases a; cases b with
        | cons a b => cases a; cases b; exact e, hb⟩
    exact h1 _ _ v _ _ _ o2 r2 q, h2⟩⟩
/-- a def that turns a bag over: its first argument is the bag's cell -/
def ofBag (fw : FW) : FW := fun args c rt ex => ∃ n, args[(0 : Nat)]? = some (.val (.cel n)) ∧ c[n]? = some .bag ∧
  ∀ y m : Int, (0 ≤ y ∧ 0 ≤ m ∧ m < 4294967296) → fw args (c.set n (.lst [.int y, .int m])) (fun r c' => ∃ y' m' : Int, (0 ≤ y' ∧ 0 ≤ m' ∧ m' < 4294967296) ∧ c'[n]? = some (.lst [.int y', .int m']) ∧ rt r (c'.set n .bag)) (fun _ _ => False)
theorem FM.unbag (F : FM P w K mg base k f fd ps fw) : FM P w K mg base k f fd ps (ofBag fw) :=
  ⟨F.ok.imp fun vs H Q E ⟨ρ, B, F', c, args, rt, ex, wc, hl, hp, ⟨n, ha, hc, hw⟩, h1, h2⟩ => by
    obtain ⟨a, e1, e2, e3⟩ := wc.cel n _ hc
    have hb : ∃ y m : Int, H a = some (.lst [.int y, .int m]) ∧ (0 ≤ y ∧ 0 ≤ m ∧ m < 4294967296) := by
      rcases e3 with e3 | ⟨_, y, m, e, b⟩
      · exact e3.elim
      · exact ⟨y, m, e, b⟩
    obtain ⟨y, m, ea, hb⟩ := hb
    have wc2 : WdC K ρ B F' (c.set n (.lst [.int y, .int m])) H := ⟨wc.bf, wc.fh, by rw [List.length_set]; exact wc.cl, wc.nd, fun j z e => by
      rcases get_set e with ⟨rfl, rfl⟩ | ⟨_, e⟩
      · exact ⟨a, e1, e2, .inl ⟨_, ea, .cons (.int _) (.cons (.int _) .nil)⟩⟩
      · exact wc.cel j z e⟩
    refine ⟨ρ, B, F', _, args, _, _, wc2, hl, hp, hw y m hb, fun r c' v ρ' B' H' o rr q => ?_, fun _ _ _ _ _ _ _ _ _ q => q.elim⟩
    obtain ⟨y', m', hb', hc', q⟩ := q
    refine h1 r _ v ρ' B' H' ⟨o.r, o.b, o.bh, by rw [List.length_set]; exact o.cl, o.nd, fun j z e => ?_, o.keep, o.new, o.newr⟩ rr q
    rcases get_set e with ⟨rfl, rfl⟩ | ⟨_, e⟩
    · obtain ⟨b, f1, f2, f3⟩ := o.cel _ _ hc'
      refine ⟨b, f1, f2, .inr ⟨rfl, y', m', ?_, hb'⟩⟩
      rcases f3 with ⟨us, eb, ra⟩ | ⟨f3, _⟩
      · cases ra with
        | cons a b => cases a; cases b with
          | cons a b => cases a; cases b; exact eb
      · cases f3
    · exact o.cel j z e⟩
end
end BV

/-! The by-value layer, part o: defs by names, facts by names, the law's end. -/
namespace BV
open PySem L2
open PySem.Spec PyProof.Rows
open He (ga ma)

section
variable (P : Program) (w : World) (K : PySem.W.Frag) (mg : Str → Option Value) (base : Heap)
/-- a def with its function object told -/
def Fn (k : Nat) (f : Addr) (ps : List Str) (fw : FW) : Prop := ∃ fd, FM P w K mg base k f fd ps fw ∧ Binds K fd ps [] ∧ PySem.W.keepIn K (.ref f) = true
/-- a class with an __init__ of n parameters but self -/
def Ini (k : Nat) (C : Addr) (n : Nat) (fw : FW) : Prop := ∃ f fd ps, Mk K C f ∧ FI P w K mg base k C f fd ps n fw ∧ Binds K fd ps []
/-- a method -/
def Mth (k : Nat) (C : Addr) (m : Str) (ps : List Str) (fw : FW) : Prop := ∃ f fd, FM P w K mg base k f fd ps fw ∧ Binds K fd ps [] ∧ Cls K C ∧ Meth K C m f
end
section
variable {P : Program} {w : World} {K : PySem.W.Frag} {mg : Str → Option Value} {base : Heap}
theorem Fn.imp {k : Nat} {f : Addr} {ps : List Str} {fw fw' : FW} (F : Fn P w K mg base k f ps fw) (h : ∀ args c rt ex, fw' args c rt ex → fw args c rt ex) : Fn P w K mg base k f ps fw' := let ⟨fd, a, b⟩ := F; ⟨fd, a.imp h, b⟩
theorem Fn.mono {j k : Nat} {f : Addr} {ps : List Str} {fw : FW} (F : Fn P w K mg base j f ps fw) (h : j ≤ k) : Fn P w K mg base k f ps fw := let ⟨fd, a, b⟩ := F; ⟨fd, a.mono h, b⟩
theorem Fn.bag {k : Nat} {f : Addr} {ps : List Str} {fw : FW} (F : Fn P w K mg base k f ps fw) : Fn P w K mg base k f ps (toBag fw) := let ⟨fd, a, b⟩ := F; ⟨fd, a.bag, b⟩
theorem Fn.unbag {k : Nat} {f : Addr} {ps : List Str} {fw : FW} (F : Fn P w K mg base k f ps fw) : Fn P w K mg base k f ps (ofBag fw) := let ⟨fd, a, b⟩ := F; ⟨fd, a.unbag, b⟩
theorem Ini.imp {k : Nat} {C : Addr} {n : Nat} {fw fw' : FW} (F : Ini P w K mg base k C n fw) (h : ∀ args c rt ex, fw' args c rt ex → fw args c rt ex) : Ini P w K mg base k C n fw' := let ⟨f, fd, ps, a, b, c⟩ := F; ⟨f, fd, ps, a, b.imp h, c⟩
theorem Ini.mono {j k : Nat} {C : Addr} {n : Nat} {fw : FW} (F : Ini P w K mg base j C n fw) (h : j ≤ k) : Ini P w K mg base k C n fw := let ⟨f, fd, ps, a, b, c⟩ := F; ⟨f, fd, ps, a, b.mono h, c⟩
theorem Mth.imp {k : Nat} {C : Addr} {m : Str} {ps : List Str} {fw fw' : FW} (F : Mth P w K mg base k C m ps fw) (h : ∀ args c rt ex, fw' args c rt ex → fw args c rt ex) : Mth P w K mg base k C m ps fw' := let ⟨f, fd, a, b⟩ := F; ⟨f, fd, a.imp h, b⟩
theorem Mth.mono {j k : Nat} {C : Addr} {m : Str} {ps : List Str} {fw : FW} (F : Mth P w K mg base j C m ps fw) (h : j ≤ k) : Mth P w K mg base k C m ps fw := let ⟨f, fd, a, b⟩ := F; ⟨f, fd, a.mono h, b⟩
section
variable {x qual : Str} {params : Arguments} {body : List Stmt} {scope : Scope} {f C : Addr} {N ps : List Str} {k : Nat} {sw : SW}
abbrev Body (P : Program) (w : World) (K : PySem.W.Frag) (mg : Str → Option Value) (base : Heap) (N : List Str) (qual : Str) (scope : Scope) (f : Addr) (k : Nat) (body : List Stmt) (sw : SW) : Prop :=
  ∀ (cdv : Value) (A : Around) (outer : List Env) (s : Shared) (H : Hp) (E : XK), RoomG k (A.deeper (envOfC qual scope s.heap.objs.size f cdv)) → Takes (cxOf (L2.CX P w) P w K mg base N qual scope f cdv A outer s H E) (fun cls d _ H => E cls d H) →
    SSM (cxOf (L2.CX P w) P w K mg base N qual scope f cdv A outer s H E) (fun cls d _ H => E cls d H) body sw
/-- THE RULE for a def -/
theorem fn_def (F : ∃ fd, FunD K x qual params body scope [] [] f fd) (S : FnScope N ps scope)
    (hb : ∀ (kV doc pm : Value) (an : Option Addr) (cdv ct : Value) (us : List Value), us.length = ps.length → bindArgs (PySem.W.fnOf x qual params body scope .none kV doc pm an cdv ct) ⟨us, []⟩ = pure (ps.zip us))
    (hbody : Body P w K mg base N qual scope f k body sw) : Fn P w K mg base (k + 1) f ps (fwOf N.length ps.length sw) := by
  obtain ⟨fd, F⟩ := F
  refine ⟨fd, ⟨FunD_okG F S (fun vs H Q E h => ?_) fun cdv A outer s H vs Q E hr h => ?_⟩, F.bindsN hb, F.kp⟩
  · obtain ⟨ρ, B, F', c, args, rt, ex, wc, hl, _⟩ := h
    exact hl
  · exact ⟨_, (hbody cdv A outer s H E hr (takes_of rfl rfl rfl rfl)).pss, spM_of h⟩
theorem mth_def {m : Str} (F : ∃ fd, FunD K x qual params body scope [] [] f fd) (S : FnScope N ps scope) (cl : Cls K C) (hm : Meth K C m f)
    (hb : ∀ (kV doc pm : Value) (an : Option Addr) (cdv ct : Value) (us : List Value), us.length = ps.length → bindArgs (PySem.W.fnOf x qual params body scope .none kV doc pm an cdv ct) ⟨us, []⟩ = pure (ps.zip us))
    (hbody : Body P w K mg base N qual scope f k body sw) : Mth P w K mg base (k + 1) C m ps (fwOf N.length ps.length sw) := by
  obtain ⟨fd, a, b, c⟩ := fn_def F S hb hbody
  exact ⟨f, fd, a, b, cl, hm⟩
theorem ini_def {n : Nat} (F : ∃ fd, FunD K x qual params body scope [] [] f fd) (S : FnScope N ps scope) (hn : ps.length = n + 1) (mk : Mk K C f)
    (hb : ∀ (kV doc pm : Value) (an : Option Addr) (cdv ct : Value) (us : List Value), us.length = ps.length → bindArgs (PySem.W.fnOf x qual params body scope .none kV doc pm an cdv ct) ⟨us, []⟩ = pure (ps.zip us))
    (hbody : Body P w K mg base N qual scope f k body sw) : Ini P w K mg base (k + 1) C n (fwI C N.length n sw) := by
  obtain ⟨fd, F⟩ := F
  refine ⟨f, fd, ps, mk, ⟨FunD_okG F S (fun vs H Q E h => ?_) fun cdv A outer s H vs Q E hr h => ?_⟩, F.bindsN hb⟩
  · obtain ⟨H1, x, dx, vs', rfl, _, _, _, _, ρ, B, F, c, args, rt, ex, wc, hl, _⟩ := h
    rw [List.length_cons, hl, hn]
  · exact ⟨_, (hbody cdv A outer s H E hr (takes_of rfl rfl rfl rfl)).pss, spI_of h⟩
end
end
/-! ### the rules by these -/
section
variable {X : Cx} {WW : WX} {j k : Nat} {f C : Addr} {ps : List Str} {fw : FW} {x m : Str} {p pos apos : Pos} {e o a b : Expr} {es : List Expr} {wr : AW} {we wo wa wb : EW}
theorem e_call {n : Nat} (F : Fn X.prog X.w X.K X.mg X.base k f ps fw) (hn : ps.length = n) (hr : RoomG j X.A) (hk : k ≤ j) (tk : Takes X WW) (hm : X.mg x = some (.ref f)) (hg : Gl X x) (ha : AM X WW (e :: es) wr) (hdb : (x == ("__debug__" : Str)) = false := by decide) (he : starEach (e :: es) X.env = (false, eval e X.env) :: starEach es X.env := by rfl)
    (hpl : (backTo pos (starEach es X.env)).any (·.1) = false := by rfl) : EM X WW (.Call (.Name x p) (e :: es) [] pos) (wCall n fw wr) := by
  subst hn
  obtain ⟨fd, F, hb, hkp⟩ := F
  exact em_call F (hr.mono hk) tk hg hm hkp hb ha hdb he hpl
theorem e_call0 {n : Nat} (F : Fn X.prog X.w X.K X.mg X.base k f ps fw) (hn : ps.length = n) (hr : RoomG j X.A) (hk : k ≤ j) (tk : Takes X WW) (hm : X.mg x = some (.ref f)) (hg : Gl X x) (hdb : (x == ("__debug__" : Str)) = false := by decide) : EM X WW (.Call (.Name x p) [] [] pos) (wCall n fw aNil) := by
  subst hn
  obtain ⟨fd, F, hb, hkp⟩ := F
  exact em_call0 F (hr.mono hk) tk hg hm hkp hb hdb
theorem e_make {n : Nat} (F : Ini X.prog X.w X.K X.mg X.base k C n fw) (hr : RoomG j X.A) (hk : k + 1 ≤ j) (tk : Takes X WW) (hm : X.mg x = some (.ref C)) (hg : Gl X x) (ha : AM X WW (e :: es) wr) (hdb : (x == ("__debug__" : Str)) = false := by decide) (he : starEach (e :: es) X.env = (false, eval e X.env) :: starEach es X.env := by rfl)
    (hpl : (backTo pos (starEach es X.env)).any (·.1) = false := by rfl) : EM X WW (.Call (.Name x p) (e :: es) [] pos) (wCall n fw wr) := by
  obtain ⟨f, fd, ps, M, F, hb⟩ := F
  exact em_make M F (hr.mono hk) tk hg hm hb ha hdb he hpl
theorem e_meth {pl : Sem Bool} {n : Nat} (F : Mth X.prog X.w X.K X.mg X.base k C m ps fw) (hn : ps.length = n) (hr : RoomG j X.A) (hk : k ≤ j) (tk : Takes X WW) (ho : EM X WW o wo) (ha : AM X WW (e :: es) wr)
    (hst : starEach (e :: es) X.env = (false, eval e X.env) :: starEach es X.env := by rfl) (hpl : (backTo pos (starEach es X.env)).any (·.1) = false := by rfl)
    (ht : eval (.Call (.Attribute o m apos) (e :: es) [] pos) X.env = (do
      let ov ← eval o X.env
      standAt apos.atName
      let (f, first) ← holding [ov] (getMethod ov m pl)
      callWith pos f first (backTo pos (starEach (e :: es) X.env)) (backToKw pos (keywordEach [] X.env))) := by rfl) : EM X WW (.Call (.Attribute o m apos) (e :: es) [] pos) (wMeth C m n fw wo wr) := by
  subst hn
  obtain ⟨f, fd, F, hb, c, hm⟩ := F
  exact em_meth c hm F (hr.mono hk) tk hb ho ha hst hpl ht
theorem e_meth0 {pl : Sem Bool} {n : Nat} (F : Mth X.prog X.w X.K X.mg X.base k C m ps fw) (hn : ps.length = n) (hr : RoomG j X.A) (hk : k ≤ j) (tk : Takes X WW) (ho : EM X WW o wo)
    (ht : eval (.Call (.Attribute o m apos) [] [] pos) X.env = (do
      let ov ← eval o X.env
      standAt apos.atName
      let (f, first) ← holding [ov] (getMethod ov m pl)
      callWith pos f first (backTo pos (starEach [] X.env)) (backToKw pos (keywordEach [] X.env))) := by rfl) : EM X WW (.Call (.Attribute o m apos) [] [] pos) (wMeth C m n fw wo aNil) := by
  subst hn
  obtain ⟨f, fd, F, hb, c, hm⟩ := F
  exact em_meth0 c hm F (hr.mono hk) tk hb ho ht
theorem e_lenO (F : Mth X.prog X.w X.K X.mg X.base k C "__len__" ps fw) (hps : ps.length = 1) (hr : RoomG j X.A) (hk : k + 1 ≤ j) (hm : X.mg "len" = none) (hg : Gl X "len") (he : EM X WW e we)
    (h1 : starEach [e] X.env = (false, eval e X.env) :: starEach [] X.env := by rfl) (hpl : (backTo pos (starEach [] X.env)).any (·.1) = false := by rfl) : EM X WW (.Call (.Name "len" p) [e] [] pos) (wSp1 C fw pI we) := by
  obtain ⟨f, fd, F, hb, c, hm'⟩ := F
  exact em_lenO F (hr.mono hk) hg hm hps hm'.at_ hm'.fn hb he h1 hpl
theorem e_reprO (F : Mth X.prog X.w X.K X.mg X.base k C "__repr__" ps fw) (hps : ps.length = 1) (hr : RoomG j X.A) (hk : k + 1 ≤ j) (hm : X.mg "repr" = none) (hg : Gl X "repr") (he : EM X WW e we)
    (h1 : starEach [e] X.env = (false, eval e X.env) :: starEach [] X.env := by rfl) (hpl : (backTo pos (starEach [] X.env)).any (·.1) = false := by rfl) : EM X WW (.Call (.Name "repr" p) [e] [] pos) (wSp1 C fw pS we) := by
  obtain ⟨f, fd, F, hb, c, hm'⟩ := F
  exact em_reprO F (hr.mono hk) hg hm hps hm'.at_ hm'.fn hb he h1 hpl
theorem o_eqO (F : Mth X.prog X.w X.K X.mg X.base k C "__eq__" ps fw) (hps : ps.length = 2) (hr : RoomG j X.A) (hk : k ≤ j) : OpR X (compareOp .Eq) (rEqO X.K id C (spM X.K 2 fw)) := by
  obtain ⟨f, fd, F, hb, c, hm'⟩ := F
  exact op_eqO F (hr.mono hk) hps hm'.at_ hm'.fn hb
theorem o_neO (F : Mth X.prog X.w X.K X.mg X.base k C "__eq__" ps fw) (hps : ps.length = 2) (hr : RoomG j X.A) (hk : k + 1 ≤ j) (hne : PySem.W.findIn X.K (.ref C) "__ne__" = some (some (.builtin "object.__ne__"))) (hmo : PySem.W.mroIn X.K C (.type "object") = some true) : OpR X (compareOp .NotEq) (rEqO X.K (!·) C (spM X.K 2 fw)) := by
  obtain ⟨f, fd, F, hb, c, hm'⟩ := F
  exact op_neO F (hr.mono hk) hps hm'.at_ hm'.fn hb hne hmo
theorem o_inO (F : Mth X.prog X.w X.K X.mg X.base k C "__contains__" ps fw) (hps : ps.length = 2) (hr : RoomG j X.A) (hk : k ≤ j) : OpR X (compareOp .In) (rInO id C (spM X.K 2 fw)) := by
  obtain ⟨f, fd, F, hb, c, hm'⟩ := F
  exact (op_inO F (hr.mono hk) hps hm'.at_ hm'.fn hb).1
theorem o_ninO (F : Mth X.prog X.w X.K X.mg X.base k C "__contains__" ps fw) (hps : ps.length = 2) (hr : RoomG j X.A) (hk : k ≤ j) : OpR X (compareOp .NotIn) (rInO (!·) C (spM X.K 2 fw)) := by
  obtain ⟨f, fd, F, hb, c, hm'⟩ := F
  exact (op_inO F (hr.mono hk) hps hm'.at_ hm'.fn hb).2
end
/-! ### more facts of the written part -/
/-- a class whose instances' type can be asked -/
def clsFB (K : PySem.W.Frag) (x : Str) : Bool := (He.Fa.cls x).ok K && (He.eqO (PySem.W.findIn K (.ref (ga K x)) "__class__") (some (some (.builtin "object.__class__"))) && (He.eqO (PySem.W.specialIn K (.builtin "object.__class__") "__get__") (some (some (.builtin "getset_descriptor.__get__"))) && (decide (PySem.W.takesIn K (.builtin "object.__class__") = some true) && decide (PySem.W.mroIn K (ga K x) (.type "object") = some true))))
def tyL : List String := ["NoneType", "bool", "int", "str", "tuple", "list", "dict"]
def nfB (K : PySem.W.Frag) (x : Str) (Ds : List Str) : Bool := (tyL.all fun T => PySem.W.notFirst K (ga K x) (.type T)) && Ds.all fun d => clsFB K d && PySem.W.notFirst K (ga K x) (.ref (ga K d))
/-- isinstance(_, x): the own classes in Ds with their answers -/
def isiB (K : PySem.W.Frag) (x : Str) (Ds : List (Str × Bool)) : Bool := (tyL.all fun T => decide (PySem.W.kitOne K (.type T) (.ref (ga K x)) = some false)) && Ds.all fun d => clsFB K d.1 && decide (PySem.W.kitOne K (.ref (ga K d.1)) (.ref (ga K x)) = some d.2)
def neB (K : PySem.W.Frag) (x : Str) : Bool := He.eqO (PySem.W.findIn K (.ref (ga K x)) "__ne__") (some (some (.builtin "object.__ne__"))) && decide (PySem.W.mroIn K (ga K x) (.type "object") = some true)
section
variable {K : PySem.W.Frag}
theorem clsFB_ok {x : Str} (h : clsFB K x = true) : ClsF K (ga K x) := by
  obtain ⟨h1, h⟩ := He.ba h
  obtain ⟨h2, h⟩ := He.ba h
  obtain ⟨h3, h⟩ := He.ba h
  obtain ⟨h4, h5⟩ := He.ba h
  exact ⟨He.cls_ok h1, He.eqO_ok h2, He.eqO_ok h3, of_decide_eq_true h4, of_decide_eq_true h5⟩
theorem nfB_ok {x : Str} {Ds : List Str} (h : nfB K x Ds = true) : NfF K (ga K x) (Ds.map (ga K)) := by
  obtain ⟨h1, h2⟩ := He.ba h
  have t : ∀ T ∈ tyL, PySem.W.notFirst K (ga K x) (.type T) = true := fun T hT => List.all_eq_true.mp h1 T hT
  refine ⟨t _ (by decide), t _ (by decide), t _ (by decide), t _ (by decide), t _ (by decide), t _ (by decide), t _ (by decide), fun D hD => ?_⟩
  obtain ⟨d, hd, rfl⟩ := List.mem_map.mp hD
  obtain ⟨a, b⟩ := He.ba (List.all_eq_true.mp h2 d hd)
  exact ⟨clsFB_ok a, b⟩
/-- the answers of isinstance(_, x): of data none is one -/
def fCls (K : PySem.W.Frag) (Ds : List (Str × Bool)) (x : PV) : Option Bool := match x with
  | .non => some false
  | .bl _ => some false
  | .int _ => some false
  | .str _ => some false
  | .tup _ => some false
  | .lst _ => some false
  | .dct _ => some false
  | .obj C _ => (Ds.find? fun d => ga K d.1 == C).map (·.2)
  | _ => none
theorem isiB_ok {x : Str} {Ds : List (Str × Bool)} (h : isiB K x Ds = true) : IsiF K (.ref (ga K x)) (fCls K Ds) := by
  obtain ⟨h1, h2⟩ := He.ba h
  have t : ∀ T ∈ tyL, PySem.W.kitOne K (.type T) (.ref (ga K x)) = some false := fun T hT => of_decide_eq_true (List.all_eq_true.mp h1 T hT)
  intro y b e
  cases y with
  | non => cases e; exact t _ (by decide)
  | bl _ => cases e; exact t _ (by decide)
  | int _ => cases e; exact t _ (by decide)
  | str _ => cases e; exact t _ (by decide)
  | tup _ => cases e; exact t _ (by decide)
  | lst _ => cases e; exact t _ (by decide)
  | dct _ => cases e; exact t _ (by decide)
  | obj C fs =>
    have e' : (Ds.find? fun d => ga K d.1 == C).map (·.2) = some b := e
    cases q : Ds.find? fun d => ga K d.1 == C with
    | none => rw [q] at e'; cases e'
    | some d =>
      rw [q] at e'
      have hb : d.2 = b := Option.some.inj e'
      have hc : ga K d.1 = C := beq_iff_eq.mp (List.find?_some (p := fun d : Str × Bool => ga K d.1 == C) q)
      subst hb hc
      obtain ⟨a, b⟩ := He.ba (List.all_eq_true.mp h2 d (List.mem_of_find?_eq_some q))
      exact ⟨clsFB_ok a, of_decide_eq_true b⟩
  | _ => cases e
theorem neB_ok {x : Str} (h : neB K x = true) : PySem.W.findIn K (.ref (ga K x)) "__ne__" = some (some (.builtin "object.__ne__")) ∧ PySem.W.mroIn K (ga K x) (.type "object") = some true := by
  obtain ⟨h1, h2⟩ := He.ba h
  exact ⟨He.eqO_ok h1, of_decide_eq_true h2⟩
/-- fields -/
def fldB (K : PySem.W.Frag) (f : Str) (Cs : List Str) : Bool := Cs.all fun x => (He.Fa.cls x).ok K && (He.Fa.noat x f).ok K
theorem fldB_ok {f : Str} {Cs : List Str} (h : fldB K f Cs = true) : FldF K (Cs.map (ga K)) f := fun C hC => by
  obtain ⟨x, hx, rfl⟩ := List.mem_map.mp hC
  obtain ⟨a, b⟩ := He.ba (List.all_eq_true.mp h x hx)
  exact ⟨He.cls_ok a, He.noat_ok b⟩
/-- a module's constant tuple of texts -/
theorem glT {X : Cx} {WW : WX} {x : Str} {pos : Pos} {zs : List Str} (hm : X.mg x = some (.ref (ga X.K x))) (h : He.tupB X.K x (zs.map He.Dv.str) = true) (hg : Gl X x) (hd : (x == ("__debug__" : Str)) = false := by decide) : EM X WW (.Name x pos) (wC (.tup (zs.map PV.str))) := by
  refine em_glob (v := .ref (ga X.K x)) hg hm rfl (fun ρ B => ?_) hd
  have e : (zs.map He.Dv.str).map (He.Dv.v X.K) = zs.map V.str := by rw [List.map_map]; rfl
  have t := He.tupB_ok h B
  rw [e] at t
  exact .tup t (RpA.ofStrs zs)
theorem glI {X : Cx} {WW : WX} {x : Str} {pos : Pos} {i : Int} (hm : ∃ t, X.mg x = some (.int i t)) (hg : Gl X x) (hd : (x == ("__debug__" : Str)) = false := by decide) : EM X WW (.Name x pos) (wC (.int i)) := by
  obtain ⟨t, hm⟩ := hm
  exact em_glob (v := .int i) hg hm ⟨t, rfl⟩ (fun _ _ => .int i) hd
theorem glS {X : Cx} {WW : WX} {x : Str} {pos : Pos} {i : Str} (hm : ∃ t, X.mg x = some (.str i t)) (hg : Gl X x) (hd : (x == ("__debug__" : Str)) = false := by decide) : EM X WW (.Name x pos) (wC (.str i)) := by
  obtain ⟨t, hm⟩ := hm
  exact em_glob (v := .str i) hg hm ⟨t, rfl⟩ (fun _ _ => .str i) hd
/-- isinstance(e, T), T built in; isinstance(e, C), C an own class -/
theorem e_isiT {X : Cx} {WW : WX} {e : Expr} {we : EW} {f : PV → Option Bool} {T : Str} {n : String} {p p2 pos : Pos} (hm : X.mg "isinstance" = none) (hmT : X.mg T = none) (hf : IsiF X.K (.type n) f) (hg : Gl X "isinstance") (hgT : Gl X T) (he : EM X WW e we) (hv : bootBuiltins T = some (.type n) := by rfl)
    (h1 : starEach [e, .Name T p2] X.env = (false, eval e X.env) :: starEach [.Name T p2] X.env := by rfl) (h2 : starEach [.Name T p2] X.env = (false, eval (.Name T p2) X.env) :: starEach [] X.env := by rfl) (hpl : (backTo pos (starEach [.Name T p2] X.env)).any (·.1) = false := by rfl)
    (hn : T ≠ "__name__" := by decide) (hd : (T == ("__debug__" : Str)) = false := by decide) : EM X WW (.Call (.Name "isinstance" p) [e, .Name T p2] [] pos) (wIsi f we) :=
  em_isi hg hm he (pe_bltn (v := .ty n) hgT hmT hv rfl hn hd) (.ty n) hf h1 h2 hpl
theorem e_isiC {X : Cx} {WW : WX} {e : Expr} {we : EW} {f : PV → Option Bool} {T : Str} {C : Addr} {p p2 pos : Pos} (hm : X.mg "isinstance" = none) (hmT : X.mg T = some (.ref C)) (hf : IsiF X.K (.ref C) f) (hg : Gl X "isinstance") (hgT : Gl X T) (he : EM X WW e we)
    (h1 : starEach [e, .Name T p2] X.env = (false, eval e X.env) :: starEach [.Name T p2] X.env := by rfl) (h2 : starEach [.Name T p2] X.env = (false, eval (.Name T p2) X.env) :: starEach [] X.env := by rfl) (hpl : (backTo pos (starEach [.Name T p2] X.env)).any (·.1) = false := by rfl)
    (hd : (T == ("__debug__" : Str)) = false := by decide) : EM X WW (.Call (.Name "isinstance" p) [e, .Name T p2] [] pos) (wIsi f we) :=
  em_isi hg hm he (pe_glob (v := .ref C) hgT hmT rfl hd) (.own C) hf h1 h2 hpl
end
/-! ### the law's end -/
/-- what a law promises -/
def spLaw (K : PySem.W.Frag) : Sp := fun vs H Q _ => ∃ (a : Addr) (ns : List Int), vs = [.ref a] ∧ SqL K H a (ns.map V.int) ∧ ns.length ≤ 63 ∧ ∀ H', Q (.bl true) H'
section
variable {P : Program} {w : World} {K : PySem.W.Frag} {mg : Str → Option Value} {base : Heap}
theorem law_ok {k : Nat} {f : Addr} {fd : FuncData} {ps : List Str} {fw : FW} (F : FM P w K mg base k f fd ps fw) (hn : ps.length = 1) (h : ∀ ns : List Int, ns.length ≤ 63 → fw [.val (.scr ns)] [] (fun r _ => r = .val (.bl true)) (fun _ _ => False)) : FnG P w K mg base (L2.CX P w) k f fd ps (spLaw K) :=
  F.ok.imp fun vs H Q E ⟨a, ns, e, hS, hl, hQ⟩ => by
    subst e
    refine ⟨[], H, H, [], [.val (.scr ns)], _, _, ⟨Same.refl _, Same.refl _, rfl, List.nodup_nil, fun n x e => by simp at e⟩, hn.symm, .cons (Rp.scr hS) .nil, h ns hl, fun r c' v ρ' B' H' o rr q => ?_, fun _ _ _ _ _ _ _ _ _ q => q.elim⟩
    subst q
    cases rr
    exact hQ H'
theorem noEsc {P : Program} {w : World} (H : Hp) (s : Shared) (e : Value) (s' : Shared) (h : L2.CX P w [] H s (fun _ _ _ => False) e s') : False := by
  obtain ⟨_, _, _, _, _, _, _, _, _, _, _, _, z⟩ := h
  exact z
end
end BV

/-! The by-value layer, part p: a law's end. -/
namespace BV
open PySem L2
open PySem.Spec PyProof.Rows
theorem law_end {P : Program} {w : World} {K : PySem.W.Frag} {mg : Str → Option Value} {qual x : Str} {params : Arguments} {body : List Stmt} {scope : Scope} {f : Addr} {fd : FuncData} {N : List Str} {k : Nat} {sw : SW} {y : Str}
    (F : FunD K x qual params body scope [] [] f fd) (S : FnScope N [y] scope) (hbody : ∀ base, Body P w K mg base N qual scope f k body sw)
    (h : ∀ ns : List Int, ns.length ≤ 63 → fwOf N.length 1 sw [.val (.scr ns)] [] (fun r _ => r = .val (.bl true)) (fun _ _ => False)) (base : Heap) : FnG P w K mg base (L2.CX P w) (k + 1) f fd [y] (spLaw K) := by
  have F2 : FM P w K mg base (k + 1) f fd [y] (fwOf N.length 1 sw) := ⟨FunD_okG F S (fun vs H Q E h => by
    obtain ⟨ρ, B, F', c, args, rt, ex, wc, hl, _⟩ := h
    exact hl) fun cdv A outer s H vs Q E hr h => ⟨_, (hbody base cdv A outer s H E hr (takes_of rfl rfl rfl rfl)).pss, spM_of (ps := [y]) h⟩⟩
  exact law_ok F2 rfl h
theorem gd_caller : callerA.guards = some [] := by first | rfl | decide | simp [callerA]
/-- the law's call at the heap behind the top: nothing is told of but the script -/
theorem call_top {P : Program} {w : World} {K : PySem.W.Frag} {mg mb : Str → Option Value} {CX : CXT} {k : Nat} {fa a : Addr} {fd : FuncData} {x : Str} {sp : Sp} {s₁ : Shared} {vs : List Value} {ns : List Int}
    (KX : K.In s₁.heap) (hns : s₁.heap.Ns mainGlobals mg) (hb : s₁.heap.Ns builtinsNs mb) (hbb : ∀ x : Str, x ≠ "__name__" → mb x = bootBuiltins x) (hlim : s₁.heap.NoLimit) (hg : s₁.gens = #[])
    (ha : s₁.heap.get? a = some { cls := .type "list", data := .seq vs.toArray }) (hi : IntsAre vs ns) (hl : ns.length ≤ sizeLine) (hr : Room k callerA)
    (F : ∀ base : Heap, K.In base → base.Ns mainGlobals mg → FnG P w K mg base CX k fa fd [x] sp) (hbind : ∀ (s : Shared) (u : Value), BindsTo s fd ⟨[u], []⟩ [(x, u)])
    (hsp : ∀ H : Hp, Only H → SqL K H a (ns.map V.int) → sp [.ref a] H (fun v _ => v = .bl true) fun _ _ _ => False)
    (hCX : ∀ H e s', CX [] H s₁ (fun _ _ _ => False) e s' → False) :
    codeAny (model P w) callerA (.call (.ref fa) ⟨[.ref a], []⟩) (fun r s' => r = .ok (.ret (.bool true)) ∧ OldK s₁.heap s'.heap ∧ s'.os = s₁.os ∧ AllBare s'.gens) s₁ := by
  have rv := vals_ints hi
  have lenV := hi.length
  suffices core : ∀ H : Hp, Only H → SqL K H a (ns.map V.int) → HOk P w H s₁.heap → (∀ b, H b ≠ none → b = a) → (H a ≠ none → K.lookup a = none) →
      codeAny (model P w) callerA (.call (.ref fa) ⟨[.ref a], []⟩) (fun r s' => r = .ok (.ret (.bool true)) ∧ OldK s₁.heap s'.heap ∧ s'.os = s₁.os ∧ AllBare s'.gens) s₁ by
    cases hk : K.lookup a with
    | some o =>
      have e := KX a o hk
      rw [ha] at e
      cases e
      exact core (fun _ => none) (fun _ => .inl rfl) (.inr ⟨_, vs.toArray, _, hk, rfl, rfl, rfl, by rw [List.size_toArray, lenV]; exact hl, by simpa using rv⟩) (fun b u z => nomatch (z : (none : Option HO) = some u)) (fun b z => absurd rfl z) fun z => absurd rfl z
    | none =>
      refine core (fun b => if b = a then some (.frz { cls := .type "list", data := .seq vs.toArray } (.lst (ns.map V.int))) else none) (fun b => ?_) (.inl (.inr ⟨_, if_pos rfl⟩)) (fun b u z => ?_) (fun b z => ?_) fun _ => hk
      all_goals by_cases hb : b = a
      · exact .inr ⟨_, _, if_pos hb⟩
      · exact .inl (if_neg hb)
      · cases (if_pos hb).symm.trans z
        subst hb
        exact ⟨ha, by rw [List.length_map]; exact hl, vs, _, rv, ha⟩
      · cases (if_neg hb).symm.trans z
      · exact hb
      · exact absurd (if_neg hb) z
  intro H hO hS hok hA hK
  have base_of : ∀ {b : Addr} {o : Obj}, s₁.heap.get? b = some o → H b = none → (hidT s₁.heap H).get? b = some o := fun e n => hidT_get e n
  have nsK : ∀ {b : Addr} {m : Str → Option Value}, s₁.heap.Ns b m → (hidT s₁.heap H).Ns b m := fun {b m} ⟨o, es, ep, e, d, r⟩ => ⟨o, es, ep, base_of e (by
    cases q : H b with
    | none => rfl
    | some u =>
      obtain rfl : b = a := hA b (by rw [q]; simp)
      rw [ha] at e; cases e
      cases (d : Data.seq vs.toArray _ = Data.dict es ep)), d, r⟩
  have hKb : K.In (hidT s₁.heap H) := fun b o e => base_of (KX b o e) (by
    cases q : H b with
    | none => rfl
    | some u =>
      obtain rfl : b = a := hA b (by rw [q]; simp)
      rw [hK (by rw [q]; simp)] at e; cases e)
  have hM : Mod K mg (hidT s₁.heap H) := ⟨hKb, nsK hns, ⟨mb, nsK hb, hbb⟩, let ⟨mc, h1, h2⟩ := hlim; ⟨mc, nsK h1, h2⟩⟩
  have e0 : Env0 P w K mg (hidT s₁.heap H) callerA [] s₁ H := ⟨rfl, hM, fun b o e => of_hidT e, Nat.le_of_eq (hidT_size _ _), trivial, fun b hb => absurd (show b ∈ ([] : List Addr) from hb) (by simp), hok, .of_eq hg⟩
  refine codeAny_mono ((F _ hKb (nsK hns)).run callerA [] s₁ H ⟨[.ref a], []⟩ [.ref a] [.ref a] _ _ ⟨hr, gd_caller⟩ e0 (hbind s₁ (.ref a)) (.cons rfl .nil) (hsp H hO hS)) fun r s' h => ?_
  match r, h with
  | .error e, h => exact (hCX H e s' h).elim
  | .ok .next, h => exact False.elim h
  | .ok .brk, h => exact False.elim h
  | .ok .cont, h => exact False.elim h
  | .ok (.ret u), h =>
    obtain ⟨v, H', os, bare, un, hok', r', rfl⟩ := h
    obtain rfl : u = Value.bool true := r'
    refine ⟨rfl, OldK.of_keep fun b o e => ?_, os, bare⟩
    rcases hO b with q | ⟨ob, xs, q⟩
    · exact un.keep b o e q (fun z => absurd (show b ∈ ([] : List Addr) from z) (by simp)) (by simp)
    · obtain ⟨e1, _⟩ := hok b _ q
      obtain ⟨e2, _⟩ := hok' b _ (un.frzs b ob _ q)
      rw [e] at e1; cases e1
      exact e2
/-- the law's walk, where the written part is told by a Hook -/
theorem walk_by {l : PySem.W.OpenLaw} {n k : Nat} {q : Program} {loose : List Str} {XP : (Str → Option Value) → Heap → Prop} {YP : World → Heap → Prop} {d : DefRec} {CX : World → CXT} {x : Str} (hn : l.most = some n) (hz : n ≤ sizeLine) (hdf : d.params.defaults = []) (hr : Room k callerA)
    (F : ∀ (w : World) (mg : Str → Option Value) (fa : Addr) (h : Heap), YP w h → h.Ns mainGlobals mg → mg d.name = some (.ref fa) → ∃ (K : PySem.W.Frag) (fd : FuncData) (sp : Sp), K.In h ∧ (∀ (s : Shared) (u : Value), BindsTo s fd ⟨[u], []⟩ [(x, u)]) ∧
      (∀ (H : Hp) (a : Addr) (ns : List Int), ns.length ≤ n → Only H → SqL K H a (ns.map V.int) → sp [.ref a] H (fun v _ => v = .bl true) fun _ _ _ => False) ∧ ∀ base : Heap, K.In base → base.Ns mainGlobals mg → FnG l.prog w K mg base (CX w) k fa fd [x] sp)
    (hCX : ∀ (w : World) (H : Hp) (s : Shared) (e : Value) (s' : Shared), CX w [] H s (fun _ _ _ => False) e s' → False) : PySem.W.WalkO q loose XP YP l.row.toRowW d [] (fun f vs => PySem.call f vs) := by
  refine Att.attach_call hn hdf fun w s0 s1 mg mb fa o pm cd doc a vs ns G Y ho hd hcd hmg hobj hints hlen hg => ?_
  obtain ⟨K, fd, sp, hK, hb, hsp, hF⟩ := F w mg fa _ Y G.T.g hmg
  have hl := Nat.le_trans hlen hz
  exact call_top hK G.T.g G.T.b G.T.builtins G.T.nolimit hg hobj hints hl hr hF hb (fun H hO hS => hsp H a ns hlen hO hS) (fun H e s' => hCX w H s1 e s')
end BV

/-! The by-value layer, part q: rules for loops, small facts. -/
namespace BV
open PySem L2
theorem for_inv {g : GW} {body : SW} {undo : MS → MS} {E : En} (Pv : Nat → MS → Prop) {xs : List PV} {S : MS} (h0 : Pv 0 S)
    (step : ∀ (i : Nat) (x : PV) (S : MS) (k : MS → Prop), xs[i]? = some x → Pv i S → (∀ S2, Pv (i + 1) S2 → k S2) → g x S fun S1 => body S1 { nx := k, rt := fun t S2 => E.rt t (undo S2), bk := fun S2 => E.nx (undo S2), ct := k, ex := fun x S2 => E.ex x (undo S2) })
    (done : ∀ S, Pv xs.length S → E.nx (undo S)) : wForL g body undo xs S E := by
  have go : ∀ (ys : List PV) (i : Nat) (S : MS), xs.drop i = ys → i ≤ xs.length → Pv i S → wForL g body undo ys S E := by
    intro ys
    induction ys with
    | nil =>
      intro i S e hi h
      have : i = xs.length := by
        have := congrArg List.length e
        simp at this
        omega
      subst this
      exact done S h
    | cons y ys ih =>
      intro i S e hi h
      have lt : i < xs.length := by
        have := congrArg List.length e
        simp at this
        omega
      have e1 : xs[i]? = some y := by
        have := congrArg (fun l : List PV => l[(0 : Nat)]?) e
        simpa using this
      have e2 : xs.drop (i + 1) = ys := by
        have := congrArg List.tail e
        simpa [List.tail_drop] using this
      exact step i y S (fun S2 => wForL g body undo ys S2 E) e1 h fun S2 h2 => ih (i + 1) S2 e2 lt h2
  exact go xs 0 S rfl (Nat.zero_le _) h0
theorem lc_inv {vs : List Nat} {g : GW} {tt : TW} {we : EW} {k : List PV → MS → Prop} (Pv : Nat → List PV → MS → Prop) {xs ys0 : List PV} {S : MS} (h0 : Pv 0 ys0 S)
    (step : ∀ (i : Nat) (x : PV) (ys : List PV) (S : MS) (k : List PV → MS → Prop), xs[i]? = some x → Pv i ys S → (∀ ys S2, Pv (i + 1) ys S2 → k ys S2) →
      g x S fun S1 => tt S1 (fun b S2 => (b = true → we S2 (fun t S3 => kpK S3 t fun y S4 => ys.length < sizeLine ∧ k (ys ++ [y]) (wipeS S4 vs)) (fun _ _ => False)) ∧ (b = false → k ys (wipeS S2 vs))) (fun _ _ => False))
    (done : ∀ ys S, Pv xs.length ys S → k ys S) : wLcL vs g tt we xs ys0 S k := by
  have go : ∀ (zs : List PV) (i : Nat) (ys : List PV) (S : MS), xs.drop i = zs → i ≤ xs.length → Pv i ys S → wLcL vs g tt we zs ys S k := by
    intro zs
    induction zs with
    | nil =>
      intro i ys S e hi h
      have : i = xs.length := by
        have := congrArg List.length e
        simp at this
        omega
      subst this
      exact done ys S h
    | cons y zs ih =>
      intro i ys S e hi h
      have lt : i < xs.length := by
        have := congrArg List.length e
        simp at this
        omega
      have e1 : xs[i]? = some y := by
        have := congrArg (fun l : List PV => l[(0 : Nat)]?) e
        simpa using this
      have e2 : xs.drop (i + 1) = zs := by
        have := congrArg List.tail e
        simpa [List.tail_drop] using this
      exact step i y ys S (fun ys S2 => wLcL vs g tt we zs ys S2 k) e1 h fun ys S2 h2 => ih (i + 1) ys S2 e2 lt h2
  exact go xs 0 ys0 S rfl (Nat.zero_le _) h0
@[simp] theorem isL_emp : Slot.isL .emp = false := rfl
@[simp] theorem isL_val (x : PV) : Slot.isL (.val x) = false := rfl
@[simp] theorem isL_own (x : PV) : Slot.isL (.own x) = false := rfl
@[simp] theorem isL_bor (x : PV) : Slot.isL (.bor x) = false := rfl
@[simp] theorem isL_lent (x : PV) : Slot.isL (.lent x) = true := rfl
@[simp] theorem isL_slf (x : PV) : Slot.isL (.slf x) = true := rfl
/-! displays of constants -/
def wCs (cs : List PV) : AW := fun S P _ => P (cs.map TV.val) S
def wLstC (cs : List PV) : EW := fun S P _ => cs.length ≤ sizeLine ∧ P (.fresh (.lst cs)) S
def wTupC (cs : List PV) : EW := fun S P _ => cs.length ≤ sizeLine ∧ P (.val (.tup cs)) S
theorem kpAll_vals (S : MS) : ∀ (cs : List PV) (k : List PV → MS → Prop), kpAll S (cs.map TV.val) k = k cs S
  | [], _ => rfl
  | x :: cs, k => kpAll_vals S cs fun xs S2 => k (x :: xs) S2
section
variable {X : Cx} {WW : WX} {e : Expr} {es : List Expr} {x : PV} {cs : List PV} {pos : Pos}
theorem EM.imp {w w' : EW} (h : EM X WW e w) (i : ∀ S P PX, w' S P PX → w S P PX) : EM X WW e w' := ⟨pe_imp h.pe fun σ H Q ⟨A, W, S, P, PX, wd, q, r⟩ => ⟨A, W, S, P, PX, wd, i _ _ _ q, r⟩⟩
theorem cs_nil : AM X WW [] (wCs []) := am_nil
theorem cs_cons (ha : EM X WW e (wC x)) (hr : AM X WW es (wCs cs)) (hs : starEach (e :: es) X.env = (false, eval e X.env) :: starEach es X.env := by rfl) : AM X WW (e :: es) (wCs (x :: cs)) := am_cons ha hr hs
theorem em_lstC (h : AM X WW es (wCs cs)) : EM X WW (.List es pos) (wLstC cs) := (em_lst h).imp fun S P PX q => by
  show (cs.map TV.val).length ≤ sizeLine ∧ kpAll S (cs.map TV.val) fun xs S2 => P (.fresh (.lst xs)) S2
  rw [List.length_map, kpAll_vals]
  exact q
theorem em_tupC {kk : Nat} (h : AM X WW es (wCs cs)) : EM X WW (.Tuple es kk pos) (wTupC cs) := (em_tup h).imp fun S P PX q => by
  show (cs.map TV.val).length ≤ sizeLine ∧ kpAll S (cs.map TV.val) fun xs S2 => P (.val (.tup xs)) S2
  rw [List.length_map, kpAll_vals]
  exact q
end
theorem fmP {a m : Int} (h : 0 < m) : a.fmod m = a % m := Int.fmod_eq_emod_of_nonneg a (by omega)
theorem fdP {a m : Int} (h : 0 < m) : a.fdiv m = a / m := Int.fdiv_eq_ediv_of_nonneg a (by omega)
theorem set_id {α : Type} {l : List α} {n : Nat} {x : α} (h : l[n]? = some x) : l.set n x = l := by
  refine List.ext_getElem? fun j => ?_
  by_cases e : n = j
  · subst e
    rw [List.getElem?_set_self (List.getElem?_eq_some_iff.mp h).1, h]
  · rw [List.getElem?_set_ne e]
/-- what take gives: any digit -/
def sTake : FW := fun args c rt _ => match args with
  | [.val (.cel n), .val (.int m)] => c[n]? = some .bag ∧ (1 ≤ m ∧ m < 1073741824) ∧ ∀ d : Int, 0 ≤ d → d < m → rt (.val (.int d)) c
  | _ => False
theorem sTake_of {args : List Slot} {c : List PV} {rt : TV → List PV → Prop} {ex : Ex → List PV → Prop} (h : sTake args c rt ex) : ∃ (n : Nat) (m : Int), args = [.val (.cel n), .val (.int m)] ∧ c[n]? = some .bag ∧ (1 ≤ m ∧ m < 1073741824) ∧ ∀ d : Int, 0 ≤ d → d < m → rt (.val (.int d)) c := by
  unfold sTake at h
  split at h
  · exact ⟨_, _, rfl, h⟩
  · exact h.elim
/-- the bag of a script -/
def sBag : FW := fun args c rt _ => match args with
  | [.val (.scr _), .val (.int i)] => (0 ≤ i ∧ i < 1000) ∧ rt (.val (.cel c.length)) (c ++ [.bag])
  | _ => False
theorem sBag_of {args : List Slot} {c : List PV} {rt : TV → List PV → Prop} {ex : Ex → List PV → Prop} (h : sBag args c rt ex) : ∃ (ns : List Int) (i : Int), args = [.val (.scr ns), .val (.int i)] ∧ (0 ≤ i ∧ i < 1000) ∧ rt (.val (.cel c.length)) (c ++ [.bag]) := by
  unfold sBag at h
  split at h
  · exact ⟨_, _, rfl, h⟩
  · exact h.elim
/-- one of some, which are lent or kept -/
def ofK (xs : List PV) (n : Nat) (c : List PV) (rt : TV → List PV → Prop) : Prop := c[n]? = some .bag ∧ (1 ≤ xs.length ∧ xs.length < 1000) ∧ ∀ x, x ∈ xs → rt (.val x) c
def sOf : FW := fun args c rt _ => match args with
  | [.val (.cel n), .bor (.lst xs)] => ofK xs n c rt
  | [.val (.cel n), .val (.lst xs)] => ofK xs n c rt
  | _ => False
theorem sOf_of {args : List Slot} {c : List PV} {rt : TV → List PV → Prop} {ex : Ex → List PV → Prop} (h : sOf args c rt ex) : ∃ (n : Nat) (xs : List PV), (args = [.val (.cel n), .bor (.lst xs)] ∨ args = [.val (.cel n), .val (.lst xs)]) ∧ ofK xs n c rt := by
  unfold sOf at h
  split at h
  · exact ⟨_, _, .inl rfl, h⟩
  · exact ⟨_, _, .inr rfl, h⟩
  · exact h.elim
theorem atI_ok {α : Type} {xs : List α} {i : Int} (h0 : 0 ≤ i) (h1 : i < xs.length) : ∃ x, atI xs i = some x ∧ xs[i.toNat]? = some x := by
  have h : i.toNat < xs.length := by omega
  refine ⟨xs[i.toNat], ?_, List.getElem?_eq_getElem h⟩
  unfold atI ixN
  rw [if_pos h0, if_pos h1]
  exact List.getElem?_eq_getElem h
theorem cutP_len (xs : List PV) (lo hi : Option Int) : (cutP xs lo hi).length ≤ xs.length := by
  unfold cutP
  rw [List.length_take, List.length_drop]
  omega
theorem cutP_sub {xs : List PV} {lo hi : Option Int} {x : PV} (h : x ∈ cutP xs lo hi) : x ∈ xs := List.mem_of_mem_drop (List.mem_of_mem_take h)
theorem cutP_to (xs : List PV) {j : Int} (h0 : 0 ≤ j) : cutP xs none (some j) = xs.take j.toNat := by
  unfold cutP
  have e : HT.sIx xs.length xs.length (some j) = min j.toNat xs.length := by
    show (if j < 0 then (j + (xs.length : Int)).toNat else min j.toNat xs.length) = _
    rw [if_neg (show ¬ j < 0 by omega)]
  rw [e]
  show List.take (min j.toNat xs.length - 0) (List.drop 0 xs) = _
  rw [List.drop_zero, Nat.sub_zero]
  by_cases hl : j.toNat ≤ xs.length
  · rw [Nat.min_eq_left hl]
  · rw [Nat.min_eq_right (by omega), List.take_of_length_le (by omega), List.take_of_length_le (by omega)]
theorem cutP_from (xs : List PV) {j : Int} (h0 : 0 ≤ j) : cutP xs (some j) none = xs.drop j.toNat := by
  unfold cutP
  have e : HT.sIx xs.length 0 (some j) = min j.toNat xs.length := by
    show (if j < 0 then (j + (xs.length : Int)).toNat else min j.toNat xs.length) = _
    rw [if_neg (show ¬ j < 0 by omega)]
  rw [e]
  show List.take (xs.length - min j.toNat xs.length) (List.drop (min j.toNat xs.length) xs) = _
  rw [List.take_of_length_le (by rw [List.length_drop]; omega)]
  by_cases hl : j.toNat ≤ xs.length
  · rw [Nat.min_eq_left hl]
  · rw [Nat.min_eq_right (by omega), List.drop_of_length_le (by omega), List.drop_of_length_le (by omega)]
theorem rgP_at {lo : Int} {n i : Nat} {x : PV} (h : (rgP lo n)[i]? = some x) : x = .int (lo + (i : Int)) ∧ i < n := by
  have hl : i < n := by
    have := (List.getElem?_eq_some_iff.mp h).1
    rwa [rgP_length] at this
  rw [rgP_get hl] at h
  exact ⟨(Option.some.inj h).symm, hl⟩
theorem enP_at {xs : List PV} {i : Nat} {x : PV} (h : (enP xs)[i]? = some x) : ∃ y, x = .tup [.int (i : Int), y] ∧ xs[i]? = some y := by
  have hl : i < xs.length := by
    have := (List.getElem?_eq_some_iff.mp h).1
    rwa [enP_length] at this
  have e := List.getElem?_eq_getElem hl
  rw [enP_get e] at h
  exact ⟨_, (Option.some.inj h).symm, e⟩
end BV

/-! The by-value layer, part r: the equations of the wp terms at their full arity, printed by mkeq.py. -/
namespace BV
open PySem L2
theorem wVar_e {i : Nat} {S : _} {P : _} {x_2 : _} : wVar i S P x_2 = (match S.sl[i]? with
  | some (.val x) => P (.val x) S
  | some (.own _) => P (.slot i) S
  | some (.lent _) => P (.slot i) S
  | some (.slf _) => P (.slot i) S
  | some (.bor x) => P (.bor x) S
  | _ => False)   := id rfl
theorem wC_e {x : PV} {S : _} {P : _} {x_2 : _} : wC x S P x_2 = (P (.val x) S)   := id rfl
theorem wOp2_e {rs : RS2} {wa wb : EW} {S : _} {P : _} {PX : _} : wOp2 rs wa wb S P PX = (wa S (fun ta S1 => wb S1 (fun tb S2 => rdK S2 ta fun x => rdK S2 tb fun y => rs x y fun t => P t S2) PX) PX)   := id rfl
theorem wTest_e {w : EW} {S : _} {P : _} {PX : _} : wTest w S P PX = (w S (fun t S1 => rdK S1 t fun x => isBl x fun b => P b S1) PX)   := id rfl
theorem wAnd_e {u w : TW} {S : _} {P : _} {PX : _} : wAnd u w S P PX = (u S (fun b S1 => (b = true → w S1 P PX) ∧ (b = false → P false S1)) PX)   := id rfl
theorem wOr_e {u w : TW} {S : _} {P : _} {PX : _} : wOr u w S P PX = (u S (fun b S1 => (b = false → w S1 P PX) ∧ (b = true → P true S1)) PX)   := id rfl
theorem wNot_e {u : TW} {S : _} {P : _} {PX : _} : wNot u S P PX = (u S (fun b S1 => P (!b) S1) PX)   := id rfl
theorem wAndV_e {u w : EW} {S : _} {P : _} {PX : _} : wAndV u w S P PX = (u S (fun t S1 => rdK S1 t fun x => isBl x fun b => (b = true → w S1 P PX) ∧ (b = false → P (.val (.bl false)) S1)) PX)   := id rfl
theorem wOrV_e {u w : EW} {S : _} {P : _} {PX : _} : wOrV u w S P PX = (u S (fun t S1 => rdK S1 t fun x => isBl x fun b => (b = false → w S1 P PX) ∧ (b = true → P (.val (.bl true)) S1)) PX)   := id rfl
theorem wNotV_e {u : EW} {S : _} {P : _} {PX : _} : wNotV u S P PX = (u S (fun t S1 => rdK S1 t fun x => isBl x fun b => P (.val (.bl (!b))) S1) PX)   := id rfl
theorem wIfE_e {c : TW} {u w : EW} {S : _} {P : _} {PX : _} : wIfE c u w S P PX = (c S (fun b S1 => (b = true → u S1 P PX) ∧ (b = false → w S1 P PX)) PX)   := id rfl
theorem aNil_e {S : _} {P : _} {x_2 : _} : aNil S P x_2 = (P [] S)   := id rfl
theorem aCons_e {wa : EW} {wr : AW} {S : _} {P : _} {PX : _} : aCons wa wr S P PX = (wa S (fun t S1 => wr S1 (fun ts S2 => P (stl t :: ts) S2) PX) PX)   := id rfl
theorem wLst_e {wr : AW} {S : _} {P : _} {PX : _} : wLst wr S P PX = (wr S (fun ts S1 => ts.length ≤ sizeLine ∧ kpAll S1 ts fun xs S2 => P (.fresh (.lst xs)) S2) PX)   := id rfl
theorem wTup_e {wr : AW} {S : _} {P : _} {PX : _} : wTup wr S P PX = (wr S (fun ts S1 => ts.length ≤ sizeLine ∧ kpAll S1 ts fun xs S2 => P (.val (.tup xs)) S2) PX)   := id rfl
theorem wCall_e {n : Nat} {fw : FW} {wr : AW} {S : _} {P : _} {PX : _} : wCall n fw wr S P PX = (wr S (fun ts S1 => argK S1 ts fun as => as.length = n ∧ fw as S1.c (fun r c' => P r { S1 with c := c' }) (fun x c' => PX x { S1 with c := c' })) PX)   := id rfl
theorem wSet_e {i : Nat} {w : EW} {S : _} {E : _} : wSet i w S E = (w S (fun t S1 => asgK i t S1 E.nx) E.ex)   := id rfl
theorem wSeq_e {u w : SW} {S : _} {E : _} : wSeq u w S E = (u S { E with nx := fun S1 => w S1 E })   := id rfl
theorem wSkip_e {S : _} {E : _} : wSkip S E = (E.nx S)   := id rfl
theorem wIf_e {c : TW} {u w : SW} {S : _} {E : _} : wIf c u w S E = (c S (fun b S1 => (b = true → u S1 E) ∧ (b = false → w S1 E)) E.ex)   := id rfl
theorem wDrop_e {w : EW} {S : _} {E : _} : wDrop w S E = (w S (fun _ S1 => E.nx S1) E.ex)   := id rfl
theorem wRet_e {w : EW} {S : _} {E : _} : wRet w S E = (w S E.rt E.ex)   := id rfl
theorem wRetN_e {S : _} {E : _} : wRetN S E = (E.rt (.val .non) S)   := id rfl
theorem wBrk_e {S : _} {E : _} : wBrk S E = (E.bk S)   := id rfl
theorem wCnt_e {S : _} {E : _} : wCnt S E = (E.ct S)   := id rfl
theorem wNev_e {x_0 : _} {x_1 : _} : wNev x_0 x_1 = (False)   := id rfl
theorem gwName_e {i : Nat} {x : _} {S : _} {P : _} : gwName i x S P = ((match S.sl[i]? with | some s => s.isL = false | none => False) ∧ P { S with sl := S.sl.set i (.val x) })   := id rfl
theorem gwNil_e {xs : _} {S : _} {P : _} : gwNil xs S P = (match xs with | [] => P S | _ => False)   := id rfl
theorem gwCons_e {g : GW} {gs : GWs} {xs : _} {S : _} {P : _} : gwCons g gs xs S P = (match xs with | x :: r => g x S fun S1 => gs r S1 P | _ => False)   := id rfl
theorem gwTup_e {gs : GWs} {x : _} {S : _} {P : _} : gwTup gs x S P = (match x with | .tup xs => gs xs S P | _ => False)   := id rfl
theorem gwTupN_e {n : Nat} {gs : GWs} {x : _} {S : _} {P : _} : gwTupN n gs x S P = (match x with | .tup xs => xs.length = n ∧ gs xs S P | _ => False)   := id rfl
theorem wSrc_e {w : EW} {S : _} {P : _} {PX : _} : wSrc w S P PX = (w S (fun t S1 => srcK t S1 P) PX)   := id rfl
theorem wSrcZ_e {w : EW} {S : _} {P : _} {PX : _} : wSrcZ w S P PX = (w S (fun t S1 => srcZ t S1 P) PX)   := id rfl
theorem wRng1_e {w : EW} {S : _} {P : _} {PX : _} : wRng1 w S P PX = (w S (fun t S1 => rdK S1 t fun x => asInt x fun j => (-(2 ^ 62) ≤ j ∧ j < 2 ^ 62) ∧ P (rgP 0 j.toNat) id S1) PX)   := id rfl
theorem wRng2_e {wa wb : EW} {S : _} {P : _} {PX : _} : wRng2 wa wb S P PX = (wa S (fun t S1 => wb S1 (fun t2 S2 => rdK S2 t fun x => rdK S2 t2 fun y => asInt x fun i => asInt y fun j => (-(2 ^ 62) ≤ i ∧ i < 2 ^ 62 ∧ -(2 ^ 62) ≤ j ∧ j < 2 ^ 62) ∧ P (rgP i (j - i).toNat) id S2) PX) PX)   := id rfl
theorem wFor_e {wi : IW} {g : GW} {body : SW} {S : _} {E : _} : wFor wi g body S E = (wi S (fun xs undo S1 => wForL g body undo xs S1 E) E.ex)   := id rfl
theorem wLc_e {vs : List Nat} {wi : IW} {g : GW} {tt : TW} {we : EW} {S : _} {P : _} {PX : _} : wLc vs wi g tt we S P PX = (wi S (fun xs undo S1 => noLent S1.sl vs ∧ wLcL vs g tt we xs [] (wipeS S1 vs) fun ys S2 => P (.fresh (.lst ys)) (undo S2)) PX)   := id rfl
theorem wYes_e {S : _} {P : _} {x_2 : _} : wYes S P x_2 = (P true S)   := id rfl
theorem rsEq_e {x : _} {y : _} {k : _} : rsEq x y k = ((datN 40 x = true ∧ datN 40 y = true) ∧ k (.val (.bl (pvEq x y))))   := id rfl
theorem rsNe_e {x : _} {y : _} {k : _} : rsNe x y k = ((datN 40 x = true ∧ datN 40 y = true) ∧ k (.val (.bl (!pvEq x y))))   := id rfl
theorem rsIn_e {x : _} {y : _} {k : _} : rsIn x y k = (inK x y fun b => k (.val (.bl b)))   := id rfl
theorem rsNotIn_e {x : _} {y : _} {k : _} : rsNotIn x y k = (inK x y fun b => k (.val (.bl !b)))   := id rfl
theorem rsInt_e {C : Int → Int → Prop} {g : Int → Int → PV} {x : _} {y : _} {k : _} : rsInt C g x y k = (intK x y fun i j => C i j ∧ k (.val (g i j)))   := id rfl
theorem rsInt0_e {g : Int → Int → PV} {x : _} {y : _} {k : _} : rsInt0 g x y k = (intK x y fun i j => k (.val (g i j)))   := id rfl
theorem rsAdd_e {x : _} {y : _} {k : _} : rsAdd x y k = (match x with
  | .int i => (match y with | .int j => k (.val (.int (i + j))) | _ => False)
  | .str a => (match y with | .str b => a.length + b.length ≤ sizeLine ∧ k (.val (.str (a ++ b))) | _ => False)
  | .lst a => (match y with | .lst b => a.length + b.length ≤ sizeLine ∧ k (.fresh (.lst (a ++ b))) | _ => False)
  | .tup a => (match y with | .tup b => a.length + b.length ≤ sizeLine ∧ k (.val (.tup (a ++ b))) | _ => False)
  | _ => False)   := id rfl
theorem rsIsN_e {x : _} {y : _} {k : _} : rsIsN x y k = (match y with | .non => k (.val (.bl (isNonP x))) | _ => False)   := id rfl
theorem rsNotN_e {x : _} {y : _} {k : _} : rsNotN x y k = (match y with | .non => k (.val (.bl (!isNonP x))) | _ => False)   := id rfl
theorem rsIx_e {x : _} {y : _} {k : _} : rsIx x y k = (match y with
  | .int i => (match x with
    | .lst xs => (match atI xs i with | some v => k (.val v) | none => False)
    | .tup xs => (match atI xs i with | some v => k (.val v) | none => False)
    | .str z => z.length ≤ sizeLine ∧ (match atI z.cps.toList i with | some c => k (.val (.str ⟨#[c]⟩)) | none => False)
    | _ => False)
  | _ => False)   := id rfl
theorem oNo_e {S : _} {P : _} {x_2 : _} : oNo S P x_2 = (P none S)   := id rfl
theorem oOf_e {w : EW} {S : _} {P : _} {PX : _} : oOf w S P PX = (w S (fun t S1 => rdK S1 t fun x => asInt x fun i => P (some i) S1) PX)   := id rfl
theorem wSl_e {we : EW} {wl wh : OW} {S : _} {P : _} {PX : _} : wSl we wl wh S P PX = (we S (fun t S1 => wl S1 (fun lo S2 => wh S2 (fun hi S3 => rdK S3 t fun x => slK x lo hi fun r => P r S3) PX) PX) PX)   := id rfl
theorem wRev_e {we : EW} {S : _} {P : _} {PX : _} : wRev we S P PX = (we S (fun t S1 => rdK S1 t fun x => revK x fun r => P r S1) PX)   := id rfl
theorem wNeg_e {we : EW} {S : _} {P : _} {PX : _} : wNeg we S P PX = (we S (fun t S1 => rdK S1 t fun x => asInt x fun i => P (.val (.int (-i))) S1) PX)   := id rfl
theorem wCh_e {rs rs' : RS2} {wa wb wc : EW} {S : _} {P : _} {PX : _} : wCh rs rs' wa wb wc S P PX = (wa S (fun ta S1 => wb S1 (fun tb S2 => rdK S2 ta fun x => rdK S2 tb fun y => rs x y fun t => isBlT t fun b =>
  (b = true → wc S2 (fun tc S3 => rdK S3 tb fun y' => rdK S3 tc fun z => rs' y' z fun t => P t S3) PX) ∧ (b = false → P (.val (.bl false)) S2)) PX) PX)   := id rfl
theorem wBlt_e {rc : RC} {wr : AW} {S : _} {P : _} {PX : _} : wBlt rc wr S P PX = (wr S (fun ts S1 => rdAll S1 ts fun xs => rc xs fun t => P t S1) PX)   := id rfl
theorem rc1_e (f : PV → (TV → Prop) → Prop) {xs : _} {k : _} : rc1 f xs k = (match xs with | [x] => f x k | _ => False)   := id rfl
theorem rc2_e (f : PV → PV → (TV → Prop) → Prop) {xs : _} {k : _} : rc2 f xs k = (match xs with | [x, y] => f x y k | _ => False)   := id rfl
theorem wEn_e {w : EW} {S : _} {P : _} {PX : _} : wEn w S P PX = (w S (fun t S1 => srcK t S1 fun xs undo S2 => P (enP xs) undo S2) PX)   := id rfl
theorem wChs_e {w : EW} {S : _} {P : _} {PX : _} : wChs w S P PX = (w S (fun t S1 => rdK S1 t fun x => strK x fun z => P (chars z) id S1) PX)   := id rfl
theorem wJoin_e {wo we : EW} {S : _} {P : _} {PX : _} : wJoin wo we S P PX = (wo S (fun t S1 => rdK S1 t fun x => strK x fun a => we S1 (fun t2 S2 => rdK S2 t2 fun y => joinK (.str a) y fun z => P (.val (.str z)) S2) PX) PX)   := id rfl
theorem wMut_e {f : MF} {wo : EW} {wr : AW} {S : _} {P : _} {PX : _} : wMut f wo wr S P PX = (wo S (fun t S1 => (wrK S1 t fun x _ => lstK x fun _ => True) ∧ wr S1 (fun ts S2 => kpAll S2 ts fun xs S3 => wrK S3 t fun x up => lstK x fun old => f old xs fun r new => P (.val r) (up (.lst new))) PX) PX)   := id rfl
theorem mfAppend_e {old : _} {xs : _} {k : _} : mfAppend old xs k = (match xs with | [y] => old.length < sizeLine ∧ k .non (old ++ [y]) | _ => False)   := id rfl
theorem mfPop_e {old : _} {xs : _} {k : _} : mfPop old xs k = (match xs with | [] => (match old[old.length - 1]? with | some y => k y old.dropLast | none => False) | _ => False)   := id rfl
theorem mfReverse_e {old : _} {xs : _} {k : _} : mfReverse old xs k = (match xs with | [] => k .non old.reverse | _ => False)   := id rfl
theorem mfInsert_e {old : _} {xs : _} {k : _} : mfInsert old xs k = (match xs with | [i, y] => (match i with | .int i => (old.length < sizeLine ∧ 0 ≤ i ∧ i < 2 ^ 63) ∧ k .non (old.take i.toNat ++ [y] ++ old.drop i.toNat) | _ => False) | _ => False)   := id rfl
theorem mfExtend_e {old : _} {xs : _} {k : _} : mfExtend old xs k = (match xs with | [y] => (match y with | .lst zs => old.length + zs.length ≤ sizeLine ∧ k .non (old ++ zs) | _ => False) | _ => False)   := id rfl
theorem wSetIx_e {wo wi we : EW} {S : _} {E : _} : wSetIx wo wi we S E = (we S (fun t S1 => kpK S1 t fun v S2 => wo S2 (fun ot S3 => (wrK S3 ot fun _ _ => True) ∧ wi S3 (fun ti S4 => rdK S4 ti fun y => asInt y fun i => wrK S4 ot fun x up => lstK x fun old =>
  match ixN old.length i with | some j => E.nx (up (.lst (old.set j v))) | none => False) E.ex) E.ex) E.ex)   := id rfl
theorem wFmt_e {w : EW} {S : _} {P : _} {PX : _} : wFmt w S P PX = (w S (fun t S1 => rdK S1 t fun x => fmtK x fun z => P (.val (.str z)) S1) PX)   := id rfl
theorem wFmtR_e {w : EW} {S : _} {P : _} {PX : _} : wFmtR w S P PX = (w S (fun t S1 => rdK S1 t fun x => fmtRK x fun z => P (.val (.str z)) S1) PX)   := id rfl
theorem wFs_e {ws : List EW} {S : _} {P : _} {PX : _} : wFs ws S P PX = (wJs ws Str.empty S (fun z S1 => P (.val (.str z)) S1) PX)   := id rfl
theorem wIsi_e {f : PV → Option Bool} {we : EW} {S : _} {P : _} {PX : _} : wIsi f we S P PX = (we S (fun t S1 => rdK S1 t fun x => match f x with | some b => P (.val (.bl b)) S1 | none => False) PX)   := id rfl
theorem wFld_e {Cs : List Addr} {f : Str} {we : EW} {S : _} {P : _} {PX : _} : wFld Cs f we S P PX = (we S (fun t S1 => objK S1 t fun C fs => C ∈ Cs ∧ match fs.lookup f with | some y => P (.val y) S1 | none => False) PX)   := id rfl
theorem wSetF_e {Cs : List Addr} {f : Str} {wo we : EW} {S : _} {E : _} : wSetF Cs f wo we S E = (we S (fun t S1 => kpK S1 t fun v S2 => wo S2 (fun ot S3 => wrK S3 ot fun x up => objW x fun C fs => (C ∈ Cs ∧ fs.length < 1000) ∧ E.nx (up (.obj C (putP f v fs)))) E.ex) E.ex)   := id rfl
theorem wSp1_e (C : Addr) (fw : FW) (post : TV → (TV → Prop) → Prop) (we : EW) {S : _} {P : _} {PX : _} : wSp1 C fw post we S P PX = (we S (fun t S1 => (objK S1 t fun C' _ => C' = C) ∧ argK S1 [stl t] fun as => as.length = 1 ∧ fw as S1.c (fun r c' => post r fun r' => P r' { S1 with c := c' }) (fun _ _ => False)) PX)   := id rfl
theorem wEqO_e {g : Bool → Bool} {C : Addr} {Ds : List Addr} {fw : FW} {wa wb : EW} {S : _} {P : _} {PX : _} : wEqO g C Ds fw wa wb S P PX = (wa S (fun ta S1 => wb S1 (fun tb S2 => (objK S2 (stl ta) fun C' _ => C' = C) ∧ (rdK S2 tb fun y => nfK Ds S2 y) ∧ argK S2 [stl ta, stl tb] fun as => as.length = 2 ∧ fw as S2.c (fun r c' => pB g r fun r' => P r' { S2 with c := c' }) (fun _ _ => False)) PX) PX)   := id rfl
theorem wInO_e {g : Bool → Bool} {C : Addr} {fw : FW} {wa wb : EW} {S : _} {P : _} {PX : _} : wInO g C fw wa wb S P PX = (wa S (fun ta S1 => wb S1 (fun tb S2 => (objK S2 (stl tb) fun C' _ => C' = C) ∧ argK S2 [stl tb, stl ta] fun as => as.length = 2 ∧ fw as S2.c (fun r c' => pB g r fun r' => P r' { S2 with c := c' }) (fun _ _ => False)) PX) PX)   := id rfl
theorem wMeth_e {C : Addr} {m : Str} {n : Nat} {fw : FW} {wo : EW} {wr : AW} {S : _} {P : _} {PX : _} : wMeth C m n fw wo wr S P PX = (wo S (fun t S1 => (objK S1 t fun C' fs => C' = C ∧ fs.lookup m = none) ∧ wr S1 (fun ts S2 => argK S2 (stl t :: ts) fun as => as.length = n ∧ fw as S2.c (fun r c' => P r { S2 with c := c' }) (fun x c' => PX x { S2 with c := c' })) PX) PX)   := id rfl
theorem wIxC_e {wo wi : EW} {S : _} {P : _} {PX : _} : wIxC wo wi S P PX = (wo S (fun ta S1 => wi S1 (fun tb S2 => rdK S2 ta fun x => derefK S2.c x fun x => rdK S2 tb fun y => rsIx x y fun t => P t S2) PX) PX)   := id rfl
theorem rsIxS_e {x : _} {y : _} {k : _} : rsIxS x y k = (match x with
  | .scr ns => (match y with | .int i => (match atI ns i with | some z => k (.val (.int z)) | none => False) | _ => False)
  | _ => False)   := id rfl
theorem wSlS_e {we : EW} {wl wh : OW} {S : _} {P : _} {PX : _} : wSlS we wl wh S P PX = (we S (fun t S1 => wl S1 (fun lo S2 => wh S2 (fun hi S3 => rdK S3 t fun x => slSK x lo hi fun r => P r S3) PX) PX) PX)   := id rfl
theorem wLstC_e {cs : List PV} {S : _} {P : _} {x_2 : _} : wLstC cs S P x_2 = (cs.length ≤ sizeLine ∧ P (.fresh (.lst cs)) S)   := id rfl
theorem wTupC_e {cs : List PV} {S : _} {P : _} {x_2 : _} : wTupC cs S P x_2 = (cs.length ≤ sizeLine ∧ P (.val (.tup cs)) S)   := id rfl
theorem rsSub_e {x y : PV} {k : TV → Prop} : rsSub x y k = (intK x y fun i j => k (.val (.int (i - j))))   := id rfl
theorem rsMulI_e {x y : PV} {k : TV → Prop} : rsMulI x y k = (intK x y fun i j => CMul i j ∧ k (.val (.int (i * j))))   := id rfl
theorem rsFdiv_e {x y : PV} {k : TV → Prop} : rsFdiv x y k = (intK x y fun i j => CDivN i j ∧ k (.val (.int (i.fdiv j))))   := id rfl
theorem rsMod_e {x y : PV} {k : TV → Prop} : rsMod x y k = (intK x y fun i j => j ≠ 0 ∧ k (.val (.int (i.fmod j))))   := id rfl
theorem rsPow_e {x y : PV} {k : TV → Prop} : rsPow x y k = (intK x y fun i j => CPow i j ∧ k (.val (.int (i ^ j.toNat))))   := id rfl
theorem rsLt_e {x y : PV} {k : TV → Prop} : rsLt x y k = (intK x y fun i j => k (.val (.bl (decide (i < j)))))   := id rfl
theorem rsLe_e {x y : PV} {k : TV → Prop} : rsLe x y k = (intK x y fun i j => k (.val (.bl (decide (i ≤ j)))))   := id rfl
theorem rsGt_e {x y : PV} {k : TV → Prop} : rsGt x y k = (intK x y fun i j => k (.val (.bl (decide (j < i)))))   := id rfl
theorem rsGe_e {x y : PV} {k : TV → Prop} : rsGe x y k = (intK x y fun i j => k (.val (.bl (decide (j ≤ i)))))   := id rfl
section
variable {S : MS} {x y : PV} {xs ys : List PV} {t : TV} {ts : List TV} {i j : Int} {n : Nat} {z a : Str} {b : Bool} {c : List PV}
theorem rdK_val {k : PV → Prop} : rdK S (.val x) k = k x := id rfl
theorem rdK_fresh {k : PV → Prop} : rdK S (.fresh x) k = k x := id rfl
theorem rdK_bor {k : PV → Prop} : rdK S (.bor x) k = k x := id rfl
theorem rdK_slot {k : PV → Prop} : rdK S (.slot n) k = (match S.sl[n]? with | some (.own x) => k x | some (.val x) => k x | some (.lent x) => k x | some (.slf x) => k x | _ => False) := id rfl
theorem kpK_val {k : PV → MS → Prop} : kpK S (.val x) k = k x S := id rfl
theorem kpK_fresh {k : PV → MS → Prop} : kpK S (.fresh x) k = k x S := id rfl
theorem kpK_slot {k : PV → MS → Prop} : kpK S (.slot n) k = (match S.sl[n]? with | some (.own x) => k x { S with sl := S.sl.set n (.val x) } | some (.val x) => k x S | _ => False) := id rfl
theorem retK_val {k : TV → Prop} : retK S (.val x) k = k (.val x) := id rfl
theorem retK_fresh {k : TV → Prop} : retK S (.fresh x) k = k (.fresh x) := id rfl
theorem retK_slot {k : TV → Prop} : retK S (.slot n) k = (match S.sl[n]? with | some (.own x) => k (.fresh x) | some (.slf x) => k (.fresh x) | some (.val x) => k (.val x) | _ => False) := id rfl
theorem asgK_val {k : MS → Prop} : asgK n (.val x) S k = ((match S.sl[n]? with | some s => s.isL = false | none => False) ∧ k { S with sl := S.sl.set n (.val x) }) := id rfl
theorem asgK_bor {k : MS → Prop} : asgK n (.bor x) S k = ((match S.sl[n]? with | some s => s.isL = false | none => False) ∧ k { S with sl := S.sl.set n (.bor x) }) := id rfl
theorem asgK_fresh {k : MS → Prop} : asgK n (.fresh x) S k = ((match S.sl[n]? with | some s => s.isL = false | none => False) ∧ k { S with sl := S.sl.set n (.own x) }) := id rfl
theorem asgK_slot {m : Nat} {k : MS → Prop} : asgK n (.slot m) S k = ((match S.sl[n]? with | some s => s.isL = false | none => False) ∧ (match S.sl[m]? with
    | some (.own x) => k { S with sl := (S.sl.set m (.val x)).set n (.val x) }
    | some (.val x) => k { S with sl := S.sl.set n (.val x) }
    | _ => False)) := id rfl
theorem wrK_slot {k : PV → (PV → MS) → Prop} : wrK S (.slot n) k = (match S.sl[n]? with | some (.own x) => k x fun y => { S with sl := S.sl.set n (.own y) } | some (.slf x) => k x fun y => { S with sl := S.sl.set n (.slf y) } | _ => False) := id rfl
theorem wrK_cel {k : PV → (PV → MS) → Prop} : wrK S (.val (.cel n)) k = (match S.c[n]? with | some x => k x fun y => { S with c := S.c.set n y } | none => False) := id rfl
theorem lstK_lst {k : List PV → Prop} : lstK (.lst xs) k = k xs := id rfl
theorem asInt_int {k : Int → Prop} : asInt (.int i) k = k i := id rfl
theorem intK_ii {k : Int → Int → Prop} : intK (.int i) (.int j) k = k i j := id rfl
theorem isBl_bl {k : Bool → Prop} : isBl (.bl b) k = k b := id rfl
theorem isBlT_bl {k : Bool → Prop} : isBlT (.val (.bl b)) k = k b := id rfl
theorem strK_str {k : Str → Prop} : strK (.str z) k = k z := id rfl
theorem itemsK_lst {k : List PV → Prop} : itemsK (.lst xs) k = k xs := id rfl
theorem itemsK_tup {k : List PV → Prop} : itemsK (.tup xs) k = k xs := id rfl
theorem stl_val : stl (.val x) = .val x := id rfl
theorem stl_fresh : stl (.fresh x) = .val x := id rfl
theorem stl_bor : stl (.bor x) = .bor x := id rfl
theorem stl_slot : stl (.slot n) = .slot n := id rfl
theorem srcK_val {P : List PV → (MS → MS) → MS → Prop} : srcK (.val x) S P = itemsK x fun xs => P xs id S := id rfl
theorem srcK_fresh {P : List PV → (MS → MS) → MS → Prop} : srcK (.fresh x) S P = itemsK x fun xs => P xs id S := id rfl
theorem srcK_bor {P : List PV → (MS → MS) → MS → Prop} : srcK (.bor x) S P = itemsK x fun xs => P xs id S := id rfl
theorem srcK_slot {P : List PV → (MS → MS) → MS → Prop} : srcK (.slot n) S P = (match S.sl[n]? with
    | some (.own x) => itemsK x fun xs => P xs (fun S2 => { S2 with sl := S2.sl.set n (.own x) }) { S with sl := S.sl.set n (.lent x) }
    | some (.val x) => itemsK x fun xs => P xs id S
    | _ => False) := id rfl
theorem rdAll_nil {k : List PV → Prop} : rdAll S [] k = k [] := id rfl
theorem rdAll_cons {k : List PV → Prop} : rdAll S (t :: ts) k = rdK S t fun x => rdAll S ts fun xs => k (x :: xs) := id rfl
theorem kpAll_nil {k : List PV → MS → Prop} : kpAll S [] k = k [] S := id rfl
theorem kpAll_cons {k : List PV → MS → Prop} : kpAll S (t :: ts) k = kpK S t fun x S1 => kpAll S1 ts fun xs S2 => k (x :: xs) S2 := id rfl
theorem argK_nil {k : List Slot → Prop} : argK S [] k = k [] := id rfl
theorem argK_val {k : List Slot → Prop} : argK S (.val x :: ts) k = argK S ts fun as => k (.val x :: as) := id rfl
theorem argK_bor {k : List Slot → Prop} : argK S (.bor x :: ts) k = argK S ts fun as => k (.bor x :: as) := id rfl
theorem argK_slot {k : List Slot → Prop} : argK S (.slot n :: ts) k = (match S.sl[n]? with
      | some (.own x) => argK S ts fun as => k (.bor x :: as)
      | some (.lent x) => argK S ts fun as => k (.bor x :: as)
      | some (.slf x) => argK S ts fun as => k (.bor x :: as)
      | some (.val x) => argK S ts fun as => k (.val x :: as)
      | _ => False) := id rfl
theorem rcInt_int {k : TV → Prop} : rcInt [.int i] k = k (.val (.int i)) := id rfl
theorem rcInt_bl {k : TV → Prop} : rcInt [.bl b] k = k (.val (.int (if b then 1 else 0))) := id rfl
theorem rcLen_lst {k : TV → Prop} : rcLen [.lst xs] k = k (.val (.int xs.length)) := id rfl
theorem rcLen_tup {k : TV → Prop} : rcLen [.tup xs] k = k (.val (.int xs.length)) := id rfl
theorem rcLen_scr {ns : List Int} {k : TV → Prop} : rcLen [.scr ns] k = k (.val (.int ns.length)) := id rfl
theorem rcLen_str {k : TV → Prop} : rcLen [.str z] k = (z.length ≤ sizeLine ∧ k (.val (.int z.length))) := id rfl
theorem rcAbs_int {k : TV → Prop} : rcAbs [.int i] k = k (.val (.int (if i < 0 then -i else i))) := id rfl
theorem rcMax2_ii {k : TV → Prop} : rcMax2 [.int i, .int j] k = k (.val (.int (if j > i then j else i))) := id rfl
theorem rcMin2_ii {k : TV → Prop} : rcMin2 [.int i, .int j] k = k (.val (.int (if j < i then j else i))) := id rfl
theorem rcListS_str {k : TV → Prop} : rcListS [.str z] k = (z.length ≤ sizeLine ∧ k (.fresh (.lst (chars z)))) := id rfl
theorem rcListS_lst {k : TV → Prop} : rcListS [.lst xs] k = k (.fresh (.lst xs)) := id rfl
theorem rcListS_tup {k : TV → Prop} : rcListS [.tup xs] k = k (.fresh (.lst xs)) := id rfl
theorem rcTuple_lst {k : TV → Prop} : rcTuple [.lst xs] k = k (.val (.tup xs)) := id rfl
theorem rcTuple_tup {k : TV → Prop} : rcTuple [.tup xs] k = k (.val (.tup xs)) := id rfl
theorem rcAll_lst {k : TV → Prop} : rcAll [.lst xs] k = ∃ bs : List Bool, xs = bs.map PV.bl ∧ k (.val (.bl (bs.all id))) := id rfl
theorem rcSum_lst {k : TV → Prop} : rcSum [.lst xs] k = ∃ ns : List Int, xs = ns.map PV.int ∧ k (.val (.int ns.sum)) := id rfl
theorem rcStr_int {k : TV → Prop} : rcStr [.int i] k = (i.natAbs.log2 < 1920 ∧ k (.val (.str (toString i)))) := id rfl
theorem rcStr_str {k : TV → Prop} : rcStr [.str z] k = k (.val (.str z)) := id rfl
theorem rcRepr_int {k : TV → Prop} : rcRepr [.int i] k = (i.natAbs.log2 < 1920 ∧ k (.val (.str (toString i)))) := id rfl
theorem slK_lst {lo hi : Option Int} {k : TV → Prop} : slK (.lst xs) lo hi k = k (.fresh (.lst (cutP xs lo hi))) := id rfl
theorem slK_tup {lo hi : Option Int} {k : TV → Prop} : slK (.tup xs) lo hi k = k (.val (.tup (cutP xs lo hi))) := id rfl
theorem slK_str {lo hi : Option Int} {k : TV → Prop} : slK (.str z) lo hi k = (z.length ≤ sizeLine ∧ k (.val (.str (cutS z lo hi)))) := id rfl
theorem slSK_scr {ns : List Int} {lo hi : Option Int} {k : TV → Prop} : slSK (.scr ns) lo hi k = k (.fresh (.lst (cutP (scrL ns) lo hi))) := id rfl
theorem revK_lst {k : TV → Prop} : revK (.lst xs) k = k (.fresh (.lst xs.reverse)) := id rfl
theorem inK_lst {k : Bool → Prop} : inK x (.lst ys) k = ((datN 40 x = true ∧ ys.all (datN 40) = true) ∧ k (ys.any fun y => pvEq y x)) := id rfl
theorem inK_tup {k : Bool → Prop} : inK x (.tup ys) k = ((datN 40 x = true ∧ ys.all (datN 40) = true) ∧ k (ys.any fun y => pvEq y x)) := id rfl
theorem inK_ss {k : Bool → Prop} : inK (.str a) (.str z) k = ∃ c : Nat, a = ⟨#[c]⟩ ∧ k (decide (c ∈ z.cps.toList)) := id rfl
theorem objK_e {k : Addr → List (Str × PV) → Prop} : objK S t k = rdK S t fun x => obK S x k := id rfl
theorem obK_obj {C : Addr} {fs : List (Str × PV)} {k : Addr → List (Str × PV) → Prop} : obK S (.obj C fs) k = k C fs := id rfl
theorem obK_cel {k : Addr → List (Str × PV) → Prop} : obK S (.cel n) k = (match S.c[n]? with | some y => (match y with | .obj C fs => k C fs | _ => False) | none => False) := id rfl
theorem objW_obj {C : Addr} {fs : List (Str × PV)} {k : Addr → List (Str × PV) → Prop} : objW (.obj C fs) k = k C fs := id rfl
theorem wJs_nil {P : Str → MS → Prop} {PX : Ex → MS → Prop} : wJs [] z S P PX = P z S := id rfl
theorem wJs_cons {w : EW} {ws : List EW} {P : Str → MS → Prop} {PX : Ex → MS → Prop} : wJs (w :: ws) z S P PX = w S (fun t S1 => rdK S1 t fun x => strK x fun y => (z ++ y).length ≤ sizeLine ∧ wJs ws (z ++ y) S1 P PX) PX := id rfl
theorem fmtK_str {k : Str → Prop} : fmtK (.str z) k = (z.length ≤ sizeLine ∧ k z) := id rfl
theorem fmtK_int {k : Str → Prop} : fmtK (.int i) k = (i.natAbs.log2 < 1920 ∧ k (toString i)) := id rfl
theorem fmtRK_str {k : Str → Prop} : fmtRK (.str z) k = ((reprText z).length ≤ sizeLine ∧ k (reprText z)) := id rfl
theorem fmtRK_int {k : Str → Prop} : fmtRK (.int i) k = (i.natAbs.log2 < 1920 ∧ k (toString i)) := id rfl
theorem joinK_lst {k : Str → Prop} : joinK (.str a) (.lst ys) k = ∃ zs : List Str, ys = zs.map PV.str ∧ (zs.map (·.length)).sum + zs.length * a.length ≤ 16777216 ∧ k (Txt.join a zs) := id rfl
theorem joinK_tup {k : Str → Prop} : joinK (.str a) (.tup ys) k = ∃ zs : List Str, ys = zs.map PV.str ∧ (zs.map (·.length)).sum + zs.length * a.length ≤ 16777216 ∧ k (Txt.join a zs) := id rfl
theorem noLent_nil {l : List Slot} : noLent l [] = True := id rfl
theorem noLent_cons {l : List Slot} {vs : List Nat} : noLent l (n :: vs) = ((match l[n]? with | some s => s.isL = false | none => True) ∧ noLent l vs) := id rfl
theorem wipeS_e {vs : List Nat} : wipeS S vs = { S with sl := wipeL S.sl vs } := id rfl
theorem wipeL_nil {l : List Slot} : wipeL l [] = l := id rfl
theorem wipeL_cons {l : List Slot} {vs : List Nat} : wipeL l (n :: vs) = (wipeL l vs).set n .emp := id rfl
theorem pI_int {k : TV → Prop} : pI (.val (.int i)) k = ((0 ≤ i ∧ i < 2 ^ 63) ∧ k (.val (.int i))) := id rfl
theorem pS_str {k : TV → Prop} : pS (.val (.str z)) k = k (.val (.str z)) := id rfl
theorem pB_bl {g : Bool → Bool} {k : TV → Prop} : pB g (.val (.bl b)) k = k (.val (.bl (g b))) := id rfl
theorem nfK_obj {Ds : List Addr} {C : Addr} {fs : List (Str × PV)} : nfK Ds S (.obj C fs) = (C ∈ Ds) := id rfl
theorem nfK_cel {Ds : List Addr} : nfK Ds S (.cel n) = (match S.c[n]? with | some y => (match y with | .obj D _ => D ∈ Ds | .lst _ => True | .dct _ => True | _ => False) | none => False) := id rfl
theorem nfK_non {Ds : List Addr} : nfK Ds S .non = True := id rfl
theorem nfK_bl {Ds : List Addr} : nfK Ds S (.bl b) = True := id rfl
theorem nfK_int {Ds : List Addr} : nfK Ds S (.int i) = True := id rfl
theorem nfK_str {Ds : List Addr} : nfK Ds S (.str z) = True := id rfl
theorem nfK_tup {Ds : List Addr} : nfK Ds S (.tup xs) = True := id rfl
theorem nfK_lst {Ds : List Addr} : nfK Ds S (.lst xs) = True := id rfl
theorem nfK_dct {Ds : List Addr} {kvs : List (Key × PV)} : nfK Ds S (.dct kvs) = True := id rfl
theorem slfK_e {k : TV → Prop} : slfK S k = (match (S.sl[(0 : Nat)]? : Option Slot) with | some (.slf y) => k (.fresh y) | _ => False) := id rfl
theorem isNonT_non : isNonT (.val .non) = True := id rfl
theorem ofK_e {rt : TV → List PV → Prop} : ofK xs n c rt = (c[n]? = some .bag ∧ (1 ≤ xs.length ∧ xs.length < 1000) ∧ ∀ x, x ∈ xs → rt (.val x) c) := id rfl
theorem derefK_lst {k : PV → Prop} : derefK c (.lst xs) k = k (.lst xs) := id rfl
theorem derefK_tup {k : PV → Prop} : derefK c (.tup xs) k = k (.tup xs) := id rfl
theorem derefK_str {k : PV → Prop} : derefK c (.str z) k = k (.str z) := id rfl
theorem derefK_cel {k : PV → Prop} : derefK c (.cel n) k = (match c[n]? with | some y => (match y with | .bag => False | y => k y) | none => False) := id rfl
end
end BV

/-! The by-value layer, part s: more rules for loops. -/
namespace BV
open PySem L2
@[simp] theorem datN_non (n : Nat) : datN n .non = true := by cases n <;> rfl
@[simp] theorem datN_bl (n : Nat) (b : Bool) : datN n (.bl b) = true := by cases n <;> rfl
@[simp] theorem datN_int (n : Nat) (i : Int) : datN n (.int i) = true := by cases n <;> rfl
@[simp] theorem datN_str (n : Nat) (z : Str) : datN n (.str z) = true := by cases n <;> rfl
@[simp] theorem datN_lst (n : Nat) (xs : List PV) : datN (n + 1) (.lst xs) = xs.all (datN n) := rfl
@[simp] theorem datN_tup (n : Nat) (xs : List PV) : datN (n + 1) (.tup xs) = xs.all (datN n) := rfl
@[simp] theorem datN_lst40 (xs : List PV) : datN 40 (.lst xs) = xs.all (datN 39) := rfl
@[simp] theorem datN_tup40 (xs : List PV) : datN 40 (.tup xs) = xs.all (datN 39) := rfl
@[simp] theorem pvEq_str (a b : Str) : pvEq (.str a) (.str b) = (a == b) := by simp [pvEq]
@[simp] theorem pvEq_int (a b : Int) : pvEq (.int a) (.int b) = (a == b) := by simp [pvEq]
@[simp] theorem pvEq_bl (a b : Bool) : pvEq (.bl a) (.bl b) = (a == b) := by simp [pvEq]
@[simp] theorem pvEq_nn : pvEq .non .non = true := by simp [pvEq]
@[simp] theorem pvEq_lst (a b : List PV) : pvEq (.lst a) (.lst b) = pvEqs a b := by simp [pvEq]
@[simp] theorem pvEq_tup (a b : List PV) : pvEq (.tup a) (.tup b) = pvEqs a b := by simp [pvEq]
@[simp] theorem pvEqs_nil : pvEqs [] [] = true := by simp [pvEqs]
@[simp] theorem pvEqs_cons (a b : PV) (as bs : List PV) : pvEqs (a :: as) (b :: bs) = (pvEq a b && pvEqs as bs) := by simp [pvEqs]
@[simp] theorem pvEqs_nc (b : PV) (bs : List PV) : pvEqs [] (b :: bs) = false := by simp [pvEqs]
@[simp] theorem pvEqs_cn (a : PV) (as : List PV) : pvEqs (a :: as) [] = false := by simp [pvEqs]
theorem fwOf_i {N n : Nat} {w : SW} {args : List BV.Slot} {c : List PV} {rt : TV → List PV → Prop} {ex : Ex → List PV → Prop} (hl : args.length = n) (h : ∀ E : En, (∀ S, E.nx S = rt (.val .non) S.c) → (∀ t S, E.rt t S = retK S t fun r => rt r S.c) → (∀ x S, E.ex x S = ex x S.c) → w ⟨args ++ List.replicate (N - args.length) .emp, c⟩ E) : fwOf N n w args c rt ex :=
  ⟨hl, h _ (fun _ => rfl) (fun _ _ => rfl) (fun _ _ => rfl)⟩
theorem atI_last {α : Type} (xs : List α) (x : α) : atI (xs ++ [x]) (-1) = some x := by
  unfold atI ixN
  rw [if_neg (by omega), if_pos (by simp; omega)]
  show (xs ++ [x])[_]? = _
  have : (-1 + ((xs ++ [x]).length : Int)).toNat = xs.length := by simp; omega
  rw [this]
  simp
theorem app_len (a b : Str) : (a ++ b).length = a.length + b.length := by
  show (a.cps ++ b.cps).size = a.cps.size + b.cps.size
  simp
theorem app_list (a b : Str) : (a ++ b).cps.toList = a.cps.toList ++ b.cps.toList := by
  show (a.cps ++ b.cps).toList = _
  simp
theorem sIx_nn {n d : Nat} {j : Int} (h0 : 0 ≤ j) : HT.sIx n d (some j) = min j.toNat n := by
  show (if j < 0 then (j + (n : Int)).toNat else min j.toNat n) = _
  rw [if_neg (show ¬ j < 0 by omega)]
theorem cutS_to (z : Str) {j : Int} (h0 : 0 ≤ j) : (cutS z none (some j)).cps.toList = z.cps.toList.take j.toNat := by
  unfold cutS
  rw [sIx_nn h0]
  show List.take (min j.toNat z.length - 0) (List.drop 0 z.cps.toList) = _
  rw [List.drop_zero, Nat.sub_zero]
  have hz : z.cps.toList.length = z.length := rfl
  by_cases hl : j.toNat ≤ z.length
  · rw [Nat.min_eq_left hl]
  · rw [Nat.min_eq_right (by omega), List.take_of_length_le (by omega), List.take_of_length_le (by omega)]
theorem cutS_from (z : Str) {j : Int} (h0 : 0 ≤ j) : (cutS z (some j) none).cps.toList = z.cps.toList.drop j.toNat := by
  unfold cutS
  rw [sIx_nn h0]
  show List.take (z.length - min j.toNat z.length) (List.drop (min j.toNat z.length) z.cps.toList) = _
  have hz : z.cps.toList.length = z.length := rfl
  rw [List.take_of_length_le (by rw [List.length_drop]; omega)]
  by_cases hl : j.toNat ≤ z.length
  · rw [Nat.min_eq_left hl]
  · rw [Nat.min_eq_right (by omega), List.drop_of_length_le (by omega), List.drop_of_length_le (by omega)]
theorem len_list (z : Str) : z.length = z.cps.toList.length := rfl
theorem cutS_toL (z : Str) {j : Int} (h0 : 0 ≤ j) : (cutS z none (some j)).length = min j.toNat z.length := by
  rw [len_list, cutS_to z h0, List.length_take]; rfl
theorem cutS_fromL (z : Str) {j : Int} (h0 : 0 ≤ j) : (cutS z (some j) none).length = z.length - j.toNat := by
  rw [len_list, cutS_from z h0, List.length_drop]; rfl
theorem szLine : sizeLine = 16777216 := rfl
/-- a comprehension that leaves the state as it is -/
theorem lc_pure {vs : List Nat} {g : GW} {tt : TW} {we : EW} {k : List PV → MS → Prop} {xs ys0 : List PV} {S : MS} (f : PV → Option PV)
    (h : ∀ (x : PV) (ys : List PV) (k : List PV → MS → Prop), x ∈ xs → ys.length < sizeLine → k (ys ++ (f x).toList) S →
      g x S fun S1 => tt S1 (fun b S2 => (b = true → we S2 (fun t S3 => kpK S3 t fun y S4 => ys.length < sizeLine ∧ k (ys ++ [y]) (wipeS S4 vs)) (fun _ _ => False)) ∧ (b = false → k ys (wipeS S2 vs))) (fun _ _ => False))
    (hl : ys0.length + xs.length ≤ sizeLine) (done : k (ys0 ++ xs.filterMap f) S) : wLcL vs g tt we xs ys0 S k := by
  induction xs generalizing ys0 with
  | nil =>
    have : k ys0 S := by simpa using done
    exact this
  | cons x xs ih =>
    have hl' : ys0.length + (xs.length + 1) ≤ sizeLine := hl
    refine h x ys0 (fun ys S2 => wLcL vs g tt we xs ys S2 k) (by simp) (by omega) ?_
    refine ih (fun y ys k hy => h y ys k (by simp [hy])) ?_ ?_
    · have : (f x).toList.length ≤ 1 := by cases f x <;> simp
      rw [List.length_append]
      omega
    · rw [List.append_assoc]
      have e : (f x).toList ++ xs.filterMap f = (x :: xs).filterMap f := by
        cases q : f x with
        | none => simp [q]
        | some y => simp [q]
      rw [e]
      exact done
/-- .. of a map -/
theorem lc_map {vs : List Nat} {g : GW} {tt : TW} {we : EW} {k : List PV → MS → Prop} {xs : List PV} {S : MS} (f : PV → PV)
    (h : ∀ (x : PV) (ys : List PV) (k : List PV → MS → Prop), x ∈ xs → ys.length < sizeLine → k (ys ++ [f x]) S →
      g x S fun S1 => tt S1 (fun b S2 => (b = true → we S2 (fun t S3 => kpK S3 t fun y S4 => ys.length < sizeLine ∧ k (ys ++ [y]) (wipeS S4 vs)) (fun _ _ => False)) ∧ (b = false → k ys (wipeS S2 vs))) (fun _ _ => False))
    (hl : xs.length ≤ sizeLine) (done : k (xs.map f) S) : wLcL vs g tt we xs [] S k := by
  refine lc_pure (fun x => some (f x)) (fun x ys k hx hy hk => h x ys k hx hy hk) (by simpa using hl) ?_
  rw [List.filterMap_eq_map' (f := f)]
  simpa using done
/-- .. of a filter -/
theorem lc_filter {vs : List Nat} {g : GW} {tt : TW} {we : EW} {k : List PV → MS → Prop} {xs : List PV} {S : MS} (p : PV → Bool)
    (h : ∀ (x : PV) (ys : List PV) (k : List PV → MS → Prop), x ∈ xs → ys.length < sizeLine → (p x = true → k (ys ++ [x]) S) → (p x = false → k ys S) →
      g x S fun S1 => tt S1 (fun b S2 => (b = true → we S2 (fun t S3 => kpK S3 t fun y S4 => ys.length < sizeLine ∧ k (ys ++ [y]) (wipeS S4 vs)) (fun _ _ => False)) ∧ (b = false → k ys (wipeS S2 vs))) (fun _ _ => False))
    (hl : xs.length ≤ sizeLine) (done : k (xs.filter p) S) : wLcL vs g tt we xs [] S k := by
  refine lc_pure (fun x => if p x then some x else none) (fun x ys k hx hy hk => h x ys k hx hy (fun q => by simpa [q] using hk) (fun q => by simpa [q] using hk)) (by simpa using hl) ?_
  have e : xs.filterMap (fun x => if p x then some x else none) = xs.filter p := by
    induction xs with
    | nil => rfl
    | cons x xs ih =>
      have ih' := ih (fun y ys k hy => h y ys k (by simp [hy])) (by have : xs.length + 1 ≤ sizeLine := hl; omega)
      cases q : p x <;> simp [List.filterMap_cons, List.filter_cons, q]
      all_goals (clear ih ih' done h hl; induction xs with
        | nil => rfl
        | cons y ys ih => cases q : p y <;> simp [List.filterMap_cons, List.filter_cons, q, ih])
  rw [e]
  simpa using done
end BV

/-! The by-value layer, part t: a tuple or a list, repeated. -/
namespace BV
open PySem L2 PySem.Spec PyProof.Rows
theorem tuple_mul1 (l : Addr) (items : Array Value) (n : Nat) (dd : Option Addr) (sl : Array (Option Value)) (u : Tok) :
    Meets (Builtin.«tuple.__mul__» ⟨[.ref l, .int 1 u], []⟩) (fun _ R s => s.heap.get? l = some { cls := .type "tuple", dict := dd, data := .seq items n, slots := sl } ∧ R (.ok (.ret (Value.ref l))) s) :=
  .of_wp fun prog w A R s h => by
    obtain ⟨hp, g, d, tk, os⟩ := s
    obtain ⟨hl, h⟩ := h
    have f1 := AutoSeq1.idx_int
    wp_walk using wpAny_loadPart' hl
    repeat (first
      | (refine wpAny_ite_false (decide_eq_false (by decide)) ?_; wp_walk using wpAny_loadPart' hl)
      | (refine wpAny_ite_true (decide_eq_true (by simp)) ?_; wp_walk using wpAny_loadPart' hl))
    exact ⟨_, rfl, h⟩
section
variable {X : Cx} {K : PySem.W.Frag}
theorem op_repT1 : OpR X (binaryOp .Mult) (fun x y H Q => ∃ l xs, x = .ref l ∧ y = .int 1 ∧ SqT X.K H l xs ∧ Q (.ref l) H) := by
  intro pins s σ H x y v u Q I rx ry h
  obtain ⟨l, xs, rfl, rfl, hT, q⟩ := h
  cases rx
  obtain ⟨t, rfl⟩ := ry
  obtain ⟨its, r, ⟨⟨cls, dd, data, sl⟩, ho, hc, n, hd⟩, hs⟩ := I.tuple hT
  simp only at hc hd
  subst hc hd
  exact wpAny_binaryOp_repeat_ref (T := "tuple") (U := "int") (by decide) ⟨_, ho, rfl⟩ (fun s' => typeIs_int s' 1 t) noFill_tuple_mul F.fills_int_mul F.slot_int_rmul repeat_tuple F.slot_int_index.lookup
    (call_meets F.slot_int_rmul (typeIs_int s 1 t) F.entry_int_rmul (F.args_int_rmul_2 _ _) (int_rmul_tuple 1 t l its.toArray n dd sl)
      ⟨ho, rfl, ⟨_, ho, rfl⟩, call_meets F.slot_tuple_mul ⟨_, ho, rfl⟩ F.entry_tuple_mul (F.args_tuple_mul_2 _ _) (tuple_mul1 l its.toArray n dd sl t) ⟨ho, ⟨.ref l, H, I, rfl, q⟩⟩⟩)
theorem RpA.rep {ρ : List Addr} {G : Hp} {vs : List V} {xs : List PV} (h : RpA K ρ G vs xs) : ∀ n : Nat, RpA K ρ G (List.replicate n vs).flatten (List.replicate n xs).flatten
  | 0 => .nil
  | n + 1 => by
    rw [List.replicate_succ, List.replicate_succ, List.flatten_cons, List.flatten_cons]
    exact RpA.append h (RpA.rep h n)
def rsRep : RS2 := fun x y k => match y with
  | .int n => (match x with
    | .tup xs => (xs ≠ [] ∧ 1 ≤ n ∧ n ≤ 1000 ∧ xs.length ≤ 1000) ∧ k (.val (.tup (List.replicate n.toNat xs).flatten))
    | .lst xs => (-(2 ^ 63) ≤ n ∧ n < 2 ^ 63 ∧ xs.length * n.toNat ≤ sizeLine) ∧ k (.fresh (.lst (List.replicate n.toNat xs).flatten))
    | _ => False)
  | _ => False
theorem rsRep_t {xs : List PV} {n : Int} {k : TV → Prop} : rsRep (.tup xs) (.int n) k = ((xs ≠ [] ∧ 1 ≤ n ∧ n ≤ 1000 ∧ xs.length ≤ 1000) ∧ k (.val (.tup (List.replicate n.toNat xs).flatten))) := id rfl
theorem rsRep_l {xs : List PV} {n : Int} {k : TV → Prop} : rsRep (.lst xs) (.int n) k = ((-(2 ^ 63) ≤ n ∧ n < 2 ^ 63 ∧ xs.length * n.toNat ≤ sizeLine) ∧ k (.fresh (.lst (List.replicate n.toNat xs).flatten))) := id rfl
theorem op_repP : OpR X (binaryOp .Mult) (embR X.K rsRep) := opr_imp ((op_rep.or op_repT).or op_repT1) fun x y H Q ⟨A, W, S, τ, px, py, k, w, r1, r2, h, hq⟩ => by
  cases py with
  | int n => cases px with
    | lst xs =>
      obtain ⟨a, us, e1, h1, a1⟩ := r1.lst w.bh
      obtain ⟨⟨b1, b2, b3⟩, h⟩ := h
      refine .inl (.inl ⟨a, n, us, e1, r2.int, h1, b1, b2, by rw [a1.length]; exact b3, fun p np => ?_⟩)
      exact hq (.fresh (.lst _)) _ W _ (Wo.le.refl _) (w.lay np) (w.layFresh np ⟨_, upd_same, a1.rep n.toNat⟩) h
    | tup xs =>
      obtain ⟨a, us, e1, h1, a1, q1⟩ := r1.tup w.bh
      obtain ⟨⟨b0, b1, b2, b3⟩, h⟩ := h
      subst e1
      by_cases e : n = 1
      · subst e
        have e2 : (List.replicate (1 : Int).toNat xs).flatten = xs := by simp
        rw [e2] at h
        exact .inr ⟨a, us, rfl, r2.int, h1, hq (.val (.tup _)) _ W H (Wo.le.refl _) w q1 h⟩
      · refine .inl (.inr ⟨a, n, us, rfl, r2.int, h1, fun e => b0 ?_, by omega, b2, by rw [a1.length]; exact b3, fun p np => ?_⟩)
        · subst e; cases a1; rfl
        · obtain ⟨W', l, w', rp⟩ := w.layTup np (a1.rep n.toNat)
          exact hq (.val (.tup _)) _ W' _ l w' rp h
    | _ => exact h.elim
  | _ => exact h.elim
end
end BV

/-! The by-value layer, part u: a def that closes over its class and begins by super().__init__(..), of an own exception over ValueError. -/
namespace BV
open PySem L2 PySem.Spec PyProof.Rows
/-- at q: the built-in __init__ bound to the object at x -/
def mwO (q x : Addr) : HO := .ext fun h => h.get? q = some (PySem.W.kxs_mw "ValueError.__init__" x)
theorem mwO_ok {P : Program} {w : World} {H : Hp} {h : Heap} {q x : Addr} (e : h.get? q = some (PySem.W.kxs_mw "ValueError.__init__" x)) : ObjOk P w H h q (mwO q x) :=
  ⟨e, ⟨_, e⟩, fun h1 h2 z k => k _ z⟩
theorem mwO_at {P : Program} {w : World} {H : Hp} {h : Heap} {q x : Addr} (hok : HOk P w H h) (e : H q = some (mwO q x)) : h.get? q = some (PySem.W.kxs_mw "ValueError.__init__" x) := by
  have z : ObjOk P w H h q (.ext fun h => h.get? q = some (PySem.W.kxs_mw "ValueError.__init__" x)) := hok q _ e
  exact z.1
/-- what is written of such a def -/
structure SupD (P : Program) (K : PySem.W.Frag) (mg : Str → Option Value) (D f cc cda : Addr) (qual : Str) : Prop where
  code : PySem.W.codeIn K (.ref cda) qual = true
  file : ∃ (oc : Value) (od : Option Addr) (vs : Array Value) (sl : Array (Option Value)) (file : Str) (tf : Tok), K.lookup cda = some ⟨oc, od, .fields vs, sl⟩ ∧ vs[2]? = some (.str file tf) ∧ ((P.main.file : Str) == file) = true
  top : (P.main.scope.names.lookup ("super" : Str)).isSome = false
  cell : ∃ (oc : Value) (od : Option Addr) (sl : Array (Option Value)), K.lookup cc = some ⟨oc, od, .cell (some (.ref D)), sl⟩
  cls : ∃ cd, PySem.W.clsIn K D = some cd
  mgs : mg "super" = none
  stat : PySem.W.nsIn K cStatics "thirdparty.any" = some none
/-- what is written of the exception's class C, seen from D -/
structure SupC (K : PySem.W.Frag) (C D : Addr) : Prop where
  ex : OexC K C
  sup : PySem.W.ks_superIn K C D "__init__" = some (some (.builtin "ValueError.__init__"))
  sub : PySem.W.mroIn K C (.ref D) = some true
  ve : PySem.W.subIn K (.ref C) (.type "ValueError") = some true
section
variable {X : Cx} {pins : List (Addr × Obj)} {σ : L2.St} {H : Hp} {s : Shared} {a C : Addr}
/-- the bound __init__ called: nothing of it is told -/
theorem oinit_mw {A : Around} {E : Value → Shared → Prop} {us : List Value} {q : Addr} {Q : Value → Shared → Prop} (T : OexC X.K C) (I : Inv X pins σ H s) (e : H a = some (exo a C none)) (eq : H q = some (mwO q a)) (hl : us.length ≤ sizeLine) (h : ∀ s', Inv X pins σ H s' → Q .none s') :
    wpAny (model X.prog X.w) A (call (.ref q) us) Q E s := by
  obtain ⟨nm, qn, N, bs, bm, sn, sub, ab, col, dd, k0, k1, k2, k3, k5, hC, hbm⟩ := T.cls
  obtain ⟨t1, ho⟩ := exo_at I.hok e
  have hu := mwO_at I.hok eq
  have hC' := I.kIn _ _ hC
  obtain ⟨hp, g, d, t, os⟩ := s
  have FB := F.excBase_ValueError
  refine wpAny_call (codeAny_of_tree ?_)
  show wpAny _ A.in1 (callAny (.ref q) ⟨us, []⟩) _ _ _
  simp only [callAny]
  refine wpAny_bind (wpAny_load hu ?_)
  simp only [PySem.W.kxs_mw, show (Value.type "method-wrapper" == Value.type "method" || Value.type "method-wrapper" == Value.type "builtin_function_or_method" || Value.type "method-wrapper" == Value.type "method-wrapper") = true by decide, if_true]
  refine PySem.W.KFB.if_so (by decide) ?_
  refine wpAny_bind (PySem.W.check_bound_init FB.toExcCallFacts hC' ho rfl ?_)
  refine wpAny_bind (wpAny_pure (wpAny_pure ?_))
  refine ⟨plainId_quiet FB.init.plain _, codeAny_builtin FB.initEntry ?_⟩
  refine PySem.W.exc_init_tree (cls := .ref C) (t0 := t1) (dv := none) (c2 := .none) (c3 := .none) (b4 := .bool false) ho hl fun h' k hx _ => ?_
  have J := I.write (t' := t) (x := a) (e := a) (o := exo a C none) (by rw [e]; exact True.intro) (.inl rfl) k ⟨_, hx⟩ (exo_ok hx)
  have eu : upd H a (exo a C none) = H := by
    funext b
    by_cases hb : b = a
    · rw [hb, upd_same, e]
    · rw [upd_ne hb]
  rw [eu] at J
  exact h _ J
end
/-- super().__init__(e, ..) -/
abbrev supSt (p0 p1 p2 p3 p4 : Pos) (es : List Expr) : Stmt := .Expr (.Call (.Attribute (.Call (.Name "super" p0) [] [] p1) "__init__" p2) es [] p3) p4
theorem lk1 {cc c : Addr} {y : Str} (h : [(("__class__" : Str), cc)].lookup y = some c) : y = "__class__" ∧ c = cc := by
  rw [List.lookup_cons] at h
  cases q : y == ("__class__" : Str) with
  | true =>
    rw [q] at h
    exact ⟨beq_iff_eq.mp q, (Option.some.inj h).symm⟩
  | false =>
    rw [q] at h
    cases h
open NdefX in
/-- the rule -/
theorem fn_super {CX : CXT} {P : Program} {w : World} {K : PySem.W.Frag} {mg : Str → Option Value} {base : Heap} {k : Nat} {D f cc cda : Addr} {name qual : Str} {params : Arguments} {body rest : List Stmt} {e : Expr} {es : List Expr} {p0 p1 p2 p3 p4 : Pos} {scope : Scope} {dV kV doc pm ct oc : Value} {an od : Option Addr}
    {osl : Array (Option Value)} {N ps : List Str} {sp : Sp} {ar : Arg} (hbd : body = supSt p0 p1 p2 p3 p4 (e :: es) :: rest)
    (lk : K.lookup f = some ⟨oc, od, .func (PySem.W.fnX name qual params body scope [("__class__", cc)] dV kV doc pm an (.ref cda) ct), osl⟩)
    (T : SupD P K mg D f cc cda qual) (S : NScope N ps ["__class__"] scope) (hks : scope.names.lookup ("super" : Str) = some .globalImplicit) (hnd : ps.Nodup)
    (hp : (params.posonlyargs ++ params.args).head? = some ar) (hps : ps[(0 : Nat)]? = some ar.arg) (len : ∀ vs H Q E, sp vs H Q E → vs.length = ps.length)
    (hbody : ∀ (A : Around) (outer : List Env) (s : Shared) (H : Hp) (vs : List V) (Q : VK) (E : XK), RoomG k (A.deeper (envF ⟨name, qual, params, body, scope, [("__class__", cc)], cda⟩ f s.heap.objs.size)) → sp vs H Q E →
      ∃ ta t a C, PA (ncx CX P w K mg base N ⟨name, qual, params, body, scope, [("__class__", cc)], cda⟩ f A outer s H E) (e :: es) ta ∧
        PSs (ncx CX P w K mg base N ⟨name, qual, params, body, scope, [("__class__", cc)], cda⟩ f A outer s H E) rest t ∧
        vs[(0 : Nat)]? = some (.ref a) ∧ SupC K C D ∧ H a = some (exo a C none) ∧ ∀ q, H q = none → ta (startF N vs [none]) (upd H q (mwO q a)) fun ws H1 => ws.length ≤ 1000 ∧ H1 a = some (exo a C none) ∧ H1 q = some (mwO q a) ∧ t { nx := fun _ H' => Q .non H', rt := Q } (startF N vs [none]) H1)
    (hst : ∀ L, starEach (e :: es) (envF ⟨name, qual, params, body, scope, [("__class__", cc)], cda⟩ f L) = (false, eval e (envF ⟨name, qual, params, body, scope, [("__class__", cc)], cda⟩ f L)) :: starEach es (envF ⟨name, qual, params, body, scope, [("__class__", cc)], cda⟩ f L) := by intro _; rfl)
    (hpl : ∀ L, (backTo p3 (starEach es (envF ⟨name, qual, params, body, scope, [("__class__", cc)], cda⟩ f L))).any (·.1) = false := by intro _; rfl)
    (hsw : ∀ L, swapsWith (.Call (.Attribute (.Call (.Name "super" p0) [] [] p1) "__init__" p2) (e :: es) [] p3) none p4.line (envF ⟨name, qual, params, body, scope, [("__class__", cc)], cda⟩ f L) = pure false := by intro _; rfl)
    {pl : Sem Bool} (hev : ∀ L, eval (.Call (.Attribute (.Call (.Name "super" p0) [] [] p1) "__init__" p2) (e :: es) [] p3) (envF ⟨name, qual, params, body, scope, [("__class__", cc)], cda⟩ f L) = (do
      let ov ← attributeBase (.Call (.Name "super" p0) [] [] p1) "__init__" (envF ⟨name, qual, params, body, scope, [("__class__", cc)], cda⟩ f L) (eval (.Call (.Name "super" p0) [] [] p1) (envF ⟨name, qual, params, body, scope, [("__class__", cc)], cda⟩ f L))
      standAt p2.atName
      let (fx, first) ← holding [ov] (getMethod ov "__init__" pl)
      callWith p3 fx first (backTo p3 (starEach (e :: es) (envF ⟨name, qual, params, body, scope, [("__class__", cc)], cda⟩ f L))) []) := by intro _; rfl) :
    FnG P w K mg base CX (k + 1) f (PySem.W.fnX name qual params body scope [("__class__", cc)] dV kV doc pm an (.ref cda) ct) ps sp := by
  refine ⟨len, fun A outer s H args us vs Q E hr e0 hb r hsp => ?_⟩
  obtain ⟨ta, t, a, C, ha, hrest, hv0, TC, ea, hq⟩ := hbody A outer s H vs Q E (hr.deeper _) hsp
  have hl := len _ _ _ _ hsp
  have KX : K.In s.heap := e0.mod.kin.keeps fun b o e => (e0.bs b o e).1
  have lim : s.heap.NoLimit := e0.mod.nolimit.keeps fun b o e => (e0.bs b o e).1
  obtain ⟨oc1, od1, sl1, hcell⟩ := T.cell
  have hccb := e0.mod.kin _ _ hcell
  have hC : CellsAt [(("__class__" : Str), cc)] ["__class__"] [none] s.heap H := by
    refine ⟨rfl, fun y c h => ?_, fun x y c h1 h2 => (lk1 h1).1.trans (lk1 h2).1.symm, fun i y h => ?_⟩
    · obtain ⟨_, rfl⟩ := lk1 h
      exact ⟨(e0.bs _ _ hccb).2, _, ⟨_, (e0.bs _ _ hccb).1, rfl⟩⟩
    · cases i with
      | zero =>
        cases h
        exact ⟨cc, rfl, fun v hv => by cases hv⟩
      | succ i => cases h
  refine codeAny_call_function hr.depth (KX _ _ lk) rfl S.co S.gen rfl (PySem.W.codeRec_of KX T.code) (hb _ _ _ _ ?_)
  refine wpAny_newFunctionEnv S.nocell (fun ⟨n, _⟩ hy => S.par n (List.of_mem_zip hy).1) (fun h₁ hns hsb => ⟨lim.fresh _ hsb, PySem.ks_codeAny_funcAt ?_⟩) S.kind
  have kp : ∀ b o, s.heap.get? b = some o → h₁.get? b = some o := fun b o e => hsb.extBut b o (Nat.ne_of_lt (Heap.lt_size e)) (Heap.get?_push_of_some _ e)
  have I : Inv (ncx CX P w K mg base N ⟨name, qual, params, body, scope, [("__class__", cc)], cda⟩ f A outer s H E) [] (startF N vs [none]) H { s with heap := h₁, toks := s.toks + (ps.zip us).length } := inv_startN S hr.hd e0 hl r hC hns kp
  obtain ⟨oca, oda, vsa, sla, file, tf, hcda, hvs, hfile⟩ := T.file
  obtain ⟨cd, hcd⟩ := T.cls
  have K1 : K.In h₁ := I.kIn
  obtain ⟨oD, hD1, hD2⟩ : ∃ oD, h₁.get? D = some oD ∧ oD.data = .cls cd := by
    unfold PySem.W.clsIn at hcd
    split at hcd
    · rename_i c d cd' sl ho
      cases hcd
      exact ⟨_, K1 _ _ ho, rfl⟩
    · cases hcd
  obtain ⟨t1, hox⟩ := exo_at I.hok ea
  obtain ⟨u0, hu0, ru0⟩ := r.get hv0
  obtain rfl : u0 = Value.ref a := ru0
  have hself : (ps.zip us).reverse.lookup ar.arg = some (.ref a) := zip_look hnd hps hu0
  have hkc : scope.names.lookup ("__class__" : Str) = some .free := S.frk _ (by simp)
  have hka : scope.names.lookup ar.arg = some .local := S.par _ (List.mem_of_getElem? hps)
  obtain ⟨mb, hmb, hbb⟩ := e0.mod.blt
  have nCls : ∃ cdC, PySem.W.clsIn K C = some cdC := by
    have z := TC.sup
    unfold PySem.W.ks_superIn at z
    cases q : PySem.W.clsIn K C with
    | none => rw [q] at z; cases z
    | some c => exact ⟨c, rfl⟩
  obtain ⟨cdC, hcdC⟩ := nCls
  have hsup : PySem.W.alongIn K "__init__" ((cdC.mro.dropWhile (· != .ref D)).drop 1) = some (some (.builtin "ValueError.__init__")) := by
    have z := TC.sup
    unfold PySem.W.ks_superIn at z
    rw [hcdC] at z
    exact z
  subst hbd
  have hL := hev s.heap.objs.size
  have hw := hsw s.heap.objs.size
  have hs1 := hst s.heap.objs.size
  have hp1 := hpl s.heap.objs.size
  refine PySem.ks_wpAt_execs_cons ?_
  refine PySem.ks_wpAt_Expr_any ?_ I.quiet hw
  refine PySem.ks_wpAt_MethodCall (pl := pl) ?_ hL
  refine PySem.ks_wpAt_super_base hks hkc rfl rfl (I.kIn _ _ lk) rfl hp rfl (K1 _ _ hcda) rfl hvs hfile T.top ?_
  refine PySem.W.ks_loadName_global S.kind hks (PySem.Calls.loadGlobal_builtin (I.mod.glob.keeps I.bk) T.mgs (hmb.keeps I.bk) (hbb _ (by decide)) ⟨rfl, ?_⟩)
  refine wpAny_loadName_free S.kind hkc rfl ⟨_, K1 _ _ hcell, rfl⟩ ?_
  refine wpAny_loadName_local S.kind hka hns hself ?_
  refine PySem.ks_wpAny_isType_cls hD1 hD2 ⟨rfl, ?_⟩
  refine PySem.ks_wpAny_call_super hD1 hD2 hox rfl (fun c z => by cases z) (PySem.W.looks_mroIn K1 TC.sub) (fun h2 hso k2 => ?_)
  have K2 : K.In h2 := K1.keeps k2
  have hox2 := k2 _ _ hox
  have IA : PySem.W.InstAt h2 a _ C none := ⟨hox2, rfl, rfl, trivial⟩
  have I2 := I.kept (t' := s.toks + (ps.zip us).length) (h' := h2) k2
  refine PySem.W.kxs_getMethod PySem.W.kxs_ValueError hso (PySem.W.looks_opaque K2 T.stat) (l₀ := cdC.mro) (fun A Q E s k q => wpAny_bind ((PySem.W.looks_clsIn K2 hcdC) A _ E s k (wpAny_pure q))) rfl K2 hsup (IA.type.andThen (PySem.W.looks_subIn K2 TC.ve)) (PySem.W.ks_ne K2 IA hcdC) rfl ?_
  have hqn : H h2.objs.size = none := I2.hok.fresh (Nat.le_refl _)
  have I3 := I2.laid (t' := s.toks + (ps.zip us).length + 1) (a := h2.objs.size) (o := mwO h2.objs.size a) (h' := h2.push (PySem.W.kxs_mw "ValueError.__init__" a)) (fun b u e => Heap.get?_push_of_some _ e) (Nat.le_refl _) (mwO_ok (Heap.get?_push_at rfl rfl))
  show wpAny _ _ (callWith p3 (.ref h2.objs.size) [] (backTo p3 (starEach (e :: es) _)) []) _ _ _
  have key := ha.run p3 [] _ _ _ _ I3 (hq _ hqn)
  have hplain : (backTo p3 (starEach (e :: es) (envF ⟨name, qual, params, supSt p0 p1 p2 p3 p4 (e :: es) :: rest, scope, [("__class__", cc)], cda⟩ f s.heap.objs.size))).any (·.1) = false := by
    rw [hs1]
    show (false || (backTo p3 (starEach es _)).any (·.1)) = false
    rw [hp1]
    rfl
  obtain ⟨x, r', hbk⟩ : ∃ x r', backTo p3 (starEach (e :: es) (envF ⟨name, qual, params, supSt p0 p1 p2 p3 p4 (e :: es) :: rest, scope, [("__class__", cc)], cda⟩ f s.heap.objs.size)) = (false, x) :: r' := by rw [hs1]; exact ⟨_, _, rfl⟩
  refine PySem.W.kxs_callWith (i := "ValueError.__init__") (x := a) hplain ?_
  show wpAny _ _ (evalArgs _ true (backTo p3 (starEach (e :: es) (envF ⟨name, qual, params, supSt p0 p1 p2 p3 p4 (e :: es) :: rest, scope, [("__class__", cc)], cda⟩ f s.heap.objs.size))) []) _ _ _
  rw [hbk]
  refine PySem.Calls.evalArgs_plain ?_
  rw [← hbk]
  refine wpAny_mono key (fun ws s1 hs => ?_) fun e s' hs => hs
  obtain ⟨vs1, H1, J, rv, hlen, ea1, eq1, ht⟩ := hs
  refine ⟨mwO_at J.hok eq1, ?_⟩
  refine oinit_mw TC.ex J ea1 eq1 (by show ws.length ≤ sizeLine; rw [← rv.length, sizeLine_eq]; omega) fun s' J' => ?_
  refine wpAt_of_wpAny ?_
  refine wpAny_mono (hrest.run [] _ _ _ _ J' ht) (fun fl s' hs => ?_) fun e s' hs => hs
  have fin : ∀ {σ' : L2.St} {H' : Hp} {v : V} {u : Value}, Inv (ncx CX P w K mg base N ⟨name, qual, params, supSt p0 p1 p2 p3 p4 (e :: es) :: rest, scope, [("__class__", cc)], cda⟩ f A outer s H E) [] σ' H' s' → L2.RelV v u → Q v H' → CE outer P w H s Q u s' :=
    fun {σ' H' v u} J rv q => ⟨v, H', J.os, J.bare, J.base, J.hok, rv, q⟩
  cases fl with
  | ret u =>
    obtain ⟨v, σ', H', J, rv, q⟩ := hs
    exact fin J rv q
  | next =>
    obtain ⟨σ', H', J, q⟩ := hs
    exact fin (v := V.non) (u := Value.none) J rfl q
  | brk =>
    obtain ⟨_, _, _, q⟩ := hs
    exact False.elim q
  | cont =>
    obtain ⟨_, _, _, q⟩ := hs
    exact False.elim q
end BV

/-! The by-value layer, part v: own exceptions over ValueError whose __init__ stores its arguments; raise. -/
namespace BV
open PySem L2 PySem.Spec PyProof.Rows
section
variable {K : PySem.W.Frag} {ρ ρ' : List Addr} {B F B' H H1 H0 H' : Hp} {c c' : List PV}
theorem WdC.more (w : WdC K ρ B F c H) (e : Same H H') : WdC K ρ B F c H' :=
  ⟨w.bf, fun a o h => e a o (w.fh a o h), w.cl, w.nd, fun n x h => by
    obtain ⟨a, h1, h2, h3⟩ := w.cel n x h
    exact ⟨a, h1, h2, h3.mono (Same.refl _) (Pre.refl _) fun o q => e a o q⟩⟩
/-- a callee's beginning, some parameters untold -/
theorem enter0 {vs : List V} {args : List Slot} {n : Nat} (w : WdC K ρ B F c H) (h : Paired (fun v s => s = .emp ∨ ArgR K ρ B F v s) vs args) :
    Wd K ⟨ρ, B, F, H, fun _ => none, fun _ => none⟩ ⟨ρ, B, F⟩ ⟨args ++ List.replicate n .emp, c⟩ (vs.map some ++ List.replicate n none) H := by
  have hl : vs.length = args.length := Paired.length h
  have get : ∀ {vs : List V} {args : List Slot} {i : Nat} {s : Slot}, Paired (fun v s => s = .emp ∨ ArgR K ρ B F v s) vs args → args[i]? = some s → ∃ v, vs[i]? = some v ∧ (s = .emp ∨ ArgR K ρ B F v s) := by
    intro vs args i s h
    induction h generalizing i with
    | nil => intro e; simp at e
    | cons r _ ih =>
      intro e
      cases i with
      | zero =>
        simp at e; subst e
        exact ⟨_, rfl, r⟩
      | succ i =>
        simp at e
        obtain ⟨v, e1, e2⟩ := ih e
        exact ⟨v, by simpa using e1, e2⟩
  have noO : ∀ (i : Nat) (x : Slot), (args ++ List.replicate n .emp)[i]? = some x → x.isH = true → False := fun i x e hh => by
    by_cases hi : i < args.length
    · rw [List.getElem?_append_left hi] at e
      obtain ⟨v, _, r⟩ := get h e
      rcases r with rfl | r
      · cases hh
      cases x with
      | own x => exact r.elim
      | lent x => exact r.elim
      | slf x => exact r.elim
      | _ => cases hh
    · rw [List.getElem?_append_right (by omega)] at e
      rw [List.getElem?_replicate] at e
      split at e
      · cases e; cases hh
      · cases e
  refine ⟨w.bf, w.fh, w.cl, w.nd, w.cel, by simp [hl], fun i s e => ?_, fun i j p x y _ e _ hh _ _ _ => (noO i x e hh).elim, fun i p x e => (by cases e), Pre.refl _, Same.refl _, Same.refl _, fun a o e _ => e, fun a o e e0 => ?_, fun a m r => absurd m r, fun a o e e0 => ?_⟩
  · by_cases hi : i < args.length
    · have e' : (args ++ List.replicate n .emp)[i]? = some s := e
      rw [List.getElem?_append_left hi] at e'
      obtain ⟨v, e1, r⟩ := get h e'
      have ev : (vs.map some ++ List.replicate n none)[i]? = some (some v) := by
        rw [List.getElem?_append_left (by simp [hl]; exact hi), List.getElem?_map, e1]; rfl
      rcases r with rfl | r
      · exact trivial
      cases s with
      | emp => exact trivial
      | exc a d C fs => exact r.elim
      | val x => exact ⟨v, ev, r⟩
      | bor x =>
        obtain ⟨p, rfl, q⟩ := r
        exact ⟨p, ev, q⟩
      | own x => exact r.elim
      | lent x => exact r.elim
      | slf x => exact r.elim
    · have e' : (args ++ List.replicate n .emp)[i]? = some s := e
      rw [List.getElem?_append_right (by omega), List.getElem?_replicate] at e'
      split at e'
      · cases e'; exact trivial
      · cases e'
  · have e1 : B a = some o := e
    have e2 : B a = none := e0
    rw [e1] at e2; cases e2
  · have e1 : F a = some o := e
    have e2 : F a = none := e0
    rw [e1] at e2; cases e2
/-- behind the making of an exception at a with the dict at dx -/
theorem Out.exc {a dx : Addr} {u : HO} {G : Hp} (w : WdC K ρ B F c H1) (o : Out K ρ B H0 ρ' B' c' H') (l : Same H1 H0) (h1a : H1 a = none) (h0a : H0 a ≠ none) (hd : H' dx = none) (hda : dx ≠ a)
    (g1 : G dx = some u) (g2 : G a = none) (g3 : ∀ b, b ≠ dx → b ≠ a → G b = H' b) : Out K ρ B H1 ρ' (upd B' dx u) c' G := by
  have B'd : B' dx = none := o.bh.free hd
  have Bd : B dx = none := o.b.free B'd
  have Ba : B' a = none := by
    cases q : B' a with
    | none => rfl
    | some z =>
      have : B a = none := (w.bf.trans w.fh).free h1a
      exact absurd (o.new a z q this) h0a
  have celH : ∀ p, p ∈ ρ → ∃ z, H1 p = some z := fun p hp => by
    obtain ⟨n, hn⟩ := List.mem_iff_getElem?.mp hp
    have hl : n < c.length := by rw [← w.cl]; exact (List.getElem?_eq_some_iff.mp hn).1
    obtain ⟨b, e1, _, e3⟩ := w.cel n _ (List.getElem?_eq_getElem hl)
    rw [hn] at e1
    obtain rfl : p = b := Option.some.inj e1
    exact e3.ex
  have rho_a : a ∉ ρ' := fun q => by
    by_cases h : a ∈ ρ
    · obtain ⟨z, e⟩ := celH a h
      rw [h1a] at e; cases e
    · exact h0a (o.newr a q h)
  have Gk : ∀ b z, b ≠ a → H' b = some z → G b = some z := fun b z hb e => by
    rw [g3 b (fun q => by rw [q, hd] at e; cases e) hb]; exact e
  refine ⟨o.r, fun b z e => ?_, fun b z e => ?_, o.cl, o.nd, fun n x e => ?_, fun b z e r => ?_, fun b z e e0 => ?_, fun b m r => l.free (o.newr b m r)⟩
  · rw [upd_ne (fun q => by rw [q, Bd] at e; cases e)]; exact o.b b z e
  · by_cases q : b = dx
    · subst q; rw [upd_same] at e; cases e; exact g1
    · rw [upd_ne q] at e
      exact Gk b z (fun q => by rw [q, Ba] at e; cases e) (o.bh b z e)
  · obtain ⟨p, e1, e2, e3⟩ := o.cel n x e
    have pm : p ∈ ρ' := List.mem_iff_getElem?.mpr ⟨n, e1⟩
    obtain ⟨z, ez⟩ := e3.ex
    have pd : p ≠ dx := fun q => by rw [q, hd] at ez; cases ez
    refine ⟨p, e1, by rw [upd_ne pd]; exact e2, e3.mono (same_upd B'd) (Pre.refl _) fun o q => Gk p o (fun z => rho_a (z ▸ pm)) q⟩
  · exact Gk b z (fun q => by rw [q, h1a] at e; cases e) (o.keep b z (l b z e) r)
  · by_cases q : b = dx
    · subst q
      cases h : H1 b with
      | none => rfl
      | some z =>
        by_cases r : b ∈ ρ
        · have : b ∈ ρ' := by
            obtain ⟨n, hn⟩ := List.mem_iff_getElem?.mp r
            exact List.mem_iff_getElem?.mpr ⟨n, o.r _ _ hn⟩
          obtain ⟨n, hn⟩ := List.mem_iff_getElem?.mp this
          have hl : n < c'.length := by rw [← o.cl]; exact (List.getElem?_eq_some_iff.mp hn).1
          obtain ⟨p, e1, _, e3⟩ := o.cel n _ (List.getElem?_eq_getElem hl)
          rw [hn] at e1
          obtain rfl : b = p := Option.some.inj e1
          obtain ⟨z, ez⟩ := e3.ex
          rw [hd] at ez; cases ez
        · rw [o.keep b z (l b z h) r] at hd; cases hd
    · rw [upd_ne q] at e
      exact l.free (o.new b z e e0)
end
/-! ### the __init__ -/
/-- the dict: the last stored one first -/
def fldL {α : Type} (flds : List Str) (vs : List α) : List (Str × α) := (flds.zip vs).reverse
/-- its promise: at a the exception that is being made; n: its parameters but self; wF: the text's wp -/
def spXi (K : PySem.W.Frag) (C : Addr) (flds : List Str) (wF : AW) : Sp := fun vs H Q _ => ∃ (H1 : Hp) (a : Addr) (vs' : List V) (ρ : List Addr) (B F : Hp) (c : List PV) (xs : List PV), vs = .ref a :: vs' ∧ H1 a = none ∧ H = upd H1 a (exo a C none) ∧ WdC K ρ B F c H1 ∧ RpA K ρ B vs' xs ∧ xs.length = flds.length ∧
  wF ⟨.emp :: (xs.map Slot.val ++ [.emp]), c⟩ (fun ts S' => ts.length ≤ 1000 ∧ S'.c = c) (fun _ _ => False) ∧
  ∀ ρ' B' H' H0 dx, Out K ρ B H0 ρ' B' c H' → Same H1 H0 → H0 a ≠ none → H' dx = none → dx ≠ a → Q .non (upd (upd H' dx (exd dx (fldL flds vs'))) a (exo a C (some dx)))
/-- facts of an own exception class -/
structure ExF (K : PySem.W.Frag) (C D : Addr) (flds : List Str) : Prop where
  sup : SupC K C D
  no : ∀ f ∈ flds, PySem.W.findIn K (.ref C) f = some none
open NdefX in
/-- one field -/
theorem fx_def1 {CX : CXT} {P : Program} {w : World} {K : PySem.W.Frag} {mg : Str → Option Value} {base : Heap} {k : Nat} {C D f cc cda : Addr} {name qual p1n f1 sn : Str} {params : Arguments} {body : List Stmt} {e : Expr} {es : List Expr} {p0 p1 p2 p3 p4 q1 q2 q3 q4 : Pos} {scope : Scope} {dV kV doc pm ct oc : Value} {an od : Option Addr}
    {osl : Array (Option Value)} {ar : Arg} {wF : AW} (XF : ExF K C D [f1])
    (hbd : body = [supSt p0 p1 p2 p3 p4 (e :: es), .Assign [.Attribute (.Name sn q1) f1 q2] (.Name p1n q3) q4])
    (lk : K.lookup f = some ⟨oc, od, .func (PySem.W.fnX name qual params body scope [("__class__", cc)] dV kV doc pm an (.ref cda) ct), osl⟩)
    (T : SupD P K mg D f cc cda qual) (S : NScope [sn, p1n, "__class__"] [sn, p1n] ["__class__"] scope) (hks : scope.names.lookup ("super" : Str) = some .globalImplicit)
    (hp : (params.posonlyargs ++ params.args).head? = some ar) (hps : sn = ar.arg)
    (hl0 : scope.names.lookup sn = some .local) (hl1 : scope.names.lookup p1n = some .local) (hd0 : (sn == ("__debug__" : Str)) = false) (hd1 : (p1n == ("__debug__" : Str)) = false) (hc0 : (sn == ("__classdict__" : Str)) = false) (hc1 : (p1n == ("__classdict__" : Str)) = false)
    (hF : ∀ (A : Around) (outer : List Env) (s : Shared) (H : Hp) (E : XK), RoomG k (A.deeper (envF ⟨name, qual, params, body, scope, [("__class__", cc)], cda⟩ f s.heap.objs.size)) → AM (ncx CX P w K mg base [sn, p1n, "__class__"] ⟨name, qual, params, body, scope, [("__class__", cc)], cda⟩ f A outer s H E) WF (e :: es) wF)
    (hst : ∀ L, starEach (e :: es) (envF ⟨name, qual, params, body, scope, [("__class__", cc)], cda⟩ f L) = (false, eval e (envF ⟨name, qual, params, body, scope, [("__class__", cc)], cda⟩ f L)) :: starEach es (envF ⟨name, qual, params, body, scope, [("__class__", cc)], cda⟩ f L) := by intro _; rfl)
    (hpl : ∀ L, (backTo p3 (starEach es (envF ⟨name, qual, params, body, scope, [("__class__", cc)], cda⟩ f L))).any (·.1) = false := by intro _; rfl)
    (hsw : ∀ L, swapsWith (.Call (.Attribute (.Call (.Name "super" p0) [] [] p1) "__init__" p2) (e :: es) [] p3) none p4.line (envF ⟨name, qual, params, body, scope, [("__class__", cc)], cda⟩ f L) = pure false := by intro _; rfl)
    (hsw1 : ∀ L, swapsWith (.Name p1n q3) (some (.Attribute (.Name sn q1) f1 q2)) q4.line (envF ⟨name, qual, params, body, scope, [("__class__", cc)], cda⟩ f L) = pure false := by intro _; rfl)
    {pl : Sem Bool} (hev : ∀ L, eval (.Call (.Attribute (.Call (.Name "super" p0) [] [] p1) "__init__" p2) (e :: es) [] p3) (envF ⟨name, qual, params, body, scope, [("__class__", cc)], cda⟩ f L) = (do
      let ov ← attributeBase (.Call (.Name "super" p0) [] [] p1) "__init__" (envF ⟨name, qual, params, body, scope, [("__class__", cc)], cda⟩ f L) (eval (.Call (.Name "super" p0) [] [] p1) (envF ⟨name, qual, params, body, scope, [("__class__", cc)], cda⟩ f L))
      standAt p2.atName
      let (fx, first) ← holding [ov] (getMethod ov "__init__" pl)
      callWith p3 fx first (backTo p3 (starEach (e :: es) (envF ⟨name, qual, params, body, scope, [("__class__", cc)], cda⟩ f L))) []) := by intro _; rfl) :
    FnG P w K mg base CX (k + 1) f (PySem.W.fnX name qual params body scope [("__class__", cc)] dV kV doc pm an (.ref cda) ct) [sn, p1n] (spXi K C [f1] wF) := by
  refine fn_super (N := [sn, p1n, "__class__"]) hbd lk T S hks (by have := S.nd; simp at this ⊢; exact this.1.1) hp (by rw [hps]; rfl) (fun vs H Q E ⟨_, _, vs', _, _, _, _, xs, e, _, _, _, hr, hx, _⟩ => by rw [e, List.length_cons, hr.length, hx]; rfl) (fun A outer s H vs Q E hr hsp => ?_) hst hpl hsw hev
  obtain ⟨H1, a, vs', ρ, B, F, c, xs, rfl, h1a, rfl, wc, rp, hx, hw, hq⟩ := hsp
  obtain ⟨x1, rfl⟩ : ∃ x1, xs = [x1] := by
    match xs, hx with
    | [x], _ => exact ⟨x, rfl⟩
  obtain ⟨v1, rfl⟩ : ∃ v1, vs' = [v1] := by
    have := rp.length
    match vs', this with
    | [x], _ => exact ⟨x, rfl⟩
  refine ⟨embA K WF wF, tOst K f1 (tVar 0) (tVar 1), a, C, (hF A outer s _ E hr).pa, pss_one (ps_ost (pe_var (i := 0) rfl (.inl hl0) hd0 hc0) (pe_var (i := 1) rfl (.inl hl1) hd1 hc1) (hsw1 _)), rfl, XF.sup, upd_same, fun q hqn => ?_⟩
  have hqa : q ≠ a := fun z => by rw [z, upd_same] at hqn; cases hqn
  have hq1 : H1 q = none := by rw [upd_ne hqa] at hqn; exact hqn
  have same0 : Same H1 (upd (upd H1 a (exo a C none)) q (mwO q a)) := fun b o z => by
    rw [upd_ne (fun y => by rw [y, hq1] at z; cases z), upd_ne (fun y => by rw [y, h1a] at z; cases z)]; exact z
  have w0 := enter0 (n := 1) (vs := [.ref a, v1]) (args := [.emp, .val x1]) (wc.more same0) (by
    cases rp with
    | cons r1 r2 => exact .cons (.inl rfl) (.cons (.inr r1) .nil))
  refine ⟨_, _, _, _, _, w0, hw, fun ts S' ws W' H' l w' tv ⟨hl, hc⟩ => ?_, fun _ _ _ _ _ _ _ _ _ _ z => z.elim⟩
  have k1 : H' a = some (exo a C none) := w'.keep a _ (by show upd (upd H1 a (exo a C none)) q (mwO q a) a = _; rw [upd_ne (Ne.symm hqa), upd_same]) (fun m => by
    obtain ⟨n, hn⟩ := List.mem_iff_getElem?.mp m
    have hl : n < c.length := by rw [← wc.cl]; exact (List.getElem?_eq_some_iff.mp hn).1
    obtain ⟨b, e1, _, e3⟩ := wc.cel n _ (List.getElem?_eq_getElem hl)
    have hn' : ρ[n]? = some a := hn
    rw [hn'] at e1
    obtain rfl : a = b := Option.some.inj e1
    obtain ⟨z, ez⟩ := e3.ex
    rw [h1a] at ez; cases ez)
  have k2 : H' q = some (mwO q a) := w'.keep q _ upd_same (fun m => by
    obtain ⟨n, hn⟩ := List.mem_iff_getElem?.mp m
    have hl : n < c.length := by rw [← wc.cl]; exact (List.getElem?_eq_some_iff.mp hn).1
    obtain ⟨b, e1, _, e3⟩ := wc.cel n _ (List.getElem?_eq_getElem hl)
    have hn' : ρ[n]? = some q := hn
    rw [hn'] at e1
    obtain rfl : q = b := Option.some.inj e1
    obtain ⟨z, ez⟩ := e3.ex
    rw [hq1] at ez; cases ez)
  have o : Out K ρ B (upd (upd H1 a (exo a C none)) q (mwO q a)) W'.ρ W'.B S'.c H' := w'.out
  have hc' : S'.c = c := hc
  rw [hc'] at o
  refine ⟨by rw [← Paired.length tv]; exact hl, k1, k2, ⟨v1, rfl, .ref a, rfl, a, C, rfl, XF.sup.ex, XF.no _ (by simp), .inl ⟨k1, fun dx hdx hda => ?_⟩⟩⟩
  exact hq _ _ H' _ dx o same0 (by rw [upd_ne (Ne.symm hqa), upd_same]; exact fun z => by cases z) hdx hda
/-- C(e, ..) of an own exception class: its __init__ walked where no text is under way -/
def tMkG (C : Addr) (sp : Sp) (ta : TA) : L2.St → Hp → XK → Prop := fun σ H Q => ta σ H fun vs H1 => vs.length ≤ 1000 ∧ ∀ a, H1 a = none →
  sp (V.ref a :: vs) (upd H1 a (exo a C none)) (fun v H2 => v = .non ∧ ∃ d fs, H2 a = some (exo a C (some d)) ∧ H2 d = some (exd d fs) ∧ H1 d = none ∧ Q (.ref C) (some d) (upd (del H2 a) d (.xd fs))) (fun _ _ _ => False)
section
variable {X : Cx} {x : Str} {C fI : Addr} {k : Nat} {fd : FuncData} {ps : List Str} {sp : Sp} {e : Expr} {es : List Expr} {ta : TA} {p pos : Pos}
theorem pmk_oexG {CX : CXT} (T : OexC X.K C) (iC : PySem.W.findIn X.K (.ref C) "__init__" = some (some (.ref fI))) (tI : PySem.W.typeIn X.K (.ref fI) = some (.type "function"))
    (F1 : FnG X.prog X.w X.K X.mg X.base CX k fI fd ps sp) (hr : RoomG (k + 1) X.A) (hb : Binds X.K fd ps []) (hx : Passes CX X (fun _ _ _ => False)) (hg : Gl X x) (hm : X.mg x = some (.ref C)) (ha : PA X (e :: es) ta)
    (hdb : (x == ("__debug__" : Str)) = false := by decide) (he : starEach (e :: es) X.env = (false, eval e X.env) :: starEach es X.env := by rfl) (hpl : (backTo pos (starEach es X.env)).any (·.1) = false := by rfl) :
    PMk X (.Call (.Name x p) (e :: es) [] pos) (tMkG C sp ta) := by
  intro pins s0 σ H Q I h
  obtain ⟨nm, q, N, bs, bm, sn, sub, ab, col, dd, c0, c1, c2, c3, c5, hC, hbm⟩ := T.cls
  refine wpAny_Call_Name_kw (ld_glob I hg hm ?_ hdb)
  refine PySem.W.callWith_K (h₀ := X.base) I.ok.mod.kin T.kC (thn (ha.run pos pins s0 σ H _ I h) fun us t1 ⟨vs, H1, I1, r1, hz, q1⟩ => ⟨I1.kIn, ?_⟩) he hpl
  show wpAny _ _ (call (.ref C) us) _ _ _
  obtain ⟨hp, gn, dr, tk, os⟩ := t1
  have le1 : hp.objs.size ≤ hp.objs.size + 1 := Nat.le_succ _
  have no1 : H1 (hp.objs.size + 1) = none := I1.hok.fresh le1
  have todo := q1 (hp.objs.size + 1) no1
  have more : ∀ b o, hp.get? b = some o → ((hp.push (PySem.W.kdv_tup us)).push (PySem.HandSPX.excO C hp.objs.size)).get? b = some o := fun b o z => Heap.get?_push_of_some _ (Heap.get?_push_of_some _ z)
  have there : ((hp.push (PySem.W.kdv_tup us)).push (PySem.HandSPX.excO C hp.objs.size)).get? (hp.objs.size + 1) = some (PySem.HandSPX.excO C hp.objs.size) := by heap_get
  have I2 := I1.laid (t' := tk) (a := hp.objs.size + 1) (o := exo (hp.objs.size + 1) C none) (h' := (hp.push (PySem.W.kdv_tup us)).push (PySem.HandSPX.excO C hp.objs.size)) more le1 (exo_ok there)
  have r2 : Vals (V.ref (hp.objs.size + 1) :: vs) (Value.ref (hp.objs.size + 1) :: us) := .cons rfl r1
  have len2 : (Value.ref (hp.objs.size + 1) :: us).length = ps.length := by
    rw [← F1.len _ _ _ _ todo]
    exact r2.length.symm
  have few : us.length ≤ sizeLine := by
    rw [← Paired.length r1, sizeLine_eq]
    omega
  have bd := hb _ (Value.ref (hp.objs.size + 1) :: us) I2.kIn (by rw [List.append_nil]; exact len2)
  rw [List.append_nil] at bd
  refine wpAny_call (PySem.HandSPX.call_own F.excBase_ValueError (fun Y => PySem.HandSPX.refsVE_contains Y bm hbm) (I1.kIn _ _ hC) (PySem.W.looks_findIn I1.kIn iC) (fun self => PySem.W.bind_fn I1.kIn self tI) few
    (codeAny_mono (F1.run _ X.stack _ _ ⟨Value.ref (hp.objs.size + 1) :: us, []⟩ _ _ _ (fun _ _ _ => False) (hr.make C us []) (I2.env0.make C us []) bd r2 todo) fun r s2 hq => ?_))
  cases r with
  | error er => exact hx pins σ _ _ er s2 I2 hq
  | ok fl =>
    cases fl with
    | ret u =>
      obtain ⟨v, H2, os2, bare2, un2, hok2, rv, ev, d, fs, ea, ed, hd1, q2⟩ := hq
      subst ev
      obtain ⟨h2, g2, d2, t2, os3⟩ := s2
      exact ⟨rv, mk_end (raises_own T.exC T.tyC) I1 le1 more un2 hok2 os2 bare2 ea ed hd1 q2⟩
    | _ => exact False.elim hq
end
/-! ### raise C(e, ..) -/
def XIni (P : Program) (w : World) (K : PySem.W.Frag) (mg : Str → Option Value) (base : Heap) (k : Nat) (C : Addr) (flds : List Str) (wF : AW) : Prop :=
  ∃ fI fd ps, FnG P w K mg base (L2.CX P w) k fI fd ps (spXi K C flds wF) ∧ Binds K fd ps [] ∧ OexC K C ∧ PySem.W.findIn K (.ref C) "__init__" = some (some (.ref fI)) ∧ PySem.W.typeIn K (.ref fI) = some (.type "function")
def wRaise (C : Addr) (flds : List Str) (wF : AW) (wr : AW) : SW := fun S E => wr S (fun ts S1 => kpAll S1 ts fun xs S2 => (xs.length = flds.length ∧ flds.length ≤ 1000) ∧
  wF ⟨.emp :: (xs.map Slot.val ++ [.emp]), S2.c⟩ (fun ts S' => ts.length ≤ 1000 ∧ S'.c = S2.c) (fun _ _ => False) ∧ E.ex ⟨C, fldL flds xs⟩ S2) E.ex
theorem RpF.app {K : PySem.W.Frag} {ρ : List Addr} {G : Hp} : ∀ {us ws : List (Str × V)} {xs ys : List (Str × PV)}, RpF K ρ G us xs → RpF K ρ G ws ys → RpF K ρ G (us ++ ws) (xs ++ ys)
  | _, _, _, _, .nil, h => h
  | _, _, _, _, .cons r t, h => .cons r (RpF.app t h)
theorem RpF.fldL {K : PySem.W.Frag} {ρ : List Addr} {G : Hp} : ∀ {fl : List Str} {vs : List V} {xs : List PV}, RpA K ρ G vs xs → RpF K ρ G (fldL fl vs) (fldL fl xs)
  | [], _, _, _ => by unfold BV.fldL; simp; exact .nil
  | _ :: _, _, _, .nil => by unfold BV.fldL; simp; exact .nil
  | f :: fl, _, _, .cons r t => by
    unfold BV.fldL
    rw [List.zip_cons_cons, List.zip_cons_cons, List.reverse_cons, List.reverse_cons]
    exact RpF.app (RpF.fldL t) (.cons r .nil)
section
variable {X : Cx} {WW : WX} {C : Addr} {flds : List Str} {wF wr : AW} {k : Nat} {x : Str} {e : Expr} {es : List Expr} {p pos pos' : Pos}
theorem sm_raise (F : XIni X.prog X.w X.K X.mg X.base k C flds wF) (hc : X.calm = true) (tk : Takes X WW) {j : Nat} (hr : RoomG j X.A) (hk : k + 1 ≤ j) (hm : X.mg x = some (.ref C)) (hg : Gl X x) (ha : AM X WW (e :: es) wr)
    (hdb : (x == ("__debug__" : Str)) = false := by decide) (he : starEach (e :: es) X.env = (false, eval e X.env) :: starEach es X.env := by rfl) (hpl : (backTo pos (starEach es X.env)).any (·.1) = false := by rfl) :
    SM X WW (.Raise (some (.Call (.Name x p) (e :: es) [] pos)) none pos') (wRaise C flds wF wr) := by
  obtain ⟨fI, fd, ps, F1, hb, T, iC, tI⟩ := F
  refine ⟨ps_imp (ps_raise hc tk (pmk_oexG T iC tI F1 (hr.mono hk) hb (fun pins σ H s e s' I h => noneAt σ pins H s e s' I h) hg hm ha.pa hdb he hpl)) fun D σ H ⟨A, W, S, E, wd, h, lk⟩ => ?_⟩
  refine ⟨A, W, S, _, _, wd, h, fun ts S' vs W' H' l w' tv hp => ?_, lk.ex⟩
  obtain ⟨W2, S2, xs, l2, w2, ra, ⟨hx, hx2⟩, hwF, hex⟩ := w'.kpAll tv hp
  refine ⟨by rw [ra.length, hx]; exact hx2, fun a han => ⟨H', a, vs, W2.ρ, W2.B, offR W2.ρ H', S2.c, xs, rfl, han, rfl, w2.toC, ra, hx, hwF, fun ρ' B' H3 H0 dx o same h0a hdx hda => ?_⟩⟩
  have oX := Out.exc (u := .xd (fldL flds vs)) (G := upd (del (upd (upd H3 dx (exd dx (fldL flds vs))) a (exo a C (some dx))) a) dx (.xd (fldL flds vs))) w2.toC o same han h0a hdx hda upd_same (by rw [upd_ne (Ne.symm hda), del_same]) (fun b hb1 hb2 => by rw [upd_ne hb1, del_ne hb2, upd_ne hb2, upd_ne hb1])
  have hB : W2.B dx = none := o.b.free (o.bh.free hdx)
  have hd1 : H' dx = none := oX.new dx _ upd_same hB
  obtain ⟨l3, w3⟩ := w2.called oX
  refine ⟨rfl, dx, fldL flds vs, upd_same, by rw [upd_ne hda, upd_same], hd1, ?_⟩
  exact lk.ex _ S2 _ _ _ _ _ (l.trans (l2.trans l3)) w3 ⟨rfl, .inr ⟨dx, fldL flds vs, rfl, upd_same, (RpF.fldL ra).mono l3.b l3.r⟩⟩ hex
end
end BV

/-! The by-value layer, part w: try .. except C as e. -/
namespace PySem.W
open PySem PySem.Calls PyProof.Rows
section
variable {prog : Program} {w : World} {A : Around} {E : Value → Shared → Prop} {s : Shared} {K : Frag} {x D : Addr} {ox : Obj} {od : Option Obj}
theorem findObj_dataD {C : Addr} {name : Str} {a g : Value} (hc : (clsIn K C).isSome = true) (ha : findIn K (.ref C) name = some (some a)) (hg : specialIn K a "__get__" = some (some g)) (ht : takesIn K a = some true) : findObj K C od name = some (.bind g a) := by
  obtain ⟨cd, hc⟩ := Option.isSome_iff_exists.mp hc
  unfold findObj
  rw [hc, Option.bind_some, ha, Option.bind_some]
  simp [hg, ht]
theorem kin_classD {Q : Option Value → Shared → Prop} (hga : findIn K (.ref D) "__getattribute__" = some (some (.builtin "BaseException.__getattribute__"))) (hgt : findIn K (.ref D) "__getattr__" = some none) (hsub : subIn K (.ref D) (.type "BaseException") = some true)
    (hdct : hasDictIn K D = true) (ha : findIn K (.ref D) "__class__" = some (some (.builtin "object.__class__")))
    (hn : specialIn K (.builtin "object.__class__") "__get__" = some (some (.builtin "getset_descriptor.__get__"))) (htk : takesIn K (.builtin "object.__class__") = some true) (hm : mroIn K D (.type "object") = some true)
    (X : K.In s.heap) (I : InstAt s.heap x ox D od) (h : Q (some (.ref D)) { s with toks := s.toks + 1 }) : wpAny (model prog w) A (getAttr? (.ref x) "__class__") Q E s := by
  have hf : findObj K D od "__class__" = some (.bind (.builtin "getset_descriptor.__get__") (.builtin "object.__class__")) := findObj_dataD (by obtain ⟨cd, hc, _⟩ := any_some hdct; rw [hc]; rfl) ha hn htk
  obtain ⟨hp, g, d, t, os⟩ := s
  have L0 := I.type (M := model prog w)
  have L1 := looks_findIn (M := model prog w) X hga
  have L2 := looks_findIn (M := model prog w) X hgt
  have L3 := looks_find (M := model prog w) X I hf
  have sub : Looks (model prog w) hp (isInstance (.ref x) (.type "BaseException")) true := L0.andThen (looks_subIn X hsub)
  have hx0 : (false && onTheHeap (Value.builtin "BaseException.__getattribute__")) = false := rfl
  have hx2 : (Value.builtin "BaseException.__getattribute__" == Value.builtin "object.__getattribute__") = false := by decide +kernel
  have hx1 : (onTheHeap (Value.ref D) && Value.builtin "BaseException.__getattribute__" == Value.builtin "object.__getattribute__") = false := by rw [hx2]; rfl
  unfold getAttr? getAttrBy? getAttrBy
  refine wpAny_bind (wpAny_mkText (wpAny_bind (wpAny_attempt (wpAny_holding (wpAny_bind (L0.at (wpAny_bind (L1.at ?_))))))))
  show wpAny _ _ (if (onTheHeap (Value.ref D) && Value.builtin "BaseException.__getattribute__" == Value.builtin "object.__getattribute__") = true then _ else _) _ _ _
  rw [hx1, if_neg Bool.false_ne_true]
  unfold getAttrByItsOwn hookBefore
  refine wpAny_bind ?_
  rw [if_pos (show onTheHeap (Value.ref D) = true from rfl)]
  refine L2.at ?_
  refine wpAny_bind (wpAny_attempt (wpAny_holding ?_))
  unfold callGetattribute
  rw [hx0, if_neg Bool.false_ne_true]
  unfold boundAndCalled
  rw [PySem.F.excAttr_ValueError.ga.bind (.ref x)]
  refine wpAny_bind (wpAny_pure ?_)
  show wpAny _ _ (call (.builtin "BaseException.__getattribute__") [.ref x, .str "__class__" t]) _ _ _
  refine wpAny_call (codeAny_call_builtin PySem.F.excAttr_ValueError.ga.plain PySem.F.entry_bexc_ga ?_)
  refine @check_slot (model prog w) _ _ ⟨hp, g, d, t + 1, os⟩ "BaseException.__getattribute__" "BaseException" "__getattribute__" (.ref x) [.str "__class__" t] [] _ (by decide +kernel) (by decide +kernel) sub (PySem.F.args_bexc_ga (.ref x) (.str "__class__" t)) ?_
  unfold Builtin.«object.__getattribute__»
  refine wpAny_bind (wpAny_of_eq (a := ((Value.ref x : Value), [Value.str "__class__" t])) (by first | rfl | (simp only [slotArgs]; rfl)) ?_)
  refine wpAny_bind (wpAny_pure (wpAny_bind (L0.at (wpAny_bind (L3.at ?_)))))
  show wpAny _ _ (holding [Value.builtin "object.__class__"] (call (.builtin "getset_descriptor.__get__") [.builtin "object.__class__", .ref x, .ref D]) >>= ret) _ _ _
  refine wpAny_bind (wpAny_holding (wpAny_call (class_get (s := ⟨hp, g, d, t + 1, os⟩) (ox := ox) (od := od) X I hm ?_)))
  refine wpAny_pure ?_
  show wpAny _ _ (handedOut (.ref D)) _ _ _
  rw [handedOut_of (v := .ref D) rfl]
  first
    | exact wpAny_pure (wpAny_pure h)
    | exact wpAny_pure h
    | exact wpAny_pure (wpAny_bind (wpAny_pure (wpAny_pure h)))
theorem kitx_exc (hga : findIn K (.ref D) "__getattribute__" = some (some (.builtin "BaseException.__getattribute__"))) (hgt : findIn K (.ref D) "__getattr__" = some none) (hsub : subIn K (.ref D) (.type "BaseException") = some true) (hdct : hasDictIn K D = true) (ha : findIn K (.ref D) "__class__" = some (some (.builtin "object.__class__")))
    (hn : specialIn K (.builtin "object.__class__") "__get__" = some (some (.builtin "getset_descriptor.__get__"))) (htk : takesIn K (.builtin "object.__class__") = some true) (hm : mroIn K D (.type "object") = some true) :
    KitX K (.ref x) (.ref D) (fun h => ∃ ox od, InstAt h x ox D od) where
  ty := fun _ _ _ ⟨_, _, I⟩ => I.type
  it := fun _ _ X _ => by
    obtain ⟨cdD, hcD, _⟩ := any_some hdct
    unfold clsIn at hcD
    split at hcD
    · rename_i c' d' cd' sl' ho
      intro A' Q' E' s' k q
      unfold isType loadHead
      exact wpAny_bind (wpAny_loadPart (k _ _ (X _ _ ho)) (wpAny_pure q))
    · cases hcD
  ne := fun h tp dd its n sl X htp => by
    obtain ⟨cdD, hcD, _⟩ := any_some hdct
    refine Bool.eq_false_iff.mpr fun q => ?_
    have e : D = tp := Value.ref.inj (beq_iff_eq.mp q)
    subst e
    unfold clsIn at hcD
    split at hcD
    · rename_i c' d' cd' sl' ho
      have z := (X _ _ ho).symm.trans htp
      cases z
    · cases hcD
  ca := fun X ⟨_, _, I⟩ k => kin_classD hga hgt hsub hdct ha hn htk hm X I k
end
end PySem.W
namespace BV
open PySem L2 PySem.Spec PyProof.Rows
/-! ### in the suite -/
section
variable {X : Cx} {WW : WX} {a D : Addr} {oe : Obj} {cls : Value} {d : Option Addr} {pn : List (Addr × Obj)} {i : Nat} {x f : Str}
/-- e.f -/
def wExf (a : Addr) (cls : Value) (d : Option Addr) (D : Addr) (i : Nat) (f : Str) : EW := fun S P _ => match S.sl[i]? with
  | some (.exc a' d' _ fs) => (a' = a ∧ d = some d' ∧ cls = .ref D) ∧ (match fs.lookup f with | some y => P (.val y) S | none => False)
  | _ => False
theorem em_exf {p pos : Pos} (T : XfC X.K D) (hno : PySem.W.findIn X.K (.ref D) f = some none) (hz : Zc cls d oe) (hf : ∃ vs, oe.data = .fields vs) (hN : X.N[i]? = some x := by rfl)
    (hv : Vis X.env.scope x := by first | exact Or.inl rfl | exact Or.inr (Or.inl rfl) | exact Or.inr (Or.inr rfl)) (hd : (x == ("__debug__" : Str)) = false := by decide) (hcd : (x == ("__classdict__" : Str)) = false := by decide)
    (hb : attributeBase (.Name x p) f X.env (eval (.Name x p) X.env) = eval (.Name x p) X.env := by rfl) : EM (X.suite a ((a, oe) :: pn)) WW (.Attribute (.Name x p) f pos) (wExf a cls d D i f) :=
  ⟨pe_imp (pe_xf (a := a) (C := D) (cls := cls) (d := d) T hno hz hf (pe_var (X := X.suite a ((a, oe) :: pn)) hN hv hd hcd) hb) fun σ H Q ⟨A, W, S, P, PX, w, h, hp, _⟩ => by
    unfold wExf at h
    cases q : S.sl[i]? with
    | none => rw [q] at h; exact h.elim
    | some s =>
      rw [q] at h
      have z := w.slot i s q
      cases s with
      | exc a' d' C fs =>
        obtain ⟨⟨rfl, hd', hc'⟩, h⟩ := h
        obtain ⟨e1, us, e2, e3⟩ := z
        cases l : fs.lookup f with
        | none => rw [l] at h; exact h.elim
        | some y =>
          rw [l] at h
          obtain ⟨v, e4, e5⟩ := e3.look l
          exact ⟨.ref a', e1, rfl, hc', d', us, v, hd', w.bh _ _ e2, e4, hp (.val y) S v W H (Wo.le.refl _) w e5 h⟩
      | _ => exact h.elim⟩
/-- isinstance(e, c) -/
def wExI (a : Addr) (cls : Value) (d : Option Addr) (D : Addr) (b : Bool) (i : Nat) : EW := fun S P _ => match S.sl[i]? with
  | some (.exc a' d' _ _) => (a' = a ∧ d = some d' ∧ cls = .ref D) ∧ P (.val (.bl b)) S
  | _ => False
theorem instD {pins : List (Addr × Obj)} {σ : L2.St} {H : Hp} {s : Shared} {dd : Addr} {us : List (Str × V)} (I : Inv (X.suite a ((a, oe) :: pn)) pins σ H s) (hz : Zc (.ref D) (some dd) oe) (hf : ∃ vs, oe.data = .fields vs) (e : H dd = some (.xd us)) : ∃ ox od, PySem.W.InstAt s.heap a ox D od := by
  obtain ⟨hget, _⟩ := I.pin (a, oe) (List.mem_append.mpr (.inl List.mem_cons_self))
  obtain ⟨vs, hv⟩ := hf
  have hx : ObjOk X.prog X.w H s.heap dd (.xd us) := I.hok dd _ e
  obtain ⟨mA, hns, hr⟩ := hx
  obtain ⟨od, ho, hl⟩ := lookIn_ns hns
  exact ⟨oe, some od, hget, hz.1, by unfold PySem.W.notCls; rw [hv] <;> rfl, by rw [hz.2]; exact ho⟩
theorem em_exI {c : V} {cv : Value} {b : Bool} {p q1 pos : Pos} {ce : Expr} (C : ExcC X.K D) (hz : Zc cls d oe) (hf : ∃ vs, oe.data = .fields vs) (hce : PE (X.suite a ((a, oe) :: pn)) ce (tC c)) (hcv : ∀ u, RelV c u → u = cv) (hb : PySem.W.kitOne X.K (.ref D) cv = some b)
    (hm : X.mg "isinstance" = none) (hg : Gl X "isinstance") (hN : X.N[i]? = some x := by rfl) (hv : Vis X.env.scope x := by first | exact Or.inl rfl | exact Or.inr (Or.inl rfl) | exact Or.inr (Or.inr rfl)) (hd : (x == ("__debug__" : Str)) = false := by decide) (hcd : (x == ("__classdict__" : Str)) = false := by decide)
    (h1 : starEach [.Name x q1, ce] X.env = (false, eval (.Name x q1) X.env) :: starEach [ce] X.env := by rfl) (h2 : starEach [ce] X.env = (false, eval ce X.env) :: starEach [] X.env := by rfl) (hpl : (backTo pos (starEach [ce] X.env)).any (·.1) = false := by rfl) :
    EM (X.suite a ((a, oe) :: pn)) WW (.Call (.Name "isinstance" p) [.Name x q1, ce] [] pos) (wExI a cls d D b i) := by
  refine ⟨pe_imp (pe_callB (X := X.suite a ((a, oe) :: pn)) (r := fun xs H Q => ∃ dd us, xs = [.ref a, c] ∧ cls = .ref D ∧ d = some dd ∧ H dd = some (.xd us) ∧ Q (.bl b) H) (fun pins s σ H xs us Q I r h => ?_) hg hm PyProof.Rows.boot_isinstance (pa_cons (pe_var (X := X.suite a ((a, oe) :: pn)) hN hv hd hcd) (pa_cons hce pa_nil h2) h1) (by decide) (by decide) h1 hpl) fun σ H Q ⟨A, W, S, P, PX, w, h, hp, _⟩ => ?_⟩
  · obtain ⟨dd, fs, rfl, rfl, rfl, e, q⟩ := h
    cases r with
    | cons rx rr =>
      cases rr with
      | cons rt rr =>
        cases rr
        cases rx
        have ec := hcv _ rt
        subst ec
        exact PySem.W.kia_one (PySem.W.kitx_exc C.hg C.hk C.hs C.hd C.ha C.hn C.ht C.hm) I.kIn (instD I hz hf e) hb (fun z => nomatch z) fun tk => ⟨.bl b, H, I.kept (t' := tk) fun _ _ z => z, rfl, q⟩
  · unfold wExI at h
    cases q : S.sl[i]? with
    | none => rw [q] at h; exact h.elim
    | some s =>
      rw [q] at h
      have z := w.slot i s q
      cases s with
      | exc a' d' C fs =>
        obtain ⟨⟨rfl, hd', hc'⟩, h⟩ := h
        obtain ⟨e1, us, e2, e3⟩ := z
        exact ⟨.ref a', e1, d', us, rfl, hc', hd', w.bh _ _ e2, hp (.val (.bl b)) S _ W H (Wo.le.refl _) w (Rp.bl b) h⟩
      | _ => exact h.elim
/-- isinstance(e, (c, ..)) -/
def tCsV (cs : List V) : TA := fun _ H Q => Q cs H
theorem em_exIT {cs : List V} {cvs : List Value} {b : Bool} {p q1 pos tp : Pos} {es : List Expr} {kk : Nat} (C : ExcC X.K D) (hz : Zc cls d oe) (hf : ∃ vs, oe.data = .fields vs) (hce : PA (X.suite a ((a, oe) :: pn)) es (tCsV cs)) (hcv : ∀ us, Vals cs us → us = cvs) (hl : cs.length ≤ sizeLine) (hb : PySem.W.kitAny X.K (.ref D) cvs = some b)
    (hm : X.mg "isinstance" = none) (hg : Gl X "isinstance") (hN : X.N[i]? = some x := by rfl) (hv : Vis X.env.scope x := by first | exact Or.inl rfl | exact Or.inr (Or.inl rfl) | exact Or.inr (Or.inr rfl)) (hd : (x == ("__debug__" : Str)) = false := by decide) (hcd : (x == ("__classdict__" : Str)) = false := by decide)
    (h1 : starEach [.Name x q1, .Tuple es kk tp] X.env = (false, eval (.Name x q1) X.env) :: starEach [.Tuple es kk tp] X.env := by rfl) (h2 : starEach [.Tuple es kk tp] X.env = (false, eval (.Tuple es kk tp) X.env) :: starEach [] X.env := by rfl) (hpl : (backTo pos (starEach [.Tuple es kk tp] X.env)).any (·.1) = false := by rfl) :
    EM (X.suite a ((a, oe) :: pn)) WW (.Call (.Name "isinstance" p) [.Name x q1, .Tuple es kk tp] [] pos) (wExI a cls d D b i) := by
  refine ⟨pe_imp (pe_callB (X := X.suite a ((a, oe) :: pn)) (r := fun xs H Q => ∃ dd us tp, xs = [.ref a, .ref tp] ∧ H tp = some (.tup cs) ∧ cls = .ref D ∧ d = some dd ∧ H dd = some (.xd us) ∧ Q (.bl b) H) (fun pins s σ H xs us Q I r h => ?_) hg hm PyProof.Rows.boot_isinstance (pa_cons (pe_var (X := X.suite a ((a, oe) :: pn)) hN hv hd hcd) (pa_cons (pe_tup hce) pa_nil h2) h1) (by decide) (by decide) h1 hpl) fun σ H Q ⟨A, W, S, P, PX, w, h, hp, _⟩ => ?_⟩
  · obtain ⟨dd, fs, tq, rfl, ht, rfl, rfl, e, q⟩ := h
    cases r with
    | cons rx rr =>
      cases rr with
      | cons rt rr =>
        cases rr
        cases rx
        cases rt
        obtain ⟨its, rv, ⟨⟨oc, odd, data, sl⟩, ho, hc, n, hdd⟩, hs⟩ := I.tuple (SqT.of ht)
        simp only at hc hdd
        subst hc hdd
        have ec := hcv _ rv
        subst ec
        exact PySem.W.kia_tup (PySem.W.kitx_exc C.hg C.hk C.hs C.hd C.ha C.hn C.ht C.hm) I.kIn (instD I hz hf e) ho hb (fun z => nomatch z) fun tk => ⟨.bl b, H, I.kept (t' := tk) fun _ _ z => z, rfl, q⟩
  · unfold wExI at h
    cases q : S.sl[i]? with
    | none => rw [q] at h; exact h.elim
    | some s =>
      rw [q] at h
      have z := w.slot i s q
      cases s with
      | exc a' d' C fs =>
        obtain ⟨⟨rfl, hd', hc'⟩, h⟩ := h
        obtain ⟨e1, us, e2, e3⟩ := z
        refine ⟨.ref a', e1, hl, fun tq htq => ?_⟩
        have e4 : upd H tq (.tup cs) d' = some (.xd us) := by
          have := w.bh _ _ e2
          rw [upd_ne (fun y => by rw [y, htq] at this; cases this)]; exact this
        exact ⟨d', us, tq, rfl, upd_same, hc', hd', e4, hp (.val (.bl b)) S _ W _ (Wo.le.refl _) (w.lay htq) (Rp.bl b) h⟩
      | _ => exact h.elim
end
/-! ### try .. except C as e -/
def wTry (mt : Addr → Option Bool) (i : Nat) (wb : SW) (ws : Addr → Value → Option Addr → SW) : SW := fun S E => wb S { E with ex := fun x S1 => ∃ b, mt x.C = some b ∧
  (b = true → (match S1.sl[i]? with | some s => s.isL = false | none => False) ∧ x.fs ≠ [] ∧ ∀ a d, ws a (.ref x.C) (some d) { S1 with sl := S1.sl.set i (.exc a d x.C x.fs) }
    { nx := fun S2 => noLent S2.sl [i] ∧ E.nx (wipeS S2 [i]), rt := fun t S2 => (match t with | .slot _ => False | _ => True) ∧ E.rt t S2, bk := fun S2 => noLent S2.sl [i] ∧ E.bk (wipeS S2 [i]), ct := fun S2 => noLent S2.sl [i] ∧ E.ct (wipeS S2 [i]), ex := fun _ _ => False }) ∧
  (b = false → E.ex x S1) }
section
variable {X : Cx} {WW : WX} {x n : Str} {c : Value} {i : Nat} {body suite : List Stmt} {b₀ : Stmt} {np pos pos' : Pos} {wb : SW} {ws : Addr → Value → Option Addr → SW}
theorem Wd.unset {K : PySem.W.Frag} {A : An} {W : Wo} {S : MS} {σ : L2.St} {H : Hp} (w : Wd K A W S σ H) {i : Nat} (nl : noLent S.sl [i]) : Wd K A W (wipeS S [i]) (σ.set i none) H :=
  w.over (by rw [List.length_set]) (fun j hj => by
    have : i ≠ j := fun e => hj (by simp [e])
    exact List.getElem?_set_ne this) nl
theorem sm_try (hs : X.stack = X.env :: X.outer) (hf : X.env.frame = some X.env.locals) (hN : X.N.Nodup) (hi : X.N[i]? = some n) (hln : X.env.kindOf n = some .local) (hc : Names X x c) (tk : Takes X WW)
    (hb : ∀ (W : WX) (pn : List (Addr × Obj)) (xe : Value → Shared → Prop), Takes (X.tr pn xe) W → PassesOwn (model X.prog X.w) X.A X.env xe → SSM (X.tr pn xe) W body wb)
    (hsu : ∀ (a : Addr) (oe : Obj) (cls : Value) (d : Option Addr) (pn : List (Addr × Obj)), Zc cls d oe → (∃ vs, oe.data = .fields vs) → SSM (X.suite a ((a, oe) :: pn)) WF (b₀ :: suite) (ws a cls d)) :
    SM X WW (.Try body [.ExceptHandler (some (.Name x np)) (some n) (b₀ :: suite) pos'] [] [] pos) (wTry (fun C => PySem.W.exmOne X.K (.ref C) c) i wb ws) :=
  ⟨ps_imp (ps_try_as (tb := fun W => embS X.K W wb) (ts := fun a cls d => embS X.K WF (ws a cls d)) hs hf hN hi hln hc tk (fun W pn xe t p => (hb W pn xe t p).pss) (fun a oe cls d pn z f => (hsu a oe cls d pn z f).pss)) fun D σ H ⟨A, W, S, E, wd, h, lk⟩ => by
    refine ⟨A, W, S, _, wd, h, ⟨lk.nx, lk.rt, lk.bk, lk.ct, fun y S1 cls d W' σ' H' l w' xr p => ?_⟩⟩
    obtain ⟨b, hm, ht, hf'⟩ := p
    obtain ⟨rfl, xr2⟩ := xr
    refine ⟨b, hm, fun eb a han => ?_, fun eb => lk.ex y S1 _ d W' σ' H' l w' ⟨rfl, xr2⟩ (hf' eb)⟩
    obtain ⟨hl, hne, hw⟩ := ht eb
    rcases xr2 with xr2 | ⟨dd, us, rfl, h1, h2⟩
    · exact absurd xr2 hne
    obtain ⟨s0, hs0, hL0⟩ := isL_get hl
    have hi' : i < S1.sl.length := (List.getElem?_eq_some_iff.mp hs0).1
    have w2 := w'.set (v := .ref a) (s := .exc a dd y.C y.fs) hs0 hL0 (fun z => by cases z) ⟨by rw [List.getElem?_set_self (by rw [w'.sl]; exact hi')], us, h1, h2⟩
    refine ⟨A, W', _, _, w2, hw a dd, ⟨fun S2 W2 σ2 H2 l2 w3 q => ?_, fun t S2 v W2 σ2 H2 l2 w3 tv q => ?_, fun S2 W2 σ2 H2 l2 w3 q => ?_, fun S2 W2 σ2 H2 l2 w3 q => ?_, fun _ _ _ _ _ _ _ _ _ _ z => z.elim⟩⟩
    · exact lk.nx _ W2 _ H2 (l.trans l2) (w3.unset q.1) q.2
    · exact lk.rt t S2 v W2 σ2 H2 (l.trans l2) w3 tv q.2
    · exact lk.bk _ W2 _ H2 (l.trans l2) (w3.unset q.1) q.2
    · exact lk.ct _ W2 _ H2 (l.trans l2) (w3.unset q.1) q.2⟩
end
end BV

/-! The by-value layer, part x: facts of the written part about own exceptions; a Hook that tells defs with a cell. -/
namespace BV
open PySem L2 PySem.Spec PyProof.Rows
abbrev FnC : Type := Option (Str × Str × Arguments × FuncBody × Scope × Addr × List Str × Addr)
def fnC (K : PySem.W.Frag) (p : Str × Option Str) : FnC := match K.lookup (He.fAd K p) with
  | some ⟨_, _, .func fd, _⟩ => some (fd.name, fd.qualname, fd.params, fd.body, fd.scope, fd.globals, fd.closure.map (·.1), fd.builtins)
  | _ => none
def valC (d : He.DefD) : FnC := some (d.name, d.qual, d.params, .stmts d.body, d.scope, mainGlobals, ["__class__"], builtinsNs)
abbrev AlY : Type := He.AlX × List FnC
structure SaysY (fa : List He.Fa) (fn fc : List He.DefD) (ex : PySem.W.Frag → Bool) (w : World) (h : Heap) (K : PySem.W.Frag) : Prop where
  x : He.SaysX fa fn [] [] ex w h K
  c : (fc.map fun d => fnC K d.at_) = fc.map valC
def asY (g : Addr → Option Obj) (n : Nat) : List Addr := cStatics :: He.asD g n
def obsY (n : Nat) (fa : List He.Fa) (fn fc : List He.DefD) (ex : PySem.W.Frag → Bool) (g : Addr → Option Obj) : AlY := ((He.obsT fa fn [] (He.frT g (asY g n)), ex (He.frT g (asY g n))), fc.map fun d => fnC (He.frT g (asY g n)) d.at_)
def hookY (n : Nat) (fa : List He.Fa) (fn fc : List He.DefD) (ex : PySem.W.Frag → Bool) : PySem.W.Hook where
  α := AlY
  obs := fun s => obsY n fa fn fc ex s.heap.get?
  val := fun w => (He.valX fn [] w, fc.map valC)
  says := fun w h => ∃ K : PySem.W.Frag, K.In h ∧ SaysY fa fn fc ex w h K
  of := fun _ _ e => ⟨_, He.frT_in, ⟨⟨congrArg (fun z : AlY => z.1.1) e, congrArg (fun z : AlY => z.1.2) e, (fun _ h => by cases h), (fun _ h => by cases h), (fun _ h => by cases h)⟩, congrArg (fun z : AlY => z.2) e⟩⟩
  keeps := fun _ _ _ ⟨K, hK, c⟩ k => ⟨K, PySem.W.Frag.In.keeps hK k, ⟨⟨c.x.t, c.x.more, c.x.hd, c.x.out, fun p hp => k _ _ (c.x.empty p hp)⟩, c.c⟩⟩
theorem obsY_eq {n : Nat} {fa : List He.Fa} {fn fc : List He.DefD} {ex : PySem.W.Frag → Bool} {g : Addr → Option Obj} {s : Shared} (h : ∀ a, g a = s.heap.get? a) : obsY n fa fn fc ex g = (hookY n fa fn fc ex).obs s := by
  have e : g = s.heap.get? := funext h
  rw [e] <;> rfl
theorem SaysY.at_ {fa : List He.Fa} {fn fc : List He.DefD} {ex : PySem.W.Frag → Bool} {w : World} {h : Heap} {K : PySem.W.Frag} (c : SaysY fa fn fc ex w h K) (i : Nat) {d : He.DefD} (hd : fc[i]? = some d := by rfl) : fnC K d.at_ = valC d := by
  have e := congrArg (fun l : List FnC => l[i]?) c.c
  simp only [List.getElem?_map, hd, Option.map_some] at e
  exact Option.some.inj e
/-! ### own exceptions -/
def oexB (K : PySem.W.Frag) (C : Addr) : Bool := match K.lookup C with
  | some ⟨.type "type", _, .cls cd, sl⟩ => (match cd.mro, sl.toList with
    | .ref C' :: bm, [_, _, _, _, some (.builtin n), _] => C' == C && (n == "ValueError.__new__" && (!cd.hasDel && (cd.hasDict && PySem.HandSPX.refsVE bm)))
    | _, _ => false)
  | _ => false
theorem oexB_ok {K : PySem.W.Frag} {C : Addr} (q : oexB K C = true) : ∃ nm q N bs bm sn sub ab col dd k0 k1 k2 k3 k5, K.lookup C = some (excClassObj nm q C N bs bm true sn sub ab col dd k0 k1 k2 k3 k5 "ValueError.__new__") ∧ PySem.HandSPX.refsVE bm = true := by
  unfold oexB at q
  split at q
  · rename_i dd cd sl ho
    split at q
    · rename_i C' bm k0 k1 k2 k3 n k5 hm hs
      simp only [Bool.and_eq_true, beq_iff_eq, Bool.not_eq_true'] at q
      obtain ⟨rfl, rfl, hdel, hdc, ht⟩ := q
      obtain ⟨nm, bs, mro, ns, qn, hd, sn, sub, ab, col, del⟩ := cd
      dsimp only at hm hdel hdc
      subst hm hdel hdc
      have hsl : sl = #[k0, k1, k2, k3, some (.builtin "ValueError.__new__"), k5] := by
        obtain ⟨l⟩ := sl
        simp only at hs
        rw [hs]
      subst hsl
      exact ⟨nm, qn, ns, bs, bm, sn, sub, ab, col, dd, k0, k1, k2, k3, k5, ho, ht⟩
    · cases q
  · cases q
/-- the class x, whose __init__ stores flds -/
def excB (K : PySem.W.Frag) (x : Str) (flds : List Str) : Bool := oexB K (He.ga K x) && (He.eqO (PySem.W.findIn K (.ref (He.ga K x)) "__setattr__") (some (some (.builtin "object.__setattr__"))) &&
  (decide (PySem.W.subIn K (.ref (He.ga K x)) (.type "BaseException") = some true) && (decide (PySem.W.typeIn K (.ref (He.ga K x)) = some (.type "type")) && (PySem.W.keepIn K (.ref (He.ga K x)) &&
  (He.eqO (PySem.W.ks_superIn K (He.ga K x) (He.ga K x) "__init__") (some (some (.builtin "ValueError.__init__"))) && (decide (PySem.W.mroIn K (He.ga K x) (.ref (He.ga K x)) = some true) && (decide (PySem.W.subIn K (.ref (He.ga K x)) (.type "ValueError") = some true) &&
  (flds.all (fun f => He.eqO (PySem.W.findIn K (.ref (He.ga K x)) f) (some none)) &&
  (He.eqO (PySem.W.findIn K (.ref (He.ga K x)) "__init__") (some (some (.ref (He.ma K (He.ga K x) "__init__")))) && decide (PySem.W.typeIn K (.ref (He.ma K (He.ga K x) "__init__")) = some (.type "function")))))))))))
theorem excB_ok {K : PySem.W.Frag} {x : Str} {flds : List Str} (h : excB K x flds = true) : ExF K (He.ga K x) (He.ga K x) flds ∧ PySem.W.findIn K (.ref (He.ga K x)) "__init__" = some (some (.ref (He.ma K (He.ga K x) "__init__"))) ∧ PySem.W.typeIn K (.ref (He.ma K (He.ga K x) "__init__")) = some (.type "function") := by
  obtain ⟨h1, h⟩ := He.ba h
  obtain ⟨h2, h⟩ := He.ba h
  obtain ⟨h3, h⟩ := He.ba h
  obtain ⟨h4, h⟩ := He.ba h
  obtain ⟨h5, h⟩ := He.ba h
  obtain ⟨h6, h⟩ := He.ba h
  obtain ⟨h7, h⟩ := He.ba h
  obtain ⟨h8, h⟩ := He.ba h
  obtain ⟨h9, h⟩ := He.ba h
  obtain ⟨h10, h11⟩ := He.ba h
  exact ⟨⟨⟨⟨oexB_ok h1, He.eqO_ok h2, of_decide_eq_true h3, of_decide_eq_true h4, h5⟩, He.eqO_ok h6, of_decide_eq_true h7, of_decide_eq_true h8⟩, fun f hf => He.eqO_ok (List.all_eq_true.mp h9 f hf)⟩, He.eqO_ok h10, of_decide_eq_true h11⟩
/-- its __init__ -/
def supB (K : PySem.W.Frag) (x : Str) (file : Str) : Bool := (match K.lookup (He.fAd K (x, some ("__init__" : Str))) with
  | some ⟨_, _, .func fd, _⟩ => (match fd.closure, fd.code, fd.defaults with
    | [(n, cc)], .ref cda, .none => n == ("__class__" : Str) && (PySem.W.codeIn K (.ref cda) fd.qualname && ((match K.lookup cc with | some ⟨_, _, .cell (some v), _⟩ => v == .ref (He.ga K x) | _ => false) &&
      (match K.lookup cda with | some ⟨_, _, .fields vs, _⟩ => (match (vs[(2 : Nat)]? : Option Value) with | some (.str fl _) => fl == file | _ => false) | _ => false)))
    | _, _, _ => false)
  | _ => false) && ((PySem.W.clsIn K (He.ga K x)).isSome && He.eqO (PySem.W.nsIn K cStatics "thirdparty.any") (some none))
theorem supB_ok {P : Program} {K : PySem.W.Frag} {mg : Str → Option Value} {x file : Str} {d : He.DefD} (hat : d.at_ = (x, some ("__init__" : Str))) (e : fnC K d.at_ = valC d) (h : supB K x file = true) (hf : (P.main.file : Str) = file) (ht : (P.main.scope.names.lookup ("super" : Str)).isSome = false) (hm : mg "super" = none) :
    ∃ (cc cda : Addr) (oc : Value) (od : Option Addr) (kV doc pm : Value) (an : Option Addr) (ct : Value) (osl : Array (Option Value)),
      K.lookup (He.ma K (He.ga K x) "__init__") = some ⟨oc, od, .func (PySem.W.fnX d.name d.qual d.params d.body d.scope [("__class__", cc)] .none kV doc pm an (.ref cda) ct), osl⟩ ∧ SupD P K mg (He.ga K x) (He.ma K (He.ga K x) "__init__") cc cda d.qual := by
  obtain ⟨h1, h2⟩ := He.ba h
  obtain ⟨h3, h4⟩ := He.ba h2
  rw [hat] at e
  unfold fnC at e
  have eA : He.fAd K (x, some ("__init__" : Str)) = He.ma K (He.ga K x) "__init__" := rfl
  rw [eA] at e h1
  cases q : K.lookup (He.ma K (He.ga K x) "__init__") with
  | none => rw [q] at h1; cases h1
  | some o =>
    obtain ⟨oc, od, dt, osl⟩ := o
    rw [q] at h1 e
    cases dt with
    | func fd =>
      obtain ⟨n1, n2, n3, n4, n5, n6, n7, n8, n9, n10, n11, n12, n13, n14, n15⟩ := fd
      have e2 : (some (n1, n2, n3, n4, n5, n6, n7.map (·.1), n15) : FnC) = valC d := e
      unfold valC at e2
      simp only [Option.some.injEq, Prod.mk.injEq] at e2
      obtain ⟨g1, g2, g3, g4, g5, g6, g7, g8⟩ := e2
      subst g1 g2 g3 g4 g5 g6 g8
      dsimp only at h1
      split at h1
      · rename_i n cc cda
        obtain ⟨k1, k⟩ := He.ba h1
        obtain ⟨k2, k⟩ := He.ba k
        obtain ⟨k3, k4⟩ := He.ba k
        have k1' := beq_iff_eq.mp k1
        subst k1'
        refine ⟨cc, cda, oc, od, n9, n10, n11, n12, n14, osl, rfl, ⟨k2, ?_, ht, ?_, Option.isSome_iff_exists.mp h3, hm, He.eqO_ok h4⟩⟩
        · split at k4
          · rename_i c2 d2 vs s2 q2
            split at k4
            · rename_i fl tf q3
              have k4' := beq_iff_eq.mp k4
              exact ⟨c2, d2, vs, s2, fl, tf, q2, q3, by rw [hf, k4']; exact beq_self_eq_true _⟩
            · cases k4
          · cases k4
        · split at k3
          · rename_i c2 d2 v s2 q2
            have k3' := beq_iff_eq.mp k3
            subst k3'
            exact ⟨c2, d2, s2, q2⟩
          · cases k3
      · cases h1
    | _ => cases h1
/-- a caught class -/
def catB (K : PySem.W.Frag) (x : Str) : Bool := (He.eqO (PySem.W.findIn K (.ref (He.ga K x)) "__getattribute__") (some (some (.builtin "BaseException.__getattribute__"))) && (He.eqO (PySem.W.findIn K (.ref (He.ga K x)) "__getattr__") (some none) &&
  (decide (PySem.W.subIn K (.ref (He.ga K x)) (.type "BaseException") = some true) && (PySem.W.hasDictIn K (He.ga K x) && (He.eqO (PySem.W.findIn K (.ref (He.ga K x)) "__class__") (some (some (.builtin "object.__class__"))) &&
  (He.eqO (PySem.W.specialIn K (.builtin "object.__class__") "__get__") (some (some (.builtin "getset_descriptor.__get__"))) && (decide (PySem.W.takesIn K (.builtin "object.__class__") = some true) && decide (PySem.W.mroIn K (He.ga K x) (.type "object") = some true))))))))
theorem catB_ok {K : PySem.W.Frag} {x : Str} (h : catB K x = true) : ExcC K (He.ga K x) ∧ XfC K (He.ga K x) := by
  obtain ⟨h1, h⟩ := He.ba h
  obtain ⟨h2, h⟩ := He.ba h
  obtain ⟨h3, h⟩ := He.ba h
  obtain ⟨h4, h⟩ := He.ba h
  obtain ⟨h5, h⟩ := He.ba h
  obtain ⟨h6, h⟩ := He.ba h
  obtain ⟨h7, h8⟩ := He.ba h
  exact ⟨⟨He.eqO_ok h1, He.eqO_ok h2, of_decide_eq_true h3, h4, He.eqO_ok h5, He.eqO_ok h6, of_decide_eq_true h7, of_decide_eq_true h8⟩, ⟨He.eqO_ok h1, He.eqO_ok h2, of_decide_eq_true h3, h4⟩⟩
end BV

/-! The by-value layer, part y: a, b = x, y; a value kept for good; min of a list. -/
namespace BV
open PySem L2 PySem.Spec PyProof.Rows
/-! ### a value kept for good -/
def wKp (w : EW) : EW := fun S P PX => w S (fun t S1 => kpK S1 t fun x S2 => P (.val x) S2) PX
theorem wKp_e {w : EW} {S : MS} {P : TV → MS → Prop} {PX : Ex → MS → Prop} : wKp w S P PX = w S (fun t S1 => kpK S1 t fun x S2 => P (.val x) S2) PX := id rfl
theorem em_kp {X : Cx} {WW : WX} {e : Expr} {w : EW} (h : EM X WW e w) : EM X WW e (wKp w) := ⟨pe_imp h.pe fun σ H Q ⟨A, W, S, P, PX, wd, q, hp, hx⟩ => by
  refine ⟨A, W, S, _, _, wd, q, fun t S1 v W1 H1 l1 w1 tv r => ?_, hx⟩
  obtain ⟨W2, S2, x, l2, w2, rp, k⟩ := w1.kp tv r
  exact hp (.val x) S2 v W2 H1 (l1.trans l2) w2 rp k⟩
/-! ### several values on their way, new ones among them -/
/-- held while others are reckoned -/
theorem Wd.hold {K : PySem.W.Frag} {A : An} {W : Wo} {S : MS} {σ : L2.St} {H : Hp} {t : TV} {v : V} (w : Wd K A W S σ H) (tv : TvR K A W S σ H t v) (ns : ∀ i, t ≠ .slot i) :
    ∃ A', Wd K A' W S σ H ∧ (∀ W' S' σ' H', Wd K A' W' S' σ' H' → Wd K A W' S' σ' H') ∧ (∀ W' S' H', W.le W' → Wd K A' W' S' σ H' → Wd K A W' S' σ H' ∧ TvR K A W' S' σ H' t v) ∧ (∀ a, A'.H0 a = none → A.H0 a = none) ∧ (∀ x p, t = .fresh x → v = .ref p → A'.H0 p ≠ none) := by
  cases t with
  | slot i => exact absurd rfl (ns i)
  | val x => exact ⟨A, w, fun _ _ _ _ w' => w', fun W' S' H' l w' => ⟨w', tv.mono l.b l.r⟩, fun _ h => h, fun _ _ e => by cases e⟩
  | bor x =>
    obtain ⟨p, e, ho⟩ := tv
    exact ⟨A, w, fun _ _ _ _ w' => w', fun W' S' H' l w' => ⟨w', p, e, ho.mono l.b l.r fun o z => l.f _ _ z⟩, fun _ h => h, fun _ _ e => by cases e⟩
  | fresh x =>
    obtain ⟨p, e, hF, hr, hs, ho, h0⟩ := tv
    obtain ⟨o, hp⟩ := ho.ex
    refine ⟨A.plus p o, w.plus hp hF hr hs, fun W' S' σ' H' w' => w'.unplus h0, fun W' S' H' l w' => ?_, fun a h => plus_none h, fun y q _ eq => ?_⟩
    · obtain ⟨g1, g2, g3, g4⟩ := w'.stands (fun m => by
        obtain ⟨n, hn⟩ := List.mem_iff_getElem?.mp m
        exact hr (List.mem_iff_getElem?.mpr ⟨n, w.ar _ _ hn⟩)) (by
        cases q : A.F0 p with
        | none => rfl
        | some z => rw [w.af p z q] at hF; cases hF) (fun i q y e' z => by
        subst z
        obtain ⟨e1, e2⟩ := w.pinOk i q y e'
        exact hs i _ e2 rfl e1)
      exact ⟨w'.unplus h0, p, e, g2, g3, g4, ho.mono l.b l.r fun o' z => by rw [hp] at z; cases z; exact g1, h0⟩
    · rw [e] at eq
      cases eq
      show (if p = p then some o else A.H0 p) ≠ none
      rw [if_pos rfl]
      exact fun z => by cases z
def notSl (t : TV) : Prop := match t with | .slot _ => False | _ => True
theorem notSl_ne {t : TV} (h : notSl t) : ∀ i, t ≠ .slot i := fun i e => by subst e; exact h
/-- no two are one new object -/
def TvF (K : PySem.W.Frag) (A : An) (W : Wo) (S : MS) (σ : L2.St) (H : Hp) : List TV → List V → Prop
  | [], [] => True
  | t :: ts, v :: vs => TvR K A W S σ H t v ∧ notSl t ∧ (∀ x p y u, t = .fresh x → v = .ref p → (TV.fresh y, u) ∈ ts.zip vs → u ≠ .ref p) ∧ TvF K A W S σ H ts vs
  | _, _ => False
theorem TvF.none {K : PySem.W.Frag} {A : An} {W : Wo} {S : MS} {σ : L2.St} {H : Hp} : ∀ {ts : List TV} {vs : List V} {y : PV} {u : V}, TvF K A W S σ H ts vs → (TV.fresh y, u) ∈ ts.zip vs → ∃ p, u = .ref p ∧ A.H0 p = none
  | [], [], _, _, _, m => by simp at m
  | [], _ :: _, _, _, h, _ => h.elim
  | _ :: _, [], _, _, h, _ => h.elim
  | t :: ts, v :: vs, y, u, h, m => by
    rw [List.zip_cons_cons] at m
    rcases List.mem_cons.mp m with e | m
    · cases e
      obtain ⟨p, e, _, _, _, _, h0⟩ := h.1
      exact ⟨p, e, h0⟩
    · exact TvF.none h.2.2.2 m
theorem TvF.imp {K : PySem.W.Frag} {A A' : An} {W : Wo} {S : MS} {σ : L2.St} {H : Hp} (i : ∀ t v, TvR K A' W S σ H t v → TvR K A W S σ H t v) : ∀ {ts : List TV} {vs : List V}, TvF K A' W S σ H ts vs → TvF K A W S σ H ts vs
  | [], [], _ => trivial
  | [], _ :: _, h => h.elim
  | _ :: _, [], h => h.elim
  | _ :: _, _ :: _, h => ⟨i _ _ h.1, h.2.1, h.2.2.1, TvF.imp i h.2.2.2⟩
def embF (K : PySem.W.Frag) (WW : WX) (w : AW) : TA := fun σ H Q => ∃ A W S P PX, Wd K A W S σ H ∧ w S P PX ∧
  (∀ ts S' vs W' H', W.le W' → Wd K A W' S' σ H' → TvF K A W' S' σ H' ts vs → P ts S' → Q vs H') ∧ LkX K WW A W PX
structure AMF (X : Cx) (WW : WX) (es : List Expr) (w : AW) : Prop where pa : PA X es (embF X.K WW w)
def aConsF (wa : EW) (wr : AW) : AW := fun S P PX => wa S (fun t S1 => notSl t ∧ wr S1 (fun ts S2 => P (t :: ts) S2) PX) PX
theorem aConsF_e {wa : EW} {wr : AW} {S : MS} {P : List TV → MS → Prop} {PX : Ex → MS → Prop} : aConsF wa wr S P PX = wa S (fun t S1 => notSl t ∧ wr S1 (fun ts S2 => P (t :: ts) S2) PX) PX := id rfl
theorem notSl_val {x : PV} : notSl (.val x) = True := id rfl
theorem notSl_fresh {x : PV} : notSl (.fresh x) = True := id rfl
theorem notSl_bor {x : PV} : notSl (.bor x) = True := id rfl
section
variable {X : Cx} {WW : WX} {e : Expr} {es : List Expr} {u : EW} {wr : AW}
theorem amf_nil : AMF X WW [] aNil := ⟨pa_imp pa_nil fun σ H Q ⟨A, W, S, P, PX, wd, h, hp, hx⟩ => hp [] S [] W H (Wo.le.refl _) wd trivial h⟩
theorem amf_cons (ha : EM X WW e u) (hr : AMF X WW es wr) (hs : starEach (e :: es) X.env = (false, eval e X.env) :: starEach es X.env := by rfl) : AMF X WW (e :: es) (aConsF u wr) := ⟨pa_imp (pa_cons ha.pe hr.pa hs) fun σ H Q ⟨A, W, S, P, PX, wd, h, hp, hx⟩ => by
  refine ⟨A, W, S, _, PX, wd, h, fun t S1 v W1 H1 l1 w1 tv ⟨ns, r⟩ => ?_, hx⟩
  obtain ⟨A', w1', back0, back, an, af⟩ := w1.hold tv (notSl_ne ns)
  refine ⟨A', W1, S1, _, PX, w1', r, fun ts S2 vs W2 H2 l2 w2 tvs q => ?_, fun x S' cls d W' σ' H' l w' xr p => ?_⟩
  · obtain ⟨w2', tv'⟩ := back W2 S2 H2 l2 w2
    refine hp (t :: ts) S2 (v :: vs) W2 H2 (l1.trans l2) w2' ⟨tv', ns, fun x p y z e1 e2 m => ?_, tvs.imp fun t v h => ?_⟩ q
    · obtain ⟨p', e3, h0⟩ := tvs.none m
      intro e4
      rw [e3] at e4
      cases e4
      exact af x p e1 e2 h0
    · cases t with
      | fresh x =>
        obtain ⟨p, a, b, c, d, e, f⟩ := h
        exact ⟨p, a, b, c, d, e, an _ f⟩
      | _ => exact h
  · exact hx x S' cls d W' σ' H' (l1.trans l) (back0 _ _ _ _ w') xr p⟩
end
theorem TvF.setv {K : PySem.W.Frag} {A : An} {W : Wo} {S : MS} {σ : L2.St} {H : Hp} {i : Nat} {s : Slot} {v : V} (hσ : i < σ.length) : ∀ {ts : List TV} {vs : List V}, (s.isH = true → ∃ p, v = .ref p ∧ ∀ y u, (TV.fresh y, u) ∈ ts.zip vs → u ≠ .ref p) → TvF K A W S σ H ts vs → TvF K A W { S with sl := S.sl.set i s } (σ.set i (some v)) H ts vs
  | [], [], _, _ => trivial
  | [], _ :: _, _, h => h.elim
  | _ :: _, [], _, h => h.elim
  | t2 :: ts, v2 :: vs, hH, ⟨g1, g2, g3, g4⟩ => by
    refine ⟨?_, g2, g3, TvF.setv hσ (fun z => by
      obtain ⟨p, e, r⟩ := hH z
      exact ⟨p, e, fun y u m => r y u (by rw [List.zip_cons_cons]; exact List.mem_cons_of_mem _ m)⟩) g4⟩
    cases t2 with
    | slot j => exact absurd g2 (fun z => z)
    | val x => exact g1
    | bor x => exact g1
    | fresh x =>
      obtain ⟨p, e, a, b, hs, c, d⟩ := g1
      refine ⟨p, e, a, b, fun j y ej hy => ?_, c, d⟩
      rcases get_set ej with ⟨rfl, rfl⟩ | ⟨ne, ej⟩
      · obtain ⟨p1, e1, r⟩ := hH hy
        rw [List.getElem?_set_self hσ]
        intro z
        have z1 : v = .ref p := Option.some.inj (Option.some.inj z)
        exact r x v2 (by rw [List.zip_cons_cons]; exact List.mem_cons_self) (by rw [e, ← e1, z1])
      · rw [List.getElem?_set_ne ne]
        exact hs j y ej hy
/-- one after another -/
def asgN : List Nat → List TV → MS → (MS → Prop) → Prop
  | [], [], S, k => k S
  | i :: is, t :: ts, S, k => asgK i t S fun S1 => asgN is ts S1 k
  | _, _, _, _ => False
def setN (σ : L2.St) : List Nat → List V → L2.St
  | i :: is, v :: vs => setN (σ.set i (some v)) is vs
  | _, _ => σ
theorem Wd.asgN {K : PySem.W.Frag} {A : An} : ∀ {is : List Nat} {ts : List TV} {vs : List V} {W : Wo} {S : MS} {σ : L2.St} {H : Hp} {k : MS → Prop}, Wd K A W S σ H → TvF K A W S σ H ts vs → BV.asgN is ts S k → ∃ W' S', W.le W' ∧ Wd K A W' S' (setN σ is vs) H ∧ k S'
  | [], [], [], W, S, σ, H, k, w, _, r => ⟨W, S, Wo.le.refl _, w, r⟩
  | i :: is, t :: ts, v :: vs, W, S, σ, H, k, w, tv, r => by
    obtain ⟨h1, h2, h3, h4⟩ := tv
    obtain ⟨hi, r⟩ : (match S.sl[i]? with | some s => s.isL = false | none => False) ∧ _ := r
    obtain ⟨s0, hs0, nl⟩ := isL_get hi
    have hσ : i < σ.length := by rw [w.sl]; exact (List.getElem?_eq_some_iff.mp hs0).1
    have key : ∀ (s : Slot), Wd K A W { S with sl := S.sl.set i s } (σ.set i (some v)) H → (s.isH = true → ∃ x, t = .fresh x) → BV.asgN is ts { S with sl := S.sl.set i s } k → ∃ W' S', W.le W' ∧ Wd K A W' S' (setN σ (i :: is) (v :: vs)) H ∧ k S' := by
      intro s w1 hH r1
      have tv2 : TvF K A W { S with sl := S.sl.set i s } (σ.set i (some v)) H ts vs := TvF.setv hσ (fun z => by
        obtain ⟨x1, rfl⟩ := hH z
        obtain ⟨p1, e1, _⟩ := h1
        exact ⟨p1, e1, fun y u m => h3 x1 p1 y u rfl e1 m⟩) h4
      exact Wd.asgN (is := is) w1 tv2 r1
    cases t with
    | slot j => exact h2.elim
    | val x => exact key (.val x) (w.set (s := .val x) hs0 nl (fun z => nomatch z) ⟨v, List.getElem?_set_self hσ, h1⟩) (fun z => nomatch z) r
    | bor x =>
      obtain ⟨p, rfl, ho⟩ := h1
      exact key (.bor x) (w.set (s := .bor x) hs0 nl (fun z => nomatch z) ⟨p, List.getElem?_set_self hσ, ho⟩) (fun z => nomatch z) r
    | fresh x => exact key (.own x) (w.setOwn hs0 nl h1) (fun _ => ⟨x, rfl⟩) r
  | [], [], _ :: _, _, _, _, _, _, _, h, _ => h.elim
  | [], _ :: _, _, _, _, _, _, _, _, _, r => r.elim
  | _ :: _, [], _, _, _, _, _, _, _, _, r => r.elim
  | _ :: _, _ :: _, [], _, _, _, _, _, _, h, _ => h.elim
def wParN (is : List Nat) (wr : AW) : SW := fun S E => wr S (fun ts S1 => asgN is ts S1 E.nx) E.ex
theorem wParN_e {is : List Nat} {wr : AW} {S : MS} {E : En} : wParN is wr S E = wr S (fun ts S1 => asgN is ts S1 E.nx) E.ex := id rfl
theorem asgN_nil {S : MS} {k : MS → Prop} : asgN [] [] S k = k S := id rfl
theorem asgN_cons {i : Nat} {is : List Nat} {t : TV} {ts : List TV} {S : MS} {k : MS → Prop} : asgN (i :: is) (t :: ts) S k = asgK i t S fun S1 => asgN is ts S1 k := id rfl
theorem asgK_some {i : Nat} {t : TV} {S : MS} {k : MS → Prop} (h : asgK i t S k) : ∃ S', k S' := by
  obtain ⟨_, h⟩ : (match S.sl[i]? with | some s => s.isL = false | none => False) ∧ _ := h
  cases t with
  | slot j =>
    dsimp only at h
    split at h
    · exact ⟨_, h⟩
    · exact ⟨_, h⟩
    · exact h.elim
  | _ => exact ⟨_, h⟩
theorem asgN_len {k : MS → Prop} : ∀ {is : List Nat} {ts : List TV} {S : MS}, asgN is ts S k → ts.length = is.length
  | [], [], _, _ => rfl
  | _ :: is, _ :: ts, S, h => by
    obtain ⟨S', h⟩ := asgK_some (h : asgK _ _ S fun S1 => asgN is ts S1 k)
    rw [List.length_cons, List.length_cons, asgN_len h]
  | [], _ :: _, _, h => h.elim
  | _ :: _, [], _, h => h.elim
theorem TvF.len {K : PySem.W.Frag} {A : An} {W : Wo} {S : MS} {σ : L2.St} {H : Hp} : ∀ {ts : List TV} {vs : List V}, TvF K A W S σ H ts vs → vs.length = ts.length
  | [], [], _ => rfl
  | [], _ :: _, h => h.elim
  | _ :: _, [], h => h.elim
  | _ :: ts, _ :: vs, h => by rw [List.length_cons, List.length_cons, TvF.len h.2.2.2]
section
variable {X : Cx} {WW : WX} {a b c : Expr} {i j l : Nat} {wr : AW} {x y z : Str} {px py pz pt pos : Pos} {kt : Nat} {k2 : Nat} {pt2 : Pos}
theorem sm_par (hc : X.calm = true) (hN : X.N.Nodup) (hij : i ≠ j) (hx : X.env.scope.names.lookup x = some .local) (hy : X.env.scope.names.lookup y = some .local) (ha : AMF X WW [a, b] wr) (hi : X.N[i]? = some x := by rfl) (hj : X.N[j]? = some y := by rfl)
    (hw : swappedStores [.Tuple [.Name x px, .Name y py] kt pt] (.Tuple [a, b] k2 pt2) X.env = pure (some [x, y]) := by rfl) (hs : swapsWithSole [.Tuple [.Name x px, .Name y py] kt pt] (.Tuple [a, b] k2 pt2) pos.line X.env = pure false := by rfl) :
    SM X WW (.Assign [.Tuple [.Name x px, .Name y py] kt pt] (.Tuple [a, b] k2 pt2) pos) (wParN [i, j] wr) := ⟨ps_imp (ps_par hc hN hi hj hij hx hy ha.pa hw hs) fun D σ H ⟨A, W, S, E, wd, h, lk⟩ => by
  refine ⟨A, W, S, _, _, wd, h, fun ts S1 vs W1 H1 l1 w1 tv r => ?_, lk.ex⟩
  obtain ⟨W2, S2, l2, w2, k⟩ := w1.asgN tv r
  have n1 := asgN_len r
  have n2 := tv.len
  rw [n1] at n2
  match vs, n2, w2 with
  | [v1, v2], _, w2 => exact ⟨v1, v2, rfl, lk.nx S2 W2 _ H1 (l1.trans l2) w2 k⟩⟩
theorem sm_par3 (hc : X.calm = true) (hN : X.N.Nodup) (hij : i ≠ j) (hil : i ≠ l) (hjl : j ≠ l) (hx : X.env.scope.names.lookup x = some .local) (hy : X.env.scope.names.lookup y = some .local) (hz : X.env.scope.names.lookup z = some .local) (ha : AMF X WW [a, b, c] wr) (hi : X.N[i]? = some x := by rfl) (hj : X.N[j]? = some y := by rfl) (hl : X.N[l]? = some z := by rfl)
    (hw : swappedStores [.Tuple [.Name x px, .Name y py, .Name z pz] kt pt] (.Tuple [a, b, c] k2 pt2) X.env = pure (some [x, y, z]) := by rfl) (hs : swapsWithSole [.Tuple [.Name x px, .Name y py, .Name z pz] kt pt] (.Tuple [a, b, c] k2 pt2) pos.line X.env = pure false := by rfl) :
    SM X WW (.Assign [.Tuple [.Name x px, .Name y py, .Name z pz] kt pt] (.Tuple [a, b, c] k2 pt2) pos) (wParN [i, j, l] wr) := ⟨ps_imp (ps_par3 hc hN hi hj hl hij hil hjl hx hy hz ha.pa hw hs) fun D σ H ⟨A, W, S, E, wd, h, lk⟩ => by
  refine ⟨A, W, S, _, _, wd, h, fun ts S1 vs W1 H1 l1 w1 tv r => ?_, lk.ex⟩
  obtain ⟨W2, S2, l2, w2, k⟩ := w1.asgN tv r
  have n1 := asgN_len r
  have n2 := tv.len
  rw [n1] at n2
  match vs, n2, w2 with
  | [v1, v2, v3], _, w2 => exact ⟨v1, v2, v3, rfl, lk.nx S2 W2 _ H1 (l1.trans l2) w2 k⟩⟩
end
end BV

/-! The by-value layer, part z: min of a list; equations of the later parts. -/
namespace BV
open PySem L2 PySem.Spec PyProof.Rows
def rcMin1 : RC := rc1 fun x k => match x with | .lst xs => ∃ ns : List Int, xs = ns.map PV.int ∧ 0 < ns.length ∧ ∀ m, m ∈ ns → (∀ y, y ∈ ns → m ≤ y) → k (.val (.int m)) | _ => False
theorem rcMin1_lst {xs : List PV} {k : TV → Prop} : rcMin1 [.lst xs] k = ∃ ns : List Int, xs = ns.map PV.int ∧ 0 < ns.length ∧ ∀ m, m ∈ ns → (∀ y, y ∈ ns → m ≤ y) → k (.val (.int m)) := id rfl
section
variable {X : Cx}
theorem call_min1P (hc : X.calm = true) : CallR X (.builtin "min") (embC X.K rcMin1) := callr_imp (cr_min hc) fun vs H Q ⟨A, W, S, σ, xs, k, w, r, h, hq⟩ => by
  obtain ⟨v, x, rfl, r1, h1⟩ := par1 r h
  cases x with
  | lst xs =>
    obtain ⟨ns, rfl, hn, h2⟩ := h1
    obtain ⟨a, us, rfl, e, ra⟩ := r1.lst w.bh
    obtain rfl := ra.ints
    exact ⟨a, ns, rfl, SqL.of e, hn, fun m hm hl => hq (.val (.int _)) _ W H (Wo.le.refl _) w (Rp.int _) (h2 m hm hl)⟩
  | _ => exact h1.elim
end
theorem wRaise_e {C : Addr} {flds : List Str} {wF wr : AW} {S : MS} {E : En} : wRaise C flds wF wr S E = wr S (fun ts S1 => kpAll S1 ts fun xs S2 => (xs.length = flds.length ∧ flds.length ≤ 1000) ∧
  wF ⟨.emp :: (xs.map Slot.val ++ [.emp]), S2.c⟩ (fun ts S' => ts.length ≤ 1000 ∧ S'.c = S2.c) (fun _ _ => False) ∧ E.ex ⟨C, fldL flds xs⟩ S2) E.ex := id rfl
theorem wTry_e {mt : Addr → Option Bool} {i : Nat} {wb : SW} {ws : Addr → Value → Option Addr → SW} {S : MS} {E : En} : wTry mt i wb ws S E = wb S { E with ex := fun x S1 => ∃ b, mt x.C = some b ∧
  (b = true → (match S1.sl[i]? with | some s => s.isL = false | none => False) ∧ x.fs ≠ [] ∧ ∀ a d, ws a (.ref x.C) (some d) { S1 with sl := S1.sl.set i (.exc a d x.C x.fs) }
    { nx := fun S2 => noLent S2.sl [i] ∧ E.nx (wipeS S2 [i]), rt := fun t S2 => (match t with | .slot _ => False | _ => True) ∧ E.rt t S2, bk := fun S2 => noLent S2.sl [i] ∧ E.bk (wipeS S2 [i]), ct := fun S2 => noLent S2.sl [i] ∧ E.ct (wipeS S2 [i]), ex := fun _ _ => False }) ∧
  (b = false → E.ex x S1) } := id rfl
theorem wExf_e {a : Addr} {cls : Value} {d : Option Addr} {D : Addr} {i : Nat} {f : Str} {S : MS} {P : TV → MS → Prop} {PX : Ex → MS → Prop} : wExf a cls d D i f S P PX = (match S.sl[i]? with
  | some (.exc a' d' _ fs) => (a' = a ∧ d = some d' ∧ cls = .ref D) ∧ (match fs.lookup f with | some y => P (.val y) S | none => False)
  | _ => False) := id rfl
theorem wExI_e {a : Addr} {cls : Value} {d : Option Addr} {D : Addr} {b : Bool} {i : Nat} {S : MS} {P : TV → MS → Prop} {PX : Ex → MS → Prop} : wExI a cls d D b i S P PX = (match S.sl[i]? with
  | some (.exc a' d' _ _) => (a' = a ∧ d = some d' ∧ cls = .ref D) ∧ P (.val (.bl b)) S
  | _ => False) := id rfl
theorem fldL1 {α : Type} {f : Str} {x : α} : fldL [f] [x] = [(f, x)] := id rfl
def kitOB (K : PySem.W.Frag) (x T : Str) (b : Bool) : Bool := decide (PySem.W.kitOne K (.ref (He.ga K x)) (.ref (He.ga K T)) = some b)
theorem kitOB_ok {K : PySem.W.Frag} {x T : Str} {b : Bool} (h : kitOB K x T b = true) : PySem.W.kitOne K (.ref (He.ga K x)) (.ref (He.ga K T)) = some b := of_decide_eq_true h
def kitAB (K : PySem.W.Frag) (x : Str) (Ts : List Str) (b : Bool) : Bool := decide (PySem.W.kitAny K (.ref (He.ga K x)) (Ts.map fun T => Value.ref (He.ga K T)) = some b)
theorem kitAB_ok {K : PySem.W.Frag} {x : Str} {Ts : List Str} {b : Bool} (h : kitAB K x Ts b = true) : PySem.W.kitAny K (.ref (He.ga K x)) (Ts.map fun T => Value.ref (He.ga K T)) = some b := of_decide_eq_true h
def exmB (K : PySem.W.Frag) (x T : Str) : Bool := decide (PySem.W.exmOne K (.ref (He.ga K x)) (.ref (He.ga K T)) = some true)
theorem exmB_ok {K : PySem.W.Frag} {x T : Str} (h : exmB K x T = true) : PySem.W.exmOne K (.ref (He.ga K x)) (.ref (He.ga K T)) = some true := of_decide_eq_true h
theorem gval {a : Addr} {u : Value} (h : RelV (.ref a) u) : u = .ref a := h
theorem gvals2 {a b : Addr} {us : List Value} (h : Vals [.ref a, .ref b] us) : us = [.ref a, .ref b] := by
  cases h with
  | cons r h => cases h with
    | cons r2 h => cases h; rw [gval r, gval r2]
theorem gnames2 {X : Cx} {x y : Str} {a b : Addr} {p q : Pos} (g1 : Gl X x) (m1 : X.mg x = some (.ref a)) (d1 : (x == ("__debug__" : Str)) = false) (g2 : Gl X y) (m2 : X.mg y = some (.ref b)) (d2 : (y == ("__debug__" : Str)) = false) : PA X [.Name x p, .Name y q] (tCsV [.ref a, .ref b]) :=
  pa_imp (pa_cons (pe_glob (v := .ref a) g1 m1 rfl d1) (pa_cons (pe_glob (v := .ref b) g2 m2 rfl d2) pa_nil)) fun σ H Q q => q
/-- one field's __init__, from what is written -/
theorem xini1 {P : Program} {w : World} {K : PySem.W.Frag} {mg : Str → Option Value} {base : Heap} {x f1 file p1n sn : Str} {d : He.DefD} {e : Expr} {es : List Expr} {p0 p1 p2 p3 p4 q1 q2 q3 q4 : Pos} {ar : Arg} {wF : AW}
    (hat : d.at_ = (x, some ("__init__" : Str))) (hd : fnC K d.at_ = valC d) (hx : excB K x [f1] = true) (hsu : supB K x file = true) (hf : (P.main.file : Str) = file) (ht : (P.main.scope.names.lookup ("super" : Str)).isSome = false) (hm : mg "super" = none)
    (hbd : d.body = [supSt p0 p1 p2 p3 p4 (e :: es), .Assign [.Attribute (.Name sn q1) f1 q2] (.Name p1n q3) q4])
    (S : NdefX.NScope [sn, p1n, "__class__"] [sn, p1n] ["__class__"] d.scope) (hks : d.scope.names.lookup ("super" : Str) = some .globalImplicit)
    (hp : (d.params.posonlyargs ++ d.params.args).head? = some ar) (hps : sn = ar.arg)
    (hl0 : d.scope.names.lookup sn = some .local) (hl1 : d.scope.names.lookup p1n = some .local) (hd0 : (sn == ("__debug__" : Str)) = false) (hd1 : (p1n == ("__debug__" : Str)) = false) (hc0 : (sn == ("__classdict__" : Str)) = false) (hc1 : (p1n == ("__classdict__" : Str)) = false)
    (hF : ∀ (f cc cda : Addr) (A : Around) (outer : List Env) (s : Shared) (H : Hp) (E : XK), RoomG 0 (A.deeper (NdefX.envF ⟨d.name, d.qual, d.params, d.body, d.scope, [("__class__", cc)], cda⟩ f s.heap.objs.size)) → AM (NdefX.ncx (L2.CX P w) P w K mg base [sn, p1n, "__class__"] ⟨d.name, d.qual, d.params, d.body, d.scope, [("__class__", cc)], cda⟩ f A outer s H E) WF (e :: es) wF)
    (hst : ∀ (f cc cda L : Addr), starEach (e :: es) (NdefX.envF ⟨d.name, d.qual, d.params, d.body, d.scope, [("__class__", cc)], cda⟩ f L) = (false, eval e (NdefX.envF ⟨d.name, d.qual, d.params, d.body, d.scope, [("__class__", cc)], cda⟩ f L)) :: starEach es (NdefX.envF ⟨d.name, d.qual, d.params, d.body, d.scope, [("__class__", cc)], cda⟩ f L))
    (hpl : ∀ (f cc cda L : Addr), (backTo p3 (starEach es (NdefX.envF ⟨d.name, d.qual, d.params, d.body, d.scope, [("__class__", cc)], cda⟩ f L))).any (·.1) = false)
    (hsw : ∀ (f cc cda L : Addr), swapsWith (.Call (.Attribute (.Call (.Name "super" p0) [] [] p1) "__init__" p2) (e :: es) [] p3) none p4.line (NdefX.envF ⟨d.name, d.qual, d.params, d.body, d.scope, [("__class__", cc)], cda⟩ f L) = pure false)
    (hsw1 : ∀ (f cc cda L : Addr), swapsWith (.Name p1n q3) (some (.Attribute (.Name sn q1) f1 q2)) q4.line (NdefX.envF ⟨d.name, d.qual, d.params, d.body, d.scope, [("__class__", cc)], cda⟩ f L) = pure false)
    {pl : Sem Bool} (hev : ∀ (f cc cda L : Addr), eval (.Call (.Attribute (.Call (.Name "super" p0) [] [] p1) "__init__" p2) (e :: es) [] p3) (NdefX.envF ⟨d.name, d.qual, d.params, d.body, d.scope, [("__class__", cc)], cda⟩ f L) = (do
      let ov ← attributeBase (.Call (.Name "super" p0) [] [] p1) "__init__" (NdefX.envF ⟨d.name, d.qual, d.params, d.body, d.scope, [("__class__", cc)], cda⟩ f L) (eval (.Call (.Name "super" p0) [] [] p1) (NdefX.envF ⟨d.name, d.qual, d.params, d.body, d.scope, [("__class__", cc)], cda⟩ f L))
      standAt p2.atName
      let (fx, first) ← holding [ov] (getMethod ov "__init__" pl)
      callWith p3 fx first (backTo p3 (starEach (e :: es) (NdefX.envF ⟨d.name, d.qual, d.params, d.body, d.scope, [("__class__", cc)], cda⟩ f L))) []))
    (hb : ∀ (cc cda : Addr) (kV doc pm : Value) (an : Option Addr) (ct : Value) (us : List Value), us.length = 2 → bindArgs (PySem.W.fnX d.name d.qual d.params d.body d.scope [("__class__", cc)] .none kV doc pm an (.ref cda) ct) ⟨us, []⟩ = pure ([sn, p1n].zip us)) :
    XIni P w K mg base 1 (He.ga K x) [f1] wF := by
  obtain ⟨XF, iC, tI⟩ := excB_ok hx
  obtain ⟨cc, cda, oc, od, kV, doc, pm, an, ct, osl, lk, SD⟩ := supB_ok hat hd hsu hf ht hm
  exact ⟨_, _, _, fx_def1 (k := 0) XF hbd lk SD S hks hp hps hl0 hl1 hd0 hd1 hc0 hc1 (hF _ cc cda) (hst _ cc cda) (hpl _ cc cda) (hsw _ cc cda) (hsw1 _ cc cda) (hev _ cc cda), Binds.all (hb cc cda kV doc pm an ct), XF.sup.ex, iC, tI⟩
end BV

/-! The by-value layer, part A: repr of data. -/
namespace BV
open PySem L2 PySem.Spec PyProof.Rows
mutual
/-- data as the library has it -/
def toD : PV → PyData
  | .bl b => .bool b
  | .int i => .int i
  | .str s => .str s
  | .tup xs => .tuple (toDs xs)
  | .lst xs => .list (toDs xs)
  | _ => .none
def toDs : List PV → List PyData
  | [] => []
  | x :: xs => toD x :: toDs xs
end
mutual
/-- it can be shown -/
def okD : PV → Bool
  | .non => true
  | .bl _ => true
  | .int i => decide (i.natAbs.log2 < 1920)
  | .str _ => true
  | .tup xs => okDs xs
  | .lst xs => okDs xs
  | _ => false
def okDs : List PV → Bool
  | [] => true
  | x :: xs => okD x && okDs xs
end
mutual
theorem okD_sh : ∀ {x : PV}, okD x = true → (toD x).showable = true
  | .non, _ => by simp [toD, PyData.showable]
  | .bl _, _ => by simp [toD, PyData.showable]
  | .int _, h => by simpa [toD, PyData.showable, okD] using h
  | .str _, _ => by simp [toD, PyData.showable]
  | .tup xs, h => by
    have := okDs_sh (xs := xs) (by simpa [okD] using h)
    simpa [toD, PyData.showable] using this
  | .lst xs, h => by
    have := okDs_sh (xs := xs) (by simpa [okD] using h)
    simpa [toD, PyData.showable] using this
  | .dct _, h => by simp [okD] at h
  | .obj _ _, h => by simp [okD] at h
  | .cel _, h => by simp [okD] at h
  | .bag, h => by simp [okD] at h
  | .scr _, h => by simp [okD] at h
theorem okDs_sh : ∀ {xs : List PV}, okDs xs = true → PyData.showableAll (toDs xs) = true
  | [], _ => by simp [toDs, PyData.showableAll]
  | x :: xs, h => by
    have h' : okD x = true ∧ okDs xs = true := by simpa [okDs] using h
    simp [toDs, PyData.showableAll, okD_sh h'.1, okDs_sh h'.2]
end
mutual
theorem toD_nd : ∀ {x : PV}, (toD x).hasDict = false
  | .non => by simp [toD, PyData.hasDict]
  | .bl _ => by simp [toD, PyData.hasDict]
  | .int _ => by simp [toD, PyData.hasDict]
  | .str _ => by simp [toD, PyData.hasDict]
  | .tup xs => by simpa [toD, PyData.hasDict] using toDs_nd (xs := xs)
  | .lst xs => by simpa [toD, PyData.hasDict] using toDs_nd (xs := xs)
  | .dct _ => by simp [toD, PyData.hasDict]
  | .obj _ _ => by simp [toD, PyData.hasDict]
  | .cel _ => by simp [toD, PyData.hasDict]
  | .bag => by simp [toD, PyData.hasDict]
  | .scr _ => by simp [toD, PyData.hasDict]
theorem toDs_nd : ∀ {xs : List PV}, PyData.hasDictAll (toDs xs) = false
  | [] => by simp [toDs, PyData.hasDictAll]
  | x :: xs => by simp [toDs, PyData.hasDictAll, toD_nd (x := x), toDs_nd (xs := xs)]
end
section
variable {X : Cx} {pins : List (Addr × Obj)} {σ : L2.St} {H : Hp} {s : Shared} {ρ : List Addr}
mutual
theorem Rp.reads (I : Inv X pins σ H s) : ∀ {v : V} {x : PV} {u : Value}, Rp X.K ρ H v x → okD x = true → RelV v u → ∃ as, Reads s.heap u (toD x) as
  | _, _, _, .non, _, r => by
    obtain rfl : _ = Value.none := r
    exact ⟨_, by rw [toD]; exact .none; all_goals (intros; simp_all)⟩
  | _, _, _, .bl b, _, r => by
    obtain rfl : _ = Value.bool b := r
    exact ⟨_, by rw [toD]; exact .bool b⟩
  | _, _, _, .int i, _, ⟨t, r⟩ => by
    subst r
    exact ⟨_, by rw [toD]; exact .int i t⟩
  | _, _, _, .str x, _, ⟨t, r⟩ => by
    subst r
    exact ⟨_, by rw [toD]; exact .str x t⟩
  | _, _, _, .tup (a := a) q h, o, r => by
    obtain rfl : _ = Value.ref a := r
    obtain ⟨its, rv, ⟨ob, e1, e2, n, e3⟩, _⟩ := I.tuple q
    obtain ⟨as, ra⟩ := RpA.reads I h (by simpa [okD] using o) rv
    exact ⟨_, by rw [toD]; exact .tuple e1 e2 e3 (by simpa using ra)⟩
  | _, _, _, .lst (a := a) q h, o, r => by
    obtain rfl : _ = Value.ref a := r
    obtain ⟨its, rv, ⟨ob, n, e1, e2, _, e3⟩, _⟩ := I.list (SqL.of q)
    obtain ⟨as, ra⟩ := RpA.reads I h (by simpa [okD] using o) rv
    exact ⟨_, by rw [toD]; exact .list e1 e2 e3 (by simpa using ra)⟩
  | _, _, _, .dct _ _, o, _ => by simp [okD] at o
  | _, _, _, .obj _ _, o, _ => by simp [okD] at o
  | _, _, _, .cel _, o, _ => by simp [okD] at o
  | _, _, _, .scr _, o, _ => by simp [okD] at o
theorem RpA.reads (I : Inv X pins σ H s) : ∀ {vs : List V} {xs : List PV} {us : List Value}, RpA X.K ρ H vs xs → okDs xs = true → Vals vs us → ∃ as, ReadsAll s.heap us (toDs xs) as
  | _, _, _, .nil, _, .nil => ⟨_, by rw [toDs]; exact .nil⟩
  | _, _, _, .cons (x := x) (xs := xs) h t, o, .cons r1 r2 => by
    have o' : okD x = true ∧ okDs xs = true := by simpa [okDs] using o
    obtain ⟨as, h1⟩ := Rp.reads I h o'.1 r1
    obtain ⟨bs, h2⟩ := RpA.reads I t o'.2 r2
    exact ⟨_, by rw [toDs]; exact .cons h1 h2⟩
end
end
def shownP (x : PV) : Str := (toD x).shown
def refP : PV → Bool | .tup _ => true | .lst _ => true | _ => false
def rcReprD : RC := rc1 fun x k => refP x = true ∧ okD x = true ∧ (toD x).depth ≤ 60 ∧ (shownP x).length ≤ sizeLine ∧ k (.val (.str (shownP x)))
theorem rcReprD_e {x : PV} {k : TV → Prop} : rcReprD [x] k = (refP x = true ∧ okD x = true ∧ (toD x).depth ≤ 60 ∧ (shownP x).length ≤ sizeLine ∧ k (.val (.str (shownP x)))) := id rfl
theorem call_reprD {X : Cx} {j : Nat} (hr : RoomG j X.A) : CallR X (.builtin "repr") (embC X.K rcReprD) := by
  intro pins s σ H xs us Q I r ⟨A, W, S, τ, ys, k, w, rr, h, hq⟩
  obtain ⟨v, x, rfl, r1, hx, ho, hd, hl, hk⟩ := par1 rr h
  obtain ⟨u, rfl, ru⟩ := vals1 r
  obtain ⟨as, rd⟩ := Rp.reads I (r1.rp w.bh) ho ru
  obtain ⟨a, rfl⟩ : ∃ a, u = .ref a := by
    cases x with
    | tup xs => rw [toD] at rd; cases rd; exact ⟨_, rfl⟩
    | lst xs => rw [toD] at rd; cases rd; exact ⟨_, rfl⟩
    | _ => cases hx
  refine repr_of_reads' rd (okD_sh ho) (fun z => by rw [toD_nd] at z; cases z) hr.gd (by have := hr.units; omega) (fun _ _ e => e) (fun h' t tk hk' => ?_) hl
  exact ⟨.str (shownP x), H, I.kept hk', ⟨_, rfl⟩, hq (.val (.str _)) _ W H (Wo.le.refl _) w (Rp.str _) hk⟩
theorem gvals3 {a b c : Addr} {us : List Value} (h : Vals [.ref a, .ref b, .ref c] us) : us = [.ref a, .ref b, .ref c] := by
  cases h with
  | cons r h => rw [gval r, gvals2 h]
theorem gnames3 {X : Cx} {x y z : Str} {a b c : Addr} {p q r : Pos} (g1 : Gl X x) (m1 : X.mg x = some (.ref a)) (d1 : (x == ("__debug__" : Str)) = false) (g2 : Gl X y) (m2 : X.mg y = some (.ref b)) (d2 : (y == ("__debug__" : Str)) = false) (g3 : Gl X z) (m3 : X.mg z = some (.ref c)) (d3 : (z == ("__debug__" : Str)) = false) : PA X [.Name x p, .Name y q, .Name z r] (tCsV [.ref a, .ref b, .ref c]) :=
  pa_imp (pa_cons (pe_glob (v := .ref a) g1 m1 rfl d1) (pa_cons (pe_glob (v := .ref b) g2 m2 rfl d2) (pa_cons (pe_glob (v := .ref c) g3 m3 rfl d3) pa_nil))) fun σ H Q q => q
end BV

/-! The by-value layer, part Wb: try with several handlers, each with its own name. -/
namespace BV
open PySem L2 PySem.Spec PyProof.Rows
/-- a handler: its class, its name's slot, its suite -/
structure HdT where
  c : Value
  i : Nat
  ts : Addr → Value → Option Addr → TS
def wAsL (K : PySem.W.Frag) (Wout : WX) (D : Ends) (cls : Value) (d : Option Addr) (σ : L2.St) (H : Hp) : List HdT → Prop
  | [] => Wout cls d σ H
  | h :: r => ∃ b, PySem.W.exmOne K cls h.c = some b ∧ (b = true → ∀ a, H a = none →
      h.ts a cls d ⟨fun τ G => D.nx (τ.set h.i none) G, D.rt, fun τ G => D.bk (τ.set h.i none) G, fun τ G => D.ct (τ.set h.i none) G⟩ (σ.set h.i (some (.ref a))) H) ∧ (b = false → wAsL K Wout D cls d σ H r)
inductive HdsAs (X : Cx) : List ExceptHandler → List HdT → Prop
  | nil : HdsAs X [] []
  | cons {x n : Str} {c : Value} {i : Nat} {ts : Addr → Value → Option Addr → TS} {b1 : Stmt} {ss : List Stmt} {np p' : Pos} {hds : List ExceptHandler} {l : List HdT} (hi : X.N[i]? = some n) (hln : X.env.kindOf n = some .local) (hc : Names X x c)
      (hsu : ∀ (a : Addr) (oe : Obj) (cls : Value) (d : Option Addr) (pn : List (Addr × Obj)), Zc cls d oe → (∃ vs, oe.data = .fields vs) → PSs (X.suite a ((a, oe) :: pn)) (b1 :: ss) (ts a cls d)) (r : HdsAs X hds l) :
      HdsAs X (.ExceptHandler (some (.Name x np)) (some n) (b1 :: ss) p' :: hds) (⟨c, i, ts⟩ :: l)
section
variable {X : Cx} {body : List Stmt} {h0 : ExceptHandler} {hds : List ExceptHandler} {l : List HdT} {pos : Pos} {tb : WX → TS} {Wout : WX}
theorem ps_tryL (hs : X.stack = X.env :: X.outer) (hf : X.env.frame = some X.env.locals) (hN : X.N.Nodup) (tk : Takes X Wout) (hh : HdsAs X (h0 :: hds) l)
    (hb : ∀ (W : WX) (pn : List (Addr × Obj)) (xe : Value → Shared → Prop), Takes (X.tr pn xe) W → PassesOwn (model X.prog X.w) X.A X.env xe → PSs (X.tr pn xe) body (tb W)) :
    PS X (.Try body (h0 :: hds) [] [] pos) (fun D σ H => tb (fun cls d τ G => wAsL X.K Wout D cls d τ G l) D σ H) := by
  refine ⟨fun pins s σ H D I h => ?_⟩
  have ok := I.ok
  have frA : X.A.frames = some (X.env :: X.outer) := by rw [ok.frames, hs]
  refine wpAny_Try_except ?_
  refine wpAny_mono ((hb (fun cls d τ G => wAsL X.K Wout D cls d τ G l) (X.pn ++ pins) (fun e t1 => wpAny (model X.prog X.w) X.A (noteFrame e X.env) (fun _ t2 => wpAny (model X.prog X.w) X.A (setFlight e none) (fun _ t3 =>
    wpAny (model X.prog X.w) X.A (handleBy e X.env (h0 :: hds)) (SP X pins D) X.xe t3) X.xe t2) X.xe t1) (fun u s' xx => ?_) PassesOwn.looking).run [] s σ H D (I.toTry _) h) (fun f s1 hsp => ?_) (fun _ _ z => z)
  · obtain ⟨a, B, sI, pins', τ, G, cls, d, rfl, J', nb, up, sky, na, os, ag, hL⟩ := xx
    have J : Inv X pins τ G sI := J'.ofTry ok
    have sky2 : Sky B (X.env :: X.outer) a (Zc cls d) X.env.locals s'.heap := by rw [← hs]; exact sky
    refine Sky.land Zc.steady frA hf sky2 fun g fl ups => ?_
    clear hb h J'
    have nF2 : ∀ {e : Heap} {o : Obj} {us : Array Value}, e.FunFrames B (X.env :: X.outer) → e.get? a = some o → o.data = .fields us → a ∉ frs (X.env :: X.outer) := fun ff e1 e2 mem => by
      obtain ⟨_, o2, e3, no⟩ := ff.mem mem
      rw [e1] at e3; cases e3
      exact no _ e2
    show wpAny (model X.prog X.w) X.A (handleBy (.ref a) X.env (h0 :: hds)) (SP X pins D) X.xe { s' with heap := g }
    generalize h0 :: hds = hds at hh
    induction hh with
    | nil =>
      refine wpAny_handleBy_nil ?_
      obtain ⟨k1, k2, k3, oe, vs, T, oT, ts', he, hz, hd, h1, hr⟩ := id fl
      unfold PySem.passOn
      refine wpAny_bind (wpAny_field he hd h1 ?_)
      rw [if_neg (show ¬ ((Value.ref T == Value.none) = true) from by simp)]
      have fin : wpAny (model X.prog X.w) X.A (setFlight (.ref a) X.env.frame) (fun _ t4 => wpAny (model X.prog X.w) X.A (throw (.ref a) : Sem Flow) (SP X pins D) X.xe t4) X.xe { s' with heap := g } := by
        rw [hf]
        exact HandSPX.setFlight_upZ fl fun h4 hh4 up4 => wpAny_throw (tk _ _ ⟨a, B, sI, pins, τ, G, cls, d, rfl, J, nb, (up.trans ups).trans up4, .inr (.inr (by rw [hs]; exact hh4)), na, os, ag, hL⟩)
      first
        | exact wpAny_bind (wpAny_pure (wpAny_bind fin))
        | exact wpAny_bind fin
    | @cons x n c i ts b1 ss np p' hds l hi hln hc hsu r ih =>
      have J3 : Inv X pins τ G { s' with heap := g } := J.landed nb fl.1 (up.trans ups) os ag
      obtain ⟨oe3, vs3, he3, hz3, hd3⟩ := fl.there
      have nfr := nF2 fl.2.2.1 he3 hd3
      have nL : a ≠ X.env.locals := fun z => nfr (List.mem_filterMap.mpr ⟨X.env, by simp, by rw [hf, z]⟩)
      have nFs : a ∉ X.fs := fun mem => by
        obtain ⟨ev, m1, m2⟩ := List.mem_filterMap.mp mem
        exact nfr (List.mem_filterMap.mpr ⟨ev, by simp [m1], m2⟩)
      have S3 := J3.suite he3 hd3 na nL nFs
      obtain ⟨b, hb1, hyes, hno⟩ := hL
      refine wpAny_handleBy_cons (codeAny_handlers_test ?_) (by intro q; cases q)
      have LT : PySem.W.Looks (model X.prog X.w) g (typeOf (.ref a)) cls := fun A Q E t k q => wpAny_typeOf_ref (k _ _ he3) (by rw [hz3.1]; exact q)
      have LM := PySem.W.exm_one (M := model X.prog X.w) (J3.kIn) LT hb1
      have test : ∀ {Q : Value → Shared → Prop} {E : Value → Shared → Prop}, Q c { s' with heap := g } → wpAny (model X.prog X.w) (X.A.mark (some (.ref a))) (eval (.Name x np) X.env) Q E { s' with heap := g } := fun {Q E} q => by
        obtain ⟨hg, hdbg, hm | ⟨hm, hv, hnn⟩⟩ := hc
        · exact ld_glob (X := X.suite a ((a, oe3) :: (X.pn ++ pins))) S3 hg hm q hdbg
        · exact ld_blt (X := X.suite a ((a, oe3) :: (X.pn ++ pins))) S3 hg hm hv q hnn hdbg
      refine test (LM.here ?_)
      cases b with
      | false => exact ih (hno rfl)
      | true =>
        refine codeAny_handlers_suite_as ?_
        refine HandSPX.lands_againZ fl fun h4 fl4 up4 => ?_
        have J4 : Inv X pins τ G { s' with heap := h4 } := J.landed nb fl4.1 ((up.trans ups).trans up4) os ag
        obtain ⟨oe4, vs4, he4, hz4, hd4⟩ := fl4.there
        have S4 := J4.suite he4 hd4 na nL nFs
        refine store_ok (X := X.suite a ((a, oe4) :: (X.pn ++ pins))) (v := .ref a) S4 hN hi (.inl hln) rfl (fun s5 S5 => ?_) (.inr hln)
        refine wpAny_mono ((hsu a oe4 cls d (X.pn ++ pins) hz4 ⟨_, hd4⟩).run [] s5 _ G _ S5 (hyes rfl a na)) (fun f s6 hsp => ?_) (fun _ _ z => False.elim z)
        have done : ∀ {τ6 : L2.St} {H6 : Hp} {Q : Shared → Prop}, Inv (X.suite a ((a, oe4) :: (X.pn ++ pins))) [] τ6 H6 s6 → (∀ s7, Inv X pins (τ6.set i none) H6 s7 → Q s7) →
            wpAny (model X.prog X.w) X.A (do bindName X.env n .none; unbindBehindTheSuite X.env n p') (fun _ s7 => Q s7) X.xe s6 := fun S6 hq => gone_ok (S6.unsuite ok) hN hi hln hq
        cases f with
        | next =>
          obtain ⟨τ6, H6, S6, q6⟩ := hsp
          exact done S6 fun s7 J7 => ⟨_, _, J7, q6⟩
        | brk =>
          obtain ⟨τ6, H6, S6, q6⟩ := hsp
          exact done S6 fun s7 J7 => ⟨_, _, J7, q6⟩
        | cont =>
          obtain ⟨τ6, H6, S6, q6⟩ := hsp
          exact done S6 fun s7 J7 => ⟨_, _, J7, q6⟩
        | ret u =>
          obtain ⟨v6, τ6, H6, S6, r6, q6⟩ := hsp
          exact done S6 fun s7 J7 => ⟨_, _, _, J7, r6, q6⟩
  · cases f with
    | next =>
      obtain ⟨τ, G, J', q⟩ := hsp
      exact wpAny_execs_nil ⟨τ, G, J'.ofTry ok, q⟩
    | brk =>
      obtain ⟨τ, G, J', q⟩ := hsp
      exact ⟨τ, G, J'.ofTry ok, q⟩
    | cont =>
      obtain ⟨τ, G, J', q⟩ := hsp
      exact ⟨τ, G, J'.ofTry ok, q⟩
    | ret u =>
      obtain ⟨v, τ, G, J', r, q⟩ := hsp
      exact ⟨v, τ, G, J'.ofTry ok, r, q⟩
end
/-! ### by value -/
structure HdW where
  mt : Addr → Option Bool
  i : Nat
  ws : Addr → Value → Option Addr → SW
def wHds (E : En) (x : Ex) (S1 : MS) : List HdW → Prop
  | [] => E.ex x S1
  | h :: r => ∃ b, h.mt x.C = some b ∧
    (b = true → (match S1.sl[h.i]? with | some s => s.isL = false | none => False) ∧ x.fs ≠ [] ∧ ∀ a d, h.ws a (.ref x.C) (some d) { S1 with sl := S1.sl.set h.i (.exc a d x.C x.fs) }
      { nx := fun S2 => noLent S2.sl [h.i] ∧ E.nx (wipeS S2 [h.i]), rt := fun t S2 => (match t with | .slot _ => False | _ => True) ∧ E.rt t S2, bk := fun S2 => noLent S2.sl [h.i] ∧ E.bk (wipeS S2 [h.i]), ct := fun S2 => noLent S2.sl [h.i] ∧ E.ct (wipeS S2 [h.i]), ex := fun _ _ => False }) ∧
    (b = false → wHds E x S1 r)
def wTryL (wb : SW) (hs : List HdW) : SW := fun S E => wb S { E with ex := fun x S1 => wHds E x S1 hs }
inductive HdsM (X : Cx) : List ExceptHandler → List HdT → List HdW → Prop
  | nil : HdsM X [] [] []
  | cons {x n : Str} {c : Value} {i : Nat} {ws : Addr → Value → Option Addr → SW} {b1 : Stmt} {ss : List Stmt} {np p' : Pos} {hds : List ExceptHandler} {l : List HdT} {lw : List HdW} (hi : X.N[i]? = some n) (hln : X.env.kindOf n = some .local) (hc : Names X x c)
      (hsu : ∀ (a : Addr) (oe : Obj) (cls : Value) (d : Option Addr) (pn : List (Addr × Obj)), Zc cls d oe → (∃ vs, oe.data = .fields vs) → SSM (X.suite a ((a, oe) :: pn)) WF (b1 :: ss) (ws a cls d)) (r : HdsM X hds l lw) :
      HdsM X (.ExceptHandler (some (.Name x np)) (some n) (b1 :: ss) p' :: hds) (⟨c, i, fun a cls d => embS X.K WF (ws a cls d)⟩ :: l) (⟨fun C => PySem.W.exmOne X.K (.ref C) c, i, ws⟩ :: lw)
section
variable {X : Cx} {WW : WX} {body : List Stmt} {h0 : ExceptHandler} {hds : List ExceptHandler} {l : List HdT} {lw : List HdW} {pos : Pos} {wb : SW}
theorem HdsM.as {hds : List ExceptHandler} {l : List HdT} {lw : List HdW} (h : HdsM X hds l lw) : HdsAs X hds l := by
  induction h with
  | nil => exact .nil
  | cons hi hln hc hsu r ih => exact .cons hi hln hc (fun a oe cls d pn z f => (hsu a oe cls d pn z f).pss) ih
theorem sm_tryL (hs : X.stack = X.env :: X.outer) (hf : X.env.frame = some X.env.locals) (hN : X.N.Nodup) (tk : Takes X WW) (hh : HdsM X (h0 :: hds) l lw)
    (hb : ∀ (W : WX) (pn : List (Addr × Obj)) (xe : Value → Shared → Prop), Takes (X.tr pn xe) W → PassesOwn (model X.prog X.w) X.A X.env xe → SSM (X.tr pn xe) W body wb) :
    SM X WW (.Try body (h0 :: hds) [] [] pos) (wTryL wb lw) :=
  ⟨ps_imp (ps_tryL (tb := fun W => embS X.K W wb) hs hf hN tk hh.as (fun W pn xe t p => (hb W pn xe t p).pss)) fun D σ H ⟨A, W, S, E, wd, h, lk⟩ => by
    refine ⟨A, W, S, _, wd, h, ⟨lk.nx, lk.rt, lk.bk, lk.ct, fun y S1 cls d W' σ' H' l w' xr p => ?_⟩⟩
    have key : ∀ {hds : List ExceptHandler} {m : List HdT} {mw : List HdW}, HdsM X hds m mw → wHds E y S1 mw → wAsL X.K WW D cls d σ' H' m := by
      intro hds m mw hh p'
      induction hh with
      | nil => exact lk.ex y S1 _ d W' σ' H' l w' xr p'
      | @cons x n c i ws b1 ss np p2 hds l2 lw hi hln hc hsu r ih =>
        obtain ⟨b, hm, ht, hf'⟩ := p'
        obtain ⟨rfl, xr2⟩ := id xr
        refine ⟨b, hm, fun eb a han => ?_, fun eb => ih (hf' eb)⟩
        obtain ⟨hl, hne, hw⟩ := ht eb
        rcases xr2 with xr2 | ⟨dd, us, rfl, h1, h2⟩
        · exact absurd xr2 hne
        obtain ⟨s0, hs0, hL0⟩ := isL_get hl
        have hi' : i < S1.sl.length := (List.getElem?_eq_some_iff.mp hs0).1
        have w2 := w'.set (v := .ref a) (s := .exc a dd y.C y.fs) hs0 hL0 (fun z => by cases z) ⟨by rw [List.getElem?_set_self (by rw [w'.sl]; exact hi')], us, h1, h2⟩
        refine ⟨A, W', _, _, w2, hw a dd, ⟨fun S2 W2 σ2 H2 l2 w3 q => ?_, fun t S2 v W2 σ2 H2 l2 w3 tv q => ?_, fun S2 W2 σ2 H2 l2 w3 q => ?_, fun S2 W2 σ2 H2 l2 w3 q => ?_, fun _ _ _ _ _ _ _ _ _ _ z => z.elim⟩⟩
        · exact lk.nx _ W2 _ H2 (l.trans l2) (w3.unset q.1) q.2
        · exact lk.rt t S2 v W2 σ2 H2 (l.trans l2) w3 tv q.2
        · exact lk.bk _ W2 _ H2 (l.trans l2) (w3.unset q.1) q.2
        · exact lk.ct _ W2 _ H2 (l.trans l2) (w3.unset q.1) q.2
    exact key hh p⟩
end
theorem wTryL_e {wb : SW} {hs : List HdW} {S : MS} {E : En} : wTryL wb hs S E = wb S { E with ex := fun x S1 => wHds E x S1 hs } := id rfl
theorem wHds_nil {E : En} {x : Ex} {S1 : MS} : wHds E x S1 [] = E.ex x S1 := id rfl
theorem wHds_cons {E : En} {x : Ex} {S1 : MS} {mt : Addr → Option Bool} {i : Nat} {ws : Addr → Value → Option Addr → SW} {r : List HdW} : wHds E x S1 (⟨mt, i, ws⟩ :: r) = ∃ b, mt x.C = some b ∧
    (b = true → (match S1.sl[i]? with | some s => s.isL = false | none => False) ∧ x.fs ≠ [] ∧ ∀ a d, ws a (.ref x.C) (some d) { S1 with sl := S1.sl.set i (.exc a d x.C x.fs) }
      { nx := fun S2 => noLent S2.sl [i] ∧ E.nx (wipeS S2 [i]), rt := fun t S2 => (match t with | .slot _ => False | _ => True) ∧ E.rt t S2, bk := fun S2 => noLent S2.sl [i] ∧ E.bk (wipeS S2 [i]), ct := fun S2 => noLent S2.sl [i] ∧ E.ct (wipeS S2 [i]), ex := fun _ _ => False }) ∧
    (b = false → wHds E x S1 r) := id rfl
end BV

/-! The by-value layer, part Wc: repr of any data, {x!r} of any data, stars in displays, constants of classes, truth of rows. -/
namespace BV
open PySem L2 PySem.Spec PyProof.Rows
/-- what the repr of data is: bounds and the text -/
def shK (x : PV) (k : Str → Prop) : Prop := okD x = true ∧ (toD x).depth ≤ 60 ∧ (shownP x).length ≤ sizeLine ∧ k (shownP x)
def rcReprA : RC := rc1 fun x k => shK x fun z => k (.val (.str z))
theorem rcReprA_e {x : PV} {k : TV → Prop} : rcReprA [x] k = shK x fun z => k (.val (.str z)) := id rfl
def wFmtRD (w : EW) : EW := fun S P PX => w S (fun t S1 => rdK S1 t fun x => shK x fun z => P (.val (.str z)) S1) PX
theorem wFmtRD_e {w : EW} {S : MS} {P : TV → MS → Prop} {PX : Ex → MS → Prop} : wFmtRD w S P PX = w S (fun t S1 => rdK S1 t fun x => shK x fun z => P (.val (.str z)) S1) PX := id rfl
theorem shown_non : shownP .non = "None" := by
  unfold shownP
  rw [toD, PyData.shown] <;> simp
theorem shown_bl {b : Bool} : shownP (.bl b) = (if b then Str.ofString "True" else Str.ofString "False") := by
  unfold shownP; rw [toD, PyData.shown]
theorem shown_int {i : Int} : shownP (.int i) = toString i := by unfold shownP; rw [toD, PyData.shown]
theorem shown_str {z : Str} : shownP (.str z) = reprText z := by unfold shownP; rw [toD, PyData.shown]
theorem okD_int {i : Int} (h : okD (.int i) = true) : i.natAbs.log2 < 1920 := by simpa [okD] using h
section
variable {X : Cx} {WW : WX} {e : Expr} {w : EW} {pos : Pos}
theorem call_reprA {j : Nat} (hr : RoomG j X.A) : CallR X (.builtin "repr") (embC X.K rcReprA) := by
  intro pins s σ H xs us Q I r ⟨A, W, S, τ, ys, k, w, rr, h, hq⟩
  obtain ⟨v, x, rfl, r1, ho, hd, hl, hk⟩ := par1 rr h
  obtain ⟨u, rfl, ru⟩ := vals1 r
  have fin := fun s' I' => (show EP X pins σ Q (.str (shownP x) s.toks) s' from ⟨.str (shownP x), H, I', ⟨_, rfl⟩, hq (.val (.str _)) _ W H (Wo.le.refl _) w (Rp.str _) hk⟩)
  obtain ⟨as, rd⟩ := Rp.reads I (r1.rp w.bh) ho ru
  have deep := fun (a : Addr) (eu : u = Value.ref a) => (show wpAny (model X.prog X.w) X.A (call (.builtin "repr") [u]) (EP X pins σ Q) X.xe s from by
    subst eu
    refine repr_of_reads' rd (okD_sh ho) (fun z => by rw [toD_nd] at z; cases z) hr.gd (by have := hr.units; omega) (fun _ _ e => e) (fun h' t tk hk' => ?_) hl
    exact ⟨.str (shownP x), H, I.kept hk', ⟨_, rfl⟩, hq (.val (.str _)) _ W H (Wo.le.refl _) w (Rp.str _) hk⟩)
  cases x with
  | non =>
    obtain rfl := r1.non
    obtain rfl : u = Value.none := ru
    exact PySem.P.repr_of_none (by have := fin _ (I.tok (s.toks + 1)); rw [shown_non] at this; exact this)
  | bl b =>
    obtain rfl := r1.bl
    obtain rfl : u = Value.bool b := ru
    exact PySem.P.repr_of_bool (by have := fin _ (I.tok (s.toks + 1)); rw [shown_bl] at this; exact this)
  | int i =>
    obtain rfl := r1.int
    obtain ⟨t, rfl⟩ := ru
    exact PySem.P.repr_of_int (okD_int ho) (by have := fin _ (I.tok (s.toks + 1)); rw [shown_int] at this; exact this)
  | str z =>
    obtain rfl := r1.str
    obtain ⟨t, rfl⟩ := ru
    exact PySem.P.repr_of_str (by have := fin _ (I.tok (s.toks + 1)); rw [shown_str] at this; exact this) (by rw [← shown_str]; exact hl)
  | tup ys => rw [toD] at rd; cases rd; exact deep _ rfl
  | lst ys => rw [toD] at rd; cases rd; exact deep _ rfl
  | _ => simp [okD] at ho
theorem em_fmtRD {j : Nat} (hr : RoomG j X.A) (he : EM X WW e w) : EM X WW (.FormattedValue e 114 none pos) (wFmtRD w) := by
  refine ⟨⟨fun pins s σ H Q I ⟨A, W, S, P, PX, wd, h, hp, hx⟩ => ?_⟩⟩
  refine wpAny_FormattedValue_repr (thn (he.pe.run pins s σ H (fun v H1 => ∃ S1 W1 x, W.le W1 ∧ Wd X.K A W1 S1 σ H1 ∧ RR X.K W1 H1 v x ∧ shK x fun z => P (.val (.str z)) S1) I ⟨A, W, S, _, PX, wd, h, fun t S1 v W1 H1 l1 w1 tv1 h1 => ?_, hx⟩) fun u s1 hv => ?_)
  · obtain ⟨x, h2, r⟩ := w1.rd tv1 h1
    exact ⟨S1, W1, x, l1, w1, r, h2⟩
  obtain ⟨v, H1, I1, ru, S1, W1, x, l1, w1, r1, ho, hd, hl, hk⟩ := hv
  have out : ∀ {t : Tok} {s2 : Shared}, Inv X pins σ H1 s2 → wpAny (model X.prog X.w) X.A (formatField (.str (shownP x) t) Str.empty) (EP X pins σ Q) X.xe s2 := fun {t s2} I2 =>
    wpAny_formatField_str ⟨.str (shownP x), H1, I2, ⟨_, rfl⟩, hp (.val (.str _)) S1 _ W1 H1 l1 w1 (Rp.str _) hk⟩ ⟨.str (shownP x), H1, I2.tok _, ⟨_, rfl⟩, hp (.val (.str _)) S1 _ W1 H1 l1 w1 (Rp.str _) hk⟩ hl
  obtain ⟨as, rd⟩ := Rp.reads I1 (r1.rp w1.bh) ho ru
  have deep := fun (a : Addr) (eu : u = Value.ref a) => (show wpAny (model X.prog X.w) X.A (pyReprObj u) (fun v s2 => wpAny (model X.prog X.w) X.A (formatField v Str.empty) (EP X pins σ Q) X.xe s2) X.xe s1 from by
    subst eu
    exact pyReprObj_of_reads rd (okD_sh ho) (fun z => by rw [toD_nd] at z; cases z) hr.gd (by have := hr.units; omega) (fun _ _ e => e) (fun h' t tk hk' => out (I1.kept hk')) hl)
  cases x with
  | non =>
    obtain rfl := r1.non
    obtain rfl : u = Value.none := ru
    exact pyReprObj_none (by have := out (t := s1.toks) (I1.tok (s1.toks + 1)); rw [shown_non] at this; exact this)
  | bl b =>
    obtain rfl := r1.bl
    obtain rfl : u = Value.bool b := ru
    exact pyReprObj_bool (by have := out (t := s1.toks) (I1.tok (s1.toks + 1)); rw [shown_bl] at this; exact this)
  | int i =>
    obtain rfl := r1.int
    obtain ⟨t, rfl⟩ := ru
    exact pyReprObj_int (okD_int ho) (by have := out (t := s1.toks) (I1.tok (s1.toks + 1)); rw [shown_int] at this; exact this)
  | str z =>
    obtain rfl := r1.str
    obtain ⟨t, rfl⟩ := ru
    exact pyReprObj_str (by have := out (t := s1.toks) (I1.tok (s1.toks + 1)); rw [shown_str] at this; exact this) (by rw [← shown_str]; exact hl)
  | tup ys => rw [toD] at rd; cases rd; exact deep _ rfl
  | lst ys => rw [toD] at rd; cases rd; exact deep _ rfl
  | _ => simp [okD] at ho
end
/-! ### stars -/
def seqItK (x : PV) (k : List PV → Prop) : Prop := match x with
  | .lst xs => k xs
  | .tup xs => k xs
  | _ => False
theorem seqItK_lst {xs : List PV} {k : List PV → Prop} : seqItK (.lst xs) k = k xs := id rfl
theorem seqItK_tup {xs : List PV} {k : List PV → Prop} : seqItK (.tup xs) k = k xs := id rfl
def aStar (we : EW) (wr : AW) : AW := fun S P PX => we S (fun t S1 => rdK S1 t fun x => seqItK x fun xs => wr S1 (fun ts S2 => P (xs.map TV.val ++ ts) S2) PX) PX
theorem aStar_e {we : EW} {wr : AW} {S : MS} {P : List TV → MS → Prop} {PX : Ex → MS → Prop} : aStar we wr S P PX = we S (fun t S1 => rdK S1 t fun x => seqItK x fun xs => wr S1 (fun ts S2 => P (xs.map TV.val ++ ts) S2) PX) PX := id rfl
section
variable {X : Cx} {WW : WX} {e : Expr} {es : List Expr} {we : EW} {wr : AW} {p : Pos}
theorem RR.seqIt {K : PySem.W.Frag} {W : Wo} {H : Hp} {v : V} {x : PV} {k : List PV → Prop} (r : RR K W H v x) (e : Same W.B H) (h : seqItK x k) : ∃ a vs ys, v = .ref a ∧ (SqL K H a vs ∨ SqT K H a vs) ∧ RpA K W.ρ W.B vs ys ∧ k ys := by
  cases x with
  | lst xs =>
    obtain ⟨a, vs, e1, e2, e3⟩ := RR.seq (.inl r) e
    exact ⟨a, vs, xs, e1, e2, e3, h⟩
  | tup xs =>
    obtain ⟨a, vs, e1, e2, e3⟩ := RR.seq (.inr r) e
    exact ⟨a, vs, xs, e1, e2, e3, h⟩
  | _ => exact h.elim
theorem RpA.tvs {K : PySem.W.Frag} {A : An} {W : Wo} {S : MS} {σ : L2.St} {H : Hp} : ∀ {vs : List V} {xs : List PV}, RpA K W.ρ W.B vs xs → TvRs K A W S σ H (xs.map TV.val) vs
  | _, _, .nil => .nil
  | _, _, .cons r t => .cons ⟨r, fun _ z => by cases z⟩ (RpA.tvs t)
theorem TvRs.app {K : PySem.W.Frag} {A : An} {W : Wo} {S : MS} {σ : L2.St} {H : Hp} {ts us : List TV} {vs ws : List V} (h : TvRs K A W S σ H ts vs) (g : TvRs K A W S σ H us ws) : TvRs K A W S σ H (ts ++ us) (vs ++ ws) := by
  induction h with
  | nil => exact g
  | cons r _ ih => exact .cons r ih
theorem am_star (he : EM X WW e we) (hr : AM X WW es wr) (hs : starEach (.Starred e p :: es) X.env = (true, eval e X.env) :: starEach es X.env := by rfl) : AM X WW (.Starred e p :: es) (aStar we wr) := ⟨pa_imp (StX.pa_star he.pe hr.pa hs) fun σ H Q ⟨A, W, S, P, PX, wd, h, hp, hx⟩ => by
  refine ⟨A, W, S, _, PX, wd, h, fun t S1 v W1 H1 l1 w1 tv1 h1 => ?_, hx⟩
  obtain ⟨x, h2, r⟩ := w1.rd tv1 h1
  obtain ⟨a, vs, ys, rfl, e1, e2, e3⟩ := r.seqIt w1.bh h2
  refine ⟨a, vs, rfl, e1.symm, A, W1, S1, _, PX, w1, e3, fun ts S2 us W2 H2 l2 w2 tv2 h3 => ?_, hx.le l1⟩
  exact hp _ S2 _ W2 H2 (l1.trans l2) w2 ((e2.mono l2.b l2.r).tvs.app tv2) h3⟩
end
/-! ### constants of classes -/
def wCon (Cs : List Addr) (x : PV) (we : EW) : EW := fun S P PX => we S (fun t S1 => objK S1 t fun C fs => C ∈ Cs ∧ P (.val x) S1) PX
def conIB (K : PySem.W.Frag) (C : Str) (f : Str) (i : Int) : Bool := He.conB K C f (.int i)
/-- C.f -/
def cvalB (K : PySem.W.Frag) (C f : Str) (i : Int) : Bool := (match PySem.W.typeIn K (.ref (He.ga K C)) with
  | some mc => PySem.W.readsIn K (He.ga K C) mc && (match PySem.W.findCls K (.ref (He.ga K C)) mc f with | some (.val (.int j _)) => decide (j = i) | _ => false)
  | none => false) && He.eqO (PySem.W.specialIn K (.ref (He.ga K C)) "__getattribute__") (some (some (.builtin "type.__getattribute__")))
theorem cvalB_ok {K : PySem.W.Frag} {C f : Str} {i : Int} (h : cvalB K C f i = true) : ∃ mc u, ClX.CRead K (He.ga K C) mc ∧ ClX.CVal K (He.ga K C) mc f (.int i) u := by
  obtain ⟨h1, h2⟩ := He.ba h
  split at h1
  · rename_i mc _
    obtain ⟨h3, h4⟩ := He.ba h1
    split at h4
    · rename_i j t e
      have : j = i := of_decide_eq_true h4
      subst this
      exact ⟨mc, _, ⟨h3, He.eqO_ok h2⟩, ⟨e, ⟨_, rfl⟩⟩⟩
    · cases h4
  · cases h1
section
variable {X : Cx} {WW : WX} {C f : Str} {i : Int} {p pos : Pos}
theorem em_cval (h : cvalB X.K C f i = true) (hm : X.mg C = some (.ref (He.ga X.K C))) (hg : Gl X C) (hd : (C == ("__debug__" : Str)) = false := by decide) (hb : attributeBase (.Name C p) f X.env (eval (.Name C p) X.env) = eval (.Name C p) X.env := by rfl) :
    EM X WW (.Attribute (.Name C p) f pos) (wC (.int i)) := ⟨pe_imp (ClX.pe_cval (pe_glob (v := .ref (He.ga X.K C)) hg hm rfl hd) hb) fun σ H Q ⟨A, W, S, P, PX, w, h1, hp, _⟩ => by
  obtain ⟨mc, u, a, b⟩ := cvalB_ok h
  exact ⟨_, mc, _, u, rfl, a, b, hp (.val (.int i)) S _ W H (Wo.le.refl _) w (Rp.int i) h1⟩⟩
end
/-- o.f, a constant of o's class -/
def wFldC (C : Addr) (f : Str) (y : PV) (we : EW) : EW := fun S P PX => we S (fun t S1 => objK S1 t fun D fs => (D = C ∧ fs.lookup f = none) ∧ P (.val y) S1) PX
theorem wFldC_e {C : Addr} {f : Str} {y : PV} {we : EW} {S : MS} {P : TV → MS → Prop} {PX : Ex → MS → Prop} : wFldC C f y we S P PX = we S (fun t S1 => objK S1 t fun D fs => (D = C ∧ fs.lookup f = none) ∧ P (.val y) S1) PX := id rfl
section
variable {X : Cx} {WW : WX} {C f : Str} {i : Int} {e : Expr} {we : EW} {pos : Pos}
theorem em_con (h : He.conB X.K C f (.int i) = true) (c : Cls X.K (He.ga X.K C)) (he : EM X WW e we) (hc : PySem.W.copiedNames.contains f = false := by decide) (hb : attributeBase e f X.env (eval e X.env) = eval e X.env := by rfl) :
    EM X WW (.Attribute e f pos) (wFldC (He.ga X.K C) f (.int i) we) := ⟨pe_imp (pe_con he.pe hb) fun σ H Q ⟨A, W, S, P, PX, wd, h1, hp, hx⟩ => by
  refine ⟨A, W, S, _, PX, wd, h1, fun t S1 v W1 H1 l1 w1 tv1 h2 => ?_, hx⟩
  obtain ⟨p, D, dx, us, fs, rfl, ea, ra, ⟨rfl, hn⟩, h3⟩ := w1.ob tv1 h2
  obtain ⟨u, k⟩ := He.conB_ok h hc
  exact ⟨p, _, dx, us, _, u, rfl, ea, c, k, ra.lookN hn, hp (.val (.int i)) S1 _ W1 H1 l1 w1 (Rp.int i) h3⟩⟩
end
end BV

/-! The by-value layer, part Wd: a new object by a call with keywords; keyword-only parameters with defaults. -/
namespace BV
open PySem L2 PySem.Spec PyProof.Rows
/-- the evaluated arguments (positional ones, then keywords' as written) put into the parameters' order -/
abbrev Arr := {α : Type} → List α → List α → List α
/-- wr: the positional values; wk: the keywords' values; ds: the slots of the defaults that lack -/
def wMakeK (n m : Nat) (arr : Arr) (ds : List Slot) (fw : FW) (wr wk : AW) : EW := fun S P PX => wr S (fun ts S1 => wk S1 (fun zs S2 => argK S2 ts fun as => argK S2 zs fun bs => (as.length = n ∧ bs.length = m) ∧
  fw (as ++ arr ds bs) S2.c (fun r c' => P r { S2 with c := c' }) (fun x c' => PX x { S2 with c := c' })) PX) PX
theorem wMakeK_e {n m : Nat} {arr : Arr} {ds : List Slot} {fw : FW} {wr wk : AW} {S : MS} {P : TV → MS → Prop} {PX : Ex → MS → Prop} : wMakeK n m arr ds fw wr wk S P PX = wr S (fun ts S1 => wk S1 (fun zs S2 => argK S2 ts fun as => argK S2 zs fun bs => (as.length = n ∧ bs.length = m) ∧
  fw (as ++ arr ds bs) S2.c (fun r c' => P r { S2 with c := c' }) (fun x c' => PX x { S2 with c := c' })) PX) PX := id rfl
/-- the values of keywords -/
structure KM (X : Cx) (WW : WX) (kws : List Keyword) (w : AW) : Prop where pk : PK X kws (embA X.K WW w)
section
variable {X : Cx} {WW : WX} {e : Expr} {kws : List Keyword} {we : EW} {wr : AW} {nm : Option Str} {kp : Pos}
theorem pk_imp {t t' : TA} (h : PK X kws t) (i : ∀ σ H Q, t' σ H Q → t σ H Q) : PK X kws t' := ⟨fun pos pins s σ H Q I q => h.run pos pins s σ H Q I (i σ H Q q)⟩
theorem km_nil : KM X WW [] aNil := ⟨pk_imp pk_nil fun σ H Q ⟨A, W, S, P, PX, wd, h, hp, hx⟩ => hp [] S [] W H (Wo.le.refl _) wd .nil h⟩
theorem km_cons (he : EM X WW e we) (hr : KM X WW kws wr) : KM X WW (⟨nm, e, kp⟩ :: kws) (aCons we wr) := ⟨pk_imp (pk_cons he.pe hr.pk) fun σ H Q ⟨A, W, S, P, PX, wd, h, hp, hx⟩ => by
  refine ⟨A, W, S, _, PX, wd, h, fun t S1 v W1 H1 l1 w1 tv1 h1 => ?_, hx⟩
  obtain ⟨W2, l2, w2, tv2⟩ := w1.stl tv1
  refine ⟨A, W2, S1, _, PX, w2, h1, fun ts S2 vs W3 H3 l3 w3 tv3 h3 => ?_, hx.le (l1.trans l2)⟩
  exact hp _ S2 _ W3 H3 ((l1.trans l2).trans l3) w3 (.cons ⟨tv2.le (stl_nf _) l3, stl_nf _⟩ tv3) h3⟩
end
section
variable {X : Cx} {WW : WX} {k n : Nat} {C f : Addr} {fd : FuncData} {ps ks : List Str} {x : Str} {p pos : Pos} {e : Expr} {es : List Expr} {kws : List Keyword}
theorem run_mkKG {sp : Sp} {E : XK} {g : List Value → List Value → List Value} {gV : List V → List V → List V} {pins : List (Addr × Obj)} {σ : L2.St} {H : Hp} {s0 : Shared} {Q : VK} {us ws : List Value} {vs zs : List V} (M : Mk X.K C f) (F : FnG X.prog X.w X.K X.mg X.base (L2.CX X.prog X.w) k f fd ps sp) (hr : RoomG (k + 1) X.A)
    (hb : KBn X.K fd ps (n + 1) ks g gV) (hx : PassesAt (L2.CX X.prog X.w) X σ E) (I : Inv X pins σ H s0) (r : Vals vs us) (rz : Vals zs ws) (l1 : vs.length = n) (l2 : zs.length = ks.length)
    (h : ∀ y dy, H y = none → H dy = none → dy ≠ y → sp (gV (.ref y :: vs) zs) (upd (upd H dy (.own y)) y (.ins C dy [])) (fun v H2 => v = .non ∧ Q (.ref y) H2) E) :
    wpAny (model X.prog X.w) X.A (call (.ref C) us (ks.zip ws)) (EP X pins σ Q) X.xe s0 := by
  have todo := h (s0.heap.objs.size + 1) s0.heap.objs.size (I.hok.fresh (Nat.le_succ _)) (I.hok.fresh (Nat.le_refl _)) (Nat.ne_of_lt (Nat.lt_succ_self _))
  have made := Inv.made (C := C) I
  have r1 : Vals (V.ref (s0.heap.objs.size + 1) :: vs) (Value.ref (s0.heap.objs.size + 1) :: us) := .cons rfl r
  have len1 : (Value.ref (s0.heap.objs.size + 1) :: us).length = n + 1 := by
    rw [List.length_cons, ← r.length, l1]
  have bd := hb.to _ (Value.ref (s0.heap.objs.size + 1) :: us) ws made.kIn len1 (rz.length.symm.trans l2)
  have run := F.run _ X.stack _ _ ⟨Value.ref (s0.heap.objs.size + 1) :: us, ks.zip ws⟩ (g (Value.ref (s0.heap.objs.size + 1) :: us) ws) _ _ E (hr.make C us (ks.zip ws)) (made.env0.make C us (ks.zip ws)) bd (hb.rel r1 rz) todo
  refine wpAny_call (make_map (f := f) I.kIn M.makes M.init (beq_iff_eq.mp M.fn) (codeAny_mono run fun r s2 hq => ?_))
  cases r with
  | error er => exact hx pins _ _ er s2 made hq
  | ok fl =>
    cases fl with
    | ret u =>
      obtain ⟨v, H2, I2, rv, ev, q3⟩ := made.after hq
      subst ev
      exact ⟨rv, ⟨V.ref (s0.heap.objs.size + 1), H2, I2, rfl, q3⟩⟩
    | _ => exact False.elim hq
def tMkKG (C : Addr) (n m : Nat) (sp : Sp) (gV : List V → List V → List V) (E : L2.St → XK) (t tk : TA) : TE := fun σ H Q => t σ H fun vs H1 => tk σ H1 fun zs H2 => (vs.length = n ∧ zs.length = m) ∧ ∀ y dy, H2 y = none → H2 dy = none → dy ≠ y →
  sp (gV (.ref y :: vs) zs) (upd (upd H2 dy (.own y)) y (.ins C dy [])) (fun v H3 => v = .non ∧ Q (.ref y) H3) (E σ)
theorem pe_mkKG {sp : Sp} {E : L2.St → XK} {t tk : TA} {g : List Value → List Value → List Value} {gV : List V → List V → List V} (M : Mk X.K C f) (F : FnG X.prog X.w X.K X.mg X.base (L2.CX X.prog X.w) k f fd ps sp) (hr : RoomG (k + 1) X.A) (hg : Gl X x) (hm : X.mg x = some (.ref C)) (hb : KBn X.K fd ps (n + 1) ks g gV)
    (hx : ∀ σ, PassesAt (L2.CX X.prog X.w) X σ (E σ)) (ha : PA X (e :: es) t) (hkw : PK X kws tk)
    (hall : (backToKw pos (keywordEach kws X.env)).all (·.1.isSome) = true := by rfl) (hks : (backToKw pos (keywordEach kws X.env)).filterMap (·.1) = ks := by rfl) (hdb : (x == ("__debug__" : Str)) = false := by decide)
    (he : starEach (e :: es) X.env = (false, eval e X.env) :: starEach es X.env := by rfl) (hpl : ((backTo pos (starEach (e :: es) X.env)).any (·.1) || (backToKw pos (keywordEach kws X.env)).any (·.1.isNone)) = false := by rfl) :
    PE X (.Call (.Name x p) (e :: es) kws pos) (tMkKG C n ks.length sp gV E t tk) := by
  refine ⟨fun pins s0 σ H Q I h => wpAny_Call_Name_kw (ld_glob I hg hm ?_ hdb)⟩
  refine PySem.W.callWith_KW (h₀ := X.base) I.ok.mod.kin M.kp hall (thn (ha.run pos pins s0 σ H _ I h) fun us t1 ⟨vs, H1, I1, r, q⟩ => ?_) hpl he
  refine thn (hkw.run pos pins t1 σ H1 _ I1 q) fun ws t2 ⟨zs, H2, I2, rz, ⟨l1, l2⟩, q2⟩ => ⟨I2.kIn, ?_⟩
  rw [hks]
  exact run_mkKG M F hr hb (hx σ) I2 r rz l1 l2 q2
/-- slots that stand for written values -/
def DflR (K : PySem.W.Frag) (vs : List V) (ds : List Slot) : Prop := Paired (fun v s => ∀ ρ B F, ArgR K ρ B F v s) vs ds
theorem Paired.app {α β : Type} {R : α → β → Prop} {a a' : List α} {b b' : List β} (h : Paired R a b) (g : Paired R a' b') : Paired R (a ++ a') (b ++ b') := by
  induction h with
  | nil => exact g
  | cons r _ ih => exact .cons r ih
theorem Paired.mono {α β : Type} {R R' : α → β → Prop} {a : List α} {b : List β} (h : Paired R a b) (i : ∀ x y, R x y → R' x y) : Paired R' a b := by
  induction h with
  | nil => exact .nil
  | cons r _ ih => exact .cons (i _ _ r) ih
theorem em_makeK {fw : FW} {wr wk : AW} {N m : Nat} {arr : Arr} {dv : List V} {ds : List Slot} {mv : List Value} (M : Mk X.K C f) (F : FI X.prog X.w X.K X.mg X.base k C f fd ps N fw) (hr : RoomG (k + 1) X.A) (tk : Takes X WW) (hg : Gl X x) (hm : X.mg x = some (.ref C))
    (hb : KBn X.K fd ps (n + 1) ks (fun us ws => us ++ arr mv ws) (fun vs zs => vs ++ arr dv zs)) (hds : DflR X.K dv ds) (hks' : ks.length = m) (hN : ∀ {vs zs : List V}, vs.length = n → zs.length = ks.length → (vs ++ arr dv zs).length = N)
    (harr : ∀ {R : V → Slot → Prop} {a c : List V} {b d : List Slot}, Paired R a b → Paired R c d → Paired R (arr a c) (arr b d)) (ha : AM X WW (e :: es) wr) (hkw : KM X WW kws wk)
    (hall : (backToKw pos (keywordEach kws X.env)).all (·.1.isSome) = true := by rfl) (hks : (backToKw pos (keywordEach kws X.env)).filterMap (·.1) = ks := by rfl) (hdb : (x == ("__debug__" : Str)) = false := by decide)
    (he : starEach (e :: es) X.env = (false, eval e X.env) :: starEach es X.env := by rfl) (hpl : ((backTo pos (starEach (e :: es) X.env)).any (·.1) || (backToKw pos (keywordEach kws X.env)).any (·.1.isNone)) = false := by rfl) :
    EM X WW (.Call (.Name x p) (e :: es) kws pos) (wMakeK n m arr ds fw wr wk) := ⟨pe_imp (pe_mkKG M F.ok hr hg hm hb (fun σ => passAt tk σ) ha.pa hkw.pk hall hks hdb he hpl) fun σ H Q ⟨A, W, S, P, PX, wd, h, hp, hx⟩ => by
  refine ⟨A, W, S, _, PX, wd, h, fun ts S1 vs W1 H1 l1 w1 tv1 h1 => ?_, hx⟩
  refine ⟨A, W1, S1, _, PX, w1, h1, fun zt S2 zs W2 H2 l2 w2 tv2 h2 => ?_, hx.le l1⟩
  have tv1' : TvRs X.K A W2 S2 σ H2 ts vs := TvRs.le tv1 l2
  obtain ⟨as, h3, pa⟩ := w2.args tv1' h2
  obtain ⟨bs, ⟨⟨hn, hm2⟩, hw⟩, pb⟩ := w2.args tv2 h3
  have lv : vs.length = n := (Paired.length pa).trans hn
  have lz : zs.length = ks.length := ((Paired.length pb).trans hm2).trans hks'.symm
  have pall : Paired (fun v s => ArgR X.K W2.ρ W2.B (offR W2.ρ H2) v s) (vs ++ arr dv zs) (as ++ arr ds bs) := Paired.app pa (harr (Paired.mono hds fun v s q => q _ _ _) pb)
  refine ⟨⟨lv, lz⟩, fun y dy ny nd ne => ?_⟩
  refine ⟨H2, y, dy, vs ++ arr dv zs, rfl, ny, nd, ne, rfl, W2.ρ, W2.B, _, S2.c, as ++ arr ds bs, _, _, w2.toC, hN lv lz, pall, hw, fun r c' ρ' B' H' o rr q => ⟨rfl, ?_⟩, fun z c' cls d ρ' B' H' o xr q => ?_⟩
  · obtain ⟨l3, w3⟩ := w2.called o
    exact hp r _ _ _ H' ((l1.trans l2).trans l3) w3 (w2.result o rr) q
  · obtain ⟨l3, w3⟩ := w2.called o
    exact hx z _ cls d _ σ H' ((l1.trans l2).trans l3) w3 xr q⟩
end
/-! ### an __init__ with keyword-only parameters -/
section
variable (P : Program) (w : World) (K : PySem.W.Frag) (mg : Str → Option Value) (base : Heap)
def IniK (k : Nat) (C f : Addr) (x qual : Str) (params : Arguments) (body : List Stmt) (scope : Scope) (kws : List (Str × V)) (ps : List Str) (n : Nat) (fw : FW) : Prop := ∃ fd, Mk K C f ∧ FI P w K mg base k C f fd ps n fw ∧ FunD K x qual params body scope [] kws f fd
end
section
variable {P : Program} {w : World} {K : PySem.W.Frag} {mg : Str → Option Value} {base : Heap} {k : Nat} {C f : Addr} {x qual : Str} {params : Arguments} {body : List Stmt} {scope : Scope} {kws : List (Str × V)} {ps N : List Str} {n : Nat} {fw fw' : FW} {sw : SW}
theorem IniK.imp (F : IniK P w K mg base k C f x qual params body scope kws ps n fw) (h : ∀ args c rt ex, fw' args c rt ex → fw args c rt ex) : IniK P w K mg base k C f x qual params body scope kws ps n fw' := let ⟨fd, a, b, c⟩ := F; ⟨fd, a, b.imp h, c⟩
theorem iniK_def (F : ∃ fd, FunD K x qual params body scope [] kws f fd) (S : FnScope N ps scope) (hn : ps.length = n + 1) (mk : Mk K C f) (hbody : Body P w K mg base N qual scope f k body sw) : IniK P w K mg base (k + 1) C f x qual params body scope kws ps n (fwI C N.length n sw) := by
  obtain ⟨fd, F⟩ := F
  refine ⟨fd, mk, ⟨FunD_okG F S (fun vs H Q E h => ?_) fun cdv A outer s0 H vs Q E hr h => ?_⟩, F⟩
  · obtain ⟨H1, y, dy, ws, rfl, _, _, _, _, ρ, B, F, c, args, rt, ex, wc, hl, _⟩ := h
    rw [List.length_cons, hl, hn]
  · exact ⟨_, (hbody cdv A outer s0 H E hr (takes_of rfl rfl rfl rfl)).pss, spI_of h⟩
end
section
variable {X : Cx} {WW : WX} {j k n m : Nat} {C f : Addr} {xn qual : Str} {params : Arguments} {body : List Stmt} {scope : Scope} {kwd : List (Str × V)} {ps ks : List Str} {x : Str} {p pos : Pos} {e : Expr} {es : List Expr} {kws : List Keyword}
theorem e_makeK {fw : FW} {wr wk : AW} {N : Nat} {arr : Arr} {dv : List V} {ds : List Slot} (F : IniK X.prog X.w X.K X.mg X.base k C f xn qual params body scope kwd ps N fw) (hr : RoomG j X.A) (hk : k + 1 ≤ j) (tk : Takes X WW) (hm : X.mg x = some (.ref C)) (hg : Gl X x)
    (hb : ∀ fd, FunD X.K xn qual params body scope [] kwd f fd → ∃ mv : List Value, KBn X.K fd ps (n + 1) ks (fun us ws => us ++ arr mv ws) (fun vs zs => vs ++ arr dv zs)) (hds : DflR X.K dv ds) (hks' : ks.length = m) (hN : ∀ {vs zs : List V}, vs.length = n → zs.length = ks.length → (vs ++ arr dv zs).length = N)
    (harr : ∀ {R : V → Slot → Prop} {a c : List V} {b d : List Slot}, Paired R a b → Paired R c d → Paired R (arr a c) (arr b d)) (ha : AM X WW (e :: es) wr) (hkw : KM X WW kws wk)
    (hall : (backToKw pos (keywordEach kws X.env)).all (·.1.isSome) = true := by rfl) (hks : (backToKw pos (keywordEach kws X.env)).filterMap (·.1) = ks := by rfl) (hdb : (x == ("__debug__" : Str)) = false := by decide)
    (he : starEach (e :: es) X.env = (false, eval e X.env) :: starEach es X.env := by rfl) (hpl : ((backTo pos (starEach (e :: es) X.env)).any (·.1) || (backToKw pos (keywordEach kws X.env)).any (·.1.isNone)) = false := by rfl) :
    EM X WW (.Call (.Name x p) (e :: es) kws pos) (wMakeK n m arr ds fw wr wk) := by
  obtain ⟨fd, M, F, D⟩ := F
  obtain ⟨mv, hb⟩ := hb fd D
  exact em_makeK M F (hr.mono hk) tk hg hm hb hds hks' hN harr ha hkw hall hks hdb he hpl
end
/-! ### keyword-only defaults that are empty tuples -/
/-- where the keyword-only default of a def stands -/
def kwAt (f : Str × Option Str) (y : Str) (K : PySem.W.Frag) : Addr := match K.lookup (He.fAd K f) with
  | some ⟨_, _, .func fd, _⟩ => (match fd.kwdefaults with
    | .ref D => (match PySem.W.nsIn K D y with
      | some (some (.ref a)) => a
      | _ => 0)
    | _ => 0)
  | _ => 0
def emtB (K : PySem.W.Frag) (a : Addr) : Bool := match K.lookup a with
  | some ⟨.type c, _, .seq its _, _⟩ => decide (c = "tuple") && decide (its.toList = [])
  | _ => false
theorem emtB_ok {K : PySem.W.Frag} {a : Addr} (h : emtB K a = true) (H : Hp) : SqT K H a [] := by
  unfold emtB at h
  split at h
  · rename_i c d its n sl e
    obtain ⟨h1, h2⟩ := He.ba h
    have h1 := of_decide_eq_true h1
    have h2 := of_decide_eq_true h2
    subst h1
    refine .inr ⟨_, its, n, e, rfl, rfl, ?_, ?_⟩
    · rw [← Array.length_toList, h2]; exact Nat.zero_le _
    · rw [h2]; exact .nil
  · cases h
theorem emt_arg {K : PySem.W.Frag} {a : Addr} (h : emtB K a = true) : ∀ ρ B F, ArgR K ρ B F (.ref a) (.val (.tup [])) := fun ρ B F => .tup (emtB_ok h B) .nil
end BV

/-! The by-value layer, part We: t[::-1] of a tuple. -/
namespace BV
open PySem L2 PySem.Spec PyProof.Rows HT
section
variable {prog : Program} {w : World} {A : Around} {E : Value → Shared → Prop} {s : Shared}
theorem rev_adjust (n : Nat) : Builtin.Slice.sliceAdjust none none (-1) (n : Int) = ((n : Int) - 1, -1) := by
  unfold Builtin.Slice.sliceAdjust
  simp
theorem rev_places (n : Nat) : Builtin.Slice.slicePlaces ((n : Int) - 1) (-1) (-1) = n := by
  unfold Builtin.Slice.slicePlaces
  by_cases h : n = 0
  · subst h; simp
  · have h1 : ¬ ((-1 : Int) > 0) := by omega
    have h2 : ((n : Int) - 1 > -1) := by omega
    simp only [h1, if_false, h2, if_true, Int.neg_neg, Int.ediv_one]
    omega
theorem rev_pick (xs : Array Value) : ((List.range xs.size).filterMap fun (m : Nat) => xs[(((xs.size : Nat) : Int) - 1 + (m : Int) * (-1)).toNat]?).toArray = xs.toList.reverse.toArray := by
  congr 1
  refine List.ext_getElem? fun i => ?_
  have key : ∀ k, k ≤ xs.size → (List.range k).filterMap (fun (m : Nat) => xs[(((xs.size : Nat) : Int) - 1 + (m : Int) * (-1)).toNat]?) = (xs.toList.reverse).take k := by
    intro k
    induction k with
    | zero => intro _; simp
    | succ k ih =>
      intro hk
      have e : (((xs.size : Nat) : Int) - 1 + (k : Int) * (-1)).toNat = xs.size - 1 - k := by omega
      have hlt : xs.size - 1 - k < xs.size := by omega
      rw [List.range_succ, List.filterMap_append, ih (by omega), List.take_add_one]
      congr 1
      rw [List.getElem?_reverse (by rw [Array.length_toList]; omega), Array.length_toList]
      simp only [List.filterMap_cons, List.filterMap_nil, e, Array.getElem?_toList]
      cases xs[xs.size - 1 - k]? <;> rfl
  rw [key xs.size (Nat.le_refl _), List.take_of_length_le (by simp)]
theorem getItem_tuple_rev {t sl : Addr} {items : Array Value} {tk : Tok} {Q : Value → Shared → Prop} (ht : IsTup s.heap t items) (hs : s.heap.IsSliceOf sl .none .none (.int (-1) tk))
    (h : Q (.ref s.heap.objs.size) { s with heap := s.heap.push { cls := .type "tuple", data := .seq items.toList.reverse.toArray } }) (hsz : items.size ≤ sizeLine) : wpAny (model prog w) A (getItem (.ref t) (.ref sl)) Q E s := by
  have fits : sizeOk (.seq items.toList.reverse.toArray) := by
    show items.toList.reverse.toArray.size ≤ sizeLine
    simpa using hsz
  obtain ⟨os, hos, hcs, hds⟩ := id hs
  have hT : s.TypeIs (.ref sl) "slice" := ⟨os, hos, hcs⟩
  unfold getItem
  try with_reducible refine wpAny_holding ?_
  first | refine wpAny_bind (wpAny_pure ?_) | skip
  refine wpAny_bind (wpAny_sequenceKey ht.typeIs (by decide) ?_)
  refine wpAny_bind (wpAny_callSpecial?_slot (name := Str.ofString "__getitem__") ht.typeIs PyProof.Rows.slot_tuple_getitem (wpAny_call_entry PyProof.Rows.slot_tuple_getitem ht.typeIs entry_tuple_getitem ?_ (args_tuple_getitem _ _)))
  show wpAny _ _ (Builtin.Tuple.tupleItemsOf (.ref t) >>= _) _ _ s
  refine wpAny_bind (tupleItemsOf_ ht ?_)
  refine wpAny_bind (wpAny_typeOf hT ?_)
  rw [if_pos (by decide)]
  have app : ∀ {Q : Int × Int × Nat → Shared → Prop} {A : Around} {E : Value → Shared → Prop}, Q (((items.size : Nat) : Int) - 1, -1, items.size) s → wpAny (model prog w) A (Builtin.Slice.sliceApplied (.ref sl) (pure ((items.size : Nat) : Int))) Q E s := fun {Q A E} q => by
    unfold Builtin.Slice.sliceApplied Builtin.Slice.sliceFields
    refine wpAny_bind (wpAny_bind (wpAny_field hos hds (x := .none) rfl (wpAny_bind (wpAny_field hos hds (x := .none) rfl (wpAny_bind (wpAny_field hos hds (x := .int (-1) tk) rfl (wpAny_pure ?_)))))))
    refine wpAny_bind (slicePart_int ?_)
    show wpAny _ _ (if ((-1 : Int) == 0) = true then _ else _) _ _ s
    rw [if_neg (by decide)]
    refine wpAny_bind (slicePart_none (wpAny_bind (slicePart_none (wpAny_bind (wpAny_pure ?_)))))
    show wpAny _ _ (match Builtin.Slice.sliceAdjust none none (-1) ((items.size : Nat) : Int) with | (lo, hi) => pure (lo, (-1 : Int), Builtin.Slice.slicePlaces lo hi (-1))) _ _ s
    rw [rev_adjust]
    show wpAny _ _ (pure ((((items.size : Nat) : Int) - 1), (-1 : Int), Builtin.Slice.slicePlaces (((items.size : Nat) : Int) - 1) (-1) (-1))) _ _ s
    rw [rev_places]
    exact wpAny_pure q
  refine wpAny_bind (app ?_)
  have no : ¬ (((((items.size : Nat) : Int) - 1) == 0 && (-1 : Int) == 1 && items.size == items.size) = true) := by simp
  show wpAny _ _ (if ((((items.size : Nat) : Int) - 1) == 0 && (-1 : Int) == 1 && items.size == items.size) = true then _ else _) _ _ s
  rw [if_neg no, rev_pick]
  first
    | exact wpAny_bind (m := Builtin.Tuple.tupleExact _) (wpAny_newObj_type (wpAny_pure ⟨_, rfl, wpAny_pure h⟩) fits)
    | exact wpAny_bind (m := Builtin.Tuple.tupleExact _) (wpAny_newObj_type (wpAny_bind (wpAny_pure (wpAny_pure ⟨_, rfl, wpAny_pure h⟩))) fits)
    | exact wpAny_bind (wpAny_bind (m := Builtin.Tuple.tupleExact _) (wpAny_newObj_type (wpAny_pure (wpAny_pure ⟨_, rfl, wpAny_pure h⟩)) fits))
    | exact wpAny_bind (wpAny_bind (m := Builtin.Tuple.tupleExact _) (wpAny_newObj_type (wpAny_pure ⟨_, rfl, wpAny_pure h⟩) fits))
end
def tRevT (K : PySem.W.Frag) (te : TE) : TE := fun σ H Q => te σ H fun x H1 => ∃ a xs, x = .ref a ∧ SqT K H1 a xs ∧ ∀ p, H1 p = none → Q (.ref p) (upd H1 p (.tup xs.reverse))
def revTK (x : PV) (k : TV → Prop) : Prop := match x with | .tup xs => k (.val (.tup xs.reverse)) | _ => False
theorem revTK_tup {xs : List PV} {k : TV → Prop} : revTK (.tup xs) k = k (.val (.tup xs.reverse)) := id rfl
def wRevT (we : EW) : EW := fun S P PX => we S (fun t S1 => rdK S1 t fun x => revTK x fun r => P r S1) PX
theorem wRevT_e {we : EW} {S : MS} {P : TV → MS → Prop} {PX : Ex → MS → Prop} : wRevT we S P PX = we S (fun t S1 => rdK S1 t fun x => revTK x fun r => P r S1) PX := id rfl
section
variable {X : Cx} {WW : WX} {e : Expr} {te : TE} {we : EW} {k : Nat} {p1 p2 p3 pos : Pos}
theorem pe_revT (he : PE X e te) : PE X (.Subscript e (.Slice none none (some (.UnaryOp .USub (.Constant (.int 1) k p1) p2)) p3) pos) (tRevT X.K te) := by
  refine ⟨fun pins s0 σ H Q I h => ?_⟩
  refine Subscript_ (thn (he.run pins s0 σ H _ I h) fun v t1 ⟨x, H1, I1, r1, q1⟩ => ?_)
  obtain ⟨a, xs, rfl, hx, q⟩ := q1
  cases r1
  have hst : PO X (some (.UnaryOp .USub (.Constant (.int 1) k p1) p2)) (tPart (tUn (rU fun i => .int (-i)) (tC (.int 1)))) := po_some (pe_un un_neg pe_int)
  refine wpAny_Slice (thn (po_none.run pins t1 σ H1 (fun o H2 => o = none ∧ H2 = H1) I1 ⟨rfl, rfl⟩) fun vl t2 ⟨l, H2, I2, pl, el, e2⟩ => ?_)
  subst el e2
  refine thn (po_none.run pins t2 σ H2 (fun o H3 => o = none ∧ H3 = H2) I2 ⟨rfl, rfl⟩) fun vu t3 ⟨u, H3, I3, pu, eu, e3⟩ => ?_
  subst eu e3
  refine thn (hst.run pins t3 σ H3 (fun o H4 => o = some (-1) ∧ H4 = H3) I3 ⟨1, rfl, -1, rfl, rfl, rfl⟩) fun vs t4 ⟨o, H4, I4, ps, eo, e4⟩ => ?_
  subst eo e4
  have I5 : Inv X pins σ H4 { t4 with heap := t4.heap.push { cls := .type "slice", data := .fields #[vl, vu, vs] } } := I4.kept (t' := t4.toks) fun b ob z => Heap.get?_push_of_some _ z
  obtain ⟨its, r, ht, hz⟩ := I5.tuple hx
  have hlen := r.length
  cases pl
  cases pu
  obtain ⟨tk, rfl⟩ : ∃ tk, vs = .int (-1) tk := by cases ps; exact ⟨_, rfl⟩
  show wpAny (model X.prog X.w) X.A (subscriptTail e (.Slice none none (some (.UnaryOp .USub (.Constant (.int 1) k p1) p2)) p3) (.ref a) (.ref t4.heap.objs.size)) (EP X pins σ Q) X.xe { t4 with heap := t4.heap.push { cls := .type "slice", data := .fields #[.none, .none, .int (-1) tk] } }
  refine tail_any (ops := [.ref a, .ref t4.heap.objs.size]) ht.typeIs (PyProof.Rows.slot_tuple_getitem.lookup) ?_ (by with_unfolding_all rfl)
  refine getItem_tuple_rev ht (Heap.IsSliceOf.new _ .none .none (.int (-1) tk)) ?_ (by rw [List.size_toArray]; omega)
  refine ⟨.ref _, _, I5.laid (t' := t4.toks) (o := .tup xs.reverse) (fun b ob z => Heap.get?_push_of_some _ z) (Nat.le_refl _) ?_, rfl, q _ (I5.hok.fresh (Nat.le_refl _))⟩
  exact ⟨by rw [List.length_reverse]; exact hz, _, r.reverse, IsTup.new _ _⟩
theorem em_revT (he : EM X WW e we) : EM X WW (.Subscript e (.Slice none none (some (.UnaryOp .USub (.Constant (.int 1) k p1) p2)) p3) pos) (wRevT we) := ⟨pe_imp (pe_revT he.pe) fun σ H Q ⟨A, W, S, P, PX, wd, h, hp, hx⟩ => by
  refine ⟨A, W, S, _, PX, wd, h, fun t S1 v W1 H1 l1 w1 tv1 h1 => ?_, hx⟩
  obtain ⟨x, h2, r⟩ := w1.rd tv1 h1
  cases x with
  | tup xs =>
    obtain ⟨a, vs, rfl, ea, ra, _⟩ := r.tup w1.bh
    refine ⟨a, vs, rfl, ea, fun p np => ?_⟩
    obtain ⟨W3, l3, w3, r3⟩ := w1.layTup np ra.rev
    exact hp (.val (.tup xs.reverse)) S1 _ W3 _ (l1.trans l3) w3 r3 h2
  | _ => exact h2.elim⟩
end
theorem kpAll_valsA {S : MS} : ∀ {xs : List PV} {ts : List TV} {k : List PV → MS → Prop}, kpAll S (xs.map TV.val ++ ts) k = kpAll S ts fun ys S2 => k (xs ++ ys) S2
  | [], _, _ => by simp
  | x :: xs, ts, k => by
    show kpAll S (xs.map TV.val ++ ts) (fun ys S2 => k (x :: ys) S2) = _
    rw [kpAll_valsA]
    rfl
def exmNB (K : PySem.W.Frag) (x T : Str) : Bool := decide (PySem.W.exmOne K (.ref (He.ga K x)) (.ref (He.ga K T)) = some false)
theorem exmNB_ok {K : PySem.W.Frag} {x T : Str} (h : exmNB K x T = true) : PySem.W.exmOne K (.ref (He.ga K x)) (.ref (He.ga K T)) = some false := of_decide_eq_true h
end BV

/-! law_k26_forms_made_and_refused: the defs by wp, printed by gen.py. -/
namespace Lk26
open PySem L2 BV
def top (i : Nat) : Stmt := PySem.Challenge.pw_emptyfilters_k26_forms_made_and_refused.main.body.getD i (.Pass ⟨0, 0, 0, 0⟩)
def c_KEPT : List Str := ["def", "if", "else", "for", "in", "break", "skip", "refuse", "take", "guard", "blank", "every", "none", "any", "all", "pick", "given", "and", "or", "not", "true", "false", "self"]
def isi_ds_Table : List (Str × Bool) := [("Table", true)]
def isi_ds_Form : List (Str × Bool) := [("Form", true), ("Table", false)]
abbrev s__law_bag : Stmt := top 21
abbrev N__law_bag : List Str := ["_law_script", "_law_at", "_law_cell", "_law_mixed", "_law_k", "_law_each"]
abbrev p__law_bag : List Str := ["_law_script", "_law_at"]
def d__law_bag : He.DefD := ⟨("_law_bag", none), "_law_bag", "_law_bag", defArgs s__law_bag, defBody s__law_bag, defScope s__law_bag, [], []⟩
abbrev s__law_take : Stmt := top 22
abbrev N__law_take : List Str := ["_law_bag_here", "_law_many", "_law_digit"]
abbrev p__law_take : List Str := ["_law_bag_here", "_law_many"]
def d__law_take : He.DefD := ⟨("_law_take", none), "_law_take", "_law_take", defArgs s__law_take, defBody s__law_take, defScope s__law_take, [], []⟩
abbrev s__law_of : Stmt := top 23
abbrev N__law_of : List Str := ["_law_bag_here", "_law_some"]
abbrev p__law_of : List Str := ["_law_bag_here", "_law_some"]
def d__law_of : He.DefD := ⟨("_law_of", none), "_law_of", "_law_of", defArgs s__law_of, defBody s__law_of, defScope s__law_of, [], []⟩
abbrev s_is_word : Stmt := top 12
abbrev N_is_word : List Str := ["thing", "sign"]
abbrev p_is_word : List Str := ["thing"]
def d_is_word : He.DefD := ⟨("is_word", none), "is_word", "is_word", defArgs s_is_word, defBody s_is_word, defScope s_is_word, [], []⟩
abbrev s_Table___init__ : Stmt := inClass (top 19) 0
abbrev N_Table___init__ : List Str := ["self", "columns", "at", "name"]
abbrev p_Table___init__ : List Str := ["self", "columns"]
def d_Table___init__ : He.DefD := ⟨("Table", some "__init__"), "__init__", "Table.__init__", defArgs s_Table___init__, defBody s_Table___init__, defScope s_Table___init__, [], []⟩
abbrev s__law_words : Stmt := top 26
abbrev N__law_words : List Str := ["_law_bag_here", "_law_many", "_law_words_here", "_law_turn", "_law_word", "_law_place"]
abbrev p__law_words : List Str := ["_law_bag_here", "_law_many"]
def d__law_words : He.DefD := ⟨("_law_words", none), "_law_words", "_law_words", defArgs s__law_words, defBody s__law_words, defScope s__law_words, [], []⟩
abbrev s__law_kept : Stmt := top 24
abbrev N__law_kept : List Str := ["_law_kept_here"]
abbrev p__law_kept : List Str := []
def d__law_kept : He.DefD := ⟨("_law_kept", none), "_law_kept", "_law_kept", defArgs s__law_kept, defBody s__law_kept, defScope s__law_kept, [], []⟩
abbrev s__law_spoilt : Stmt := top 27
abbrev N__law_spoilt : List Str := ["_law_bag_here", "_law_entries", "_law_columns", "_law_at", "_law_odd", "_law_near"]
abbrev p__law_spoilt : List Str := ["_law_bag_here", "_law_entries", "_law_columns"]
def d__law_spoilt : He.DefD := ⟨("_law_spoilt", none), "_law_spoilt", "_law_spoilt", defArgs s__law_spoilt, defBody s__law_spoilt, defScope s__law_spoilt, [], []⟩
abbrev s__law_is_word : Stmt := top 25
abbrev N__law_is_word : List Str := ["_law_thing", "_law_sign"]
abbrev p__law_is_word : List Str := ["_law_thing"]
def d__law_is_word : He.DefD := ⟨("_law_is_word", none), "_law_is_word", "_law_is_word", defArgs s__law_is_word, defBody s__law_is_word, defScope s__law_is_word, [], []⟩
abbrev s__law_due : Stmt := top 28
abbrev N__law_due : List Str := ["_law_columns", "_law_firsts", "_law_lasts", "_law_used", "_law_name"]
abbrev p__law_due : List Str := ["_law_columns", "_law_firsts", "_law_lasts"]
def d__law_due : He.DefD := ⟨("_law_due", none), "_law_due", "_law_due", defArgs s__law_due, defBody s__law_due, defScope s__law_due, [], []⟩
abbrev s_Form___init__ : Stmt := inClass (top 15) 2
abbrev N_Form___init__ : List Str := ["self", "table", "options", "lists", "words", "name"]
abbrev p_Form___init__ : List Str := ["self", "table", "options", "lists"]
def d_Form___init__ : He.DefD := ⟨("Form", some "__init__"), "__init__", "Form.__init__", defArgs s_Form___init__, defBody s_Form___init__, defScope s_Form___init__, [], [("options", .adr (kwAt ("Form", some "__init__") "options")), ("lists", .adr (kwAt ("Form", some "__init__") "lists"))]⟩
abbrev s__law_told : Stmt := top 29
abbrev N__law_told : List Str := ["_law_table", "_law_firsts", "_law_lasts", "e", "_law_is_right"]
abbrev p__law_told : List Str := ["_law_table", "_law_firsts", "_law_lasts"]
def d__law_told : He.DefD := ⟨("_law_told", none), "_law_told", "_law_told", defArgs s__law_told, defBody s__law_told, defScope s__law_told, [], []⟩
abbrev s_Table___eq__ : Stmt := inClass (top 19) 3
abbrev N_Table___eq__ : List Str := ["self", "other"]
abbrev p_Table___eq__ : List Str := ["self", "other"]
def d_Table___eq__ : He.DefD := ⟨("Table", some "__eq__"), "__eq__", "Table.__eq__", defArgs s_Table___eq__, defBody s_Table___eq__, defScope s_Table___eq__, [], []⟩
abbrev s__law_is_form : Stmt := top 30
abbrev N__law_is_form : List Str := ["_law_form", "_law_columns", "_law_firsts", "_law_lasts"]
abbrev p__law_is_form : List Str := ["_law_form", "_law_columns", "_law_firsts", "_law_lasts"]
def d__law_is_form : He.DefD := ⟨("_law_is_form", none), "_law_is_form", "_law_is_form", defArgs s__law_is_form, defBody s__law_is_form, defScope s__law_is_form, [], []⟩
abbrev s_Form___eq__ : Stmt := inClass (top 15) 3
abbrev N_Form___eq__ : List Str := ["self", "other"]
abbrev p_Form___eq__ : List Str := ["self", "other"]
def d_Form___eq__ : He.DefD := ⟨("Form", some "__eq__"), "__eq__", "Form.__eq__", defArgs s_Form___eq__, defBody s_Form___eq__, defScope s_Form___eq__, [], []⟩
abbrev s_law : Stmt := top 31
abbrev N_law : List Str := ["_law_script", "_law_at", "_law_bag_here", "_law_columns", "_law_table", "_law_turn", "_law_names", "_law_again", "_law_told_here", "_law_count", "_law_further", "_law_firsts", "_law_lasts", "_law_given", "_law_due_here", "_law_form", "_law_moved"]
abbrev p_law : List Str := ["_law_script"]
def d_law : He.DefD := ⟨("law", none), "law", "law", defArgs s_law, defBody s_law, defScope s_law, [], []⟩
abbrev sx_BadForm : Stmt := inClass (top 6) 0
def dx_BadForm : He.DefD := ⟨("BadForm", some "__init__"), "__init__", "BadForm.__init__", defArgs sx_BadForm, defBody sx_BadForm, defScope sx_BadForm, [], []⟩
abbrev sx_TooMany : Stmt := inClass (top 7) 0
def dx_TooMany : He.DefD := ⟨("TooMany", some "__init__"), "__init__", "TooMany.__init__", defArgs sx_TooMany, defBody sx_TooMany, defScope sx_TooMany, [], []⟩
def fc : List He.DefD := [dx_BadForm, dx_TooMany]
def PH (P : Program) : Prop := (P.main.file : Str) = "/claim/cut.py" ∧ (P.main.scope.names.lookup ("super" : Str)).isSome = false
def fn : List He.DefD := [d__law_bag, d__law_take, d__law_of, d_is_word, d_Table___init__, d__law_words, d__law_kept, d__law_spoilt, d__law_is_word, d__law_due, d_Form___init__, d__law_told, d_Table___eq__, d__law_is_form, d_Form___eq__, d_law]
def fa : List He.Fa := [.free "len", .free "min", .free "max", .free "range", .free "enumerate", .free "int", .free "abs", .glo "_law_bag", .glo "_law_take", .glo "_law_of", .int "MOST_COLUMNS" 3, .free "isinstance", .free "str", .int "MOST_LETTERS" 8, .glo "KEPT", .str "LETTERS" "abcdefghijklmnopqrstuvwxyz", .free "all", .glo "is_word", .free "tuple", .cls "Table", .mkr "Table", .glo "Table", .free "list", .glo "_law_words", .glo "_law_kept", .glo "_law_spoilt", .glo "_law_is_word", .glo "_law_due", .glo "BadForm", .free "super", .glo "Form", .glo "TooMany", .cls "Form", .mkr "Form", .glo "EmptyfiltersError", .glo "BadColumn", .glo "TooManyRows", .glo "_law_told", .free "repr", .meth "Table" "__eq__", .glo "_law_is_form", .meth "Form" "__eq__", .glo "law"]
def exb (K : PySem.W.Frag) : Bool := He.tupB K "KEPT" (c_KEPT.map He.Dv.str) && (fldB K "columns" ["Table"] && (excB K "BadForm" ["name"] && (supB K "BadForm" "/claim/cut.py" && (catB K "BadForm" && (cvalB K "Form" "OPTIONS" 2 && (excB K "TooMany" ["what"] && (supB K "TooMany" "/claim/cut.py" && (catB K "TooMany" && (cvalB K "Form" "LISTS" 2 && (fldB K "table" ["Form"] && (fldB K "options" ["Form"] && (fldB K "lists" ["Form"] && (emtB K (kwAt ("Form", some "__init__") "options" K) && (emtB K (kwAt ("Form", some "__init__") "lists" K) && (kitOB K "BadForm" "EmptyfiltersError" true && (kitAB K "BadForm" ["BadColumn", "TooMany"] false && (exmB K "BadForm" "BadForm" && (kitOB K "TooMany" "EmptyfiltersError" true && (kitOB K "TooMany" "TooManyRows" false && (exmB K "TooMany" "TooMany" && (exmNB K "TooMany" "BadForm" && (nfB K "Table" ["Table"] && (isiB K "Table" isi_ds_Table && (He.conB K "Form" "OPTIONS" (.int 2) && (He.conB K "Form" "LISTS" (.int 2) && (nfB K "Form" ["Form", "Table"] && (isiB K "Form" isi_ds_Form && (decide (He.ga K "Form" ≠ He.ga K "Table")))))))))))))))))))))))))))))
/-- what the top has written -/
def Tx (w : World) (K : PySem.W.Frag) (mg : Str → Option Value) : Prop := ∃ h, K.In h ∧ h.Ns mainGlobals mg ∧ SaysY fa fn fc exb w h K
section
variable {P : Program} {w : World} {K : PySem.W.Frag} {mg : Str → Option Value} {base : Heap}
theorem free_len (T : Tx w K mg) : mg "len" = none := let ⟨_, X, G, c⟩ := T; He.free_ok X G (c.x.t.d.fact 0 (f := .free "len") rfl)
theorem free_min (T : Tx w K mg) : mg "min" = none := let ⟨_, X, G, c⟩ := T; He.free_ok X G (c.x.t.d.fact 1 (f := .free "min") rfl)
theorem free_max (T : Tx w K mg) : mg "max" = none := let ⟨_, X, G, c⟩ := T; He.free_ok X G (c.x.t.d.fact 2 (f := .free "max") rfl)
theorem free_range (T : Tx w K mg) : mg "range" = none := let ⟨_, X, G, c⟩ := T; He.free_ok X G (c.x.t.d.fact 3 (f := .free "range") rfl)
theorem free_enumerate (T : Tx w K mg) : mg "enumerate" = none := let ⟨_, X, G, c⟩ := T; He.free_ok X G (c.x.t.d.fact 4 (f := .free "enumerate") rfl)
theorem free_int (T : Tx w K mg) : mg "int" = none := let ⟨_, X, G, c⟩ := T; He.free_ok X G (c.x.t.d.fact 5 (f := .free "int") rfl)
theorem free_abs (T : Tx w K mg) : mg "abs" = none := let ⟨_, X, G, c⟩ := T; He.free_ok X G (c.x.t.d.fact 6 (f := .free "abs") rfl)
theorem glo__law_bag (T : Tx w K mg) : mg "_law_bag" = some (.ref (He.ga K "_law_bag")) := let ⟨_, X, G, c⟩ := T; He.glo_ok X G (c.x.t.d.fact 7 (f := .glo "_law_bag") rfl)
theorem glo__law_take (T : Tx w K mg) : mg "_law_take" = some (.ref (He.ga K "_law_take")) := let ⟨_, X, G, c⟩ := T; He.glo_ok X G (c.x.t.d.fact 8 (f := .glo "_law_take") rfl)
theorem glo__law_of (T : Tx w K mg) : mg "_law_of" = some (.ref (He.ga K "_law_of")) := let ⟨_, X, G, c⟩ := T; He.glo_ok X G (c.x.t.d.fact 9 (f := .glo "_law_of") rfl)
theorem int_MOST_COLUMNS (T : Tx w K mg) : ∃ t, mg "MOST_COLUMNS" = some (.int 3 t) := let ⟨_, X, G, c⟩ := T; He.int_ok X G (c.x.t.d.fact 10 (f := .int "MOST_COLUMNS" 3) rfl)
theorem free_isinstance (T : Tx w K mg) : mg "isinstance" = none := let ⟨_, X, G, c⟩ := T; He.free_ok X G (c.x.t.d.fact 11 (f := .free "isinstance") rfl)
theorem free_str (T : Tx w K mg) : mg "str" = none := let ⟨_, X, G, c⟩ := T; He.free_ok X G (c.x.t.d.fact 12 (f := .free "str") rfl)
theorem int_MOST_LETTERS (T : Tx w K mg) : ∃ t, mg "MOST_LETTERS" = some (.int 8 t) := let ⟨_, X, G, c⟩ := T; He.int_ok X G (c.x.t.d.fact 13 (f := .int "MOST_LETTERS" 8) rfl)
theorem glo_KEPT (T : Tx w K mg) : mg "KEPT" = some (.ref (He.ga K "KEPT")) := let ⟨_, X, G, c⟩ := T; He.glo_ok X G (c.x.t.d.fact 14 (f := .glo "KEPT") rfl)
theorem str_LETTERS (T : Tx w K mg) : ∃ t, mg "LETTERS" = some (.str "abcdefghijklmnopqrstuvwxyz" t) := let ⟨_, X, G, c⟩ := T; He.str_ok X G (c.x.t.d.fact 15 (f := .str "LETTERS" "abcdefghijklmnopqrstuvwxyz") rfl)
theorem free_all (T : Tx w K mg) : mg "all" = none := let ⟨_, X, G, c⟩ := T; He.free_ok X G (c.x.t.d.fact 16 (f := .free "all") rfl)
theorem glo_is_word (T : Tx w K mg) : mg "is_word" = some (.ref (He.ga K "is_word")) := let ⟨_, X, G, c⟩ := T; He.glo_ok X G (c.x.t.d.fact 17 (f := .glo "is_word") rfl)
theorem free_tuple (T : Tx w K mg) : mg "tuple" = none := let ⟨_, X, G, c⟩ := T; He.free_ok X G (c.x.t.d.fact 18 (f := .free "tuple") rfl)
theorem cls_Table (T : Tx w K mg) : Cls K (He.ga K "Table") := let ⟨_, X, G, c⟩ := T; He.cls_ok (c.x.t.d.fact 19 (f := .cls "Table") rfl)
theorem mkr_Table (T : Tx w K mg) : Mk K (He.ga K "Table") (He.ma K (He.ga K "Table") "__init__") := let ⟨_, X, G, c⟩ := T; He.mkr_ok (c.x.t.d.fact 20 (f := .mkr "Table") rfl)
theorem glo_Table (T : Tx w K mg) : mg "Table" = some (.ref (He.ga K "Table")) := let ⟨_, X, G, c⟩ := T; He.glo_ok X G (c.x.t.d.fact 21 (f := .glo "Table") rfl)
theorem free_list (T : Tx w K mg) : mg "list" = none := let ⟨_, X, G, c⟩ := T; He.free_ok X G (c.x.t.d.fact 22 (f := .free "list") rfl)
theorem glo__law_words (T : Tx w K mg) : mg "_law_words" = some (.ref (He.ga K "_law_words")) := let ⟨_, X, G, c⟩ := T; He.glo_ok X G (c.x.t.d.fact 23 (f := .glo "_law_words") rfl)
theorem glo__law_kept (T : Tx w K mg) : mg "_law_kept" = some (.ref (He.ga K "_law_kept")) := let ⟨_, X, G, c⟩ := T; He.glo_ok X G (c.x.t.d.fact 24 (f := .glo "_law_kept") rfl)
theorem glo__law_spoilt (T : Tx w K mg) : mg "_law_spoilt" = some (.ref (He.ga K "_law_spoilt")) := let ⟨_, X, G, c⟩ := T; He.glo_ok X G (c.x.t.d.fact 25 (f := .glo "_law_spoilt") rfl)
theorem glo__law_is_word (T : Tx w K mg) : mg "_law_is_word" = some (.ref (He.ga K "_law_is_word")) := let ⟨_, X, G, c⟩ := T; He.glo_ok X G (c.x.t.d.fact 26 (f := .glo "_law_is_word") rfl)
theorem glo__law_due (T : Tx w K mg) : mg "_law_due" = some (.ref (He.ga K "_law_due")) := let ⟨_, X, G, c⟩ := T; He.glo_ok X G (c.x.t.d.fact 27 (f := .glo "_law_due") rfl)
theorem glo_BadForm (T : Tx w K mg) : mg "BadForm" = some (.ref (He.ga K "BadForm")) := let ⟨_, X, G, c⟩ := T; He.glo_ok X G (c.x.t.d.fact 28 (f := .glo "BadForm") rfl)
theorem free_super (T : Tx w K mg) : mg "super" = none := let ⟨_, X, G, c⟩ := T; He.free_ok X G (c.x.t.d.fact 29 (f := .free "super") rfl)
theorem glo_Form (T : Tx w K mg) : mg "Form" = some (.ref (He.ga K "Form")) := let ⟨_, X, G, c⟩ := T; He.glo_ok X G (c.x.t.d.fact 30 (f := .glo "Form") rfl)
theorem glo_TooMany (T : Tx w K mg) : mg "TooMany" = some (.ref (He.ga K "TooMany")) := let ⟨_, X, G, c⟩ := T; He.glo_ok X G (c.x.t.d.fact 31 (f := .glo "TooMany") rfl)
theorem cls_Form (T : Tx w K mg) : Cls K (He.ga K "Form") := let ⟨_, X, G, c⟩ := T; He.cls_ok (c.x.t.d.fact 32 (f := .cls "Form") rfl)
theorem mkr_Form (T : Tx w K mg) : Mk K (He.ga K "Form") (He.ma K (He.ga K "Form") "__init__") := let ⟨_, X, G, c⟩ := T; He.mkr_ok (c.x.t.d.fact 33 (f := .mkr "Form") rfl)
theorem glo_EmptyfiltersError (T : Tx w K mg) : mg "EmptyfiltersError" = some (.ref (He.ga K "EmptyfiltersError")) := let ⟨_, X, G, c⟩ := T; He.glo_ok X G (c.x.t.d.fact 34 (f := .glo "EmptyfiltersError") rfl)
theorem glo_BadColumn (T : Tx w K mg) : mg "BadColumn" = some (.ref (He.ga K "BadColumn")) := let ⟨_, X, G, c⟩ := T; He.glo_ok X G (c.x.t.d.fact 35 (f := .glo "BadColumn") rfl)
theorem glo_TooManyRows (T : Tx w K mg) : mg "TooManyRows" = some (.ref (He.ga K "TooManyRows")) := let ⟨_, X, G, c⟩ := T; He.glo_ok X G (c.x.t.d.fact 36 (f := .glo "TooManyRows") rfl)
theorem glo__law_told (T : Tx w K mg) : mg "_law_told" = some (.ref (He.ga K "_law_told")) := let ⟨_, X, G, c⟩ := T; He.glo_ok X G (c.x.t.d.fact 37 (f := .glo "_law_told") rfl)
theorem free_repr (T : Tx w K mg) : mg "repr" = none := let ⟨_, X, G, c⟩ := T; He.free_ok X G (c.x.t.d.fact 38 (f := .free "repr") rfl)
theorem meth_Table___eq__ (T : Tx w K mg) : Meth K (He.ga K "Table") "__eq__" (He.ma K (He.ga K "Table") "__eq__") := let ⟨_, X, G, c⟩ := T; He.meth_ok (c.x.t.d.fact 39 (f := .meth "Table" "__eq__") rfl)
theorem glo__law_is_form (T : Tx w K mg) : mg "_law_is_form" = some (.ref (He.ga K "_law_is_form")) := let ⟨_, X, G, c⟩ := T; He.glo_ok X G (c.x.t.d.fact 40 (f := .glo "_law_is_form") rfl)
theorem meth_Form___eq__ (T : Tx w K mg) : Meth K (He.ga K "Form") "__eq__" (He.ma K (He.ga K "Form") "__eq__") := let ⟨_, X, G, c⟩ := T; He.meth_ok (c.x.t.d.fact 41 (f := .meth "Form" "__eq__") rfl)
theorem glo_law (T : Tx w K mg) : mg "law" = some (.ref (He.ga K "law")) := let ⟨_, X, G, c⟩ := T; He.glo_ok X G (c.x.t.d.fact 42 (f := .glo "law") rfl)
theorem tup_KEPT (T : Tx w K mg) : He.tupB K "KEPT" (c_KEPT.map He.Dv.str) = true := let ⟨_, _, _, c⟩ := T; (He.ba c.x.more).1
theorem fld_columns (T : Tx w K mg) : FldF K ((["Table"] : List Str).map (He.ga K)) "columns" := let ⟨_, _, _, c⟩ := T; fldB_ok ((He.ba (He.ba c.x.more).2).1)
theorem exc_BadForm (T : Tx w K mg) : excB K "BadForm" ["name"] = true := let ⟨_, _, _, c⟩ := T; (He.ba (He.ba (He.ba c.x.more).2).2).1
theorem sup_BadForm (T : Tx w K mg) : supB K "BadForm" "/claim/cut.py" = true := let ⟨_, _, _, c⟩ := T; (He.ba (He.ba (He.ba (He.ba c.x.more).2).2).2).1
theorem cat_BadForm (T : Tx w K mg) : catB K "BadForm" = true := let ⟨_, _, _, c⟩ := T; (He.ba (He.ba (He.ba (He.ba (He.ba c.x.more).2).2).2).2).1
theorem cval_Form_OPTIONS (T : Tx w K mg) : cvalB K "Form" "OPTIONS" 2 = true := let ⟨_, _, _, c⟩ := T; (He.ba (He.ba (He.ba (He.ba (He.ba (He.ba c.x.more).2).2).2).2).2).1
theorem exc_TooMany (T : Tx w K mg) : excB K "TooMany" ["what"] = true := let ⟨_, _, _, c⟩ := T; (He.ba (He.ba (He.ba (He.ba (He.ba (He.ba (He.ba c.x.more).2).2).2).2).2).2).1
theorem sup_TooMany (T : Tx w K mg) : supB K "TooMany" "/claim/cut.py" = true := let ⟨_, _, _, c⟩ := T; (He.ba (He.ba (He.ba (He.ba (He.ba (He.ba (He.ba (He.ba c.x.more).2).2).2).2).2).2).2).1
theorem cat_TooMany (T : Tx w K mg) : catB K "TooMany" = true := let ⟨_, _, _, c⟩ := T; (He.ba (He.ba (He.ba (He.ba (He.ba (He.ba (He.ba (He.ba (He.ba c.x.more).2).2).2).2).2).2).2).2).1
theorem cval_Form_LISTS (T : Tx w K mg) : cvalB K "Form" "LISTS" 2 = true := let ⟨_, _, _, c⟩ := T; (He.ba (He.ba (He.ba (He.ba (He.ba (He.ba (He.ba (He.ba (He.ba (He.ba c.x.more).2).2).2).2).2).2).2).2).2).1
theorem fld_table (T : Tx w K mg) : FldF K ((["Form"] : List Str).map (He.ga K)) "table" := let ⟨_, _, _, c⟩ := T; fldB_ok ((He.ba (He.ba (He.ba (He.ba (He.ba (He.ba (He.ba (He.ba (He.ba (He.ba (He.ba c.x.more).2).2).2).2).2).2).2).2).2).2).1)
theorem fld_options (T : Tx w K mg) : FldF K ((["Form"] : List Str).map (He.ga K)) "options" := let ⟨_, _, _, c⟩ := T; fldB_ok ((He.ba (He.ba (He.ba (He.ba (He.ba (He.ba (He.ba (He.ba (He.ba (He.ba (He.ba (He.ba c.x.more).2).2).2).2).2).2).2).2).2).2).2).1)
theorem fld_lists (T : Tx w K mg) : FldF K ((["Form"] : List Str).map (He.ga K)) "lists" := let ⟨_, _, _, c⟩ := T; fldB_ok ((He.ba (He.ba (He.ba (He.ba (He.ba (He.ba (He.ba (He.ba (He.ba (He.ba (He.ba (He.ba (He.ba c.x.more).2).2).2).2).2).2).2).2).2).2).2).2).1)
theorem emt_Form_options (T : Tx w K mg) : emtB K (kwAt ("Form", some "__init__") "options" K) = true := let ⟨_, _, _, c⟩ := T; (He.ba (He.ba (He.ba (He.ba (He.ba (He.ba (He.ba (He.ba (He.ba (He.ba (He.ba (He.ba (He.ba (He.ba c.x.more).2).2).2).2).2).2).2).2).2).2).2).2).2).1
theorem emt_Form_lists (T : Tx w K mg) : emtB K (kwAt ("Form", some "__init__") "lists" K) = true := let ⟨_, _, _, c⟩ := T; (He.ba (He.ba (He.ba (He.ba (He.ba (He.ba (He.ba (He.ba (He.ba (He.ba (He.ba (He.ba (He.ba (He.ba (He.ba c.x.more).2).2).2).2).2).2).2).2).2).2).2).2).2).2).1
theorem kitO_BadForm_EmptyfiltersError (T : Tx w K mg) : kitOB K "BadForm" "EmptyfiltersError" true = true := let ⟨_, _, _, c⟩ := T; (He.ba (He.ba (He.ba (He.ba (He.ba (He.ba (He.ba (He.ba (He.ba (He.ba (He.ba (He.ba (He.ba (He.ba (He.ba (He.ba c.x.more).2).2).2).2).2).2).2).2).2).2).2).2).2).2).2).1
theorem kitA_BadForm_BadColumn_TooMany (T : Tx w K mg) : kitAB K "BadForm" ["BadColumn", "TooMany"] false = true := let ⟨_, _, _, c⟩ := T; (He.ba (He.ba (He.ba (He.ba (He.ba (He.ba (He.ba (He.ba (He.ba (He.ba (He.ba (He.ba (He.ba (He.ba (He.ba (He.ba (He.ba c.x.more).2).2).2).2).2).2).2).2).2).2).2).2).2).2).2).2).1
theorem exm_BadForm_BadForm (T : Tx w K mg) : exmB K "BadForm" "BadForm" = true := let ⟨_, _, _, c⟩ := T; (He.ba (He.ba (He.ba (He.ba (He.ba (He.ba (He.ba (He.ba (He.ba (He.ba (He.ba (He.ba (He.ba (He.ba (He.ba (He.ba (He.ba (He.ba c.x.more).2).2).2).2).2).2).2).2).2).2).2).2).2).2).2).2).2).1
theorem kitO_TooMany_EmptyfiltersError (T : Tx w K mg) : kitOB K "TooMany" "EmptyfiltersError" true = true := let ⟨_, _, _, c⟩ := T; (He.ba (He.ba (He.ba (He.ba (He.ba (He.ba (He.ba (He.ba (He.ba (He.ba (He.ba (He.ba (He.ba (He.ba (He.ba (He.ba (He.ba (He.ba (He.ba c.x.more).2).2).2).2).2).2).2).2).2).2).2).2).2).2).2).2).2).2).1
theorem kitO_TooMany_TooManyRows (T : Tx w K mg) : kitOB K "TooMany" "TooManyRows" false = true := let ⟨_, _, _, c⟩ := T; (He.ba (He.ba (He.ba (He.ba (He.ba (He.ba (He.ba (He.ba (He.ba (He.ba (He.ba (He.ba (He.ba (He.ba (He.ba (He.ba (He.ba (He.ba (He.ba (He.ba c.x.more).2).2).2).2).2).2).2).2).2).2).2).2).2).2).2).2).2).2).2).1
theorem exm_TooMany_TooMany (T : Tx w K mg) : exmB K "TooMany" "TooMany" = true := let ⟨_, _, _, c⟩ := T; (He.ba (He.ba (He.ba (He.ba (He.ba (He.ba (He.ba (He.ba (He.ba (He.ba (He.ba (He.ba (He.ba (He.ba (He.ba (He.ba (He.ba (He.ba (He.ba (He.ba (He.ba c.x.more).2).2).2).2).2).2).2).2).2).2).2).2).2).2).2).2).2).2).2).2).1
theorem exn_TooMany_BadForm (T : Tx w K mg) : exmNB K "TooMany" "BadForm" = true := let ⟨_, _, _, c⟩ := T; (He.ba (He.ba (He.ba (He.ba (He.ba (He.ba (He.ba (He.ba (He.ba (He.ba (He.ba (He.ba (He.ba (He.ba (He.ba (He.ba (He.ba (He.ba (He.ba (He.ba (He.ba (He.ba c.x.more).2).2).2).2).2).2).2).2).2).2).2).2).2).2).2).2).2).2).2).2).2).1
theorem nf_Table (T : Tx w K mg) : NfF K (He.ga K "Table") ((["Table"] : List Str).map (He.ga K)) := let ⟨_, _, _, c⟩ := T; nfB_ok ((He.ba (He.ba (He.ba (He.ba (He.ba (He.ba (He.ba (He.ba (He.ba (He.ba (He.ba (He.ba (He.ba (He.ba (He.ba (He.ba (He.ba (He.ba (He.ba (He.ba (He.ba (He.ba (He.ba c.x.more).2).2).2).2).2).2).2).2).2).2).2).2).2).2).2).2).2).2).2).2).2).2).1)
theorem isi_Table (T : Tx w K mg) : IsiF K (.ref (He.ga K "Table")) (fCls K isi_ds_Table) := let ⟨_, _, _, c⟩ := T; isiB_ok ((He.ba (He.ba (He.ba (He.ba (He.ba (He.ba (He.ba (He.ba (He.ba (He.ba (He.ba (He.ba (He.ba (He.ba (He.ba (He.ba (He.ba (He.ba (He.ba (He.ba (He.ba (He.ba (He.ba (He.ba c.x.more).2).2).2).2).2).2).2).2).2).2).2).2).2).2).2).2).2).2).2).2).2).2).2).1)
theorem conB_Form_OPTIONS (T : Tx w K mg) : He.conB K "Form" "OPTIONS" (.int 2) = true := let ⟨_, _, _, c⟩ := T; (He.ba (He.ba (He.ba (He.ba (He.ba (He.ba (He.ba (He.ba (He.ba (He.ba (He.ba (He.ba (He.ba (He.ba (He.ba (He.ba (He.ba (He.ba (He.ba (He.ba (He.ba (He.ba (He.ba (He.ba (He.ba c.x.more).2).2).2).2).2).2).2).2).2).2).2).2).2).2).2).2).2).2).2).2).2).2).2).2).1
theorem conB_Form_LISTS (T : Tx w K mg) : He.conB K "Form" "LISTS" (.int 2) = true := let ⟨_, _, _, c⟩ := T; (He.ba (He.ba (He.ba (He.ba (He.ba (He.ba (He.ba (He.ba (He.ba (He.ba (He.ba (He.ba (He.ba (He.ba (He.ba (He.ba (He.ba (He.ba (He.ba (He.ba (He.ba (He.ba (He.ba (He.ba (He.ba (He.ba c.x.more).2).2).2).2).2).2).2).2).2).2).2).2).2).2).2).2).2).2).2).2).2).2).2).2).2).1
theorem nf_Form (T : Tx w K mg) : NfF K (He.ga K "Form") ((["Form", "Table"] : List Str).map (He.ga K)) := let ⟨_, _, _, c⟩ := T; nfB_ok ((He.ba (He.ba (He.ba (He.ba (He.ba (He.ba (He.ba (He.ba (He.ba (He.ba (He.ba (He.ba (He.ba (He.ba (He.ba (He.ba (He.ba (He.ba (He.ba (He.ba (He.ba (He.ba (He.ba (He.ba (He.ba (He.ba (He.ba c.x.more).2).2).2).2).2).2).2).2).2).2).2).2).2).2).2).2).2).2).2).2).2).2).2).2).2).2).1)
theorem isi_Form (T : Tx w K mg) : IsiF K (.ref (He.ga K "Form")) (fCls K isi_ds_Form) := let ⟨_, _, _, c⟩ := T; isiB_ok ((He.ba (He.ba (He.ba (He.ba (He.ba (He.ba (He.ba (He.ba (He.ba (He.ba (He.ba (He.ba (He.ba (He.ba (He.ba (He.ba (He.ba (He.ba (He.ba (He.ba (He.ba (He.ba (He.ba (He.ba (He.ba (He.ba (He.ba (He.ba c.x.more).2).2).2).2).2).2).2).2).2).2).2).2).2).2).2).2).2).2).2).2).2).2).2).2).2).2).2).1)
theorem nea_Form_Table (T : Tx w K mg) : decide (He.ga K "Form" ≠ He.ga K "Table") = true := let ⟨_, _, _, c⟩ := T; (He.ba (He.ba (He.ba (He.ba (He.ba (He.ba (He.ba (He.ba (He.ba (He.ba (He.ba (He.ba (He.ba (He.ba (He.ba (He.ba (He.ba (He.ba (He.ba (He.ba (He.ba (He.ba (He.ba (He.ba (He.ba (He.ba (He.ba (He.ba c.x.more).2).2).2).2).2).2).2).2).2).2).2).2).2).2).2).2).2).2).2).2).2).2).2).2).2).2).2).2
def wx_BadForm (K : PySem.W.Frag) : AW := (aCons (wFs [(wC (.str "not a free word: ")), (wFmtRD (wVar 1))]) aNil)
theorem mx_BadForm (T : Tx w K mg) (hP : PH P) : XIni P w K mg base 1 (He.ga K "BadForm") ["name"] (wx_BadForm K) := by
  obtain ⟨_, _, _, c⟩ := id T
  exact xini1 (d := dx_BadForm) rfl (c.at_ 0) (exc_BadForm T) (sup_BadForm T) hP.1 hP.2 (free_super T) rfl (NdefX.nscope_by (by decide +kernel)) rfl rfl rfl rfl rfl (by decide) (by decide) (by decide) (by decide)
    (fun f cc cda A outer s H E hr => (am_cons (em_fs (jm_cons em_str (jm_cons (em_fmtRD hr (em_var 1)) jm_nil))) am_nil)) (fun _ _ _ _ => rfl) (fun _ _ _ _ => rfl) (fun _ _ _ _ => rfl) (fun _ _ _ _ => rfl) (fun _ _ _ _ => rfl) (fun _ _ _ _ _ _ _ us hl => match us, hl with | [_, _], _ => rfl)
def wx_TooMany (K : PySem.W.Frag) : AW := (aCons (wFs [(wC (.str "too many: ")), (wFmtRD (wVar 1))]) aNil)
theorem mx_TooMany (T : Tx w K mg) (hP : PH P) : XIni P w K mg base 1 (He.ga K "TooMany") ["what"] (wx_TooMany K) := by
  obtain ⟨_, _, _, c⟩ := id T
  exact xini1 (d := dx_TooMany) rfl (c.at_ 1) (exc_TooMany T) (sup_TooMany T) hP.1 hP.2 (free_super T) rfl (NdefX.nscope_by (by decide +kernel)) rfl rfl rfl rfl rfl (by decide) (by decide) (by decide) (by decide)
    (fun f cc cda A outer s H E hr => (am_cons (em_fs (jm_cons em_str (jm_cons (em_fmtRD hr (em_var 1)) jm_nil))) am_nil)) (fun _ _ _ _ => rfl) (fun _ _ _ _ => rfl) (fun _ _ _ _ => rfl) (fun _ _ _ _ => rfl) (fun _ _ _ _ => rfl) (fun _ _ _ _ _ _ _ us hl => match us, hl with | [_, _], _ => rfl)
theorem fun__law_bag (T : Tx w K mg) : ∃ fd, FunD K "_law_bag" "_law_bag" (defArgs s__law_bag) (defBody s__law_bag) (defScope s__law_bag) [] [] (He.ga K "_law_bag") fd := let ⟨_, _, _, c⟩ := T; c.x.t.d.def_ 0 (d := d__law_bag) rfl
theorem sc__law_bag : FnScope N__law_bag p__law_bag (defScope s__law_bag) := ⟨rfl, rfl, rfl, by decide +kernel, rfl, by decide +kernel, by decide +kernel⟩
def b__law_bag_1 (K : PySem.W.Frag)  : SW :=
  (wSet 3 (wOp2 rsMod (wBlt rcInt (aCons (wOp2 rsAdd (wOp2 rsAdd (wOp2 rsMulI (wVar 3) (wC (.int 48271))) (wOp2 rsMod (wBlt rcInt (aCons (wVar 5) aNil)) (wC (.int 2147483629)))) (wOp2 rsMulI (wC (.int 113)) (wVar 4))) aNil)) (wC (.int 2147483647))))
def t__law_bag_2 (K : PySem.W.Frag)  : SW :=
  (wRet (wLst (aCons (wIfE (wTest (wOp2 rsGe (wBlt rcAbs (aCons (wVar 2) aNil)) (wOp2 rsPow (wC (.int 10)) (wC (.int 18))))) (wBlt rcAbs (aCons (wVar 2) aNil)) (wC (.int 0))) (aCons (wVar 3) aNil))))
def t__law_bag_3 (K : PySem.W.Frag)  : SW :=
  (wSeq (wFor (wEn (wSlS (wVar 0) oNo (oOf (wC (.int 63))))) (gwTupN 2 (gwCons (gwName 4) (gwCons (gwName 5) gwNil))) (b__law_bag_1 K ))
  (t__law_bag_2 K ))
def t__law_bag_4 (K : PySem.W.Frag)  : SW :=
  (wSeq (wSet 3 (wOp2 rsAdd (wOp2 rsMulI (wC (.int 3659)) (wVar 1)) (wC (.int 139))))
  (t__law_bag_3 K ))
def w__law_bag (K : PySem.W.Frag)  : SW :=
  (wSeq (wSet 2 (wIfE (wTest (wOp2 rsLt (wVar 1) (wBlt rcLen (aCons (wVar 0) aNil)))) (wOp2 rsIxS (wVar 0) (wVar 1)) (wC (.int 0))))
  (t__law_bag_4 K ))
theorem m__law_bag  (T : Tx w K mg)  : Fn P w K mg base 1 (He.ga K "_law_bag") p__law_bag (fwOf 6 2 (w__law_bag K )) := by
  unfold w__law_bag t__law_bag_4 t__law_bag_3 t__law_bag_2 b__law_bag_1
  exact fn_def (N := N__law_bag) (ps := p__law_bag) (k := 0) (fun__law_bag T) sc__law_bag (fun _ _ _ _ _ _ us hl => match us, hl with | [_, _], _ => rfl) (fun cdv A outer s H E hr tk =>
  (ssm_cons (sm_set sc__law_bag.nd (em_if (tm_cmp op_ltP (em_var 1) (em_blt call_lenP rfl (free_len T) (am_cons (em_var 0) am_nil))) (em_ix ix_S (em_var 0) (em_var 1)) em_int))
  (ssm_cons (sm_set sc__law_bag.nd (em_bin op_addP (em_bin op_mulP em_int (em_var 1)) em_int))
  (ssm_cons (sm_for (vs := [4, 5]) (passes_of rfl) rfl (im_en (em_slS (em_var 0) om_no (om_of em_int)) rfl (free_enumerate T)) (gm_tup rfl (gms_cons (gm_name sc__law_bag.nd (by decide)) (gms_cons (gm_name sc__law_bag.nd (by decide)) gms_nil))) (ssm_one (sm_set sc__law_bag.nd (em_bin op_modP (em_ty call_intP rfl (free_int T) (am_cons (em_bin op_addP (em_bin op_addP (em_bin op_mulP (em_var 3) em_int) (em_bin op_modP (em_ty call_intP rfl (free_int T) (am_cons (em_var 5) am_nil)) em_int)) (em_bin op_mulP em_int (em_var 4))) am_nil)) em_int))))
  (ssm_one (sm_ret (em_lst (am_cons (em_if (tm_cmp op_geP (em_blt call_absP rfl (free_abs T) (am_cons (em_var 2) am_nil)) (em_bin op_powP em_int em_int)) (em_blt call_absP rfl (free_abs T) (am_cons (em_var 2) am_nil)) em_int) (am_cons (em_var 3) am_nil)))))))))
theorem fun__law_take (T : Tx w K mg) : ∃ fd, FunD K "_law_take" "_law_take" (defArgs s__law_take) (defBody s__law_take) (defScope s__law_take) [] [] (He.ga K "_law_take") fd := let ⟨_, _, _, c⟩ := T; c.x.t.d.def_ 1 (d := d__law_take) rfl
theorem sc__law_take : FnScope N__law_take p__law_take (defScope s__law_take) := ⟨rfl, rfl, rfl, by decide +kernel, rfl, by decide +kernel, by decide +kernel⟩
def t__law_take_1 (K : PySem.W.Frag)  : SW :=
  (wRet (wVar 2))
def t__law_take_2 (K : PySem.W.Frag)  : SW :=
  (wSeq (wSetIx (wVar 0) (wC (.int 0)) (wOp2 rsFdiv (wIxC (wVar 0) (wC (.int 0))) (wVar 1)))
  (t__law_take_1 K ))
def t__law_take_3 (K : PySem.W.Frag)  : SW :=
  (wRet (wOp2 rsMod (wOp2 rsFdiv (wOp2 rsMod (wBlt rcInt (aCons (wOp2 rsMulI (wOp2 rsFdiv (wIxC (wVar 0) (wC (.int 1))) (wC (.int 5))) (wC (.int 44497))) aNil)) (wC (.int 2147483563))) (wC (.int 32))) (wVar 1)))
def t__law_take_4 (K : PySem.W.Frag)  : SW :=
  (wSeq (wSetIx (wVar 0) (wC (.int 1)) (wOp2 rsMod (wBlt rcInt (aCons (wOp2 rsAdd (wOp2 rsMulI (wIxC (wVar 0) (wC (.int 1))) (wC (.int 52774))) (wC (.int 4813))) aNil)) (wC (.int 2147483549))))
  (t__law_take_3 K ))
def w__law_take (K : PySem.W.Frag)  : SW :=
  (wSeq (wIf (wTest (wOp2 rsGt (wIxC (wVar 0) (wC (.int 0))) (wC (.int 0)))) (wSeq (wSet 2 (wOp2 rsMod (wBlt rcInt (aCons (wIxC (wVar 0) (wC (.int 0))) aNil)) (wVar 1)))
  (t__law_take_2 K )) wSkip)
  (t__law_take_4 K ))
theorem m__law_take  (T : Tx w K mg)  : Fn P w K mg base 1 (He.ga K "_law_take") p__law_take (fwOf 3 2 (w__law_take K )) := by
  unfold w__law_take t__law_take_4 t__law_take_3 t__law_take_2 t__law_take_1
  exact fn_def (N := N__law_take) (ps := p__law_take) (k := 0) (fun__law_take T) sc__law_take (fun _ _ _ _ _ _ us hl => match us, hl with | [_, _], _ => rfl) (fun cdv A outer s H E hr tk =>
  (ssm_cons (sm_if (tm_cmp op_gtP (em_ixC (em_var 0) em_int) em_int) (ssm_cons (sm_set sc__law_take.nd (em_bin op_modP (em_ty call_intP rfl (free_int T) (am_cons (em_ixC (em_var 0) em_int) am_nil)) (em_var 1)))
  (ssm_cons (sm_setIx (em_bin op_fdivP (em_ixC (em_var 0) em_int) (em_var 1)) (em_var 0) em_int)
  (ssm_one (sm_ret (em_var 2))))) ssm_nil)
  (ssm_cons (sm_setIx (em_bin op_modP (em_ty call_intP rfl (free_int T) (am_cons (em_bin op_addP (em_bin op_mulP (em_ixC (em_var 0) em_int) em_int) em_int) am_nil)) em_int) (em_var 0) em_int)
  (ssm_one (sm_ret (em_bin op_modP (em_bin op_fdivP (em_bin op_modP (em_ty call_intP rfl (free_int T) (am_cons (em_bin op_mulP (em_bin op_fdivP (em_ixC (em_var 0) em_int) em_int) em_int) am_nil)) em_int) em_int) (em_var 1)))))))
theorem fun__law_of (T : Tx w K mg) : ∃ fd, FunD K "_law_of" "_law_of" (defArgs s__law_of) (defBody s__law_of) (defScope s__law_of) [] [] (He.ga K "_law_of") fd := let ⟨_, _, _, c⟩ := T; c.x.t.d.def_ 2 (d := d__law_of) rfl
theorem sc__law_of : FnScope N__law_of p__law_of (defScope s__law_of) := ⟨rfl, rfl, rfl, by decide +kernel, rfl, by decide +kernel, by decide +kernel⟩
def w__law_of (K : PySem.W.Frag) (f__law_take : FW) : SW :=
  (wRet (wOp2 rsIx (wVar 1) (wCall 2 f__law_take (aCons (wVar 0) (aCons (wBlt rcLen (aCons (wVar 1) aNil)) aNil)))))
theorem m__law_of {f__law_take : FW} (T : Tx w K mg) (hf__law_take : Fn P w K mg base 1 (He.ga K "_law_take") p__law_take f__law_take) : Fn P w K mg base 2 (He.ga K "_law_of") p__law_of (fwOf 2 2 (w__law_of K f__law_take)) := by
  unfold w__law_of
  exact fn_def (N := N__law_of) (ps := p__law_of) (k := 1) (fun__law_of T) sc__law_of (fun _ _ _ _ _ _ us hl => match us, hl with | [_, _], _ => rfl) (fun cdv A outer s H E hr tk =>
  (ssm_one (sm_ret (em_ix ix_P (em_var 1) (e_call hf__law_take rfl hr (by decide) tk (glo__law_take T) rfl (am_cons (em_var 0) (am_cons (em_blt call_lenP rfl (free_len T) (am_cons (em_var 1) am_nil)) am_nil)))))))
theorem fun_is_word (T : Tx w K mg) : ∃ fd, FunD K "is_word" "is_word" (defArgs s_is_word) (defBody s_is_word) (defScope s_is_word) [] [] (He.ga K "is_word") fd := let ⟨_, _, _, c⟩ := T; c.x.t.d.def_ 3 (d := d_is_word) rfl
theorem sc_is_word : FnScope N_is_word p_is_word (defScope s_is_word) := ⟨rfl, rfl, rfl, by decide +kernel, rfl, by decide +kernel, by decide +kernel⟩
def t_is_word_1 (K : PySem.W.Frag)  : SW :=
  (wRet (wBlt rcAll (aCons (wLc [1] (wChs (wVar 0)) (gwName 1) wYes (wOp2 rsIn (wVar 1) (wC (.str "abcdefghijklmnopqrstuvwxyz")))) aNil)))
def w_is_word (K : PySem.W.Frag)  : SW :=
  (wSeq (wIf (wOr (wNot (wTest (wIsi fStr (wVar 0)))) (wOr (wNot (wTest (wCh rsLe rsLe (wC (.int 1)) (wBlt rcLen (aCons (wVar 0) aNil)) (wC (.int 8))))) (wTest (wOp2 rsIn (wVar 0) (wC (.tup (c_KEPT.map PV.str))))))) (wRet (wC (.bl false))) wSkip)
  (t_is_word_1 K ))
theorem m_is_word  (T : Tx w K mg)  : Fn P w K mg base 1 (He.ga K "is_word") p_is_word (fwOf 2 1 (w_is_word K )) := by
  unfold w_is_word t_is_word_1
  exact fn_def (N := N_is_word) (ps := p_is_word) (k := 0) (fun_is_word T) sc_is_word (fun _ _ _ _ _ _ us hl => match us, hl with | [_], _ => rfl) (fun cdv A outer s H E hr tk =>
  (ssm_cons (sm_if (PWM.tm (pwm_or (tm_not (tm_val (e_isiT (T := "str") (free_isinstance T) (free_str T) isi_str rfl rfl (em_var 0)))) (pwm_or (tm_not (tm_ch op_leP op_leP em_int (em_blt call_lenP rfl (free_len T) (am_cons (em_var 0) am_nil)) (glI (int_MOST_LETTERS T) rfl))) (pwm_or1 (tm_cmp (op_inP hr.units) (em_var 0) (glT (glo_KEPT T) (tup_KEPT T) rfl)))))) (ssm_one (sm_ret em_bl)) ssm_nil)
  (ssm_one (sm_ret (em_blt (call_allP rfl) rfl (free_all T) (am_cons (em_lc (own := [("sign", 1)]) sc_is_word.nd rfl (im_str (em_var 0)) (blkOk_by (own := [("sign", 1)]) (N := N_is_word) (sc := defScope s_is_word) (by decide +kernel)) (fun _ _ _ _ _ => (gm_name sc_is_word.nd (by decide))) (fun _ _ _ _ _ => tms_nil) (fun _ _ _ _ _ => (em_cmp (op_inP hr.units) (em_var 1) (glS (str_LETTERS T) rfl)))) am_nil))))))
theorem fun_Table___init__ (T : Tx w K mg) : ∃ fd, FunD K "__init__" "Table.__init__" (defArgs s_Table___init__) (defBody s_Table___init__) (defScope s_Table___init__) [] [] (He.ma K (He.ga K "Table") "__init__") fd := let ⟨_, _, _, c⟩ := T; c.x.t.d.def_ 4 (d := d_Table___init__) rfl
theorem sc_Table___init__ : FnScope N_Table___init__ p_Table___init__ (defScope s_Table___init__) := ⟨rfl, rfl, rfl, by decide +kernel, rfl, by decide +kernel, by decide +kernel⟩
def b_Table___init___1 (K : PySem.W.Frag) (f_is_word : FW) : SW :=
  (wIf (wOr (wNot (wTest (wCall 1 f_is_word (aCons (wVar 3) aNil)))) (wTest (wOp2 rsIn (wVar 3) (wSl (wVar 1) oNo (oOf (wVar 2)))))) wNev wSkip)
def t_Table___init___2 (K : PySem.W.Frag) (f_is_word : FW) : SW :=
  (wSetF ((["Table"] : List Str).map (He.ga K)) "columns" (wVar 0) (wBlt rcTuple (aCons (wVar 1) aNil)))
def t_Table___init___3 (K : PySem.W.Frag) (f_is_word : FW) : SW :=
  (wSeq (wFor (wEn (wVar 1)) (gwTupN 2 (gwCons (gwName 2) (gwCons (gwName 3) gwNil))) (b_Table___init___1 K f_is_word))
  (t_Table___init___2 K f_is_word))
def w_Table___init__ (K : PySem.W.Frag) (f_is_word : FW) : SW :=
  (wSeq (wIf (wNot (wTest (wCh rsLe rsLe (wC (.int 1)) (wBlt rcLen (aCons (wVar 1) aNil)) (wC (.int 3))))) wNev wSkip)
  (t_Table___init___3 K f_is_word))
theorem m_Table___init__ {f_is_word : FW} (T : Tx w K mg) (hf_is_word : Fn P w K mg base 1 (He.ga K "is_word") p_is_word f_is_word) : Ini P w K mg base 2 (He.ga K "Table") 1 (fwI (He.ga K "Table") 4 1 (w_Table___init__ K f_is_word)) := by
  unfold w_Table___init__ t_Table___init___3 t_Table___init___2 b_Table___init___1
  exact ini_def (N := N_Table___init__) (ps := p_Table___init__) (k := 1) (fun_Table___init__ T) sc_Table___init__ rfl (mkr_Table T) (fun _ _ _ _ _ _ us hl => match us, hl with | [_, _], _ => rfl) (fun cdv A outer s H E hr tk =>
  (ssm_cons (sm_if (tm_not (tm_ch op_leP op_leP em_int (em_blt call_lenP rfl (free_len T) (am_cons (em_var 1) am_nil)) (glI (int_MOST_COLUMNS T) rfl))) (ssm_one sm_never) ssm_nil)
  (ssm_cons (sm_for (vs := [2, 3]) (passes_of rfl) rfl (im_en (em_var 1) rfl (free_enumerate T)) (gm_tup rfl (gms_cons (gm_name sc_Table___init__.nd (by decide)) (gms_cons (gm_name sc_Table___init__.nd (by decide)) gms_nil))) (ssm_one (sm_if (PWM.tm (pwm_or (tm_not (tm_val (e_call hf_is_word rfl hr (by decide) tk (glo_is_word T) rfl (am_cons (em_var 3) am_nil)))) (pwm_or1 (tm_cmp (op_inP hr.units) (em_var 3) (em_sl (em_var 1) om_no (om_of (em_var 2))))))) (ssm_one sm_never) ssm_nil)))
  (ssm_one (sm_fld (fld_columns T) (em_var 0) (em_ty call_tupleP rfl (free_tuple T) (am_cons (em_var 1) am_nil)))))))
theorem fun__law_words (T : Tx w K mg) : ∃ fd, FunD K "_law_words" "_law_words" (defArgs s__law_words) (defBody s__law_words) (defScope s__law_words) [] [] (He.ga K "_law_words") fd := let ⟨_, _, _, c⟩ := T; c.x.t.d.def_ 5 (d := d__law_words) rfl
theorem sc__law_words : FnScope N__law_words p__law_words (defScope s__law_words) := ⟨rfl, rfl, rfl, by decide +kernel, rfl, by decide +kernel, by decide +kernel⟩
def b__law_words_1 (K : PySem.W.Frag) (f__law_of : FW) : SW :=
  (wSet 4 (wOp2 rsAdd (wVar 4) (wCall 2 f__law_of (aCons (wVar 0) (aCons (wBlt rcListS (aCons (wC (.str "abcdefghijklmnopqrstuvwxyz")) aNil)) aNil)))))
def t__law_words_2 (K : PySem.W.Frag) (f__law_of : FW) : SW :=
  (wDrop (wMut mfAppend (wVar 2) (aCons (wVar 4) aNil)))
def t__law_words_3 (K : PySem.W.Frag) (f__law_of : FW) : SW :=
  (wSeq (wFor (wRng1 (wCall 2 f__law_of (aCons (wVar 0) (aCons (wLstC [.int 1, .int 2, .int 4, .int 8]) aNil)))) (gwName 5) (b__law_words_1 K f__law_of))
  (t__law_words_2 K f__law_of))
def b__law_words_4 (K : PySem.W.Frag) (f__law_of : FW) : SW :=
  (wSeq (wSet 4 (wC (.str "")))
  (t__law_words_3 K f__law_of))
def t__law_words_5 (K : PySem.W.Frag) (f__law_of : FW) : SW :=
  (wRet (wVar 2))
def t__law_words_6 (K : PySem.W.Frag) (f__law_of : FW) : SW :=
  (wSeq (wFor (wRng1 (wVar 1)) (gwName 3) (b__law_words_4 K f__law_of))
  (t__law_words_5 K f__law_of))
def w__law_words (K : PySem.W.Frag) (f__law_of : FW) : SW :=
  (wSeq (wSet 2 (wLst aNil))
  (t__law_words_6 K f__law_of))
theorem m__law_words {f__law_of : FW} (T : Tx w K mg) (hf__law_of : Fn P w K mg base 2 (He.ga K "_law_of") p__law_of f__law_of) : Fn P w K mg base 3 (He.ga K "_law_words") p__law_words (fwOf 6 2 (w__law_words K f__law_of)) := by
  unfold w__law_words t__law_words_6 t__law_words_5 b__law_words_4 t__law_words_3 t__law_words_2 b__law_words_1
  exact fn_def (N := N__law_words) (ps := p__law_words) (k := 2) (fun__law_words T) sc__law_words (fun _ _ _ _ _ _ us hl => match us, hl with | [_, _], _ => rfl) (fun cdv A outer s H E hr tk =>
  (ssm_cons (sm_set sc__law_words.nd (em_lst am_nil))
  (ssm_cons (sm_for (vs := [3]) (passes_of rfl) rfl (im_range1 (em_var 1) rfl (free_range T)) (gm_name sc__law_words.nd (by decide)) (ssm_cons (sm_set sc__law_words.nd em_str)
  (ssm_cons (sm_for (vs := [5]) (passes_of rfl) rfl (im_range1 (e_call hf__law_of rfl hr (by decide) tk (glo__law_of T) rfl (am_cons (em_var 0) (am_cons (em_lstC (cs_cons em_int (cs_cons em_int (cs_cons em_int (cs_cons em_int cs_nil))))) am_nil))) rfl (free_range T)) (gm_name sc__law_words.nd (by decide)) (ssm_one (sm_set sc__law_words.nd (em_bin op_addP (em_var 4) (e_call hf__law_of rfl hr (by decide) tk (glo__law_of T) rfl (am_cons (em_var 0) (am_cons (em_ty (call_listSP rfl) rfl (free_list T) (am_cons em_str am_nil)) am_nil)))))))
  (ssm_one (sm_expr (em_mut mut_append F.slot_list_append F.type_list_append (em_var 2) (am_cons (em_var 4) am_nil)))))))
  (ssm_one (sm_ret (em_var 2))))))
theorem fun__law_kept (T : Tx w K mg) : ∃ fd, FunD K "_law_kept" "_law_kept" (defArgs s__law_kept) (defBody s__law_kept) (defScope s__law_kept) [] [] (He.ga K "_law_kept") fd := let ⟨_, _, _, c⟩ := T; c.x.t.d.def_ 6 (d := d__law_kept) rfl
theorem sc__law_kept : FnScope N__law_kept p__law_kept (defScope s__law_kept) := ⟨rfl, rfl, rfl, by decide +kernel, rfl, by decide +kernel, by decide +kernel⟩
def t__law_kept_1 (K : PySem.W.Frag)  : SW :=
  (wRet (wOp2 rsAdd (wVar 0) (wLstC [.str "any", .str "all", .str "pick", .str "given", .str "and", .str "or", .str "not", .str "true", .str "false", .str "self"])))
def w__law_kept (K : PySem.W.Frag)  : SW :=
  (wSeq (wSet 0 (wLstC [.str "def", .str "if", .str "else", .str "for", .str "in", .str "break", .str "skip", .str "refuse", .str "take", .str "guard", .str "blank", .str "every", .str "none"]))
  (t__law_kept_1 K ))
theorem m__law_kept  (T : Tx w K mg)  : Fn P w K mg base 1 (He.ga K "_law_kept") p__law_kept (fwOf 1 0 (w__law_kept K )) := by
  unfold w__law_kept t__law_kept_1
  exact fn_def (N := N__law_kept) (ps := p__law_kept) (k := 0) (fun__law_kept T) sc__law_kept (fun _ _ _ _ _ _ us hl => match us, hl with | [], _ => rfl) (fun cdv A outer s H E hr tk =>
  (ssm_cons (sm_set sc__law_kept.nd (em_lstC (cs_cons em_str (cs_cons em_str (cs_cons em_str (cs_cons em_str (cs_cons em_str (cs_cons em_str (cs_cons em_str (cs_cons em_str (cs_cons em_str (cs_cons em_str (cs_cons em_str (cs_cons em_str (cs_cons em_str cs_nil)))))))))))))))
  (ssm_one (sm_ret (em_bin op_addP (em_var 0) (em_lstC (cs_cons em_str (cs_cons em_str (cs_cons em_str (cs_cons em_str (cs_cons em_str (cs_cons em_str (cs_cons em_str (cs_cons em_str (cs_cons em_str (cs_cons em_str cs_nil))))))))))))))))
theorem fun__law_spoilt (T : Tx w K mg) : ∃ fd, FunD K "_law_spoilt" "_law_spoilt" (defArgs s__law_spoilt) (defBody s__law_spoilt) (defScope s__law_spoilt) [] [] (He.ga K "_law_spoilt") fd := let ⟨_, _, _, c⟩ := T; c.x.t.d.def_ 7 (d := d__law_spoilt) rfl
theorem sc__law_spoilt : FnScope N__law_spoilt p__law_spoilt (defScope s__law_spoilt) := ⟨rfl, rfl, rfl, by decide +kernel, rfl, by decide +kernel, by decide +kernel⟩
def t__law_spoilt_1 (K : PySem.W.Frag) (f__law_take : FW) (f__law_of : FW) (f__law_kept : FW) : SW :=
  (wRet (wOp2 rsAdd (wOp2 rsAdd (wSl (wVar 1) oNo (oOf (wVar 3))) (wLst (aCons (wCall 2 f__law_of (aCons (wVar 0) (aCons (wVar 5) aNil))) aNil))) (wSl (wVar 1) (oOf (wOp2 rsAdd (wVar 3) (wC (.int 1)))) oNo)))
def t__law_spoilt_2 (K : PySem.W.Frag) (f__law_take : FW) (f__law_of : FW) (f__law_kept : FW) : SW :=
  (wSeq (wSet 5 (wCall 2 f__law_of (aCons (wVar 0) (aCons (wLst (aCons (wVar 2) (aCons (wVar 1) (aCons (wVar 4) (aCons (wCall 0 f__law_kept aNil) aNil))))) aNil))))
  (t__law_spoilt_1 K f__law_take f__law_of f__law_kept))
def t__law_spoilt_3 (K : PySem.W.Frag) (f__law_take : FW) (f__law_of : FW) (f__law_kept : FW) : SW :=
  (wSeq (wSet 4 (wLst (aCons (wC .non) (aCons (wC (.bl true)) (aCons (wC (.int 0)) (aCons (wC (.int 7)) (aCons (wC (.str "")) (aCons (wC (.str "A")) (aCons (wC (.str "abcdefghi")) (aCons (wC (.str "a b")) (aCons (wC (.str "a1")) (aCons (wTup (aCons (wC (.str "a")) aNil)) (aCons (wLst (aCons (wC (.str "a")) aNil)) (aCons (wLst aNil) (aCons (wC (.str "a\n")) aNil)))))))))))))))
  (t__law_spoilt_2 K f__law_take f__law_of f__law_kept))
def w__law_spoilt (K : PySem.W.Frag) (f__law_take : FW) (f__law_of : FW) (f__law_kept : FW) : SW :=
  (wSeq (wSet 3 (wCall 2 f__law_take (aCons (wVar 0) (aCons (wBlt rcLen (aCons (wVar 1) aNil)) aNil))))
  (t__law_spoilt_3 K f__law_take f__law_of f__law_kept))
theorem m__law_spoilt {f__law_take : FW} {f__law_of : FW} {f__law_kept : FW} (T : Tx w K mg) (hf__law_take : Fn P w K mg base 1 (He.ga K "_law_take") p__law_take f__law_take) (hf__law_of : Fn P w K mg base 2 (He.ga K "_law_of") p__law_of f__law_of) (hf__law_kept : Fn P w K mg base 1 (He.ga K "_law_kept") p__law_kept f__law_kept) : Fn P w K mg base 3 (He.ga K "_law_spoilt") p__law_spoilt (fwOf 6 3 (w__law_spoilt K f__law_take f__law_of f__law_kept)) := by
  unfold w__law_spoilt t__law_spoilt_3 t__law_spoilt_2 t__law_spoilt_1
  exact fn_def (N := N__law_spoilt) (ps := p__law_spoilt) (k := 2) (fun__law_spoilt T) sc__law_spoilt (fun _ _ _ _ _ _ us hl => match us, hl with | [_, _, _], _ => rfl) (fun cdv A outer s H E hr tk =>
  (ssm_cons (sm_set sc__law_spoilt.nd (e_call hf__law_take rfl hr (by decide) tk (glo__law_take T) rfl (am_cons (em_var 0) (am_cons (em_blt call_lenP rfl (free_len T) (am_cons (em_var 1) am_nil)) am_nil))))
  (ssm_cons (sm_set sc__law_spoilt.nd (em_lst (am_cons em_non (am_cons em_bl (am_cons em_int (am_cons em_int (am_cons em_str (am_cons em_str (am_cons em_str (am_cons em_str (am_cons em_str (am_cons (em_tup (am_cons em_str am_nil)) (am_cons (em_lst (am_cons em_str am_nil)) (am_cons (em_lst am_nil) (am_cons em_str am_nil)))))))))))))))
  (ssm_cons (sm_set sc__law_spoilt.nd (e_call hf__law_of rfl hr (by decide) tk (glo__law_of T) rfl (am_cons (em_var 0) (am_cons (em_lst (am_cons (em_var 2) (am_cons (em_var 1) (am_cons (em_var 4) (am_cons (e_call0 hf__law_kept rfl hr (by decide) tk (glo__law_kept T) rfl) am_nil))))) am_nil))))
  (ssm_one (sm_ret (em_bin op_addP (em_bin op_addP (em_sl (em_var 1) om_no (om_of (em_var 3))) (em_lst (am_cons (e_call hf__law_of rfl hr (by decide) tk (glo__law_of T) rfl (am_cons (em_var 0) (am_cons (em_var 5) am_nil))) am_nil))) (em_sl (em_var 1) (om_of (em_bin op_addP (em_var 3) em_int)) om_no))))))))
theorem fun__law_is_word (T : Tx w K mg) : ∃ fd, FunD K "_law_is_word" "_law_is_word" (defArgs s__law_is_word) (defBody s__law_is_word) (defScope s__law_is_word) [] [] (He.ga K "_law_is_word") fd := let ⟨_, _, _, c⟩ := T; c.x.t.d.def_ 8 (d := d__law_is_word) rfl
theorem sc__law_is_word : FnScope N__law_is_word p__law_is_word (defScope s__law_is_word) := ⟨rfl, rfl, rfl, by decide +kernel, rfl, by decide +kernel, by decide +kernel⟩
def t__law_is_word_1 (K : PySem.W.Frag) (f__law_kept : FW) : SW :=
  (wRet (wBlt rcAll (aCons (wLc [1] (wChs (wVar 0)) (gwName 1) wYes (wOp2 rsIn (wVar 1) (wBlt rcListS (aCons (wC (.str "abcdefghijklmnopqrstuvwxyz")) aNil)))) aNil)))
def w__law_is_word (K : PySem.W.Frag) (f__law_kept : FW) : SW :=
  (wSeq (wIf (wOr (wNot (wTest (wIsi fStr (wVar 0)))) (wOr (wNot (wTest (wCh rsLe rsLe (wC (.int 1)) (wBlt rcLen (aCons (wVar 0) aNil)) (wC (.int 8))))) (wTest (wOp2 rsIn (wVar 0) (wCall 0 f__law_kept aNil))))) (wRet (wC (.bl false))) wSkip)
  (t__law_is_word_1 K f__law_kept))
theorem m__law_is_word {f__law_kept : FW} (T : Tx w K mg) (hf__law_kept : Fn P w K mg base 1 (He.ga K "_law_kept") p__law_kept f__law_kept) : Fn P w K mg base 2 (He.ga K "_law_is_word") p__law_is_word (fwOf 2 1 (w__law_is_word K f__law_kept)) := by
  unfold w__law_is_word t__law_is_word_1
  exact fn_def (N := N__law_is_word) (ps := p__law_is_word) (k := 1) (fun__law_is_word T) sc__law_is_word (fun _ _ _ _ _ _ us hl => match us, hl with | [_], _ => rfl) (fun cdv A outer s H E hr tk =>
  (ssm_cons (sm_if (PWM.tm (pwm_or (tm_not (tm_val (e_isiT (T := "str") (free_isinstance T) (free_str T) isi_str rfl rfl (em_var 0)))) (pwm_or (tm_not (tm_ch op_leP op_leP em_int (em_blt call_lenP rfl (free_len T) (am_cons (em_var 0) am_nil)) em_int)) (pwm_or1 (tm_cmp (op_inP hr.units) (em_var 0) (e_call0 hf__law_kept rfl hr (by decide) tk (glo__law_kept T) rfl)))))) (ssm_one (sm_ret em_bl)) ssm_nil)
  (ssm_one (sm_ret (em_blt (call_allP rfl) rfl (free_all T) (am_cons (em_lc (own := [("_law_sign", 1)]) sc__law_is_word.nd rfl (im_str (em_var 0)) (blkOk_by (own := [("_law_sign", 1)]) (N := N__law_is_word) (sc := defScope s__law_is_word) (by decide +kernel)) (fun _ _ _ _ _ => (gm_name sc__law_is_word.nd (by decide))) (fun _ _ _ _ _ => tms_nil) (fun _ _ _ _ _ => (em_cmp (op_inP hr.units) (em_var 1) (em_ty (call_listSP rfl) rfl (free_list T) (am_cons em_str am_nil))))) am_nil))))))
theorem fun__law_due (T : Tx w K mg) : ∃ fd, FunD K "_law_due" "_law_due" (defArgs s__law_due) (defBody s__law_due) (defScope s__law_due) [] [] (He.ga K "_law_due") fd := let ⟨_, _, _, c⟩ := T; c.x.t.d.def_ 9 (d := d__law_due) rfl
theorem sc__law_due : FnScope N__law_due p__law_due (defScope s__law_due) := ⟨rfl, rfl, rfl, by decide +kernel, rfl, by decide +kernel, by decide +kernel⟩
def t__law_due_1 (K : PySem.W.Frag) (f__law_is_word : FW) : SW :=
  (wDrop (wMut mfAppend (wVar 3) (aCons (wVar 4) aNil)))
def b__law_due_2 (K : PySem.W.Frag) (f__law_is_word : FW) : SW :=
  (wSeq (wIf (wOr (wNot (wTest (wCall 1 f__law_is_word (aCons (wVar 4) aNil)))) (wTest (wOp2 rsIn (wVar 4) (wVar 3)))) (wRet (wTup (aCons (wC (.str "form")) (aCons (wVar 4) aNil)))) wSkip)
  (t__law_due_1 K f__law_is_word))
def t__law_due_3 (K : PySem.W.Frag) (f__law_is_word : FW) : SW :=
  (wRet (wIfE (wTest (wOp2 rsGt (wBlt rcLen (aCons (wVar 2) aNil)) (wC (.int 2)))) (wTup (aCons (wC (.str "many")) (aCons (wC (.str "lists")) aNil))) (wC .non)))
def t__law_due_4 (K : PySem.W.Frag) (f__law_is_word : FW) : SW :=
  (wSeq (wIf (wTest (wOp2 rsGt (wBlt rcLen (aCons (wVar 1) aNil)) (wC (.int 2)))) (wRet (wTup (aCons (wC (.str "many")) (aCons (wC (.str "options")) aNil)))) wSkip)
  (t__law_due_3 K f__law_is_word))
def t__law_due_5 (K : PySem.W.Frag) (f__law_is_word : FW) : SW :=
  (wSeq (wFor (wSrc (wOp2 rsAdd (wVar 1) (wVar 2))) (gwName 4) (b__law_due_2 K f__law_is_word))
  (t__law_due_4 K f__law_is_word))
def w__law_due (K : PySem.W.Frag) (f__law_is_word : FW) : SW :=
  (wSeq (wSet 3 (wBlt rcListS (aCons (wVar 0) aNil)))
  (t__law_due_5 K f__law_is_word))
theorem m__law_due {f__law_is_word : FW} (T : Tx w K mg) (hf__law_is_word : Fn P w K mg base 2 (He.ga K "_law_is_word") p__law_is_word f__law_is_word) : Fn P w K mg base 3 (He.ga K "_law_due") p__law_due (fwOf 5 3 (w__law_due K f__law_is_word)) := by
  unfold w__law_due t__law_due_5 t__law_due_4 t__law_due_3 b__law_due_2 t__law_due_1
  exact fn_def (N := N__law_due) (ps := p__law_due) (k := 2) (fun__law_due T) sc__law_due (fun _ _ _ _ _ _ us hl => match us, hl with | [_, _, _], _ => rfl) (fun cdv A outer s H E hr tk =>
  (ssm_cons (sm_set sc__law_due.nd (em_ty (call_listSP rfl) rfl (free_list T) (am_cons (em_var 0) am_nil)))
  (ssm_cons (sm_for (vs := [4]) (passes_of rfl) rfl (im_seq (em_bin op_addP (em_var 1) (em_var 2))) (gm_name sc__law_due.nd (by decide)) (ssm_cons (sm_if (PWM.tm (pwm_or (tm_not (tm_val (e_call hf__law_is_word rfl hr (by decide) tk (glo__law_is_word T) rfl (am_cons (em_var 4) am_nil)))) (pwm_or1 (tm_cmp (op_inP hr.units) (em_var 4) (em_var 3))))) (ssm_one (sm_ret (em_tup (am_cons em_str (am_cons (em_var 4) am_nil))))) ssm_nil)
  (ssm_one (sm_expr (em_mut mut_append F.slot_list_append F.type_list_append (em_var 3) (am_cons (em_var 4) am_nil))))))
  (ssm_cons (sm_if (tm_cmp op_gtP (em_blt call_lenP rfl (free_len T) (am_cons (em_var 1) am_nil)) em_int) (ssm_one (sm_ret (em_tup (am_cons em_str (am_cons em_str am_nil))))) ssm_nil)
  (ssm_one (sm_ret (em_if (tm_cmp op_gtP (em_blt call_lenP rfl (free_len T) (am_cons (em_var 2) am_nil)) em_int) (em_tup (am_cons em_str (am_cons em_str am_nil))) em_non)))))))
theorem fun_Form___init__ (T : Tx w K mg) : ∃ fd, FunD K "__init__" "Form.__init__" (defArgs s_Form___init__) (defBody s_Form___init__) (defScope s_Form___init__) [] [("options", V.ref (kwAt ("Form", some "__init__") "options" K)), ("lists", V.ref (kwAt ("Form", some "__init__") "lists" K))] (He.ma K (He.ga K "Form") "__init__") fd := let ⟨_, _, _, c⟩ := T; c.x.t.d.def_ 10 (d := d_Form___init__) rfl
theorem kb_0 {f : Addr} {fd : FuncData} (D : FunD K "__init__" "Form.__init__" (defArgs s_Form___init__) (defBody s_Form___init__) (defScope s_Form___init__) [] [("options", V.ref (kwAt ("Form", some "__init__") "options" K)), ("lists", V.ref (kwAt ("Form", some "__init__") "lists" K))] f fd) : ∃ mv : List Value, KBn K fd p_Form___init__ (1 + 1) ["options", "lists"] (fun us ws => us ++ ws) (fun vs zs => vs ++ zs) :=
  FunD.kbinds0 D (1 + 1) ["options", "lists"] [] (fun us mv ws => us ++ ws) (by simp) (by simp) (fun h1 h2 h3 => h1.append h3) (fun _ _ _ _ _ _ us mv ws l1 l2 l3 => match us, mv, ws, l1, l2, l3 with | [_, _], [], [_, _], _, _, _ => rfl)
theorem kb_1 {f : Addr} {fd : FuncData} (D : FunD K "__init__" "Form.__init__" (defArgs s_Form___init__) (defBody s_Form___init__) (defScope s_Form___init__) [] [("options", V.ref (kwAt ("Form", some "__init__") "options" K)), ("lists", V.ref (kwAt ("Form", some "__init__") "lists" K))] f fd) : ∃ mv : List Value, KBn K fd p_Form___init__ (1 + 1) ["lists"] (fun us ws => us ++ (mv ++ ws)) (fun vs zs => vs ++ (([("options", V.ref (kwAt ("Form", some "__init__") "options" K))].map (·.2)) ++ zs)) :=
  FunD.kbinds0 D (1 + 1) ["lists"] [("options", V.ref (kwAt ("Form", some "__init__") "options" K))] (fun us mv ws => us ++ (mv ++ ws)) (by simp) (by simp) (fun h1 h2 h3 => h1.append (h2.append h3)) (fun _ _ _ _ _ _ us mv ws l1 l2 l3 => match us, mv, ws, l1, l2, l3 with | [_, _], [_], [_], _, _, _ => ⟨_, _, _, _, _, _, rfl, rfl, rfl⟩)
theorem kb_2 {f : Addr} {fd : FuncData} (D : FunD K "__init__" "Form.__init__" (defArgs s_Form___init__) (defBody s_Form___init__) (defScope s_Form___init__) [] [("options", V.ref (kwAt ("Form", some "__init__") "options" K)), ("lists", V.ref (kwAt ("Form", some "__init__") "lists" K))] f fd) : ∃ mv : List Value, KBn K fd p_Form___init__ (1 + 1) [] (fun us ws => us ++ mv) (fun vs zs => vs ++ ([("options", V.ref (kwAt ("Form", some "__init__") "options" K)), ("lists", V.ref (kwAt ("Form", some "__init__") "lists" K))].map (·.2))) :=
  FunD.kbinds0 D (1 + 1) [] [("options", V.ref (kwAt ("Form", some "__init__") "options" K)), ("lists", V.ref (kwAt ("Form", some "__init__") "lists" K))] (fun us mv ws => us ++ mv) (by simp) (by simp) (fun h1 h2 h3 => h1.append h2) (fun _ _ _ _ _ _ us mv ws l1 l2 l3 => match us, mv, ws, l1, l2, l3 with | [_, _], [_, _], [], _, _, _ => ⟨_, _, _, _, _, _, rfl, rfl, ⟨_, _, _, _, _, _, rfl, rfl, rfl⟩⟩)
theorem sc_Form___init__ : FnScope N_Form___init__ p_Form___init__ (defScope s_Form___init__) := ⟨rfl, rfl, rfl, by decide +kernel, rfl, by decide +kernel, by decide +kernel⟩
def t_Form___init___1 (K : PySem.W.Frag) (f_is_word : FW) : SW :=
  (wDrop (wMut mfAppend (wVar 4) (aCons (wVar 5) aNil)))
def b_Form___init___2 (K : PySem.W.Frag) (f_is_word : FW) : SW :=
  (wSeq (wIf (wOr (wNot (wTest (wCall 1 f_is_word (aCons (wVar 5) aNil)))) (wTest (wOp2 rsIn (wVar 5) (wVar 4)))) (wRaise (He.ga K "BadForm") ["name"] (wx_BadForm K) (aCons (wVar 5) aNil)) wSkip)
  (t_Form___init___1 K f_is_word))
def t_Form___init___3 (K : PySem.W.Frag) (f_is_word : FW) : SW :=
  (wSetF ((["Form"] : List Str).map (He.ga K)) "lists" (wVar 0) (wBlt rcTuple (aCons (wVar 3) aNil)))
def t_Form___init___4 (K : PySem.W.Frag) (f_is_word : FW) : SW :=
  (wSeq (wSetF ((["Form"] : List Str).map (He.ga K)) "options" (wVar 0) (wBlt rcTuple (aCons (wVar 2) aNil)))
  (t_Form___init___3 K f_is_word))
def t_Form___init___5 (K : PySem.W.Frag) (f_is_word : FW) : SW :=
  (wSeq (wSetF ((["Form"] : List Str).map (He.ga K)) "table" (wVar 0) (wVar 1))
  (t_Form___init___4 K f_is_word))
def t_Form___init___6 (K : PySem.W.Frag) (f_is_word : FW) : SW :=
  (wSeq (wIf (wTest (wOp2 rsGt (wBlt rcLen (aCons (wVar 3) aNil)) (wC (.int 2)))) (wRaise (He.ga K "TooMany") ["what"] (wx_TooMany K) (aCons (wC (.str "lists")) aNil)) wSkip)
  (t_Form___init___5 K f_is_word))
def t_Form___init___7 (K : PySem.W.Frag) (f_is_word : FW) : SW :=
  (wSeq (wIf (wTest (wOp2 rsGt (wBlt rcLen (aCons (wVar 2) aNil)) (wC (.int 2)))) (wRaise (He.ga K "TooMany") ["what"] (wx_TooMany K) (aCons (wC (.str "options")) aNil)) wSkip)
  (t_Form___init___6 K f_is_word))
def t_Form___init___8 (K : PySem.W.Frag) (f_is_word : FW) : SW :=
  (wSeq (wFor (wSrc (wLst (aStar (wVar 2) (aStar (wVar 3) aNil)))) (gwName 5) (b_Form___init___2 K f_is_word))
  (t_Form___init___7 K f_is_word))
def w_Form___init__ (K : PySem.W.Frag) (f_is_word : FW) : SW :=
  (wSeq (wSet 4 (wBlt rcListS (aCons (wFld ((["Table"] : List Str).map (He.ga K)) "columns" (wVar 1)) aNil)))
  (t_Form___init___8 K f_is_word))
theorem m_Form___init__ {f_is_word : FW} (T : Tx w K mg) (hx_BadForm : XIni P w K mg base 1 (He.ga K "BadForm") ["name"] (wx_BadForm K)) (hx_TooMany : XIni P w K mg base 1 (He.ga K "TooMany") ["what"] (wx_TooMany K)) (hf_is_word : Fn P w K mg base 1 (He.ga K "is_word") p_is_word f_is_word) : IniK P w K mg base 3 (He.ga K "Form") (He.ma K (He.ga K "Form") "__init__") "__init__" "Form.__init__" (defArgs s_Form___init__) (defBody s_Form___init__) (defScope s_Form___init__) [("options", V.ref (kwAt ("Form", some "__init__") "options" K)), ("lists", V.ref (kwAt ("Form", some "__init__") "lists" K))] p_Form___init__ 3 (fwI (He.ga K "Form") 6 3 (w_Form___init__ K f_is_word)) := by
  unfold w_Form___init__ t_Form___init___8 t_Form___init___7 t_Form___init___6 t_Form___init___5 t_Form___init___4 t_Form___init___3 b_Form___init___2 t_Form___init___1
  exact iniK_def (N := N_Form___init__) (ps := p_Form___init__) (k := 2) (fun_Form___init__ T) sc_Form___init__ rfl (mkr_Form T) (fun cdv A outer s H E hr tk =>
  (ssm_cons (sm_set sc_Form___init__.nd (em_ty (call_listSP rfl) rfl (free_list T) (am_cons (em_fld (fld_columns T) (em_var 1)) am_nil)))
  (ssm_cons (sm_for (vs := [5]) (passes_of rfl) rfl (im_seq (em_lst (am_star (em_var 2) (am_star (em_var 3) am_nil)))) (gm_name sc_Form___init__.nd (by decide)) (ssm_cons (sm_if (PWM.tm (pwm_or (tm_not (tm_val (e_call hf_is_word rfl hr (by decide) tk (glo_is_word T) rfl (am_cons (em_var 5) am_nil)))) (pwm_or1 (tm_cmp (op_inP hr.units) (em_var 5) (em_var 4))))) (ssm_one (sm_raise hx_BadForm rfl tk hr (by decide) (glo_BadForm T) rfl (am_cons (em_var 5) am_nil))) ssm_nil)
  (ssm_one (sm_expr (em_mut mut_append F.slot_list_append F.type_list_append (em_var 4) (am_cons (em_var 5) am_nil))))))
  (ssm_cons (sm_if (tm_cmp op_gtP (em_blt call_lenP rfl (free_len T) (am_cons (em_var 2) am_nil)) (em_cval (cval_Form_OPTIONS T) (glo_Form T) rfl)) (ssm_one (sm_raise hx_TooMany rfl tk hr (by decide) (glo_TooMany T) rfl (am_cons em_str am_nil))) ssm_nil)
  (ssm_cons (sm_if (tm_cmp op_gtP (em_blt call_lenP rfl (free_len T) (am_cons (em_var 3) am_nil)) (em_cval (cval_Form_LISTS T) (glo_Form T) rfl)) (ssm_one (sm_raise hx_TooMany rfl tk hr (by decide) (glo_TooMany T) rfl (am_cons em_str am_nil))) ssm_nil)
  (ssm_cons (sm_fld (fld_table T) (em_var 0) (em_var 1))
  (ssm_cons (sm_fld (fld_options T) (em_var 0) (em_ty call_tupleP rfl (free_tuple T) (am_cons (em_var 2) am_nil)))
  (ssm_one (sm_fld (fld_lists T) (em_var 0) (em_ty call_tupleP rfl (free_tuple T) (am_cons (em_var 3) am_nil)))))))))))
theorem fun__law_told (T : Tx w K mg) : ∃ fd, FunD K "_law_told" "_law_told" (defArgs s__law_told) (defBody s__law_told) (defScope s__law_told) [] [] (He.ga K "_law_told") fd := let ⟨_, _, _, c⟩ := T; c.x.t.d.def_ 11 (d := d__law_told) rfl
theorem sc__law_told : FnScope N__law_told p__law_told (defScope s__law_told) := ⟨rfl, rfl, rfl, by decide +kernel, rfl, by decide +kernel, by decide +kernel⟩
def t__law_told_1 (K : PySem.W.Frag) (f_Form___init__ : FW) (a : Addr) (cls : Value) (d : Option Addr) : SW :=
  (wRet (wIfE (wTest (wVar 4)) (wTup (aCons (wC (.str "form")) (aCons (wExf a cls d (He.ga K "BadForm") 3 "name") aNil))) (wC (.str "class"))))
def ws__law_told_2 (K : PySem.W.Frag) (f_Form___init__ : FW) (a : Addr) (cls : Value) (d : Option Addr) : SW :=
  (wSeq (wSet 4 (wAndV (wExI a cls d (He.ga K "BadForm") true 3) (wNotV (wExI a cls d (He.ga K "BadForm") false 3))))
  (t__law_told_1 K f_Form___init__ a cls d))
def t__law_told_3 (K : PySem.W.Frag) (f_Form___init__ : FW) (a : Addr) (cls : Value) (d : Option Addr) : SW :=
  (wRet (wIfE (wTest (wVar 4)) (wTup (aCons (wC (.str "many")) (aCons (wExf a cls d (He.ga K "TooMany") 3 "what") aNil))) (wC (.str "class"))))
def ws__law_told_4 (K : PySem.W.Frag) (f_Form___init__ : FW) (a : Addr) (cls : Value) (d : Option Addr) : SW :=
  (wSeq (wSet 4 (wAndV (wExI a cls d (He.ga K "TooMany") true 3) (wNotV (wExI a cls d (He.ga K "TooMany") false 3))))
  (t__law_told_3 K f_Form___init__ a cls d))
def t__law_told_5 (K : PySem.W.Frag) (f_Form___init__ : FW) : SW :=
  (wRet (wC .non))
def w__law_told (K : PySem.W.Frag) (f_Form___init__ : FW) : SW :=
  (wSeq (wTryL (wDrop (wMakeK 1 2 (fun _ b => b) [] f_Form___init__ (aCons (wVar 0) aNil) (aCons (wVar 1) (aCons (wVar 2) aNil)))) [⟨fun C => PySem.W.exmOne K (.ref C) (.ref (He.ga K "BadForm")), 3, (ws__law_told_2 K f_Form___init__)⟩, ⟨fun C => PySem.W.exmOne K (.ref C) (.ref (He.ga K "TooMany")), 3, (ws__law_told_4 K f_Form___init__)⟩])
  (t__law_told_5 K f_Form___init__))
theorem m__law_told {f_Form___init__ : FW} (T : Tx w K mg) (hf_Form___init__ : IniK P w K mg base 3 (He.ga K "Form") (He.ma K (He.ga K "Form") "__init__") "__init__" "Form.__init__" (defArgs s_Form___init__) (defBody s_Form___init__) (defScope s_Form___init__) [("options", V.ref (kwAt ("Form", some "__init__") "options" K)), ("lists", V.ref (kwAt ("Form", some "__init__") "lists" K))] p_Form___init__ 3 f_Form___init__) : Fn P w K mg base 5 (He.ga K "_law_told") p__law_told (fwOf 5 3 (w__law_told K f_Form___init__)) := by
  unfold w__law_told t__law_told_5 ws__law_told_4 t__law_told_3 ws__law_told_2 t__law_told_1
  exact fn_def (N := N__law_told) (ps := p__law_told) (k := 4) (fun__law_told T) sc__law_told (fun _ _ _ _ _ _ us hl => match us, hl with | [_, _, _], _ => rfl) (fun cdv A outer s H E hr tk =>
  (ssm_cons (sm_tryL rfl rfl sc__law_told.nd tk (.cons (i := 3) rfl rfl ⟨rfl, by decide, .inl (glo_BadForm T)⟩ (fun a oe cls d pn z f => (ssm_cons (sm_set sc__law_told.nd (em_and (em_exI (i := 3) (c := .ref (He.ga K "EmptyfiltersError")) (catB_ok (cat_BadForm T)).1 z f (pe_glob rfl (glo_EmptyfiltersError T) rfl (by decide)) (fun u h => gval h) (kitOB_ok (kitO_BadForm_EmptyfiltersError T)) (free_isinstance T) rfl) (em_one (em_not (em_exIT (i := 3) (cs := [.ref (He.ga K "BadColumn"), .ref (He.ga K "TooMany")]) (cvs := [.ref (He.ga K "BadColumn"), .ref (He.ga K "TooMany")]) (catB_ok (cat_BadForm T)).1 z f (gnames2 rfl (glo_BadColumn T) (by decide) rfl (glo_TooMany T) (by decide)) (fun us h => gvals2 h) (show 2 ≤ sizeLine by decide) (kitAB_ok (kitA_BadForm_BadColumn_TooMany T)) (free_isinstance T) rfl)))))
  (ssm_one (sm_ret (em_if (tm_val (em_var 4)) (em_tup (am_cons em_str (am_cons (em_exf (i := 3) (catB_ok (cat_BadForm T)).2 ((excB_ok (exc_BadForm T)).1.no _ (by decide)) z f) am_nil))) em_str))))) (.cons (i := 3) rfl rfl ⟨rfl, by decide, .inl (glo_TooMany T)⟩ (fun a oe cls d pn z f => (ssm_cons (sm_set sc__law_told.nd (em_and (em_exI (i := 3) (c := .ref (He.ga K "EmptyfiltersError")) (catB_ok (cat_TooMany T)).1 z f (pe_glob rfl (glo_EmptyfiltersError T) rfl (by decide)) (fun u h => gval h) (kitOB_ok (kitO_TooMany_EmptyfiltersError T)) (free_isinstance T) rfl) (em_one (em_not (em_exI (i := 3) (c := .ref (He.ga K "TooManyRows")) (catB_ok (cat_TooMany T)).1 z f (pe_glob rfl (glo_TooManyRows T) rfl (by decide)) (fun u h => gval h) (kitOB_ok (kitO_TooMany_TooManyRows T)) (free_isinstance T) rfl)))))
  (ssm_one (sm_ret (em_if (tm_val (em_var 4)) (em_tup (am_cons em_str (am_cons (em_exf (i := 3) (catB_ok (cat_TooMany T)).2 ((excB_ok (exc_TooMany T)).1.no _ (by decide)) z f) am_nil))) em_str))))) .nil)) (fun W1 pn1 xe1 tk1 ps1 => (ssm_one (sm_expr (e_makeK (n := 1) (m := 2) (N := 3) (arr := fun _ b => b) (ds := []) hf_Form___init__ hr (by decide) tk1 (glo_Form T) rfl (fun fd D => kb_0 D) (Paired.nil) rfl (fun h1 h2 => by simp [h1, h2]) (fun _ g => g) (am_cons (em_var 0) am_nil) (km_cons (em_var 1) (km_cons (em_var 2) km_nil)))))))
  (ssm_one (sm_ret em_non))))
theorem fun_Table___eq__ (T : Tx w K mg) : ∃ fd, FunD K "__eq__" "Table.__eq__" (defArgs s_Table___eq__) (defBody s_Table___eq__) (defScope s_Table___eq__) [] [] (He.ma K (He.ga K "Table") "__eq__") fd := let ⟨_, _, _, c⟩ := T; c.x.t.d.def_ 12 (d := d_Table___eq__) rfl
theorem sc_Table___eq__ : FnScope N_Table___eq__ p_Table___eq__ (defScope s_Table___eq__) := ⟨rfl, rfl, rfl, by decide +kernel, rfl, by decide +kernel, by decide +kernel⟩
def w_Table___eq__ (K : PySem.W.Frag)  : SW :=
  (wRet (wAndV (wIsi (fCls K isi_ds_Table) (wVar 1)) (wOp2 rsEq (wFld ((["Table"] : List Str).map (He.ga K)) "columns" (wVar 0)) (wFld ((["Table"] : List Str).map (He.ga K)) "columns" (wVar 1)))))
theorem m_Table___eq__  (T : Tx w K mg)  : Mth P w K mg base 1 (He.ga K "Table") "__eq__" p_Table___eq__ (fwOf 2 2 (w_Table___eq__ K )) := by
  unfold w_Table___eq__
  exact mth_def (N := N_Table___eq__) (ps := p_Table___eq__) (k := 0) (fun_Table___eq__ T) sc_Table___eq__ (cls_Table T) (meth_Table___eq__ T) (fun _ _ _ _ _ _ us hl => match us, hl with | [_, _], _ => rfl) (fun cdv A outer s H E hr tk =>
  (ssm_one (sm_ret (em_and (e_isiC (free_isinstance T) (glo_Table T) (isi_Table T) rfl rfl (em_var 1)) (em_one (em_cmp (op_eqP hr.units) (em_fld (fld_columns T) (em_var 0)) (em_fld (fld_columns T) (em_var 1))))))))
theorem fun__law_is_form (T : Tx w K mg) : ∃ fd, FunD K "_law_is_form" "_law_is_form" (defArgs s__law_is_form) (defBody s__law_is_form) (defScope s__law_is_form) [] [] (He.ga K "_law_is_form") fd := let ⟨_, _, _, c⟩ := T; c.x.t.d.def_ 13 (d := d__law_is_form) rfl
theorem sc__law_is_form : FnScope N__law_is_form p__law_is_form (defScope s__law_is_form) := ⟨rfl, rfl, rfl, by decide +kernel, rfl, by decide +kernel, by decide +kernel⟩
def t__law_is_form_1 (K : PySem.W.Frag) (f_Table___init__ : FW) (f_Table___eq__ : FW) : SW :=
  (wRet (wAndV (wIsi fTup (wFld ((["Form"] : List Str).map (He.ga K)) "options" (wVar 0))) (wAndV (wIsi fTup (wFld ((["Form"] : List Str).map (He.ga K)) "lists" (wVar 0))) (wAndV (wOp2 rsEq (wFldC (He.ga K "Form") "OPTIONS" (.int 2) (wVar 0)) (wC (.int 2))) (wOp2 rsEq (wFldC (He.ga K "Form") "LISTS" (.int 2) (wVar 0)) (wC (.int 2)))))))
def w__law_is_form (K : PySem.W.Frag) (f_Table___init__ : FW) (f_Table___eq__ : FW) : SW :=
  (wSeq (wIf (wOr (wNot (wTest (wEqO id (He.ga K "Table") ((["Table"] : List Str).map (He.ga K)) f_Table___eq__ (wFld ((["Form"] : List Str).map (He.ga K)) "table" (wVar 0)) (wCall 1 f_Table___init__ (aCons (wVar 1) aNil))))) (wOr (wTest (wOp2 rsNe (wFld ((["Form"] : List Str).map (He.ga K)) "options" (wVar 0)) (wBlt rcTuple (aCons (wVar 2) aNil)))) (wTest (wOp2 rsNe (wFld ((["Form"] : List Str).map (He.ga K)) "lists" (wVar 0)) (wBlt rcTuple (aCons (wVar 3) aNil)))))) (wRet (wC (.bl false))) wSkip)
  (t__law_is_form_1 K f_Table___init__ f_Table___eq__))
theorem m__law_is_form {f_Table___init__ : FW} {f_Table___eq__ : FW} (T : Tx w K mg) (hf_Table___init__ : Ini P w K mg base 2 (He.ga K "Table") 1 f_Table___init__) (hf_Table___eq__ : Mth P w K mg base 1 (He.ga K "Table") "__eq__" p_Table___eq__ f_Table___eq__) : Fn P w K mg base 4 (He.ga K "_law_is_form") p__law_is_form (fwOf 4 4 (w__law_is_form K f_Table___init__ f_Table___eq__)) := by
  unfold w__law_is_form t__law_is_form_1
  exact fn_def (N := N__law_is_form) (ps := p__law_is_form) (k := 3) (fun__law_is_form T) sc__law_is_form (fun _ _ _ _ _ _ us hl => match us, hl with | [_, _, _, _], _ => rfl) (fun cdv A outer s H E hr tk =>
  (ssm_cons (sm_if (PWM.tm (pwm_or (tm_not (tm_eqO (nf_Table T) (o_eqO hf_Table___eq__ rfl hr (by decide)) (em_fld (fld_table T) (em_var 0)) (e_make hf_Table___init__ hr (by decide) tk (glo_Table T) rfl (am_cons (em_var 1) am_nil)))) (pwm_or (tm_cmp (op_neP hr.units) (em_fld (fld_options T) (em_var 0)) (em_ty call_tupleP rfl (free_tuple T) (am_cons (em_var 2) am_nil))) (pwm_or1 (tm_cmp (op_neP hr.units) (em_fld (fld_lists T) (em_var 0)) (em_ty call_tupleP rfl (free_tuple T) (am_cons (em_var 3) am_nil))))))) (ssm_one (sm_ret em_bl)) ssm_nil)
  (ssm_one (sm_ret (em_and (e_isiT (T := "tuple") (free_isinstance T) (free_tuple T) isi_tup rfl rfl (em_fld (fld_options T) (em_var 0))) (em_and (e_isiT (T := "tuple") (free_isinstance T) (free_tuple T) isi_tup rfl rfl (em_fld (fld_lists T) (em_var 0))) (em_and (em_cmp (op_eqP hr.units) (em_con (conB_Form_OPTIONS T) (cls_Form T) (em_var 0)) em_int) (em_one (em_cmp (op_eqP hr.units) (em_con (conB_Form_LISTS T) (cls_Form T) (em_var 0)) em_int)))))))))
theorem fun_Form___eq__ (T : Tx w K mg) : ∃ fd, FunD K "__eq__" "Form.__eq__" (defArgs s_Form___eq__) (defBody s_Form___eq__) (defScope s_Form___eq__) [] [] (He.ma K (He.ga K "Form") "__eq__") fd := let ⟨_, _, _, c⟩ := T; c.x.t.d.def_ 14 (d := d_Form___eq__) rfl
theorem sc_Form___eq__ : FnScope N_Form___eq__ p_Form___eq__ (defScope s_Form___eq__) := ⟨rfl, rfl, rfl, by decide +kernel, rfl, by decide +kernel, by decide +kernel⟩
def t_Form___eq___1 (K : PySem.W.Frag) (f_Table___eq__ : FW) : SW :=
  (wRet (wAndV (wEqO id (He.ga K "Table") ((["Table"] : List Str).map (He.ga K)) f_Table___eq__ (wFld ((["Form"] : List Str).map (He.ga K)) "table" (wVar 0)) (wFld ((["Form"] : List Str).map (He.ga K)) "table" (wVar 1))) (wAndV (wOp2 rsEq (wFld ((["Form"] : List Str).map (He.ga K)) "options" (wVar 0)) (wFld ((["Form"] : List Str).map (He.ga K)) "options" (wVar 1))) (wOp2 rsEq (wFld ((["Form"] : List Str).map (He.ga K)) "lists" (wVar 0)) (wFld ((["Form"] : List Str).map (He.ga K)) "lists" (wVar 1))))))
def w_Form___eq__ (K : PySem.W.Frag) (f_Table___eq__ : FW) : SW :=
  (wSeq (wIf (wNot (wTest (wIsi (fCls K isi_ds_Form) (wVar 1)))) (wRet (wC (.bl false))) wSkip)
  (t_Form___eq___1 K f_Table___eq__))
theorem m_Form___eq__ {f_Table___eq__ : FW} (T : Tx w K mg) (hf_Table___eq__ : Mth P w K mg base 1 (He.ga K "Table") "__eq__" p_Table___eq__ f_Table___eq__) : Mth P w K mg base 2 (He.ga K "Form") "__eq__" p_Form___eq__ (fwOf 2 2 (w_Form___eq__ K f_Table___eq__)) := by
  unfold w_Form___eq__ t_Form___eq___1
  exact mth_def (N := N_Form___eq__) (ps := p_Form___eq__) (k := 1) (fun_Form___eq__ T) sc_Form___eq__ (cls_Form T) (meth_Form___eq__ T) (fun _ _ _ _ _ _ us hl => match us, hl with | [_, _], _ => rfl) (fun cdv A outer s H E hr tk =>
  (ssm_cons (sm_if (tm_not (tm_val (e_isiC (free_isinstance T) (glo_Form T) (isi_Form T) rfl rfl (em_var 1)))) (ssm_one (sm_ret em_bl)) ssm_nil)
  (ssm_one (sm_ret (em_and (em_eqO (nf_Table T) (o_eqO hf_Table___eq__ rfl hr (by decide)) (em_fld (fld_table T) (em_var 0)) (em_fld (fld_table T) (em_var 1))) (em_and (em_cmp (op_eqP hr.units) (em_fld (fld_options T) (em_var 0)) (em_fld (fld_options T) (em_var 1))) (em_one (em_cmp (op_eqP hr.units) (em_fld (fld_lists T) (em_var 0)) (em_fld (fld_lists T) (em_var 1))))))))))
theorem fun_law (T : Tx w K mg) : ∃ fd, FunD K "law" "law" (defArgs s_law) (defBody s_law) (defScope s_law) [] [] (He.ga K "law") fd := let ⟨_, _, _, c⟩ := T; c.x.t.d.def_ 15 (d := d_law) rfl
theorem sc_law : FnScope N_law p_law (defScope s_law) := ⟨rfl, rfl, rfl, by decide +kernel, rfl, by decide +kernel, by decide +kernel⟩
def b_law_1 (K : PySem.W.Frag) (f__law_bag : FW) (f__law_of : FW) (f_Table___init__ : FW) (f__law_words : FW) (f__law_spoilt : FW) (f__law_due : FW) (f__law_told : FW) (f__law_take : FW) (f_Form___init__ : FW) (f__law_is_form : FW) (f_Form___eq__ : FW) : SW :=
  (wSet 6 (wKp (wCall 3 f__law_spoilt (aCons (wVar 2) (aCons (wVar 6) (aCons (wVar 3) aNil))))))
def t_law_2 (K : PySem.W.Frag) (f__law_bag : FW) (f__law_of : FW) (f_Table___init__ : FW) (f__law_words : FW) (f__law_spoilt : FW) (f__law_due : FW) (f__law_told : FW) (f__law_take : FW) (f_Form___init__ : FW) (f__law_is_form : FW) (f_Form___eq__ : FW) : SW :=
  (wIf (wOr (wAnd (wTest (wEqO id (He.ga K "Form") ((["Form", "Table"] : List Str).map (He.ga K)) f_Form___eq__ (wVar 15) (wMakeK 1 1 (fun a b => a ++ b) [.val (.tup [])] f_Form___init__ (aCons (wVar 4) aNil) (aCons (wVar 12) aNil)))) (wTest (wOp2 rsNe (wVar 11) (wLst aNil)))) (wOr (wTest (wEqO id (He.ga K "Form") ((["Form", "Table"] : List Str).map (He.ga K)) f_Form___eq__ (wVar 15) (wVar 4))) (wTest (wEqO id (He.ga K "Form") ((["Form", "Table"] : List Str).map (He.ga K)) f_Form___eq__ (wVar 15) (wBlt rcTuple (aCons (wVar 11) aNil)))))) (wRet (wC (.bl false))) wSkip)
def t_law_3 (K : PySem.W.Frag) (f__law_bag : FW) (f__law_of : FW) (f_Table___init__ : FW) (f__law_words : FW) (f__law_spoilt : FW) (f__law_due : FW) (f__law_told : FW) (f__law_take : FW) (f_Form___init__ : FW) (f__law_is_form : FW) (f_Form___eq__ : FW) : SW :=
  (wSeq (wIf (wTest (wOp2 rsNe (wEqO id (He.ga K "Form") ((["Form", "Table"] : List Str).map (He.ga K)) f_Form___eq__ (wVar 15) (wVar 16)) (wAndV (wOp2 rsEq (wVar 11) (wRev (wVar 11))) (wOp2 rsEq (wVar 12) (wRev (wVar 12)))))) (wRet (wC (.bl false))) wSkip)
  (t_law_2 K f__law_bag f__law_of f_Table___init__ f__law_words f__law_spoilt f__law_due f__law_told f__law_take f_Form___init__ f__law_is_form f_Form___eq__))
def t_law_4 (K : PySem.W.Frag) (f__law_bag : FW) (f__law_of : FW) (f_Table___init__ : FW) (f__law_words : FW) (f__law_spoilt : FW) (f__law_due : FW) (f__law_told : FW) (f__law_take : FW) (f_Form___init__ : FW) (f__law_is_form : FW) (f_Form___eq__ : FW) : SW :=
  (wSeq (wSet 16 (wMakeK 1 2 (fun _ b => b) [] f_Form___init__ (aCons (wCall 1 f_Table___init__ (aCons (wVar 3) aNil)) aNil) (aCons (wRevT (wBlt rcTuple (aCons (wVar 11) aNil))) (aCons (wRev (wVar 12)) aNil))))
  (t_law_3 K f__law_bag f__law_of f_Table___init__ f__law_words f__law_spoilt f__law_due f__law_told f__law_take f_Form___init__ f__law_is_form f_Form___eq__))
def t_law_5 (K : PySem.W.Frag) (f__law_bag : FW) (f__law_of : FW) (f_Table___init__ : FW) (f__law_words : FW) (f__law_spoilt : FW) (f__law_due : FW) (f__law_told : FW) (f__law_take : FW) (f_Form___init__ : FW) (f__law_is_form : FW) (f_Form___eq__ : FW) : SW :=
  (wSeq (wIf (wNot (wTest (wCall 4 f__law_is_form (aCons (wVar 15) (aCons (wVar 3) (aCons (wVar 11) (aCons (wVar 12) aNil))))))) (wRet (wC (.bl false))) wSkip)
  (t_law_4 K f__law_bag f__law_of f_Table___init__ f__law_words f__law_spoilt f__law_due f__law_told f__law_take f_Form___init__ f__law_is_form f_Form___eq__))
def t_law_6 (K : PySem.W.Frag) (f__law_bag : FW) (f__law_of : FW) (f_Table___init__ : FW) (f__law_words : FW) (f__law_spoilt : FW) (f__law_due : FW) (f__law_told : FW) (f__law_take : FW) (f_Form___init__ : FW) (f__law_is_form : FW) (f_Form___eq__ : FW) : SW :=
  (wSeq (wDrop (wMut mfAppend (wVar 13) (aCons (wC (.str "other")) aNil)))
  (t_law_5 K f__law_bag f__law_of f_Table___init__ f__law_words f__law_spoilt f__law_due f__law_told f__law_take f_Form___init__ f__law_is_form f_Form___eq__))
def t_law_7 (K : PySem.W.Frag) (f__law_bag : FW) (f__law_of : FW) (f_Table___init__ : FW) (f__law_words : FW) (f__law_spoilt : FW) (f__law_due : FW) (f__law_told : FW) (f__law_take : FW) (f_Form___init__ : FW) (f__law_is_form : FW) (f_Form___eq__ : FW) : SW :=
  (wIf (wTest (wOp2 rsIsN (wVar 14) (wC .non))) (wSeq (wSet 15 (wMakeK 1 2 (fun _ b => b) [] f_Form___init__ (aCons (wVar 4) aNil) (aCons (wVar 13) (aCons (wBlt rcTuple (aCons (wVar 12) aNil)) aNil))))
  (t_law_6 K f__law_bag f__law_of f_Table___init__ f__law_words f__law_spoilt f__law_due f__law_told f__law_take f_Form___init__ f__law_is_form f_Form___eq__)) wSkip)
def t_law_8 (K : PySem.W.Frag) (f__law_bag : FW) (f__law_of : FW) (f_Table___init__ : FW) (f__law_words : FW) (f__law_spoilt : FW) (f__law_due : FW) (f__law_told : FW) (f__law_take : FW) (f_Form___init__ : FW) (f__law_is_form : FW) (f_Form___eq__ : FW) : SW :=
  (wSeq (wIf (wOr (wTest (wOp2 rsNe (wBlt rcReprA (aCons (wVar 8) aNil)) (wBlt rcReprA (aCons (wVar 14) aNil)))) (wTest (wOp2 rsNe (wBlt rcReprA (aCons (wOp2 rsAdd (wVar 13) (wVar 12)) aNil)) (wBlt rcReprA (aCons (wVar 6) aNil))))) (wRet (wC (.bl false))) wSkip)
  (t_law_7 K f__law_bag f__law_of f_Table___init__ f__law_words f__law_spoilt f__law_due f__law_told f__law_take f_Form___init__ f__law_is_form f_Form___eq__))
def t_law_9 (K : PySem.W.Frag) (f__law_bag : FW) (f__law_of : FW) (f_Table___init__ : FW) (f__law_words : FW) (f__law_spoilt : FW) (f__law_due : FW) (f__law_told : FW) (f__law_take : FW) (f_Form___init__ : FW) (f__law_is_form : FW) (f_Form___eq__ : FW) : SW :=
  (wSeq (wSet 8 (wCall 3 f__law_told (aCons (wVar 4) (aCons (wIfE (wTest (wOp2 rsEq (wCall 2 f__law_take (aCons (wVar 2) (aCons (wC (.int 2)) aNil))) (wC (.int 0)))) (wVar 13) (wBlt rcTuple (aCons (wVar 11) aNil))) (aCons (wVar 12) aNil)))))
  (t_law_8 K f__law_bag f__law_of f_Table___init__ f__law_words f__law_spoilt f__law_due f__law_told f__law_take f_Form___init__ f__law_is_form f_Form___eq__))
def t_law_10 (K : PySem.W.Frag) (f__law_bag : FW) (f__law_of : FW) (f_Table___init__ : FW) (f__law_words : FW) (f__law_spoilt : FW) (f__law_due : FW) (f__law_told : FW) (f__law_take : FW) (f_Form___init__ : FW) (f__law_is_form : FW) (f_Form___eq__ : FW) : SW :=
  (wSeq (wParN [13, 14] (aConsF (wBlt rcListS (aCons (wVar 11) aNil)) (aConsF (wCall 3 f__law_due (aCons (wVar 3) (aCons (wVar 11) (aCons (wVar 12) aNil)))) aNil)))
  (t_law_9 K f__law_bag f__law_of f_Table___init__ f__law_words f__law_spoilt f__law_due f__law_told f__law_take f_Form___init__ f__law_is_form f_Form___eq__))
def t_law_11 (K : PySem.W.Frag) (f__law_bag : FW) (f__law_of : FW) (f_Table___init__ : FW) (f__law_words : FW) (f__law_spoilt : FW) (f__law_due : FW) (f__law_told : FW) (f__law_take : FW) (f_Form___init__ : FW) (f__law_is_form : FW) (f_Form___eq__ : FW) : SW :=
  (wSeq (wParN [11, 12] (aConsF (wKp (wSl (wVar 6) oNo (oOf (wVar 9)))) (aConsF (wKp (wSl (wVar 6) (oOf (wVar 9)) oNo)) aNil)))
  (t_law_10 K f__law_bag f__law_of f_Table___init__ f__law_words f__law_spoilt f__law_due f__law_told f__law_take f_Form___init__ f__law_is_form f_Form___eq__))
def t_law_12 (K : PySem.W.Frag) (f__law_bag : FW) (f__law_of : FW) (f_Table___init__ : FW) (f__law_words : FW) (f__law_spoilt : FW) (f__law_due : FW) (f__law_told : FW) (f__law_take : FW) (f_Form___init__ : FW) (f__law_is_form : FW) (f_Form___eq__ : FW) : SW :=
  (wSeq (wFor (wRng1 (wIfE (wTest (wOp2 rsNe (wVar 6) (wLst aNil))) (wCall 2 f__law_of (aCons (wVar 2) (aCons (wLstC [.int 0, .int 0, .int 1, .int 2]) aNil))) (wC (.int 0)))) (gwName 7) (b_law_1 K f__law_bag f__law_of f_Table___init__ f__law_words f__law_spoilt f__law_due f__law_told f__law_take f_Form___init__ f__law_is_form f_Form___eq__))
  (t_law_11 K f__law_bag f__law_of f_Table___init__ f__law_words f__law_spoilt f__law_due f__law_told f__law_take f_Form___init__ f__law_is_form f_Form___eq__))
def t_law_13 (K : PySem.W.Frag) (f__law_bag : FW) (f__law_of : FW) (f_Table___init__ : FW) (f__law_words : FW) (f__law_spoilt : FW) (f__law_due : FW) (f__law_told : FW) (f__law_take : FW) (f_Form___init__ : FW) (f__law_is_form : FW) (f_Form___eq__ : FW) : SW :=
  (wSeq (wSet 6 (wKp (wSl (wVar 6) oNo (oOf (wOp2 rsAdd (wVar 9) (wVar 10))))))
  (t_law_12 K f__law_bag f__law_of f_Table___init__ f__law_words f__law_spoilt f__law_due f__law_told f__law_take f_Form___init__ f__law_is_form f_Form___eq__))
def t_law_14 (K : PySem.W.Frag) (f__law_bag : FW) (f__law_of : FW) (f_Table___init__ : FW) (f__law_words : FW) (f__law_spoilt : FW) (f__law_due : FW) (f__law_told : FW) (f__law_take : FW) (f_Form___init__ : FW) (f__law_is_form : FW) (f_Form___eq__ : FW) : SW :=
  (wSeq (wParN [9, 10] (aConsF (wCall 2 f__law_of (aCons (wVar 2) (aCons (wLstC [.int 0, .int 1, .int 1, .int 2, .int 2, .int 2, .int 3, .int 4]) aNil))) (aConsF (wCall 2 f__law_of (aCons (wVar 2) (aCons (wLstC [.int 0, .int 1, .int 1, .int 2, .int 2, .int 2, .int 3, .int 4]) aNil))) aNil)))
  (t_law_13 K f__law_bag f__law_of f_Table___init__ f__law_words f__law_spoilt f__law_due f__law_told f__law_take f_Form___init__ f__law_is_form f_Form___eq__))
def b_law_15 (K : PySem.W.Frag) (f__law_bag : FW) (f__law_of : FW) (f_Table___init__ : FW) (f__law_words : FW) (f__law_spoilt : FW) (f__law_due : FW) (f__law_told : FW) (f__law_take : FW) (f_Form___init__ : FW) (f__law_is_form : FW) (f_Form___eq__ : FW) : SW :=
  (wSeq (wSet 6 (wKp (wCall 2 f__law_words (aCons (wVar 2) (aCons (wC (.int 8)) aNil)))))
  (t_law_14 K f__law_bag f__law_of f_Table___init__ f__law_words f__law_spoilt f__law_due f__law_told f__law_take f_Form___init__ f__law_is_form f_Form___eq__))
def t_law_16 (K : PySem.W.Frag) (f__law_bag : FW) (f__law_of : FW) (f_Table___init__ : FW) (f__law_words : FW) (f__law_spoilt : FW) (f__law_due : FW) (f__law_told : FW) (f__law_take : FW) (f_Form___init__ : FW) (f__law_is_form : FW) (f_Form___eq__ : FW) : SW :=
  (wIf (wOr (wTest (wOp2 rsNe (wC (.int 2)) (wC (.int 2)))) (wOr (wTest (wOp2 rsNe (wC (.int 2)) (wC (.int 2)))) (wNot (wTest (wCall 4 f__law_is_form (aCons (wMakeK 1 0 (fun a _ => a) [.val (.tup []), .val (.tup [])] f_Form___init__ (aCons (wVar 4) aNil) aNil) (aCons (wVar 3) (aCons (wLst aNil) (aCons (wLst aNil) aNil))))))))) (wRet (wC (.bl false))) wSkip)
def t_law_17 (K : PySem.W.Frag) (f__law_bag : FW) (f__law_of : FW) (f_Table___init__ : FW) (f__law_words : FW) (f__law_spoilt : FW) (f__law_due : FW) (f__law_told : FW) (f__law_take : FW) (f_Form___init__ : FW) (f__law_is_form : FW) (f_Form___eq__ : FW) : SW :=
  (wSeq (wIf (wOr (wTest (wEqO id (He.ga K "Form") ((["Form", "Table"] : List Str).map (He.ga K)) f_Form___eq__ (wMakeK 1 0 (fun a _ => a) [.val (.tup []), .val (.tup [])] f_Form___init__ (aCons (wVar 4) aNil) aNil) (wMakeK 1 0 (fun a _ => a) [.val (.tup []), .val (.tup [])] f_Form___init__ (aCons (wCall 1 f_Table___init__ (aCons (wLst (aCons (wC (.str "x")) aNil)) aNil)) aNil) aNil))) (wNot (wTest (wEqO id (He.ga K "Form") ((["Form", "Table"] : List Str).map (He.ga K)) f_Form___eq__ (wMakeK 1 0 (fun a _ => a) [.val (.tup []), .val (.tup [])] f_Form___init__ (aCons (wVar 4) aNil) aNil) (wMakeK 1 2 (fun _ b => b) [] f_Form___init__ (aCons (wCall 1 f_Table___init__ (aCons (wVar 3) aNil)) aNil) (aCons (wLst aNil) (aCons (wTup aNil) aNil))))))) (wRet (wC (.bl false))) wSkip)
  (t_law_16 K f__law_bag f__law_of f_Table___init__ f__law_words f__law_spoilt f__law_due f__law_told f__law_take f_Form___init__ f__law_is_form f_Form___eq__))
def t_law_18 (K : PySem.W.Frag) (f__law_bag : FW) (f__law_of : FW) (f_Table___init__ : FW) (f__law_words : FW) (f__law_spoilt : FW) (f__law_due : FW) (f__law_told : FW) (f__law_take : FW) (f_Form___init__ : FW) (f__law_is_form : FW) (f_Form___eq__ : FW) : SW :=
  (wSeq (wFor (wRng1 (wC (.int 3))) (gwName 5) (b_law_15 K f__law_bag f__law_of f_Table___init__ f__law_words f__law_spoilt f__law_due f__law_told f__law_take f_Form___init__ f__law_is_form f_Form___eq__))
  (t_law_17 K f__law_bag f__law_of f_Table___init__ f__law_words f__law_spoilt f__law_due f__law_told f__law_take f_Form___init__ f__law_is_form f_Form___eq__))
def t_law_19 (K : PySem.W.Frag) (f__law_bag : FW) (f__law_of : FW) (f_Table___init__ : FW) (f__law_words : FW) (f__law_spoilt : FW) (f__law_due : FW) (f__law_told : FW) (f__law_take : FW) (f_Form___init__ : FW) (f__law_is_form : FW) (f_Form___eq__ : FW) : SW :=
  (wSeq (wSet 4 (wKp (wCall 1 f_Table___init__ (aCons (wVar 3) aNil))))
  (t_law_18 K f__law_bag f__law_of f_Table___init__ f__law_words f__law_spoilt f__law_due f__law_told f__law_take f_Form___init__ f__law_is_form f_Form___eq__))
def t_law_20 (K : PySem.W.Frag) (f__law_bag : FW) (f__law_of : FW) (f_Table___init__ : FW) (f__law_words : FW) (f__law_spoilt : FW) (f__law_due : FW) (f__law_told : FW) (f__law_take : FW) (f_Form___init__ : FW) (f__law_is_form : FW) (f_Form___eq__ : FW) : SW :=
  (wSeq (wSet 3 (wKp (wCall 2 f__law_of (aCons (wVar 2) (aCons (wLst (aCons (wLst (aCons (wC (.str "id")) aNil)) (aCons (wLst (aCons (wC (.str "id")) (aCons (wC (.str "owner")) aNil))) (aCons (wLstC [.str "owner", .str "id", .str "size"]) aNil)))) aNil)))))
  (t_law_19 K f__law_bag f__law_of f_Table___init__ f__law_words f__law_spoilt f__law_due f__law_told f__law_take f_Form___init__ f__law_is_form f_Form___eq__))
def b_law_21 (K : PySem.W.Frag) (f__law_bag : FW) (f__law_of : FW) (f_Table___init__ : FW) (f__law_words : FW) (f__law_spoilt : FW) (f__law_due : FW) (f__law_told : FW) (f__law_take : FW) (f_Form___init__ : FW) (f__law_is_form : FW) (f_Form___eq__ : FW) : SW :=
  (wSeq (wSet 2 (wCall 2 f__law_bag (aCons (wVar 0) (aCons (wVar 1) aNil))))
  (t_law_20 K f__law_bag f__law_of f_Table___init__ f__law_words f__law_spoilt f__law_due f__law_told f__law_take f_Form___init__ f__law_is_form f_Form___eq__))
def t_law_22 (K : PySem.W.Frag) (f__law_bag : FW) (f__law_of : FW) (f_Table___init__ : FW) (f__law_words : FW) (f__law_spoilt : FW) (f__law_due : FW) (f__law_told : FW) (f__law_take : FW) (f_Form___init__ : FW) (f__law_is_form : FW) (f_Form___eq__ : FW) : SW :=
  (wRet (wC (.bl true)))
def w_law (K : PySem.W.Frag) (f__law_bag : FW) (f__law_of : FW) (f_Table___init__ : FW) (f__law_words : FW) (f__law_spoilt : FW) (f__law_due : FW) (f__law_told : FW) (f__law_take : FW) (f_Form___init__ : FW) (f__law_is_form : FW) (f_Form___eq__ : FW) : SW :=
  (wSeq (wFor (wRng1 (wBlt rcMax2 (aCons (wC (.int 1)) (aCons (wBlt rcMin2 (aCons (wC (.int 6)) (aCons (wBlt rcLen (aCons (wVar 0) aNil)) aNil))) aNil)))) (gwName 1) (b_law_21 K f__law_bag f__law_of f_Table___init__ f__law_words f__law_spoilt f__law_due f__law_told f__law_take f_Form___init__ f__law_is_form f_Form___eq__))
  (t_law_22 K f__law_bag f__law_of f_Table___init__ f__law_words f__law_spoilt f__law_due f__law_told f__law_take f_Form___init__ f__law_is_form f_Form___eq__))
theorem body_law {f__law_bag : FW} {f__law_of : FW} {f_Table___init__ : FW} {f__law_words : FW} {f__law_spoilt : FW} {f__law_due : FW} {f__law_told : FW} {f__law_take : FW} {f_Form___init__ : FW} {f__law_is_form : FW} {f_Form___eq__ : FW} (T : Tx w K mg) (hf__law_bag : Fn P w K mg base 1 (He.ga K "_law_bag") p__law_bag f__law_bag) (hf__law_of : Fn P w K mg base 2 (He.ga K "_law_of") p__law_of f__law_of) (hf_Table___init__ : Ini P w K mg base 2 (He.ga K "Table") 1 f_Table___init__) (hf__law_words : Fn P w K mg base 3 (He.ga K "_law_words") p__law_words f__law_words) (hf__law_spoilt : Fn P w K mg base 3 (He.ga K "_law_spoilt") p__law_spoilt f__law_spoilt) (hf__law_due : Fn P w K mg base 3 (He.ga K "_law_due") p__law_due f__law_due) (hf__law_told : Fn P w K mg base 5 (He.ga K "_law_told") p__law_told f__law_told) (hf__law_take : Fn P w K mg base 1 (He.ga K "_law_take") p__law_take f__law_take) (hf_Form___init__ : IniK P w K mg base 3 (He.ga K "Form") (He.ma K (He.ga K "Form") "__init__") "__init__" "Form.__init__" (defArgs s_Form___init__) (defBody s_Form___init__) (defScope s_Form___init__) [("options", V.ref (kwAt ("Form", some "__init__") "options" K)), ("lists", V.ref (kwAt ("Form", some "__init__") "lists" K))] p_Form___init__ 3 f_Form___init__) (hf__law_is_form : Fn P w K mg base 4 (He.ga K "_law_is_form") p__law_is_form f__law_is_form) (hf_Form___eq__ : Mth P w K mg base 2 (He.ga K "Form") "__eq__" p_Form___eq__ f_Form___eq__) : Body P w K mg base N_law "law" (defScope s_law) (He.ga K "law") 5 (defBody s_law) (w_law K f__law_bag f__law_of f_Table___init__ f__law_words f__law_spoilt f__law_due f__law_told f__law_take f_Form___init__ f__law_is_form f_Form___eq__) := by
  unfold w_law t_law_22 b_law_21 t_law_20 t_law_19 t_law_18 t_law_17 t_law_16 b_law_15 t_law_14 t_law_13 t_law_12 t_law_11 t_law_10 t_law_9 t_law_8 t_law_7 t_law_6 t_law_5 t_law_4 t_law_3 t_law_2 b_law_1
  exact (fun cdv A outer s H E hr tk =>
  (ssm_cons (sm_for (vs := [1]) (passes_of rfl) rfl (im_range1 (em_blt (call_maxP rfl) rfl (free_max T) (am_cons em_int (am_cons (em_blt (call_minP rfl) rfl (free_min T) (am_cons em_int (am_cons (em_blt call_lenP rfl (free_len T) (am_cons (em_var 0) am_nil)) am_nil))) am_nil))) rfl (free_range T)) (gm_name sc_law.nd (by decide)) (ssm_cons (sm_set sc_law.nd (e_call hf__law_bag rfl hr (by decide) tk (glo__law_bag T) rfl (am_cons (em_var 0) (am_cons (em_var 1) am_nil))))
  (ssm_cons (sm_set sc_law.nd (em_kp (e_call hf__law_of rfl hr (by decide) tk (glo__law_of T) rfl (am_cons (em_var 2) (am_cons (em_lst (am_cons (em_lst (am_cons em_str am_nil)) (am_cons (em_lst (am_cons em_str (am_cons em_str am_nil))) (am_cons (em_lstC (cs_cons em_str (cs_cons em_str (cs_cons em_str cs_nil)))) am_nil)))) am_nil)))))
  (ssm_cons (sm_set sc_law.nd (em_kp (e_make hf_Table___init__ hr (by decide) tk (glo_Table T) rfl (am_cons (em_var 3) am_nil))))
  (ssm_cons (sm_for (vs := [5]) (passes_of rfl) rfl (im_range1 em_int rfl (free_range T)) (gm_name sc_law.nd (by decide)) (ssm_cons (sm_set sc_law.nd (em_kp (e_call hf__law_words rfl hr (by decide) tk (glo__law_words T) rfl (am_cons (em_var 2) (am_cons em_int am_nil)))))
  (ssm_cons (sm_par rfl sc_law.nd (by decide) rfl rfl (amf_cons (e_call hf__law_of rfl hr (by decide) tk (glo__law_of T) rfl (am_cons (em_var 2) (am_cons (em_lstC (cs_cons em_int (cs_cons em_int (cs_cons em_int (cs_cons em_int (cs_cons em_int (cs_cons em_int (cs_cons em_int (cs_cons em_int cs_nil))))))))) am_nil))) (amf_cons (e_call hf__law_of rfl hr (by decide) tk (glo__law_of T) rfl (am_cons (em_var 2) (am_cons (em_lstC (cs_cons em_int (cs_cons em_int (cs_cons em_int (cs_cons em_int (cs_cons em_int (cs_cons em_int (cs_cons em_int (cs_cons em_int cs_nil))))))))) am_nil))) amf_nil)))
  (ssm_cons (sm_set sc_law.nd (em_kp (em_sl (em_var 6) om_no (om_of (em_bin op_addP (em_var 9) (em_var 10))))))
  (ssm_cons (sm_for (vs := [7]) (passes_of rfl) rfl (im_range1 (em_if (tm_cmp (op_neP hr.units) (em_var 6) (em_lst am_nil)) (e_call hf__law_of rfl hr (by decide) tk (glo__law_of T) rfl (am_cons (em_var 2) (am_cons (em_lstC (cs_cons em_int (cs_cons em_int (cs_cons em_int (cs_cons em_int cs_nil))))) am_nil))) em_int) rfl (free_range T)) (gm_name sc_law.nd (by decide)) (ssm_one (sm_set sc_law.nd (em_kp (e_call hf__law_spoilt rfl hr (by decide) tk (glo__law_spoilt T) rfl (am_cons (em_var 2) (am_cons (em_var 6) (am_cons (em_var 3) am_nil))))))))
  (ssm_cons (sm_par rfl sc_law.nd (by decide) rfl rfl (amf_cons (em_kp (em_sl (em_var 6) om_no (om_of (em_var 9)))) (amf_cons (em_kp (em_sl (em_var 6) (om_of (em_var 9)) om_no)) amf_nil)))
  (ssm_cons (sm_par rfl sc_law.nd (by decide) rfl rfl (amf_cons (em_ty (call_listSP rfl) rfl (free_list T) (am_cons (em_var 11) am_nil)) (amf_cons (e_call hf__law_due rfl hr (by decide) tk (glo__law_due T) rfl (am_cons (em_var 3) (am_cons (em_var 11) (am_cons (em_var 12) am_nil)))) amf_nil)))
  (ssm_cons (sm_set sc_law.nd (e_call hf__law_told rfl hr (by decide) tk (glo__law_told T) rfl (am_cons (em_var 4) (am_cons (em_if (tm_cmp (op_eqP hr.units) (e_call hf__law_take rfl hr (by decide) tk (glo__law_take T) rfl (am_cons (em_var 2) (am_cons em_int am_nil))) em_int) (em_var 13) (em_ty call_tupleP rfl (free_tuple T) (am_cons (em_var 11) am_nil))) (am_cons (em_var 12) am_nil)))))
  (ssm_cons (sm_if (PWM.tm (pwm_or (tm_cmp (op_neP hr.units) (em_blt (call_reprA hr) rfl (free_repr T) (am_cons (em_var 8) am_nil)) (em_blt (call_reprA hr) rfl (free_repr T) (am_cons (em_var 14) am_nil))) (pwm_or1 (tm_cmp (op_neP hr.units) (em_blt (call_reprA hr) rfl (free_repr T) (am_cons (em_bin op_addP (em_var 13) (em_var 12)) am_nil)) (em_blt (call_reprA hr) rfl (free_repr T) (am_cons (em_var 6) am_nil)))))) (ssm_one (sm_ret em_bl)) ssm_nil)
  (ssm_one (sm_if (tm_cmp op_isP (em_var 14) em_non) (ssm_cons (sm_set sc_law.nd (e_makeK (n := 1) (m := 2) (N := 3) (arr := fun _ b => b) (ds := []) hf_Form___init__ hr (by decide) tk (glo_Form T) rfl (fun fd D => kb_0 D) (Paired.nil) rfl (fun h1 h2 => by simp [h1, h2]) (fun _ g => g) (am_cons (em_var 4) am_nil) (km_cons (em_var 13) (km_cons (em_ty call_tupleP rfl (free_tuple T) (am_cons (em_var 12) am_nil)) km_nil))))
  (ssm_cons (sm_expr (em_mut mut_append F.slot_list_append F.type_list_append (em_var 13) (am_cons em_str am_nil)))
  (ssm_cons (sm_if (tm_not (tm_val (e_call hf__law_is_form rfl hr (by decide) tk (glo__law_is_form T) rfl (am_cons (em_var 15) (am_cons (em_var 3) (am_cons (em_var 11) (am_cons (em_var 12) am_nil))))))) (ssm_one (sm_ret em_bl)) ssm_nil)
  (ssm_cons (sm_set sc_law.nd (e_makeK (n := 1) (m := 2) (N := 3) (arr := fun _ b => b) (ds := []) hf_Form___init__ hr (by decide) tk (glo_Form T) rfl (fun fd D => kb_0 D) (Paired.nil) rfl (fun h1 h2 => by simp [h1, h2]) (fun _ g => g) (am_cons (e_make hf_Table___init__ hr (by decide) tk (glo_Table T) rfl (am_cons (em_var 3) am_nil)) am_nil) (km_cons (em_revT (em_ty call_tupleP rfl (free_tuple T) (am_cons (em_var 11) am_nil))) (km_cons (em_rev (em_var 12)) km_nil))))
  (ssm_cons (sm_if (tm_cmp (op_neP hr.units) (em_eqO (nf_Form T) (o_eqO hf_Form___eq__ rfl hr (by decide)) (em_var 15) (em_var 16)) (em_and (em_cmp (op_eqP hr.units) (em_var 11) (em_rev (em_var 11))) (em_one (em_cmp (op_eqP hr.units) (em_var 12) (em_rev (em_var 12)))))) (ssm_one (sm_ret em_bl)) ssm_nil)
  (ssm_one (sm_if (PWM.tm (pwm_or (PWM.tm (pwm_and (tm_eqO (nf_Form T) (o_eqO hf_Form___eq__ rfl hr (by decide)) (em_var 15) (e_makeK (n := 1) (m := 1) (N := 3) (arr := fun a b => a ++ b) (ds := [.val (.tup [])]) hf_Form___init__ hr (by decide) tk (glo_Form T) rfl (fun fd D => kb_1 D) ((Paired.cons (emt_arg (emt_Form_options T)) Paired.nil)) rfl (fun h1 h2 => by simp [h1, h2]) (fun h g => Paired.app h g) (am_cons (em_var 4) am_nil) (km_cons (em_var 12) km_nil))) (pwm_and1 (tm_cmp (op_neP hr.units) (em_var 11) (em_lst am_nil))))) (pwm_or (tm_eqO (nf_Form T) (o_eqO hf_Form___eq__ rfl hr (by decide)) (em_var 15) (em_var 4)) (pwm_or1 (tm_eqO (nf_Form T) (o_eqO hf_Form___eq__ rfl hr (by decide)) (em_var 15) (em_ty call_tupleP rfl (free_tuple T) (am_cons (em_var 11) am_nil))))))) (ssm_one (sm_ret em_bl)) ssm_nil))))))) ssm_nil)))))))))))
  (ssm_cons (sm_if (PWM.tm (pwm_or (tm_eqO (nf_Form T) (o_eqO hf_Form___eq__ rfl hr (by decide)) (e_makeK (n := 1) (m := 0) (N := 3) (arr := fun a _ => a) (ds := [.val (.tup []), .val (.tup [])]) hf_Form___init__ hr (by decide) tk (glo_Form T) rfl (fun fd D => kb_2 D) ((Paired.cons (emt_arg (emt_Form_options T)) (Paired.cons (emt_arg (emt_Form_lists T)) Paired.nil))) rfl (fun h1 h2 => by simp [h1, h2]) (fun h _ => h) (am_cons (em_var 4) am_nil) km_nil) (e_makeK (n := 1) (m := 0) (N := 3) (arr := fun a _ => a) (ds := [.val (.tup []), .val (.tup [])]) hf_Form___init__ hr (by decide) tk (glo_Form T) rfl (fun fd D => kb_2 D) ((Paired.cons (emt_arg (emt_Form_options T)) (Paired.cons (emt_arg (emt_Form_lists T)) Paired.nil))) rfl (fun h1 h2 => by simp [h1, h2]) (fun h _ => h) (am_cons (e_make hf_Table___init__ hr (by decide) tk (glo_Table T) rfl (am_cons (em_lst (am_cons em_str am_nil)) am_nil)) am_nil) km_nil)) (pwm_or1 (tm_not (tm_eqO (nf_Form T) (o_eqO hf_Form___eq__ rfl hr (by decide)) (e_makeK (n := 1) (m := 0) (N := 3) (arr := fun a _ => a) (ds := [.val (.tup []), .val (.tup [])]) hf_Form___init__ hr (by decide) tk (glo_Form T) rfl (fun fd D => kb_2 D) ((Paired.cons (emt_arg (emt_Form_options T)) (Paired.cons (emt_arg (emt_Form_lists T)) Paired.nil))) rfl (fun h1 h2 => by simp [h1, h2]) (fun h _ => h) (am_cons (em_var 4) am_nil) km_nil) (e_makeK (n := 1) (m := 2) (N := 3) (arr := fun _ b => b) (ds := []) hf_Form___init__ hr (by decide) tk (glo_Form T) rfl (fun fd D => kb_0 D) (Paired.nil) rfl (fun h1 h2 => by simp [h1, h2]) (fun _ g => g) (am_cons (e_make hf_Table___init__ hr (by decide) tk (glo_Table T) rfl (am_cons (em_var 3) am_nil)) am_nil) (km_cons (em_lst am_nil) (km_cons (em_tup am_nil) km_nil)))))))) (ssm_one (sm_ret em_bl)) ssm_nil)
  (ssm_one (sm_if (PWM.tm (pwm_or (tm_cmp (op_neP hr.units) (em_cval (cval_Form_OPTIONS T) (glo_Form T) rfl) em_int) (pwm_or (tm_cmp (op_neP hr.units) (em_cval (cval_Form_LISTS T) (glo_Form T) rfl) em_int) (pwm_or1 (tm_not (tm_val (e_call hf__law_is_form rfl hr (by decide) tk (glo__law_is_form T) rfl (am_cons (e_makeK (n := 1) (m := 0) (N := 3) (arr := fun a _ => a) (ds := [.val (.tup []), .val (.tup [])]) hf_Form___init__ hr (by decide) tk (glo_Form T) rfl (fun fd D => kb_2 D) ((Paired.cons (emt_arg (emt_Form_options T)) (Paired.cons (emt_arg (emt_Form_lists T)) Paired.nil))) rfl (fun h1 h2 => by simp [h1, h2]) (fun h _ => h) (am_cons (em_var 4) am_nil) km_nil) (am_cons (em_var 3) (am_cons (em_lst am_nil) (am_cons (em_lst am_nil) am_nil))))))))))) (ssm_one (sm_ret em_bl)) ssm_nil))))))))
  (ssm_one (sm_ret em_bl))))
end
end Lk26

namespace Lk26
open PySem L2 BV
theorem take_ok (K : PySem.W.Frag) : ∀ args c rt ex, sTake args c rt ex → ofBag (fwOf 3 2 (w__law_take K)) args c rt ex := by
  intro args c rt ex h
  obtain ⟨n, m, rfl, hc, ⟨m1, m2⟩, hq⟩ := sTake_of h
  have hn : n < c.length := (List.getElem?_eq_some_iff.mp hc).1
  have hm : (0 : Int) < m := by omega
  refine ⟨n, rfl, hc, fun y z ⟨y0, z0, z1⟩ => ⟨rfl, ?_⟩⟩
  unfold w__law_take
  simp [↓wVar_e, ↓wC_e, ↓wOp2_e, ↓wTest_e, ↓wAnd_e, ↓wOr_e, ↓wNot_e, ↓wAndV_e, ↓wOrV_e, ↓wNotV_e, ↓wIfE_e, ↓aNil_e, ↓aCons_e, ↓wLst_e, ↓wTup_e, ↓wCall_e, ↓wSet_e, ↓wSeq_e, ↓wSkip_e, ↓wIf_e, ↓wDrop_e, ↓wRet_e, ↓wRetN_e, ↓wBrk_e, ↓wCnt_e, ↓wNev_e, ↓gwName_e, ↓gwNil_e, ↓gwCons_e, ↓gwTup_e, ↓gwTupN_e, ↓wSrc_e, ↓wSrcZ_e, ↓wRng1_e, ↓wRng2_e, ↓wFor_e, ↓wLc_e, ↓wYes_e, ↓rsEq_e, ↓rsNe_e, ↓rsIn_e, ↓rsNotIn_e, ↓rsInt_e, ↓rsInt0_e, ↓rsAdd_e, ↓rsIsN_e, ↓rsNotN_e, ↓rsIx_e, ↓oNo_e, ↓oOf_e, ↓wSl_e, ↓wRev_e, ↓wNeg_e, ↓wCh_e, ↓wBlt_e, ↓rc1_e, ↓rc2_e, ↓wEn_e, ↓wChs_e, ↓wJoin_e, ↓wMut_e, ↓mfAppend_e, ↓mfPop_e, ↓mfReverse_e, ↓mfInsert_e, ↓mfExtend_e, ↓wSetIx_e, ↓wFmt_e, ↓wFmtR_e, ↓wFs_e, ↓wIsi_e, ↓wFld_e, ↓wSetF_e, ↓wSp1_e, ↓wEqO_e, ↓wInO_e, ↓wMeth_e, ↓wIxC_e, ↓rsIxS_e, ↓wSlS_e, ↓wLstC_e, ↓wTupC_e, ↓rsSub_e, ↓rsMulI_e, ↓rsFdiv_e, ↓rsMod_e, ↓rsPow_e, ↓rsLt_e, ↓rsLe_e, ↓rsGt_e, ↓rsGe_e, ↓rdK_val, ↓rdK_fresh, ↓rdK_bor, ↓rdK_slot, ↓kpK_val, ↓kpK_fresh, ↓kpK_slot, ↓retK_val, ↓retK_fresh, ↓retK_slot, ↓asgK_val, ↓asgK_bor, ↓asgK_fresh, ↓asgK_slot, ↓wrK_slot, ↓wrK_cel, ↓lstK_lst, ↓asInt_int, ↓intK_ii, ↓isBl_bl, ↓isBlT_bl, ↓strK_str, ↓itemsK_lst, ↓itemsK_tup, ↓stl_val, ↓stl_fresh, ↓stl_bor, ↓stl_slot, ↓srcK_val, ↓srcK_fresh, ↓srcK_bor, ↓srcK_slot, ↓rdAll_nil, ↓rdAll_cons, ↓kpAll_nil, ↓kpAll_cons, ↓argK_nil, ↓argK_val, ↓argK_bor, ↓argK_slot, ↓rcInt_int, ↓rcInt_bl, ↓rcLen_lst, ↓rcLen_tup, ↓rcLen_scr, ↓rcLen_str, ↓rcAbs_int, ↓rcMax2_ii, ↓rcMin2_ii, ↓rcListS_str, ↓rcListS_lst, ↓rcListS_tup, ↓rcTuple_lst, ↓rcTuple_tup, ↓rcAll_lst, ↓rcSum_lst, ↓rcStr_int, ↓rcStr_str, ↓rcRepr_int, ↓slK_lst, ↓slK_tup, ↓slK_str, ↓slSK_scr, ↓revK_lst, ↓inK_lst, ↓inK_tup, ↓inK_ss, ↓objK_e, ↓obK_obj, ↓obK_cel, ↓objW_obj, ↓wJs_nil, ↓wJs_cons, ↓fmtK_str, ↓fmtK_int, ↓fmtRK_str, ↓fmtRK_int, ↓joinK_lst, ↓joinK_tup, ↓noLent_nil, ↓noLent_cons, ↓wipeS_e, ↓wipeL_nil, ↓wipeL_cons, ↓pI_int, ↓pS_str, ↓pB_bl, ↓nfK_obj, ↓nfK_cel, ↓nfK_non, ↓nfK_bl, ↓nfK_int, ↓nfK_str, ↓nfK_tup, ↓nfK_lst, ↓nfK_dct, ↓slfK_e, ↓isNonT_non, ↓ofK_e, ↓derefK_lst, ↓derefK_tup, ↓derefK_str, ↓derefK_cel, ↓rcReprA_e, ↓wFmtRD_e, ↓aStar_e, ↓seqItK_lst, ↓seqItK_tup, ↓wFldC_e, ↓wMakeK_e, ↓wTryL_e, ↓wHds_nil, ↓wHds_cons, ↓revTK_tup, ↓wRevT_e, ↓rsRep_t, ↓rsRep_l, ↓wKp_e, ↓aConsF_e, ↓notSl_val, ↓notSl_fresh, ↓notSl_bor, ↓wParN_e, ↓asgN_nil, ↓asgN_cons, ↓rcMin1_lst, ↓wRaise_e, ↓wTry_e, ↓wExf_e, ↓wExI_e, ↓fldL1, ↓rcReprD_e, ↓t__law_take_1, ↓t__law_take_2, ↓t__law_take_3, ↓t__law_take_4, hn, atI, ixN]
  rw [set_id hc]
  simp only [fmP hm, fdP hm, fmP (show (0 : Int) < 2147483549 by decide), fmP (show (0 : Int) < 2147483563 by decide), fdP (show (0 : Int) < 5 by decide), fdP (show (0 : Int) < 32 by decide)]
  have em := fun a : Int => Int.emod_nonneg a (show m ≠ 0 by omega)
  have el := fun a : Int => Int.emod_lt_of_pos a hm
  refine ⟨fun y1 => ⟨by omega, ⟨by omega, by omega⟩, _, _, ⟨Int.ediv_nonneg y0 (by omega), z0, z1⟩, ⟨rfl, rfl⟩, hq _ (em _) (el _)⟩, fun _ => ?_⟩
  have b1 := Int.emod_nonneg (z * 52774 + 4813) (show (2147483549 : Int) ≠ 0 by decide)
  have b2 := Int.emod_lt_of_pos (z * 52774 + 4813) (show (0 : Int) < 2147483549 by decide)
  exact ⟨.inr (by decide), ⟨by decide, by decide⟩, .inr (by decide), ⟨by decide, by decide⟩, by omega, _, _, ⟨y0, b1, by omega⟩, ⟨rfl, rfl⟩, hq _ (em _) (el _)⟩
theorem bag_ok (K : PySem.W.Frag) : ∀ args c rt ex, sBag args c rt ex → toBag (fwOf 6 2 (w__law_bag K)) args c rt ex := by
  intro args c rt ex h
  obtain ⟨ns, i, rfl, ⟨i0, i1⟩, hq⟩ := sBag_of h
  refine ⟨rfl, ?_⟩
  have core : ∀ (cell : Int) (E : En), (∀ S (y m : Int), S.c = c → 0 ≤ y → 0 ≤ m → m < 4294967296 → E.rt (.fresh (.lst [.int y, .int m])) S) →
      t__law_bag_4 K ⟨[.val (.scr ns), .val (.int i), .val (.int cell), .emp, .emp, .emp], c⟩ E := by
    intro cell E hE
    unfold t__law_bag_4
    simp [↓wVar_e, ↓wC_e, ↓wOp2_e, ↓wTest_e, ↓wAnd_e, ↓wOr_e, ↓wNot_e, ↓wAndV_e, ↓wOrV_e, ↓wNotV_e, ↓wIfE_e, ↓aNil_e, ↓aCons_e, ↓wLst_e, ↓wTup_e, ↓wCall_e, ↓wSet_e, ↓wSeq_e, ↓wSkip_e, ↓wIf_e, ↓wDrop_e, ↓wRet_e, ↓wRetN_e, ↓wBrk_e, ↓wCnt_e, ↓wNev_e, ↓gwName_e, ↓gwNil_e, ↓gwCons_e, ↓gwTup_e, ↓gwTupN_e, ↓wSrc_e, ↓wSrcZ_e, ↓wRng1_e, ↓wRng2_e, ↓wFor_e, ↓wLc_e, ↓wYes_e, ↓rsEq_e, ↓rsNe_e, ↓rsIn_e, ↓rsNotIn_e, ↓rsInt_e, ↓rsInt0_e, ↓rsAdd_e, ↓rsIsN_e, ↓rsNotN_e, ↓rsIx_e, ↓oNo_e, ↓oOf_e, ↓wSl_e, ↓wRev_e, ↓wNeg_e, ↓wCh_e, ↓wBlt_e, ↓rc1_e, ↓rc2_e, ↓wEn_e, ↓wChs_e, ↓wJoin_e, ↓wMut_e, ↓mfAppend_e, ↓mfPop_e, ↓mfReverse_e, ↓mfInsert_e, ↓mfExtend_e, ↓wSetIx_e, ↓wFmt_e, ↓wFmtR_e, ↓wFs_e, ↓wIsi_e, ↓wFld_e, ↓wSetF_e, ↓wSp1_e, ↓wEqO_e, ↓wInO_e, ↓wMeth_e, ↓wIxC_e, ↓rsIxS_e, ↓wSlS_e, ↓wLstC_e, ↓wTupC_e, ↓rsSub_e, ↓rsMulI_e, ↓rsFdiv_e, ↓rsMod_e, ↓rsPow_e, ↓rsLt_e, ↓rsLe_e, ↓rsGt_e, ↓rsGe_e, ↓rdK_val, ↓rdK_fresh, ↓rdK_bor, ↓rdK_slot, ↓kpK_val, ↓kpK_fresh, ↓kpK_slot, ↓retK_val, ↓retK_fresh, ↓retK_slot, ↓asgK_val, ↓asgK_bor, ↓asgK_fresh, ↓asgK_slot, ↓wrK_slot, ↓wrK_cel, ↓lstK_lst, ↓asInt_int, ↓intK_ii, ↓isBl_bl, ↓isBlT_bl, ↓strK_str, ↓itemsK_lst, ↓itemsK_tup, ↓stl_val, ↓stl_fresh, ↓stl_bor, ↓stl_slot, ↓srcK_val, ↓srcK_fresh, ↓srcK_bor, ↓srcK_slot, ↓rdAll_nil, ↓rdAll_cons, ↓kpAll_nil, ↓kpAll_cons, ↓argK_nil, ↓argK_val, ↓argK_bor, ↓argK_slot, ↓rcInt_int, ↓rcInt_bl, ↓rcLen_lst, ↓rcLen_tup, ↓rcLen_scr, ↓rcLen_str, ↓rcAbs_int, ↓rcMax2_ii, ↓rcMin2_ii, ↓rcListS_str, ↓rcListS_lst, ↓rcListS_tup, ↓rcTuple_lst, ↓rcTuple_tup, ↓rcAll_lst, ↓rcSum_lst, ↓rcStr_int, ↓rcStr_str, ↓rcRepr_int, ↓slK_lst, ↓slK_tup, ↓slK_str, ↓slSK_scr, ↓revK_lst, ↓inK_lst, ↓inK_tup, ↓inK_ss, ↓objK_e, ↓obK_obj, ↓obK_cel, ↓objW_obj, ↓wJs_nil, ↓wJs_cons, ↓fmtK_str, ↓fmtK_int, ↓fmtRK_str, ↓fmtRK_int, ↓joinK_lst, ↓joinK_tup, ↓noLent_nil, ↓noLent_cons, ↓wipeS_e, ↓wipeL_nil, ↓wipeL_cons, ↓pI_int, ↓pS_str, ↓pB_bl, ↓nfK_obj, ↓nfK_cel, ↓nfK_non, ↓nfK_bl, ↓nfK_int, ↓nfK_str, ↓nfK_tup, ↓nfK_lst, ↓nfK_dct, ↓slfK_e, ↓isNonT_non, ↓ofK_e, ↓derefK_lst, ↓derefK_tup, ↓derefK_str, ↓derefK_cel, ↓rcReprA_e, ↓wFmtRD_e, ↓aStar_e, ↓seqItK_lst, ↓seqItK_tup, ↓wFldC_e, ↓wMakeK_e, ↓wTryL_e, ↓wHds_nil, ↓wHds_cons, ↓revTK_tup, ↓wRevT_e, ↓rsRep_t, ↓rsRep_l, ↓wKp_e, ↓aConsF_e, ↓notSl_val, ↓notSl_fresh, ↓notSl_bor, ↓wParN_e, ↓asgN_nil, ↓asgN_cons, ↓rcMin1_lst, ↓wRaise_e, ↓wTry_e, ↓wExf_e, ↓wExI_e, ↓fldL1, ↓rcReprD_e, ↓t__law_bag_3]
    refine ⟨.inl (by decide), for_inv (fun _ S => ∃ (m : Int) (s4 s5 : Slot), S = ⟨[.val (.scr ns), .val (.int i), .val (.int cell), .val (.int m), s4, s5], c⟩ ∧ s4.isL = false ∧ s5.isL = false ∧ 0 ≤ m ∧ m < 4294967296) ⟨_, _, _, rfl, rfl, rfl, by omega, by omega⟩ ?_ ?_⟩
    · rintro j x S k hx ⟨m, s4, s5, rfl, l4, l5, m0, m1⟩ hk
      obtain ⟨y, rfl, hy⟩ := enP_at hx
      have hy2 := cutP_sub (List.mem_iff_getElem?.mpr ⟨j, hy⟩)
      obtain ⟨z, _, rfl⟩ := List.mem_map.mp hy2
      unfold b__law_bag_1
      simp [↓wVar_e, ↓wC_e, ↓wOp2_e, ↓wTest_e, ↓wAnd_e, ↓wOr_e, ↓wNot_e, ↓wAndV_e, ↓wOrV_e, ↓wNotV_e, ↓wIfE_e, ↓aNil_e, ↓aCons_e, ↓wLst_e, ↓wTup_e, ↓wCall_e, ↓wSet_e, ↓wSeq_e, ↓wSkip_e, ↓wIf_e, ↓wDrop_e, ↓wRet_e, ↓wRetN_e, ↓wBrk_e, ↓wCnt_e, ↓wNev_e, ↓gwName_e, ↓gwNil_e, ↓gwCons_e, ↓gwTup_e, ↓gwTupN_e, ↓wSrc_e, ↓wSrcZ_e, ↓wRng1_e, ↓wRng2_e, ↓wFor_e, ↓wLc_e, ↓wYes_e, ↓rsEq_e, ↓rsNe_e, ↓rsIn_e, ↓rsNotIn_e, ↓rsInt_e, ↓rsInt0_e, ↓rsAdd_e, ↓rsIsN_e, ↓rsNotN_e, ↓rsIx_e, ↓oNo_e, ↓oOf_e, ↓wSl_e, ↓wRev_e, ↓wNeg_e, ↓wCh_e, ↓wBlt_e, ↓rc1_e, ↓rc2_e, ↓wEn_e, ↓wChs_e, ↓wJoin_e, ↓wMut_e, ↓mfAppend_e, ↓mfPop_e, ↓mfReverse_e, ↓mfInsert_e, ↓mfExtend_e, ↓wSetIx_e, ↓wFmt_e, ↓wFmtR_e, ↓wFs_e, ↓wIsi_e, ↓wFld_e, ↓wSetF_e, ↓wSp1_e, ↓wEqO_e, ↓wInO_e, ↓wMeth_e, ↓wIxC_e, ↓rsIxS_e, ↓wSlS_e, ↓wLstC_e, ↓wTupC_e, ↓rsSub_e, ↓rsMulI_e, ↓rsFdiv_e, ↓rsMod_e, ↓rsPow_e, ↓rsLt_e, ↓rsLe_e, ↓rsGt_e, ↓rsGe_e, ↓rdK_val, ↓rdK_fresh, ↓rdK_bor, ↓rdK_slot, ↓kpK_val, ↓kpK_fresh, ↓kpK_slot, ↓retK_val, ↓retK_fresh, ↓retK_slot, ↓asgK_val, ↓asgK_bor, ↓asgK_fresh, ↓asgK_slot, ↓wrK_slot, ↓wrK_cel, ↓lstK_lst, ↓asInt_int, ↓intK_ii, ↓isBl_bl, ↓isBlT_bl, ↓strK_str, ↓itemsK_lst, ↓itemsK_tup, ↓stl_val, ↓stl_fresh, ↓stl_bor, ↓stl_slot, ↓srcK_val, ↓srcK_fresh, ↓srcK_bor, ↓srcK_slot, ↓rdAll_nil, ↓rdAll_cons, ↓kpAll_nil, ↓kpAll_cons, ↓argK_nil, ↓argK_val, ↓argK_bor, ↓argK_slot, ↓rcInt_int, ↓rcInt_bl, ↓rcLen_lst, ↓rcLen_tup, ↓rcLen_scr, ↓rcLen_str, ↓rcAbs_int, ↓rcMax2_ii, ↓rcMin2_ii, ↓rcListS_str, ↓rcListS_lst, ↓rcListS_tup, ↓rcTuple_lst, ↓rcTuple_tup, ↓rcAll_lst, ↓rcSum_lst, ↓rcStr_int, ↓rcStr_str, ↓rcRepr_int, ↓slK_lst, ↓slK_tup, ↓slK_str, ↓slSK_scr, ↓revK_lst, ↓inK_lst, ↓inK_tup, ↓inK_ss, ↓objK_e, ↓obK_obj, ↓obK_cel, ↓objW_obj, ↓wJs_nil, ↓wJs_cons, ↓fmtK_str, ↓fmtK_int, ↓fmtRK_str, ↓fmtRK_int, ↓joinK_lst, ↓joinK_tup, ↓noLent_nil, ↓noLent_cons, ↓wipeS_e, ↓wipeL_nil, ↓wipeL_cons, ↓pI_int, ↓pS_str, ↓pB_bl, ↓nfK_obj, ↓nfK_cel, ↓nfK_non, ↓nfK_bl, ↓nfK_int, ↓nfK_str, ↓nfK_tup, ↓nfK_lst, ↓nfK_dct, ↓slfK_e, ↓isNonT_non, ↓ofK_e, ↓derefK_lst, ↓derefK_tup, ↓derefK_str, ↓derefK_cel, ↓rcReprA_e, ↓wFmtRD_e, ↓aStar_e, ↓seqItK_lst, ↓seqItK_tup, ↓wFldC_e, ↓wMakeK_e, ↓wTryL_e, ↓wHds_nil, ↓wHds_cons, ↓revTK_tup, ↓wRevT_e, ↓rsRep_t, ↓rsRep_l, ↓wKp_e, ↓aConsF_e, ↓notSl_val, ↓notSl_fresh, ↓notSl_bor, ↓wParN_e, ↓asgN_nil, ↓asgN_cons, ↓rcMin1_lst, ↓wRaise_e, ↓wTry_e, ↓wExf_e, ↓wExI_e, ↓fldL1, ↓rcReprD_e, l4, l5]
      simp only [fmP (show (0 : Int) < 2147483629 by decide), fmP (show (0 : Int) < 2147483647 by decide)]
      have b1 := fun a : Int => Int.emod_nonneg a (show (2147483647 : Int) ≠ 0 by decide)
      have b2 := fun a : Int => Int.emod_lt_of_pos a (show (0 : Int) < 2147483647 by decide)
      exact ⟨.inr (by decide), .inl (by decide), hk _ ⟨_, _, _, rfl, rfl, rfl, b1 _, by have := b2 (m * 48271 + z % 2147483629 + 113 * (j : Int)); omega⟩⟩
    · rintro S ⟨m, s4, s5, rfl, l4, l5, m0, m1⟩
      unfold t__law_bag_2
      simp [↓wVar_e, ↓wC_e, ↓wOp2_e, ↓wTest_e, ↓wAnd_e, ↓wOr_e, ↓wNot_e, ↓wAndV_e, ↓wOrV_e, ↓wNotV_e, ↓wIfE_e, ↓aNil_e, ↓aCons_e, ↓wLst_e, ↓wTup_e, ↓wCall_e, ↓wSet_e, ↓wSeq_e, ↓wSkip_e, ↓wIf_e, ↓wDrop_e, ↓wRet_e, ↓wRetN_e, ↓wBrk_e, ↓wCnt_e, ↓wNev_e, ↓gwName_e, ↓gwNil_e, ↓gwCons_e, ↓gwTup_e, ↓gwTupN_e, ↓wSrc_e, ↓wSrcZ_e, ↓wRng1_e, ↓wRng2_e, ↓wFor_e, ↓wLc_e, ↓wYes_e, ↓rsEq_e, ↓rsNe_e, ↓rsIn_e, ↓rsNotIn_e, ↓rsInt_e, ↓rsInt0_e, ↓rsAdd_e, ↓rsIsN_e, ↓rsNotN_e, ↓rsIx_e, ↓oNo_e, ↓oOf_e, ↓wSl_e, ↓wRev_e, ↓wNeg_e, ↓wCh_e, ↓wBlt_e, ↓rc1_e, ↓rc2_e, ↓wEn_e, ↓wChs_e, ↓wJoin_e, ↓wMut_e, ↓mfAppend_e, ↓mfPop_e, ↓mfReverse_e, ↓mfInsert_e, ↓mfExtend_e, ↓wSetIx_e, ↓wFmt_e, ↓wFmtR_e, ↓wFs_e, ↓wIsi_e, ↓wFld_e, ↓wSetF_e, ↓wSp1_e, ↓wEqO_e, ↓wInO_e, ↓wMeth_e, ↓wIxC_e, ↓rsIxS_e, ↓wSlS_e, ↓wLstC_e, ↓wTupC_e, ↓rsSub_e, ↓rsMulI_e, ↓rsFdiv_e, ↓rsMod_e, ↓rsPow_e, ↓rsLt_e, ↓rsLe_e, ↓rsGt_e, ↓rsGe_e, ↓rdK_val, ↓rdK_fresh, ↓rdK_bor, ↓rdK_slot, ↓kpK_val, ↓kpK_fresh, ↓kpK_slot, ↓retK_val, ↓retK_fresh, ↓retK_slot, ↓asgK_val, ↓asgK_bor, ↓asgK_fresh, ↓asgK_slot, ↓wrK_slot, ↓wrK_cel, ↓lstK_lst, ↓asInt_int, ↓intK_ii, ↓isBl_bl, ↓isBlT_bl, ↓strK_str, ↓itemsK_lst, ↓itemsK_tup, ↓stl_val, ↓stl_fresh, ↓stl_bor, ↓stl_slot, ↓srcK_val, ↓srcK_fresh, ↓srcK_bor, ↓srcK_slot, ↓rdAll_nil, ↓rdAll_cons, ↓kpAll_nil, ↓kpAll_cons, ↓argK_nil, ↓argK_val, ↓argK_bor, ↓argK_slot, ↓rcInt_int, ↓rcInt_bl, ↓rcLen_lst, ↓rcLen_tup, ↓rcLen_scr, ↓rcLen_str, ↓rcAbs_int, ↓rcMax2_ii, ↓rcMin2_ii, ↓rcListS_str, ↓rcListS_lst, ↓rcListS_tup, ↓rcTuple_lst, ↓rcTuple_tup, ↓rcAll_lst, ↓rcSum_lst, ↓rcStr_int, ↓rcStr_str, ↓rcRepr_int, ↓slK_lst, ↓slK_tup, ↓slK_str, ↓slSK_scr, ↓revK_lst, ↓inK_lst, ↓inK_tup, ↓inK_ss, ↓objK_e, ↓obK_obj, ↓obK_cel, ↓objW_obj, ↓wJs_nil, ↓wJs_cons, ↓fmtK_str, ↓fmtK_int, ↓fmtRK_str, ↓fmtRK_int, ↓joinK_lst, ↓joinK_tup, ↓noLent_nil, ↓noLent_cons, ↓wipeS_e, ↓wipeL_nil, ↓wipeL_cons, ↓pI_int, ↓pS_str, ↓pB_bl, ↓nfK_obj, ↓nfK_cel, ↓nfK_non, ↓nfK_bl, ↓nfK_int, ↓nfK_str, ↓nfK_tup, ↓nfK_lst, ↓nfK_dct, ↓slfK_e, ↓isNonT_non, ↓ofK_e, ↓derefK_lst, ↓derefK_tup, ↓derefK_str, ↓derefK_cel, ↓rcReprA_e, ↓wFmtRD_e, ↓aStar_e, ↓seqItK_lst, ↓seqItK_tup, ↓wFldC_e, ↓wMakeK_e, ↓wTryL_e, ↓wHds_nil, ↓wHds_cons, ↓revTK_tup, ↓wRevT_e, ↓rsRep_t, ↓rsRep_l, ↓wKp_e, ↓aConsF_e, ↓notSl_val, ↓notSl_fresh, ↓notSl_bor, ↓wParN_e, ↓asgN_nil, ↓asgN_cons, ↓rcMin1_lst, ↓wRaise_e, ↓wTry_e, ↓wExf_e, ↓wExI_e, ↓fldL1, ↓rcReprD_e]
      refine ⟨⟨by decide, by decide, by decide⟩, fun h => ⟨by decide, hE _ _ _ rfl ?_ m0 m1⟩, fun h => ⟨by decide, hE _ _ _ rfl (by decide) m0 m1⟩⟩
      split <;> omega
  unfold w__law_bag
  generalize t__law_bag_4 K = rest at core ⊢
  simp [↓wVar_e, ↓wC_e, ↓wOp2_e, ↓wTest_e, ↓wAnd_e, ↓wOr_e, ↓wNot_e, ↓wAndV_e, ↓wOrV_e, ↓wNotV_e, ↓wIfE_e, ↓aNil_e, ↓aCons_e, ↓wLst_e, ↓wTup_e, ↓wCall_e, ↓wSet_e, ↓wSeq_e, ↓wSkip_e, ↓wIf_e, ↓wDrop_e, ↓wRet_e, ↓wRetN_e, ↓wBrk_e, ↓wCnt_e, ↓wNev_e, ↓gwName_e, ↓gwNil_e, ↓gwCons_e, ↓gwTup_e, ↓gwTupN_e, ↓wSrc_e, ↓wSrcZ_e, ↓wRng1_e, ↓wRng2_e, ↓wFor_e, ↓wLc_e, ↓wYes_e, ↓rsEq_e, ↓rsNe_e, ↓rsIn_e, ↓rsNotIn_e, ↓rsInt_e, ↓rsInt0_e, ↓rsAdd_e, ↓rsIsN_e, ↓rsNotN_e, ↓rsIx_e, ↓oNo_e, ↓oOf_e, ↓wSl_e, ↓wRev_e, ↓wNeg_e, ↓wCh_e, ↓wBlt_e, ↓rc1_e, ↓rc2_e, ↓wEn_e, ↓wChs_e, ↓wJoin_e, ↓wMut_e, ↓mfAppend_e, ↓mfPop_e, ↓mfReverse_e, ↓mfInsert_e, ↓mfExtend_e, ↓wSetIx_e, ↓wFmt_e, ↓wFmtR_e, ↓wFs_e, ↓wIsi_e, ↓wFld_e, ↓wSetF_e, ↓wSp1_e, ↓wEqO_e, ↓wInO_e, ↓wMeth_e, ↓wIxC_e, ↓rsIxS_e, ↓wSlS_e, ↓wLstC_e, ↓wTupC_e, ↓rsSub_e, ↓rsMulI_e, ↓rsFdiv_e, ↓rsMod_e, ↓rsPow_e, ↓rsLt_e, ↓rsLe_e, ↓rsGt_e, ↓rsGe_e, ↓rdK_val, ↓rdK_fresh, ↓rdK_bor, ↓rdK_slot, ↓kpK_val, ↓kpK_fresh, ↓kpK_slot, ↓retK_val, ↓retK_fresh, ↓retK_slot, ↓asgK_val, ↓asgK_bor, ↓asgK_fresh, ↓asgK_slot, ↓wrK_slot, ↓wrK_cel, ↓lstK_lst, ↓asInt_int, ↓intK_ii, ↓isBl_bl, ↓isBlT_bl, ↓strK_str, ↓itemsK_lst, ↓itemsK_tup, ↓stl_val, ↓stl_fresh, ↓stl_bor, ↓stl_slot, ↓srcK_val, ↓srcK_fresh, ↓srcK_bor, ↓srcK_slot, ↓rdAll_nil, ↓rdAll_cons, ↓kpAll_nil, ↓kpAll_cons, ↓argK_nil, ↓argK_val, ↓argK_bor, ↓argK_slot, ↓rcInt_int, ↓rcInt_bl, ↓rcLen_lst, ↓rcLen_tup, ↓rcLen_scr, ↓rcLen_str, ↓rcAbs_int, ↓rcMax2_ii, ↓rcMin2_ii, ↓rcListS_str, ↓rcListS_lst, ↓rcListS_tup, ↓rcTuple_lst, ↓rcTuple_tup, ↓rcAll_lst, ↓rcSum_lst, ↓rcStr_int, ↓rcStr_str, ↓rcRepr_int, ↓slK_lst, ↓slK_tup, ↓slK_str, ↓slSK_scr, ↓revK_lst, ↓inK_lst, ↓inK_tup, ↓inK_ss, ↓objK_e, ↓obK_obj, ↓obK_cel, ↓objW_obj, ↓wJs_nil, ↓wJs_cons, ↓fmtK_str, ↓fmtK_int, ↓fmtRK_str, ↓fmtRK_int, ↓joinK_lst, ↓joinK_tup, ↓noLent_nil, ↓noLent_cons, ↓wipeS_e, ↓wipeL_nil, ↓wipeL_cons, ↓pI_int, ↓pS_str, ↓pB_bl, ↓nfK_obj, ↓nfK_cel, ↓nfK_non, ↓nfK_bl, ↓nfK_int, ↓nfK_str, ↓nfK_tup, ↓nfK_lst, ↓nfK_dct, ↓slfK_e, ↓isNonT_non, ↓ofK_e, ↓derefK_lst, ↓derefK_tup, ↓derefK_str, ↓derefK_cel, ↓rcReprA_e, ↓wFmtRD_e, ↓aStar_e, ↓seqItK_lst, ↓seqItK_tup, ↓wFldC_e, ↓wMakeK_e, ↓wTryL_e, ↓wHds_nil, ↓wHds_cons, ↓revTK_tup, ↓wRevT_e, ↓rsRep_t, ↓rsRep_l, ↓wKp_e, ↓aConsF_e, ↓notSl_val, ↓notSl_fresh, ↓notSl_bor, ↓wParN_e, ↓asgN_nil, ↓asgN_cons, ↓rcMin1_lst, ↓wRaise_e, ↓wTry_e, ↓wExf_e, ↓wExI_e, ↓fldL1, ↓rcReprD_e]
  refine ⟨fun h => ?_, fun h => core _ _ fun S y m e y0 m0 m1 => ?_⟩
  · obtain ⟨z, hz, _⟩ := atI_ok i0 h
    rw [hz]
    refine core _ _ fun S y m e y0 m0 m1 => ?_
    simp [e]
    exact ⟨y, m, (by first | exact rfl | exact ⟨rfl, rfl⟩), ⟨y0, m0, m1⟩, hq⟩
  · simp [e]
    exact ⟨y, m, (by first | exact rfl | exact ⟨rfl, rfl⟩), ⟨y0, m0, m1⟩, hq⟩
theorem of_ok (K : PySem.W.Frag) : ∀ args c rt ex, sOf args c rt ex → fwOf 2 2 (w__law_of K sTake) args c rt ex := by
  intro args c rt ex h
  obtain ⟨n, xs, ha, hc, ⟨x1, x2⟩, hq⟩ := sOf_of h
  have fin : ∀ d : Int, 0 ≤ d → d < xs.length → match atI xs d with | some v => rt (.val v) c | none => False := fun d d0 d1 => by
    obtain ⟨x, e1, e2⟩ := atI_ok d0 d1
    rw [e1]
    exact hq x (List.mem_iff_getElem?.mpr ⟨_, e2⟩)
  rcases ha with rfl | rfl
  · refine ⟨rfl, ?_⟩
    unfold w__law_of
    simp [↓wVar_e, ↓wC_e, ↓wOp2_e, ↓wTest_e, ↓wAnd_e, ↓wOr_e, ↓wNot_e, ↓wAndV_e, ↓wOrV_e, ↓wNotV_e, ↓wIfE_e, ↓aNil_e, ↓aCons_e, ↓wLst_e, ↓wTup_e, ↓wCall_e, ↓wSet_e, ↓wSeq_e, ↓wSkip_e, ↓wIf_e, ↓wDrop_e, ↓wRet_e, ↓wRetN_e, ↓wBrk_e, ↓wCnt_e, ↓wNev_e, ↓gwName_e, ↓gwNil_e, ↓gwCons_e, ↓gwTup_e, ↓gwTupN_e, ↓wSrc_e, ↓wSrcZ_e, ↓wRng1_e, ↓wRng2_e, ↓wFor_e, ↓wLc_e, ↓wYes_e, ↓rsEq_e, ↓rsNe_e, ↓rsIn_e, ↓rsNotIn_e, ↓rsInt_e, ↓rsInt0_e, ↓rsAdd_e, ↓rsIsN_e, ↓rsNotN_e, ↓rsIx_e, ↓oNo_e, ↓oOf_e, ↓wSl_e, ↓wRev_e, ↓wNeg_e, ↓wCh_e, ↓wBlt_e, ↓rc1_e, ↓rc2_e, ↓wEn_e, ↓wChs_e, ↓wJoin_e, ↓wMut_e, ↓mfAppend_e, ↓mfPop_e, ↓mfReverse_e, ↓mfInsert_e, ↓mfExtend_e, ↓wSetIx_e, ↓wFmt_e, ↓wFmtR_e, ↓wFs_e, ↓wIsi_e, ↓wFld_e, ↓wSetF_e, ↓wSp1_e, ↓wEqO_e, ↓wInO_e, ↓wMeth_e, ↓wIxC_e, ↓rsIxS_e, ↓wSlS_e, ↓wLstC_e, ↓wTupC_e, ↓rsSub_e, ↓rsMulI_e, ↓rsFdiv_e, ↓rsMod_e, ↓rsPow_e, ↓rsLt_e, ↓rsLe_e, ↓rsGt_e, ↓rsGe_e, ↓rdK_val, ↓rdK_fresh, ↓rdK_bor, ↓rdK_slot, ↓kpK_val, ↓kpK_fresh, ↓kpK_slot, ↓retK_val, ↓retK_fresh, ↓retK_slot, ↓asgK_val, ↓asgK_bor, ↓asgK_fresh, ↓asgK_slot, ↓wrK_slot, ↓wrK_cel, ↓lstK_lst, ↓asInt_int, ↓intK_ii, ↓isBl_bl, ↓isBlT_bl, ↓strK_str, ↓itemsK_lst, ↓itemsK_tup, ↓stl_val, ↓stl_fresh, ↓stl_bor, ↓stl_slot, ↓srcK_val, ↓srcK_fresh, ↓srcK_bor, ↓srcK_slot, ↓rdAll_nil, ↓rdAll_cons, ↓kpAll_nil, ↓kpAll_cons, ↓argK_nil, ↓argK_val, ↓argK_bor, ↓argK_slot, ↓rcInt_int, ↓rcInt_bl, ↓rcLen_lst, ↓rcLen_tup, ↓rcLen_scr, ↓rcLen_str, ↓rcAbs_int, ↓rcMax2_ii, ↓rcMin2_ii, ↓rcListS_str, ↓rcListS_lst, ↓rcListS_tup, ↓rcTuple_lst, ↓rcTuple_tup, ↓rcAll_lst, ↓rcSum_lst, ↓rcStr_int, ↓rcStr_str, ↓rcRepr_int, ↓slK_lst, ↓slK_tup, ↓slK_str, ↓slSK_scr, ↓revK_lst, ↓inK_lst, ↓inK_tup, ↓inK_ss, ↓objK_e, ↓obK_obj, ↓obK_cel, ↓objW_obj, ↓wJs_nil, ↓wJs_cons, ↓fmtK_str, ↓fmtK_int, ↓fmtRK_str, ↓fmtRK_int, ↓joinK_lst, ↓joinK_tup, ↓noLent_nil, ↓noLent_cons, ↓wipeS_e, ↓wipeL_nil, ↓wipeL_cons, ↓pI_int, ↓pS_str, ↓pB_bl, ↓nfK_obj, ↓nfK_cel, ↓nfK_non, ↓nfK_bl, ↓nfK_int, ↓nfK_str, ↓nfK_tup, ↓nfK_lst, ↓nfK_dct, ↓slfK_e, ↓isNonT_non, ↓ofK_e, ↓derefK_lst, ↓derefK_tup, ↓derefK_str, ↓derefK_cel, ↓rcReprA_e, ↓wFmtRD_e, ↓aStar_e, ↓seqItK_lst, ↓seqItK_tup, ↓wFldC_e, ↓wMakeK_e, ↓wTryL_e, ↓wHds_nil, ↓wHds_cons, ↓revTK_tup, ↓wRevT_e, ↓rsRep_t, ↓rsRep_l, ↓wKp_e, ↓aConsF_e, ↓notSl_val, ↓notSl_fresh, ↓notSl_bor, ↓wParN_e, ↓asgN_nil, ↓asgN_cons, ↓rcMin1_lst, ↓wRaise_e, ↓wTry_e, ↓wExf_e, ↓wExI_e, ↓fldL1, ↓rcReprD_e, sTake, hc]
    exact ⟨⟨by omega, by omega⟩, fin⟩
  · refine ⟨rfl, ?_⟩
    unfold w__law_of
    simp [↓wVar_e, ↓wC_e, ↓wOp2_e, ↓wTest_e, ↓wAnd_e, ↓wOr_e, ↓wNot_e, ↓wAndV_e, ↓wOrV_e, ↓wNotV_e, ↓wIfE_e, ↓aNil_e, ↓aCons_e, ↓wLst_e, ↓wTup_e, ↓wCall_e, ↓wSet_e, ↓wSeq_e, ↓wSkip_e, ↓wIf_e, ↓wDrop_e, ↓wRet_e, ↓wRetN_e, ↓wBrk_e, ↓wCnt_e, ↓wNev_e, ↓gwName_e, ↓gwNil_e, ↓gwCons_e, ↓gwTup_e, ↓gwTupN_e, ↓wSrc_e, ↓wSrcZ_e, ↓wRng1_e, ↓wRng2_e, ↓wFor_e, ↓wLc_e, ↓wYes_e, ↓rsEq_e, ↓rsNe_e, ↓rsIn_e, ↓rsNotIn_e, ↓rsInt_e, ↓rsInt0_e, ↓rsAdd_e, ↓rsIsN_e, ↓rsNotN_e, ↓rsIx_e, ↓oNo_e, ↓oOf_e, ↓wSl_e, ↓wRev_e, ↓wNeg_e, ↓wCh_e, ↓wBlt_e, ↓rc1_e, ↓rc2_e, ↓wEn_e, ↓wChs_e, ↓wJoin_e, ↓wMut_e, ↓mfAppend_e, ↓mfPop_e, ↓mfReverse_e, ↓mfInsert_e, ↓mfExtend_e, ↓wSetIx_e, ↓wFmt_e, ↓wFmtR_e, ↓wFs_e, ↓wIsi_e, ↓wFld_e, ↓wSetF_e, ↓wSp1_e, ↓wEqO_e, ↓wInO_e, ↓wMeth_e, ↓wIxC_e, ↓rsIxS_e, ↓wSlS_e, ↓wLstC_e, ↓wTupC_e, ↓rsSub_e, ↓rsMulI_e, ↓rsFdiv_e, ↓rsMod_e, ↓rsPow_e, ↓rsLt_e, ↓rsLe_e, ↓rsGt_e, ↓rsGe_e, ↓rdK_val, ↓rdK_fresh, ↓rdK_bor, ↓rdK_slot, ↓kpK_val, ↓kpK_fresh, ↓kpK_slot, ↓retK_val, ↓retK_fresh, ↓retK_slot, ↓asgK_val, ↓asgK_bor, ↓asgK_fresh, ↓asgK_slot, ↓wrK_slot, ↓wrK_cel, ↓lstK_lst, ↓asInt_int, ↓intK_ii, ↓isBl_bl, ↓isBlT_bl, ↓strK_str, ↓itemsK_lst, ↓itemsK_tup, ↓stl_val, ↓stl_fresh, ↓stl_bor, ↓stl_slot, ↓srcK_val, ↓srcK_fresh, ↓srcK_bor, ↓srcK_slot, ↓rdAll_nil, ↓rdAll_cons, ↓kpAll_nil, ↓kpAll_cons, ↓argK_nil, ↓argK_val, ↓argK_bor, ↓argK_slot, ↓rcInt_int, ↓rcInt_bl, ↓rcLen_lst, ↓rcLen_tup, ↓rcLen_scr, ↓rcLen_str, ↓rcAbs_int, ↓rcMax2_ii, ↓rcMin2_ii, ↓rcListS_str, ↓rcListS_lst, ↓rcListS_tup, ↓rcTuple_lst, ↓rcTuple_tup, ↓rcAll_lst, ↓rcSum_lst, ↓rcStr_int, ↓rcStr_str, ↓rcRepr_int, ↓slK_lst, ↓slK_tup, ↓slK_str, ↓slSK_scr, ↓revK_lst, ↓inK_lst, ↓inK_tup, ↓inK_ss, ↓objK_e, ↓obK_obj, ↓obK_cel, ↓objW_obj, ↓wJs_nil, ↓wJs_cons, ↓fmtK_str, ↓fmtK_int, ↓fmtRK_str, ↓fmtRK_int, ↓joinK_lst, ↓joinK_tup, ↓noLent_nil, ↓noLent_cons, ↓wipeS_e, ↓wipeL_nil, ↓wipeL_cons, ↓pI_int, ↓pS_str, ↓pB_bl, ↓nfK_obj, ↓nfK_cel, ↓nfK_non, ↓nfK_bl, ↓nfK_int, ↓nfK_str, ↓nfK_tup, ↓nfK_lst, ↓nfK_dct, ↓slfK_e, ↓isNonT_non, ↓ofK_e, ↓derefK_lst, ↓derefK_tup, ↓derefK_str, ↓derefK_cel, ↓rcReprA_e, ↓wFmtRD_e, ↓aStar_e, ↓seqItK_lst, ↓seqItK_tup, ↓wFldC_e, ↓wMakeK_e, ↓wTryL_e, ↓wHds_nil, ↓wHds_cons, ↓revTK_tup, ↓wRevT_e, ↓rsRep_t, ↓rsRep_l, ↓wKp_e, ↓aConsF_e, ↓notSl_val, ↓notSl_fresh, ↓notSl_bor, ↓wParN_e, ↓asgN_nil, ↓asgN_cons, ↓rcMin1_lst, ↓wRaise_e, ↓wTry_e, ↓wExf_e, ↓wExI_e, ↓fldL1, ↓rcReprD_e, sTake, hc]
    exact ⟨⟨by omega, by omega⟩, fin⟩
/-! words -/
def lowS (z : Str) : Prop := ∀ c ∈ z.cps.toList, 97 ≤ c ∧ c ≤ 122
structure Good (z : Str) : Prop where
  l1 : 1 ≤ z.length
  l2 : z.length ≤ 8
  lo : lowS z
  nk : z ∉ c_KEPT
abbrev AZ : Str := "abcdefghijklmnopqrstuvwxyz"
theorem lowAZ : lowS AZ := by unfold lowS; decide +kernel
theorem low_app {a b : Str} (h : lowS a) (g : lowS b) : lowS (a ++ b) := fun c hc => by
  rw [app_list] at hc
  rcases List.mem_append.mp hc with hc | hc
  · exact h c hc
  · exact g c hc
theorem low_cut {a : Str} (h : lowS a) (lo hi : Option Int) : lowS (cutS a lo hi) := fun c hc => by
  unfold cutS at hc
  exact h c (List.mem_of_mem_drop (List.mem_of_mem_take (by simpa using hc)))
theorem chars_mem {z : Str} {x : PV} (h : x ∈ chars z) : ∃ c : Nat, x = .str ⟨#[c]⟩ ∧ c ∈ z.cps.toList := by
  unfold chars at h
  obtain ⟨c, hc, e⟩ := List.mem_map.mp h
  exact ⟨c, e.symm, hc⟩
theorem low1 {z : Str} (h : lowS z) {c : Nat} (hc : c ∈ z.cps.toList) : lowS ⟨#[c]⟩ := fun d hd => by
  have : d = c := by simpa using hd
  subst this
  exact h d hc
theorem nodup_le {α : Type} [DecidableEq α] : ∀ {l u : List α}, l.Nodup → (∀ x ∈ l, x ∈ u) → l.length ≤ u.length
  | [], _, _, _ => Nat.zero_le _
  | x :: l, u, n, h => by
    have n' := List.nodup_cons.mp n
    have hx := h x (by simp)
    have := nodup_le (u := u.erase x) n'.2 fun y hy => (List.mem_erase_of_ne (fun e => by subst e; exact n'.1 hy)).mpr (h y (by simp [hy]))
    rw [List.length_erase_of_mem hx] at this
    have hp : 0 < u.length := List.length_pos_of_mem hx
    rw [List.length_cons]
    omega
/-- the letters as texts -/
def lets : List Str := AZ.cps.toList.map fun c => ⟨#[c]⟩
theorem lets_nd : lets.Nodup := by decide +kernel
theorem lets_len : lets.length = 26 := by decide +kernel
theorem lets_nk : ∀ z ∈ lets, z ∉ c_KEPT := by decide +kernel
theorem lets_chars : chars AZ = lets.map PV.str := by
  unfold chars lets
  rw [List.map_map]
  rfl
theorem eq_str (a b : Str) : pvEq (.str a) (.str b) = (a == b) := by simp [pvEq]
theorem any_str (zs : List Str) (a : Str) : ((zs.map PV.str).any fun y => pvEq y (.str a)) = zs.contains a := by
  induction zs with
  | nil => rfl
  | cons z zs ih =>
    rw [List.map_cons, List.any_cons, ih, List.contains_cons, eq_str, Bool.beq_comm]
theorem dat_strs (zs : List Str) (n : Nat) : (zs.map PV.str).all (datN n) = true := by
  rw [List.all_eq_true]
  intro x hx
  obtain ⟨z, _, rfl⟩ := List.mem_map.mp hx
  cases n <;> rfl
/-- words as a row of a table -/
structure Row (zs : List Str) : Prop where
  l3 : zs.length ≤ 3
  g : ∀ z ∈ zs, Good z
  nd : zs.Nodup
def isWs (z : Str) : Bool := decide (1 ≤ z.length) && (decide (z.length ≤ 8) && (!c_KEPT.contains z && z.cps.toList.all fun c => decide (97 ≤ c ∧ c ≤ 122)))
theorem Good.is {z : Str} (h : Good z) : isWs z = true := by
  unfold isWs
  rw [decide_eq_true h.l1, decide_eq_true h.l2, List.all_eq_true.mpr fun c hc => decide_eq_true (h.lo c hc), show c_KEPT.contains z = false from Bool.eq_false_iff.mpr fun q => h.nk (by simpa using q)]
  rfl
def isW : PV → Bool | .str z => isWs z | _ => false
/-- data that is_word can look at -/
def okW : PV → Prop
  | .str z => z.length ≤ sizeLine
  | .non => True
  | .bl _ => True
  | .int _ => True
  | .tup _ => True
  | .lst _ => True
  | _ => False
def sIsW : FW := fun args c rt _ => match args with
  | [.val x] => okW x ∧ rt (.val (.bl (isW x))) c
  | _ => False
theorem sIsW_of {args : List BV.Slot} {c : List PV} {rt : TV → List PV → Prop} {ex : Ex → List PV → Prop} (h : sIsW args c rt ex) : ∃ x, args = [.val x] ∧ okW x ∧ rt (.val (.bl (isW x))) c := by
  unfold sIsW at h
  split at h
  · exact ⟨_, rfl, h⟩
  · exact h.elim
theorem letters_mem (c : Nat) : c ∈ AZ.cps.toList ↔ 97 ≤ c ∧ c ≤ 122 := by
  have e : AZ.cps.toList = (List.range 26).map (97 + ·) := by decide
  rw [e]
  simp
  constructor
  · rintro ⟨a, h, rfl⟩; omega
  · intro h; exact ⟨c - 97, by omega, by omega⟩
theorem is_word_ok (K : PySem.W.Frag) : ∀ args c rt ex, sIsW args c rt ex → fwOf 2 1 (w_is_word K) args c rt ex := by
  intro args c rt ex h
  obtain ⟨x, rfl, hx, hq⟩ := sIsW_of h
  refine fwOf_i rfl fun E _ hrt _ => ?_
  unfold w_is_word
  cases x with
  | str z =>
    have hx : z.length ≤ sizeLine := hx
    have fin : (1 ≤ z.length ∧ z.length ≤ 8 ∧ z ∉ c_KEPT) → t_is_word_1 K ⟨[.val (.str z), .emp], c⟩ E := fun ⟨a1, a2, a3⟩ => by
      unfold t_is_word_1
      simp [↓wVar_e, ↓wC_e, ↓wOp2_e, ↓wTest_e, ↓wAnd_e, ↓wOr_e, ↓wNot_e, ↓wAndV_e, ↓wOrV_e, ↓wNotV_e, ↓wIfE_e, ↓aNil_e, ↓aCons_e, ↓wLst_e, ↓wTup_e, ↓wCall_e, ↓wSet_e, ↓wSeq_e, ↓wSkip_e, ↓wIf_e, ↓wDrop_e, ↓wRet_e, ↓wRetN_e, ↓wBrk_e, ↓wCnt_e, ↓wNev_e, ↓gwName_e, ↓gwNil_e, ↓gwCons_e, ↓gwTup_e, ↓gwTupN_e, ↓wSrc_e, ↓wSrcZ_e, ↓wRng1_e, ↓wRng2_e, ↓wFor_e, ↓wLc_e, ↓wYes_e, ↓rsEq_e, ↓rsNe_e, ↓rsIn_e, ↓rsNotIn_e, ↓rsInt_e, ↓rsInt0_e, ↓rsAdd_e, ↓rsIsN_e, ↓rsNotN_e, ↓rsIx_e, ↓oNo_e, ↓oOf_e, ↓wSl_e, ↓wRev_e, ↓wNeg_e, ↓wCh_e, ↓wBlt_e, ↓rc1_e, ↓rc2_e, ↓wEn_e, ↓wChs_e, ↓wJoin_e, ↓wMut_e, ↓mfAppend_e, ↓mfPop_e, ↓mfReverse_e, ↓mfInsert_e, ↓mfExtend_e, ↓wSetIx_e, ↓wFmt_e, ↓wFmtR_e, ↓wFs_e, ↓wIsi_e, ↓wFld_e, ↓wSetF_e, ↓wSp1_e, ↓wEqO_e, ↓wInO_e, ↓wMeth_e, ↓wIxC_e, ↓rsIxS_e, ↓wSlS_e, ↓wLstC_e, ↓wTupC_e, ↓rsSub_e, ↓rsMulI_e, ↓rsFdiv_e, ↓rsMod_e, ↓rsPow_e, ↓rsLt_e, ↓rsLe_e, ↓rsGt_e, ↓rsGe_e, ↓rdK_val, ↓rdK_fresh, ↓rdK_bor, ↓rdK_slot, ↓kpK_val, ↓kpK_fresh, ↓kpK_slot, ↓retK_val, ↓retK_fresh, ↓retK_slot, ↓asgK_val, ↓asgK_bor, ↓asgK_fresh, ↓asgK_slot, ↓wrK_slot, ↓wrK_cel, ↓lstK_lst, ↓asInt_int, ↓intK_ii, ↓isBl_bl, ↓isBlT_bl, ↓strK_str, ↓itemsK_lst, ↓itemsK_tup, ↓stl_val, ↓stl_fresh, ↓stl_bor, ↓stl_slot, ↓srcK_val, ↓srcK_fresh, ↓srcK_bor, ↓srcK_slot, ↓rdAll_nil, ↓rdAll_cons, ↓kpAll_nil, ↓kpAll_cons, ↓argK_nil, ↓argK_val, ↓argK_bor, ↓argK_slot, ↓rcInt_int, ↓rcInt_bl, ↓rcLen_lst, ↓rcLen_tup, ↓rcLen_scr, ↓rcLen_str, ↓rcAbs_int, ↓rcMax2_ii, ↓rcMin2_ii, ↓rcListS_str, ↓rcListS_lst, ↓rcListS_tup, ↓rcTuple_lst, ↓rcTuple_tup, ↓rcAll_lst, ↓rcSum_lst, ↓rcStr_int, ↓rcStr_str, ↓rcRepr_int, ↓slK_lst, ↓slK_tup, ↓slK_str, ↓slSK_scr, ↓revK_lst, ↓inK_lst, ↓inK_tup, ↓inK_ss, ↓objK_e, ↓obK_obj, ↓obK_cel, ↓objW_obj, ↓wJs_nil, ↓wJs_cons, ↓fmtK_str, ↓fmtK_int, ↓fmtRK_str, ↓fmtRK_int, ↓joinK_lst, ↓joinK_tup, ↓noLent_nil, ↓noLent_cons, ↓wipeS_e, ↓wipeL_nil, ↓wipeL_cons, ↓pI_int, ↓pS_str, ↓pB_bl, ↓nfK_obj, ↓nfK_cel, ↓nfK_non, ↓nfK_bl, ↓nfK_int, ↓nfK_str, ↓nfK_tup, ↓nfK_lst, ↓nfK_dct, ↓slfK_e, ↓isNonT_non, ↓ofK_e, ↓derefK_lst, ↓derefK_tup, ↓derefK_str, ↓derefK_cel, ↓rcReprA_e, ↓wFmtRD_e, ↓aStar_e, ↓seqItK_lst, ↓seqItK_tup, ↓wFldC_e, ↓wMakeK_e, ↓wTryL_e, ↓wHds_nil, ↓wHds_cons, ↓revTK_tup, ↓wRevT_e, ↓rsRep_t, ↓rsRep_l, ↓wKp_e, ↓aConsF_e, ↓notSl_val, ↓notSl_fresh, ↓notSl_bor, ↓wParN_e, ↓asgN_nil, ↓asgN_cons, ↓rcMin1_lst, ↓wRaise_e, ↓wTry_e, ↓wExf_e, ↓wExI_e, ↓fldL1, ↓rcReprD_e]
      refine lc_map (fun x => match x with | .str y => .bl (y.cps.toList.all fun c => decide (97 ≤ c ∧ c ≤ 122)) | _ => .non) ?_ ?_ ?_
      · intro x ys k hx hy hk
        obtain ⟨ch, rfl, hc1⟩ := chars_mem hx
        simp at hk
        have e : decide (ch ∈ (Str.ofString "abcdefghijklmnopqrstuvwxyz").cps) = (decide (97 ≤ ch) && decide (ch ≤ 122)) := by
          rw [← Bool.decide_and, decide_eq_decide, ← Array.mem_toList_iff]
          exact letters_mem ch
        simp [↓wVar_e, ↓wC_e, ↓wOp2_e, ↓wTest_e, ↓wAnd_e, ↓wOr_e, ↓wNot_e, ↓wAndV_e, ↓wOrV_e, ↓wNotV_e, ↓wIfE_e, ↓aNil_e, ↓aCons_e, ↓wLst_e, ↓wTup_e, ↓wCall_e, ↓wSet_e, ↓wSeq_e, ↓wSkip_e, ↓wIf_e, ↓wDrop_e, ↓wRet_e, ↓wRetN_e, ↓wBrk_e, ↓wCnt_e, ↓wNev_e, ↓gwName_e, ↓gwNil_e, ↓gwCons_e, ↓gwTup_e, ↓gwTupN_e, ↓wSrc_e, ↓wSrcZ_e, ↓wRng1_e, ↓wRng2_e, ↓wFor_e, ↓wLc_e, ↓wYes_e, ↓rsEq_e, ↓rsNe_e, ↓rsIn_e, ↓rsNotIn_e, ↓rsInt_e, ↓rsInt0_e, ↓rsAdd_e, ↓rsIsN_e, ↓rsNotN_e, ↓rsIx_e, ↓oNo_e, ↓oOf_e, ↓wSl_e, ↓wRev_e, ↓wNeg_e, ↓wCh_e, ↓wBlt_e, ↓rc1_e, ↓rc2_e, ↓wEn_e, ↓wChs_e, ↓wJoin_e, ↓wMut_e, ↓mfAppend_e, ↓mfPop_e, ↓mfReverse_e, ↓mfInsert_e, ↓mfExtend_e, ↓wSetIx_e, ↓wFmt_e, ↓wFmtR_e, ↓wFs_e, ↓wIsi_e, ↓wFld_e, ↓wSetF_e, ↓wSp1_e, ↓wEqO_e, ↓wInO_e, ↓wMeth_e, ↓wIxC_e, ↓rsIxS_e, ↓wSlS_e, ↓wLstC_e, ↓wTupC_e, ↓rsSub_e, ↓rsMulI_e, ↓rsFdiv_e, ↓rsMod_e, ↓rsPow_e, ↓rsLt_e, ↓rsLe_e, ↓rsGt_e, ↓rsGe_e, ↓rdK_val, ↓rdK_fresh, ↓rdK_bor, ↓rdK_slot, ↓kpK_val, ↓kpK_fresh, ↓kpK_slot, ↓retK_val, ↓retK_fresh, ↓retK_slot, ↓asgK_val, ↓asgK_bor, ↓asgK_fresh, ↓asgK_slot, ↓wrK_slot, ↓wrK_cel, ↓lstK_lst, ↓asInt_int, ↓intK_ii, ↓isBl_bl, ↓isBlT_bl, ↓strK_str, ↓itemsK_lst, ↓itemsK_tup, ↓stl_val, ↓stl_fresh, ↓stl_bor, ↓stl_slot, ↓srcK_val, ↓srcK_fresh, ↓srcK_bor, ↓srcK_slot, ↓rdAll_nil, ↓rdAll_cons, ↓kpAll_nil, ↓kpAll_cons, ↓argK_nil, ↓argK_val, ↓argK_bor, ↓argK_slot, ↓rcInt_int, ↓rcInt_bl, ↓rcLen_lst, ↓rcLen_tup, ↓rcLen_scr, ↓rcLen_str, ↓rcAbs_int, ↓rcMax2_ii, ↓rcMin2_ii, ↓rcListS_str, ↓rcListS_lst, ↓rcListS_tup, ↓rcTuple_lst, ↓rcTuple_tup, ↓rcAll_lst, ↓rcSum_lst, ↓rcStr_int, ↓rcStr_str, ↓rcRepr_int, ↓slK_lst, ↓slK_tup, ↓slK_str, ↓slSK_scr, ↓revK_lst, ↓inK_lst, ↓inK_tup, ↓inK_ss, ↓objK_e, ↓obK_obj, ↓obK_cel, ↓objW_obj, ↓wJs_nil, ↓wJs_cons, ↓fmtK_str, ↓fmtK_int, ↓fmtRK_str, ↓fmtRK_int, ↓joinK_lst, ↓joinK_tup, ↓noLent_nil, ↓noLent_cons, ↓wipeS_e, ↓wipeL_nil, ↓wipeL_cons, ↓pI_int, ↓pS_str, ↓pB_bl, ↓nfK_obj, ↓nfK_cel, ↓nfK_non, ↓nfK_bl, ↓nfK_int, ↓nfK_str, ↓nfK_tup, ↓nfK_lst, ↓nfK_dct, ↓slfK_e, ↓isNonT_non, ↓ofK_e, ↓derefK_lst, ↓derefK_tup, ↓derefK_str, ↓derefK_cel, ↓rcReprA_e, ↓wFmtRD_e, ↓aStar_e, ↓seqItK_lst, ↓seqItK_tup, ↓wFldC_e, ↓wMakeK_e, ↓wTryL_e, ↓wHds_nil, ↓wHds_cons, ↓revTK_tup, ↓wRevT_e, ↓rsRep_t, ↓rsRep_l, ↓wKp_e, ↓aConsF_e, ↓notSl_val, ↓notSl_fresh, ↓notSl_bor, ↓wParN_e, ↓asgN_nil, ↓asgN_cons, ↓rcMin1_lst, ↓wRaise_e, ↓wTry_e, ↓wExf_e, ↓wExI_e, ↓fldL1, ↓rcReprD_e, e, hy]
        exact hk
      · unfold chars
        rw [List.length_map]
        exact hx
      · refine ⟨z.cps.toList.map fun c => decide (97 ≤ c ∧ c ≤ 122), ?_, ?_⟩
        · unfold chars
          rw [List.map_map, List.map_map]
          refine List.map_congr_left fun a _ => ?_
          simp
        · rw [hrt]
          show rt _ c
          have : isW (.str z) = ((z.cps.toList.map fun c => decide (97 ≤ c ∧ c ≤ 122)).all id) := by
            show isWs z = _
            unfold isWs
            rw [decide_eq_true a1, decide_eq_true a2, show c_KEPT.contains z = false from Bool.eq_false_iff.mpr fun q => a3 (by simpa using q), List.all_map]
            rfl
          rw [← this]
          exact hq
    have no : ¬ (1 ≤ z.length ∧ z.length ≤ 8 ∧ z ∉ c_KEPT) → E.rt (.val (.bl false)) ⟨[.val (.str z), .emp], c⟩ := fun hn => by
      rw [hrt]
      show rt _ c
      have : isW (.str z) = false := by
        show isWs z = false
        rw [Bool.eq_false_iff]
        intro q
        unfold isWs at q
        simp at q
        exact hn ⟨q.1, q.2.1, q.2.2.1⟩
      rw [← this]
      exact hq
    simp [↓wVar_e, ↓wC_e, ↓wOp2_e, ↓wTest_e, ↓wAnd_e, ↓wOr_e, ↓wNot_e, ↓wAndV_e, ↓wOrV_e, ↓wNotV_e, ↓wIfE_e, ↓aNil_e, ↓aCons_e, ↓wLst_e, ↓wTup_e, ↓wCall_e, ↓wSet_e, ↓wSeq_e, ↓wSkip_e, ↓wIf_e, ↓wDrop_e, ↓wRet_e, ↓wRetN_e, ↓wBrk_e, ↓wCnt_e, ↓wNev_e, ↓gwName_e, ↓gwNil_e, ↓gwCons_e, ↓gwTup_e, ↓gwTupN_e, ↓wSrc_e, ↓wSrcZ_e, ↓wRng1_e, ↓wRng2_e, ↓wFor_e, ↓wLc_e, ↓wYes_e, ↓rsEq_e, ↓rsNe_e, ↓rsIn_e, ↓rsNotIn_e, ↓rsInt_e, ↓rsInt0_e, ↓rsAdd_e, ↓rsIsN_e, ↓rsNotN_e, ↓rsIx_e, ↓oNo_e, ↓oOf_e, ↓wSl_e, ↓wRev_e, ↓wNeg_e, ↓wCh_e, ↓wBlt_e, ↓rc1_e, ↓rc2_e, ↓wEn_e, ↓wChs_e, ↓wJoin_e, ↓wMut_e, ↓mfAppend_e, ↓mfPop_e, ↓mfReverse_e, ↓mfInsert_e, ↓mfExtend_e, ↓wSetIx_e, ↓wFmt_e, ↓wFmtR_e, ↓wFs_e, ↓wIsi_e, ↓wFld_e, ↓wSetF_e, ↓wSp1_e, ↓wEqO_e, ↓wInO_e, ↓wMeth_e, ↓wIxC_e, ↓rsIxS_e, ↓wSlS_e, ↓wLstC_e, ↓wTupC_e, ↓rsSub_e, ↓rsMulI_e, ↓rsFdiv_e, ↓rsMod_e, ↓rsPow_e, ↓rsLt_e, ↓rsLe_e, ↓rsGt_e, ↓rsGe_e, ↓rdK_val, ↓rdK_fresh, ↓rdK_bor, ↓rdK_slot, ↓kpK_val, ↓kpK_fresh, ↓kpK_slot, ↓retK_val, ↓retK_fresh, ↓retK_slot, ↓asgK_val, ↓asgK_bor, ↓asgK_fresh, ↓asgK_slot, ↓wrK_slot, ↓wrK_cel, ↓lstK_lst, ↓asInt_int, ↓intK_ii, ↓isBl_bl, ↓isBlT_bl, ↓strK_str, ↓itemsK_lst, ↓itemsK_tup, ↓stl_val, ↓stl_fresh, ↓stl_bor, ↓stl_slot, ↓srcK_val, ↓srcK_fresh, ↓srcK_bor, ↓srcK_slot, ↓rdAll_nil, ↓rdAll_cons, ↓kpAll_nil, ↓kpAll_cons, ↓argK_nil, ↓argK_val, ↓argK_bor, ↓argK_slot, ↓rcInt_int, ↓rcInt_bl, ↓rcLen_lst, ↓rcLen_tup, ↓rcLen_scr, ↓rcLen_str, ↓rcAbs_int, ↓rcMax2_ii, ↓rcMin2_ii, ↓rcListS_str, ↓rcListS_lst, ↓rcListS_tup, ↓rcTuple_lst, ↓rcTuple_tup, ↓rcAll_lst, ↓rcSum_lst, ↓rcStr_int, ↓rcStr_str, ↓rcRepr_int, ↓slK_lst, ↓slK_tup, ↓slK_str, ↓slSK_scr, ↓revK_lst, ↓inK_lst, ↓inK_tup, ↓inK_ss, ↓objK_e, ↓obK_obj, ↓obK_cel, ↓objW_obj, ↓wJs_nil, ↓wJs_cons, ↓fmtK_str, ↓fmtK_int, ↓fmtRK_str, ↓fmtRK_int, ↓joinK_lst, ↓joinK_tup, ↓noLent_nil, ↓noLent_cons, ↓wipeS_e, ↓wipeL_nil, ↓wipeL_cons, ↓pI_int, ↓pS_str, ↓pB_bl, ↓nfK_obj, ↓nfK_cel, ↓nfK_non, ↓nfK_bl, ↓nfK_int, ↓nfK_str, ↓nfK_tup, ↓nfK_lst, ↓nfK_dct, ↓slfK_e, ↓isNonT_non, ↓ofK_e, ↓derefK_lst, ↓derefK_tup, ↓derefK_str, ↓derefK_cel, ↓rcReprA_e, ↓wFmtRD_e, ↓aStar_e, ↓seqItK_lst, ↓seqItK_tup, ↓wFldC_e, ↓wMakeK_e, ↓wTryL_e, ↓wHds_nil, ↓wHds_cons, ↓revTK_tup, ↓wRevT_e, ↓rsRep_t, ↓rsRep_l, ↓wKp_e, ↓aConsF_e, ↓notSl_val, ↓notSl_fresh, ↓notSl_bor, ↓wParN_e, ↓asgN_nil, ↓asgN_cons, ↓rcMin1_lst, ↓wRaise_e, ↓wTry_e, ↓wExf_e, ↓wExI_e, ↓fldL1, ↓rcReprD_e, fStr, fTy, hx]
    exact ⟨fun a1 => ⟨fun a2 => ⟨fun a3 => no fun q => q.2.2 a3, fun a3 => fin ⟨by omega, by omega, fun q => a3 _ q rfl⟩⟩, fun a2 => no fun q => by omega⟩, fun a1 => no fun q => by omega⟩
  | non => simp [↓wVar_e, ↓wC_e, ↓wOp2_e, ↓wTest_e, ↓wAnd_e, ↓wOr_e, ↓wNot_e, ↓wAndV_e, ↓wOrV_e, ↓wNotV_e, ↓wIfE_e, ↓aNil_e, ↓aCons_e, ↓wLst_e, ↓wTup_e, ↓wCall_e, ↓wSet_e, ↓wSeq_e, ↓wSkip_e, ↓wIf_e, ↓wDrop_e, ↓wRet_e, ↓wRetN_e, ↓wBrk_e, ↓wCnt_e, ↓wNev_e, ↓gwName_e, ↓gwNil_e, ↓gwCons_e, ↓gwTup_e, ↓gwTupN_e, ↓wSrc_e, ↓wSrcZ_e, ↓wRng1_e, ↓wRng2_e, ↓wFor_e, ↓wLc_e, ↓wYes_e, ↓rsEq_e, ↓rsNe_e, ↓rsIn_e, ↓rsNotIn_e, ↓rsInt_e, ↓rsInt0_e, ↓rsAdd_e, ↓rsIsN_e, ↓rsNotN_e, ↓rsIx_e, ↓oNo_e, ↓oOf_e, ↓wSl_e, ↓wRev_e, ↓wNeg_e, ↓wCh_e, ↓wBlt_e, ↓rc1_e, ↓rc2_e, ↓wEn_e, ↓wChs_e, ↓wJoin_e, ↓wMut_e, ↓mfAppend_e, ↓mfPop_e, ↓mfReverse_e, ↓mfInsert_e, ↓mfExtend_e, ↓wSetIx_e, ↓wFmt_e, ↓wFmtR_e, ↓wFs_e, ↓wIsi_e, ↓wFld_e, ↓wSetF_e, ↓wSp1_e, ↓wEqO_e, ↓wInO_e, ↓wMeth_e, ↓wIxC_e, ↓rsIxS_e, ↓wSlS_e, ↓wLstC_e, ↓wTupC_e, ↓rsSub_e, ↓rsMulI_e, ↓rsFdiv_e, ↓rsMod_e, ↓rsPow_e, ↓rsLt_e, ↓rsLe_e, ↓rsGt_e, ↓rsGe_e, ↓rdK_val, ↓rdK_fresh, ↓rdK_bor, ↓rdK_slot, ↓kpK_val, ↓kpK_fresh, ↓kpK_slot, ↓retK_val, ↓retK_fresh, ↓retK_slot, ↓asgK_val, ↓asgK_bor, ↓asgK_fresh, ↓asgK_slot, ↓wrK_slot, ↓wrK_cel, ↓lstK_lst, ↓asInt_int, ↓intK_ii, ↓isBl_bl, ↓isBlT_bl, ↓strK_str, ↓itemsK_lst, ↓itemsK_tup, ↓stl_val, ↓stl_fresh, ↓stl_bor, ↓stl_slot, ↓srcK_val, ↓srcK_fresh, ↓srcK_bor, ↓srcK_slot, ↓rdAll_nil, ↓rdAll_cons, ↓kpAll_nil, ↓kpAll_cons, ↓argK_nil, ↓argK_val, ↓argK_bor, ↓argK_slot, ↓rcInt_int, ↓rcInt_bl, ↓rcLen_lst, ↓rcLen_tup, ↓rcLen_scr, ↓rcLen_str, ↓rcAbs_int, ↓rcMax2_ii, ↓rcMin2_ii, ↓rcListS_str, ↓rcListS_lst, ↓rcListS_tup, ↓rcTuple_lst, ↓rcTuple_tup, ↓rcAll_lst, ↓rcSum_lst, ↓rcStr_int, ↓rcStr_str, ↓rcRepr_int, ↓slK_lst, ↓slK_tup, ↓slK_str, ↓slSK_scr, ↓revK_lst, ↓inK_lst, ↓inK_tup, ↓inK_ss, ↓objK_e, ↓obK_obj, ↓obK_cel, ↓objW_obj, ↓wJs_nil, ↓wJs_cons, ↓fmtK_str, ↓fmtK_int, ↓fmtRK_str, ↓fmtRK_int, ↓joinK_lst, ↓joinK_tup, ↓noLent_nil, ↓noLent_cons, ↓wipeS_e, ↓wipeL_nil, ↓wipeL_cons, ↓pI_int, ↓pS_str, ↓pB_bl, ↓nfK_obj, ↓nfK_cel, ↓nfK_non, ↓nfK_bl, ↓nfK_int, ↓nfK_str, ↓nfK_tup, ↓nfK_lst, ↓nfK_dct, ↓slfK_e, ↓isNonT_non, ↓ofK_e, ↓derefK_lst, ↓derefK_tup, ↓derefK_str, ↓derefK_cel, ↓rcReprA_e, ↓wFmtRD_e, ↓aStar_e, ↓seqItK_lst, ↓seqItK_tup, ↓wFldC_e, ↓wMakeK_e, ↓wTryL_e, ↓wHds_nil, ↓wHds_cons, ↓revTK_tup, ↓wRevT_e, ↓rsRep_t, ↓rsRep_l, ↓wKp_e, ↓aConsF_e, ↓notSl_val, ↓notSl_fresh, ↓notSl_bor, ↓wParN_e, ↓asgN_nil, ↓asgN_cons, ↓rcMin1_lst, ↓wRaise_e, ↓wTry_e, ↓wExf_e, ↓wExI_e, ↓fldL1, ↓rcReprD_e, fStr, fTy, hrt]; exact hq
  | bl b => simp [↓wVar_e, ↓wC_e, ↓wOp2_e, ↓wTest_e, ↓wAnd_e, ↓wOr_e, ↓wNot_e, ↓wAndV_e, ↓wOrV_e, ↓wNotV_e, ↓wIfE_e, ↓aNil_e, ↓aCons_e, ↓wLst_e, ↓wTup_e, ↓wCall_e, ↓wSet_e, ↓wSeq_e, ↓wSkip_e, ↓wIf_e, ↓wDrop_e, ↓wRet_e, ↓wRetN_e, ↓wBrk_e, ↓wCnt_e, ↓wNev_e, ↓gwName_e, ↓gwNil_e, ↓gwCons_e, ↓gwTup_e, ↓gwTupN_e, ↓wSrc_e, ↓wSrcZ_e, ↓wRng1_e, ↓wRng2_e, ↓wFor_e, ↓wLc_e, ↓wYes_e, ↓rsEq_e, ↓rsNe_e, ↓rsIn_e, ↓rsNotIn_e, ↓rsInt_e, ↓rsInt0_e, ↓rsAdd_e, ↓rsIsN_e, ↓rsNotN_e, ↓rsIx_e, ↓oNo_e, ↓oOf_e, ↓wSl_e, ↓wRev_e, ↓wNeg_e, ↓wCh_e, ↓wBlt_e, ↓rc1_e, ↓rc2_e, ↓wEn_e, ↓wChs_e, ↓wJoin_e, ↓wMut_e, ↓mfAppend_e, ↓mfPop_e, ↓mfReverse_e, ↓mfInsert_e, ↓mfExtend_e, ↓wSetIx_e, ↓wFmt_e, ↓wFmtR_e, ↓wFs_e, ↓wIsi_e, ↓wFld_e, ↓wSetF_e, ↓wSp1_e, ↓wEqO_e, ↓wInO_e, ↓wMeth_e, ↓wIxC_e, ↓rsIxS_e, ↓wSlS_e, ↓wLstC_e, ↓wTupC_e, ↓rsSub_e, ↓rsMulI_e, ↓rsFdiv_e, ↓rsMod_e, ↓rsPow_e, ↓rsLt_e, ↓rsLe_e, ↓rsGt_e, ↓rsGe_e, ↓rdK_val, ↓rdK_fresh, ↓rdK_bor, ↓rdK_slot, ↓kpK_val, ↓kpK_fresh, ↓kpK_slot, ↓retK_val, ↓retK_fresh, ↓retK_slot, ↓asgK_val, ↓asgK_bor, ↓asgK_fresh, ↓asgK_slot, ↓wrK_slot, ↓wrK_cel, ↓lstK_lst, ↓asInt_int, ↓intK_ii, ↓isBl_bl, ↓isBlT_bl, ↓strK_str, ↓itemsK_lst, ↓itemsK_tup, ↓stl_val, ↓stl_fresh, ↓stl_bor, ↓stl_slot, ↓srcK_val, ↓srcK_fresh, ↓srcK_bor, ↓srcK_slot, ↓rdAll_nil, ↓rdAll_cons, ↓kpAll_nil, ↓kpAll_cons, ↓argK_nil, ↓argK_val, ↓argK_bor, ↓argK_slot, ↓rcInt_int, ↓rcInt_bl, ↓rcLen_lst, ↓rcLen_tup, ↓rcLen_scr, ↓rcLen_str, ↓rcAbs_int, ↓rcMax2_ii, ↓rcMin2_ii, ↓rcListS_str, ↓rcListS_lst, ↓rcListS_tup, ↓rcTuple_lst, ↓rcTuple_tup, ↓rcAll_lst, ↓rcSum_lst, ↓rcStr_int, ↓rcStr_str, ↓rcRepr_int, ↓slK_lst, ↓slK_tup, ↓slK_str, ↓slSK_scr, ↓revK_lst, ↓inK_lst, ↓inK_tup, ↓inK_ss, ↓objK_e, ↓obK_obj, ↓obK_cel, ↓objW_obj, ↓wJs_nil, ↓wJs_cons, ↓fmtK_str, ↓fmtK_int, ↓fmtRK_str, ↓fmtRK_int, ↓joinK_lst, ↓joinK_tup, ↓noLent_nil, ↓noLent_cons, ↓wipeS_e, ↓wipeL_nil, ↓wipeL_cons, ↓pI_int, ↓pS_str, ↓pB_bl, ↓nfK_obj, ↓nfK_cel, ↓nfK_non, ↓nfK_bl, ↓nfK_int, ↓nfK_str, ↓nfK_tup, ↓nfK_lst, ↓nfK_dct, ↓slfK_e, ↓isNonT_non, ↓ofK_e, ↓derefK_lst, ↓derefK_tup, ↓derefK_str, ↓derefK_cel, ↓rcReprA_e, ↓wFmtRD_e, ↓aStar_e, ↓seqItK_lst, ↓seqItK_tup, ↓wFldC_e, ↓wMakeK_e, ↓wTryL_e, ↓wHds_nil, ↓wHds_cons, ↓revTK_tup, ↓wRevT_e, ↓rsRep_t, ↓rsRep_l, ↓wKp_e, ↓aConsF_e, ↓notSl_val, ↓notSl_fresh, ↓notSl_bor, ↓wParN_e, ↓asgN_nil, ↓asgN_cons, ↓rcMin1_lst, ↓wRaise_e, ↓wTry_e, ↓wExf_e, ↓wExI_e, ↓fldL1, ↓rcReprD_e, fStr, fTy, hrt]; exact hq
  | int b => simp [↓wVar_e, ↓wC_e, ↓wOp2_e, ↓wTest_e, ↓wAnd_e, ↓wOr_e, ↓wNot_e, ↓wAndV_e, ↓wOrV_e, ↓wNotV_e, ↓wIfE_e, ↓aNil_e, ↓aCons_e, ↓wLst_e, ↓wTup_e, ↓wCall_e, ↓wSet_e, ↓wSeq_e, ↓wSkip_e, ↓wIf_e, ↓wDrop_e, ↓wRet_e, ↓wRetN_e, ↓wBrk_e, ↓wCnt_e, ↓wNev_e, ↓gwName_e, ↓gwNil_e, ↓gwCons_e, ↓gwTup_e, ↓gwTupN_e, ↓wSrc_e, ↓wSrcZ_e, ↓wRng1_e, ↓wRng2_e, ↓wFor_e, ↓wLc_e, ↓wYes_e, ↓rsEq_e, ↓rsNe_e, ↓rsIn_e, ↓rsNotIn_e, ↓rsInt_e, ↓rsInt0_e, ↓rsAdd_e, ↓rsIsN_e, ↓rsNotN_e, ↓rsIx_e, ↓oNo_e, ↓oOf_e, ↓wSl_e, ↓wRev_e, ↓wNeg_e, ↓wCh_e, ↓wBlt_e, ↓rc1_e, ↓rc2_e, ↓wEn_e, ↓wChs_e, ↓wJoin_e, ↓wMut_e, ↓mfAppend_e, ↓mfPop_e, ↓mfReverse_e, ↓mfInsert_e, ↓mfExtend_e, ↓wSetIx_e, ↓wFmt_e, ↓wFmtR_e, ↓wFs_e, ↓wIsi_e, ↓wFld_e, ↓wSetF_e, ↓wSp1_e, ↓wEqO_e, ↓wInO_e, ↓wMeth_e, ↓wIxC_e, ↓rsIxS_e, ↓wSlS_e, ↓wLstC_e, ↓wTupC_e, ↓rsSub_e, ↓rsMulI_e, ↓rsFdiv_e, ↓rsMod_e, ↓rsPow_e, ↓rsLt_e, ↓rsLe_e, ↓rsGt_e, ↓rsGe_e, ↓rdK_val, ↓rdK_fresh, ↓rdK_bor, ↓rdK_slot, ↓kpK_val, ↓kpK_fresh, ↓kpK_slot, ↓retK_val, ↓retK_fresh, ↓retK_slot, ↓asgK_val, ↓asgK_bor, ↓asgK_fresh, ↓asgK_slot, ↓wrK_slot, ↓wrK_cel, ↓lstK_lst, ↓asInt_int, ↓intK_ii, ↓isBl_bl, ↓isBlT_bl, ↓strK_str, ↓itemsK_lst, ↓itemsK_tup, ↓stl_val, ↓stl_fresh, ↓stl_bor, ↓stl_slot, ↓srcK_val, ↓srcK_fresh, ↓srcK_bor, ↓srcK_slot, ↓rdAll_nil, ↓rdAll_cons, ↓kpAll_nil, ↓kpAll_cons, ↓argK_nil, ↓argK_val, ↓argK_bor, ↓argK_slot, ↓rcInt_int, ↓rcInt_bl, ↓rcLen_lst, ↓rcLen_tup, ↓rcLen_scr, ↓rcLen_str, ↓rcAbs_int, ↓rcMax2_ii, ↓rcMin2_ii, ↓rcListS_str, ↓rcListS_lst, ↓rcListS_tup, ↓rcTuple_lst, ↓rcTuple_tup, ↓rcAll_lst, ↓rcSum_lst, ↓rcStr_int, ↓rcStr_str, ↓rcRepr_int, ↓slK_lst, ↓slK_tup, ↓slK_str, ↓slSK_scr, ↓revK_lst, ↓inK_lst, ↓inK_tup, ↓inK_ss, ↓objK_e, ↓obK_obj, ↓obK_cel, ↓objW_obj, ↓wJs_nil, ↓wJs_cons, ↓fmtK_str, ↓fmtK_int, ↓fmtRK_str, ↓fmtRK_int, ↓joinK_lst, ↓joinK_tup, ↓noLent_nil, ↓noLent_cons, ↓wipeS_e, ↓wipeL_nil, ↓wipeL_cons, ↓pI_int, ↓pS_str, ↓pB_bl, ↓nfK_obj, ↓nfK_cel, ↓nfK_non, ↓nfK_bl, ↓nfK_int, ↓nfK_str, ↓nfK_tup, ↓nfK_lst, ↓nfK_dct, ↓slfK_e, ↓isNonT_non, ↓ofK_e, ↓derefK_lst, ↓derefK_tup, ↓derefK_str, ↓derefK_cel, ↓rcReprA_e, ↓wFmtRD_e, ↓aStar_e, ↓seqItK_lst, ↓seqItK_tup, ↓wFldC_e, ↓wMakeK_e, ↓wTryL_e, ↓wHds_nil, ↓wHds_cons, ↓revTK_tup, ↓wRevT_e, ↓rsRep_t, ↓rsRep_l, ↓wKp_e, ↓aConsF_e, ↓notSl_val, ↓notSl_fresh, ↓notSl_bor, ↓wParN_e, ↓asgN_nil, ↓asgN_cons, ↓rcMin1_lst, ↓wRaise_e, ↓wTry_e, ↓wExf_e, ↓wExI_e, ↓fldL1, ↓rcReprD_e, fStr, fTy, hrt]; exact hq
  | tup b => simp [↓wVar_e, ↓wC_e, ↓wOp2_e, ↓wTest_e, ↓wAnd_e, ↓wOr_e, ↓wNot_e, ↓wAndV_e, ↓wOrV_e, ↓wNotV_e, ↓wIfE_e, ↓aNil_e, ↓aCons_e, ↓wLst_e, ↓wTup_e, ↓wCall_e, ↓wSet_e, ↓wSeq_e, ↓wSkip_e, ↓wIf_e, ↓wDrop_e, ↓wRet_e, ↓wRetN_e, ↓wBrk_e, ↓wCnt_e, ↓wNev_e, ↓gwName_e, ↓gwNil_e, ↓gwCons_e, ↓gwTup_e, ↓gwTupN_e, ↓wSrc_e, ↓wSrcZ_e, ↓wRng1_e, ↓wRng2_e, ↓wFor_e, ↓wLc_e, ↓wYes_e, ↓rsEq_e, ↓rsNe_e, ↓rsIn_e, ↓rsNotIn_e, ↓rsInt_e, ↓rsInt0_e, ↓rsAdd_e, ↓rsIsN_e, ↓rsNotN_e, ↓rsIx_e, ↓oNo_e, ↓oOf_e, ↓wSl_e, ↓wRev_e, ↓wNeg_e, ↓wCh_e, ↓wBlt_e, ↓rc1_e, ↓rc2_e, ↓wEn_e, ↓wChs_e, ↓wJoin_e, ↓wMut_e, ↓mfAppend_e, ↓mfPop_e, ↓mfReverse_e, ↓mfInsert_e, ↓mfExtend_e, ↓wSetIx_e, ↓wFmt_e, ↓wFmtR_e, ↓wFs_e, ↓wIsi_e, ↓wFld_e, ↓wSetF_e, ↓wSp1_e, ↓wEqO_e, ↓wInO_e, ↓wMeth_e, ↓wIxC_e, ↓rsIxS_e, ↓wSlS_e, ↓wLstC_e, ↓wTupC_e, ↓rsSub_e, ↓rsMulI_e, ↓rsFdiv_e, ↓rsMod_e, ↓rsPow_e, ↓rsLt_e, ↓rsLe_e, ↓rsGt_e, ↓rsGe_e, ↓rdK_val, ↓rdK_fresh, ↓rdK_bor, ↓rdK_slot, ↓kpK_val, ↓kpK_fresh, ↓kpK_slot, ↓retK_val, ↓retK_fresh, ↓retK_slot, ↓asgK_val, ↓asgK_bor, ↓asgK_fresh, ↓asgK_slot, ↓wrK_slot, ↓wrK_cel, ↓lstK_lst, ↓asInt_int, ↓intK_ii, ↓isBl_bl, ↓isBlT_bl, ↓strK_str, ↓itemsK_lst, ↓itemsK_tup, ↓stl_val, ↓stl_fresh, ↓stl_bor, ↓stl_slot, ↓srcK_val, ↓srcK_fresh, ↓srcK_bor, ↓srcK_slot, ↓rdAll_nil, ↓rdAll_cons, ↓kpAll_nil, ↓kpAll_cons, ↓argK_nil, ↓argK_val, ↓argK_bor, ↓argK_slot, ↓rcInt_int, ↓rcInt_bl, ↓rcLen_lst, ↓rcLen_tup, ↓rcLen_scr, ↓rcLen_str, ↓rcAbs_int, ↓rcMax2_ii, ↓rcMin2_ii, ↓rcListS_str, ↓rcListS_lst, ↓rcListS_tup, ↓rcTuple_lst, ↓rcTuple_tup, ↓rcAll_lst, ↓rcSum_lst, ↓rcStr_int, ↓rcStr_str, ↓rcRepr_int, ↓slK_lst, ↓slK_tup, ↓slK_str, ↓slSK_scr, ↓revK_lst, ↓inK_lst, ↓inK_tup, ↓inK_ss, ↓objK_e, ↓obK_obj, ↓obK_cel, ↓objW_obj, ↓wJs_nil, ↓wJs_cons, ↓fmtK_str, ↓fmtK_int, ↓fmtRK_str, ↓fmtRK_int, ↓joinK_lst, ↓joinK_tup, ↓noLent_nil, ↓noLent_cons, ↓wipeS_e, ↓wipeL_nil, ↓wipeL_cons, ↓pI_int, ↓pS_str, ↓pB_bl, ↓nfK_obj, ↓nfK_cel, ↓nfK_non, ↓nfK_bl, ↓nfK_int, ↓nfK_str, ↓nfK_tup, ↓nfK_lst, ↓nfK_dct, ↓slfK_e, ↓isNonT_non, ↓ofK_e, ↓derefK_lst, ↓derefK_tup, ↓derefK_str, ↓derefK_cel, ↓rcReprA_e, ↓wFmtRD_e, ↓aStar_e, ↓seqItK_lst, ↓seqItK_tup, ↓wFldC_e, ↓wMakeK_e, ↓wTryL_e, ↓wHds_nil, ↓wHds_cons, ↓revTK_tup, ↓wRevT_e, ↓rsRep_t, ↓rsRep_l, ↓wKp_e, ↓aConsF_e, ↓notSl_val, ↓notSl_fresh, ↓notSl_bor, ↓wParN_e, ↓asgN_nil, ↓asgN_cons, ↓rcMin1_lst, ↓wRaise_e, ↓wTry_e, ↓wExf_e, ↓wExI_e, ↓fldL1, ↓rcReprD_e, fStr, fTy, hrt]; exact hq
  | lst b => simp [↓wVar_e, ↓wC_e, ↓wOp2_e, ↓wTest_e, ↓wAnd_e, ↓wOr_e, ↓wNot_e, ↓wAndV_e, ↓wOrV_e, ↓wNotV_e, ↓wIfE_e, ↓aNil_e, ↓aCons_e, ↓wLst_e, ↓wTup_e, ↓wCall_e, ↓wSet_e, ↓wSeq_e, ↓wSkip_e, ↓wIf_e, ↓wDrop_e, ↓wRet_e, ↓wRetN_e, ↓wBrk_e, ↓wCnt_e, ↓wNev_e, ↓gwName_e, ↓gwNil_e, ↓gwCons_e, ↓gwTup_e, ↓gwTupN_e, ↓wSrc_e, ↓wSrcZ_e, ↓wRng1_e, ↓wRng2_e, ↓wFor_e, ↓wLc_e, ↓wYes_e, ↓rsEq_e, ↓rsNe_e, ↓rsIn_e, ↓rsNotIn_e, ↓rsInt_e, ↓rsInt0_e, ↓rsAdd_e, ↓rsIsN_e, ↓rsNotN_e, ↓rsIx_e, ↓oNo_e, ↓oOf_e, ↓wSl_e, ↓wRev_e, ↓wNeg_e, ↓wCh_e, ↓wBlt_e, ↓rc1_e, ↓rc2_e, ↓wEn_e, ↓wChs_e, ↓wJoin_e, ↓wMut_e, ↓mfAppend_e, ↓mfPop_e, ↓mfReverse_e, ↓mfInsert_e, ↓mfExtend_e, ↓wSetIx_e, ↓wFmt_e, ↓wFmtR_e, ↓wFs_e, ↓wIsi_e, ↓wFld_e, ↓wSetF_e, ↓wSp1_e, ↓wEqO_e, ↓wInO_e, ↓wMeth_e, ↓wIxC_e, ↓rsIxS_e, ↓wSlS_e, ↓wLstC_e, ↓wTupC_e, ↓rsSub_e, ↓rsMulI_e, ↓rsFdiv_e, ↓rsMod_e, ↓rsPow_e, ↓rsLt_e, ↓rsLe_e, ↓rsGt_e, ↓rsGe_e, ↓rdK_val, ↓rdK_fresh, ↓rdK_bor, ↓rdK_slot, ↓kpK_val, ↓kpK_fresh, ↓kpK_slot, ↓retK_val, ↓retK_fresh, ↓retK_slot, ↓asgK_val, ↓asgK_bor, ↓asgK_fresh, ↓asgK_slot, ↓wrK_slot, ↓wrK_cel, ↓lstK_lst, ↓asInt_int, ↓intK_ii, ↓isBl_bl, ↓isBlT_bl, ↓strK_str, ↓itemsK_lst, ↓itemsK_tup, ↓stl_val, ↓stl_fresh, ↓stl_bor, ↓stl_slot, ↓srcK_val, ↓srcK_fresh, ↓srcK_bor, ↓srcK_slot, ↓rdAll_nil, ↓rdAll_cons, ↓kpAll_nil, ↓kpAll_cons, ↓argK_nil, ↓argK_val, ↓argK_bor, ↓argK_slot, ↓rcInt_int, ↓rcInt_bl, ↓rcLen_lst, ↓rcLen_tup, ↓rcLen_scr, ↓rcLen_str, ↓rcAbs_int, ↓rcMax2_ii, ↓rcMin2_ii, ↓rcListS_str, ↓rcListS_lst, ↓rcListS_tup, ↓rcTuple_lst, ↓rcTuple_tup, ↓rcAll_lst, ↓rcSum_lst, ↓rcStr_int, ↓rcStr_str, ↓rcRepr_int, ↓slK_lst, ↓slK_tup, ↓slK_str, ↓slSK_scr, ↓revK_lst, ↓inK_lst, ↓inK_tup, ↓inK_ss, ↓objK_e, ↓obK_obj, ↓obK_cel, ↓objW_obj, ↓wJs_nil, ↓wJs_cons, ↓fmtK_str, ↓fmtK_int, ↓fmtRK_str, ↓fmtRK_int, ↓joinK_lst, ↓joinK_tup, ↓noLent_nil, ↓noLent_cons, ↓wipeS_e, ↓wipeL_nil, ↓wipeL_cons, ↓pI_int, ↓pS_str, ↓pB_bl, ↓nfK_obj, ↓nfK_cel, ↓nfK_non, ↓nfK_bl, ↓nfK_int, ↓nfK_str, ↓nfK_tup, ↓nfK_lst, ↓nfK_dct, ↓slfK_e, ↓isNonT_non, ↓ofK_e, ↓derefK_lst, ↓derefK_tup, ↓derefK_str, ↓derefK_cel, ↓rcReprA_e, ↓wFmtRD_e, ↓aStar_e, ↓seqItK_lst, ↓seqItK_tup, ↓wFldC_e, ↓wMakeK_e, ↓wTryL_e, ↓wHds_nil, ↓wHds_cons, ↓revTK_tup, ↓wRevT_e, ↓rsRep_t, ↓rsRep_l, ↓wKp_e, ↓aConsF_e, ↓notSl_val, ↓notSl_fresh, ↓notSl_bor, ↓wParN_e, ↓asgN_nil, ↓asgN_cons, ↓rcMin1_lst, ↓wRaise_e, ↓wTry_e, ↓wExf_e, ↓wExI_e, ↓fldL1, ↓rcReprD_e, fStr, fTy, hrt]; exact hq
  | _ => exact hx.elim
abbrev TA (K : PySem.W.Frag) : Addr := He.ga K "Table"
/-- a table by value -/
abbrev tabP (K : PySem.W.Frag) (zs : List Str) : PV := .obj (TA K) [("columns", .tup (zs.map PV.str))]
/-- what an argument is now -/
def rdA : BV.Slot → Option PV | .val x => some x | .bor x => some x | _ => none
def itA : PV → Option (List PV) | .lst xs => some xs | .tup xs => some xs | _ => none
theorem fwI_i {C : Addr} {N n : Nat} {w : SW} {args : List BV.Slot} {c : List PV} {rt : TV → List PV → Prop} {ex : Ex → List PV → Prop} (hl : args.length = n) (h : ∀ E : En, (∀ S, E.nx S = slfK S fun r => rt r S.c) → (∀ t S, E.rt t S = (isNonT t ∧ slfK S fun r => rt r S.c)) → (∀ x S, E.ex x S = ex x S.c) → w ⟨.slf (.obj C []) :: (args ++ List.replicate (N - (args.length + 1)) .emp), c⟩ E) : fwI C N n w args c rt ex :=
  ⟨hl, h _ (fun _ => rfl) (fun _ _ => rfl) (fun _ _ => rfl)⟩
def sTab (K : PySem.W.Frag) : FW := fun args c rt _ => ∃ (zs : List Str) (u : List PV), (args = [.val (.lst u)] ∨ args = [.val (.tup u)] ∨ args = [.bor (.lst u)]) ∧ u = zs.map PV.str ∧ Row zs ∧ 1 ≤ zs.length ∧ rt (.fresh (tabP K zs)) c
theorem tab_ok (K : PySem.W.Frag) : ∀ args c rt ex, sTab K args c rt ex → fwI (TA K) 4 1 (w_Table___init__ K sIsW) args c rt ex := by
  rintro args c rt ex ⟨zs, u, ha, rfl, hr, l1, hq⟩
  have l3 := hr.l3
  have core : ∀ (a : BV.Slot) (undo : MS → MS) (S0 : MS) (E : En), a.isL = false → (S0 = ⟨[.slf (.obj (TA K) []), a, .emp, .emp], c⟩) → undo = id →
      (∀ s2 s3, t_Table___init___2 K sIsW ⟨[.slf (.obj (TA K) []), a, s2, s3], c⟩ E) →
      ((a = .val (.lst (zs.map PV.str))) ∨ a = .val (.tup (zs.map PV.str)) ∨ a = .bor (.lst (zs.map PV.str))) →
      wForL (gwTupN 2 (gwCons (gwName 2) (gwCons (gwName 3) gwNil))) (b_Table___init___1 K sIsW) undo (enP (zs.map PV.str)) S0 { E with nx := fun S1 => t_Table___init___2 K sIsW S1 E } := by
    rintro a undo S0 E hL rfl rfl hend ha
    refine for_inv (fun i S => ∃ s2 s3, S = ⟨[.slf (.obj (TA K) []), a, s2, s3], c⟩ ∧ s2.isL = false ∧ s3.isL = false) ⟨_, _, rfl, rfl, rfl⟩ ?_ ?_
    · rintro i x S k hx ⟨s2, s3, rfl, h2, h3⟩ hk
      obtain ⟨y, rfl, hy⟩ := enP_at hx
      obtain ⟨z, hz, rfl⟩ := List.mem_map.mp (List.mem_iff_getElem?.mpr ⟨_, hy⟩)
      have gz := hr.g z hz
      have gl := gz.l2
      have hi : zs[i]? = some z := by
        rw [List.getElem?_map] at hy
        cases q : zs[i]? with
        | none => rw [q] at hy; cases hy
        | some y => rw [q] at hy; cases hy; rfl
      have hnd : z ∉ zs.take i := fun q => by
        obtain ⟨j, hj⟩ := List.mem_iff_getElem?.mp q
        have hjl := (List.getElem?_eq_some_iff.mp hj).1
        rw [List.length_take] at hjl
        rw [List.getElem?_take] at hj
        rw [if_pos (by omega)] at hj
        have := (List.getElem?_inj (i := j) (j := i) (by omega) hr.nd).mp (hj.trans hi.symm)
        omega
      have hcut : cutP (zs.map PV.str) none (some (i : Int)) = (zs.take i).map PV.str := by
        rw [cutP_to _ (by omega), Int.toNat_natCast, List.map_take]
      have key : ∀ x ∈ List.take i (zs.map PV.str), datN 40 x = true ∧ pvEq x (.str z) = false := fun x hx => by
        rw [← List.map_take] at hx
        obtain ⟨y, hy, rfl⟩ := List.mem_map.mp hx
        refine ⟨by simp, ?_⟩
        rw [pvEq_str, beq_eq_false_iff_ne]
        exact fun e => hnd (e ▸ hy)
      unfold b_Table___init___1
      rcases ha with rfl | rfl | rfl
      all_goals
        simp [↓wVar_e, ↓wC_e, ↓wOp2_e, ↓wTest_e, ↓wAnd_e, ↓wOr_e, ↓wNot_e, ↓wAndV_e, ↓wOrV_e, ↓wNotV_e, ↓wIfE_e, ↓aNil_e, ↓aCons_e, ↓wLst_e, ↓wTup_e, ↓wCall_e, ↓wSet_e, ↓wSeq_e, ↓wSkip_e, ↓wIf_e, ↓wDrop_e, ↓wRet_e, ↓wRetN_e, ↓wBrk_e, ↓wCnt_e, ↓wNev_e, ↓gwName_e, ↓gwNil_e, ↓gwCons_e, ↓gwTup_e, ↓gwTupN_e, ↓wSrc_e, ↓wSrcZ_e, ↓wRng1_e, ↓wRng2_e, ↓wFor_e, ↓wLc_e, ↓wYes_e, ↓rsEq_e, ↓rsNe_e, ↓rsIn_e, ↓rsNotIn_e, ↓rsInt_e, ↓rsInt0_e, ↓rsAdd_e, ↓rsIsN_e, ↓rsNotN_e, ↓rsIx_e, ↓oNo_e, ↓oOf_e, ↓wSl_e, ↓wRev_e, ↓wNeg_e, ↓wCh_e, ↓wBlt_e, ↓rc1_e, ↓rc2_e, ↓wEn_e, ↓wChs_e, ↓wJoin_e, ↓wMut_e, ↓mfAppend_e, ↓mfPop_e, ↓mfReverse_e, ↓mfInsert_e, ↓mfExtend_e, ↓wSetIx_e, ↓wFmt_e, ↓wFmtR_e, ↓wFs_e, ↓wIsi_e, ↓wFld_e, ↓wSetF_e, ↓wSp1_e, ↓wEqO_e, ↓wInO_e, ↓wMeth_e, ↓wIxC_e, ↓rsIxS_e, ↓wSlS_e, ↓wLstC_e, ↓wTupC_e, ↓rsSub_e, ↓rsMulI_e, ↓rsFdiv_e, ↓rsMod_e, ↓rsPow_e, ↓rsLt_e, ↓rsLe_e, ↓rsGt_e, ↓rsGe_e, ↓rdK_val, ↓rdK_fresh, ↓rdK_bor, ↓rdK_slot, ↓kpK_val, ↓kpK_fresh, ↓kpK_slot, ↓retK_val, ↓retK_fresh, ↓retK_slot, ↓asgK_val, ↓asgK_bor, ↓asgK_fresh, ↓asgK_slot, ↓wrK_slot, ↓wrK_cel, ↓lstK_lst, ↓asInt_int, ↓intK_ii, ↓isBl_bl, ↓isBlT_bl, ↓strK_str, ↓itemsK_lst, ↓itemsK_tup, ↓stl_val, ↓stl_fresh, ↓stl_bor, ↓stl_slot, ↓srcK_val, ↓srcK_fresh, ↓srcK_bor, ↓srcK_slot, ↓rdAll_nil, ↓rdAll_cons, ↓kpAll_nil, ↓kpAll_cons, ↓argK_nil, ↓argK_val, ↓argK_bor, ↓argK_slot, ↓rcInt_int, ↓rcInt_bl, ↓rcLen_lst, ↓rcLen_tup, ↓rcLen_scr, ↓rcLen_str, ↓rcAbs_int, ↓rcMax2_ii, ↓rcMin2_ii, ↓rcListS_str, ↓rcListS_lst, ↓rcListS_tup, ↓rcTuple_lst, ↓rcTuple_tup, ↓rcAll_lst, ↓rcSum_lst, ↓rcStr_int, ↓rcStr_str, ↓rcRepr_int, ↓slK_lst, ↓slK_tup, ↓slK_str, ↓slSK_scr, ↓revK_lst, ↓inK_lst, ↓inK_tup, ↓inK_ss, ↓objK_e, ↓obK_obj, ↓obK_cel, ↓objW_obj, ↓wJs_nil, ↓wJs_cons, ↓fmtK_str, ↓fmtK_int, ↓fmtRK_str, ↓fmtRK_int, ↓joinK_lst, ↓joinK_tup, ↓noLent_nil, ↓noLent_cons, ↓wipeS_e, ↓wipeL_nil, ↓wipeL_cons, ↓pI_int, ↓pS_str, ↓pB_bl, ↓nfK_obj, ↓nfK_cel, ↓nfK_non, ↓nfK_bl, ↓nfK_int, ↓nfK_str, ↓nfK_tup, ↓nfK_lst, ↓nfK_dct, ↓slfK_e, ↓isNonT_non, ↓ofK_e, ↓derefK_lst, ↓derefK_tup, ↓derefK_str, ↓derefK_cel, ↓rcReprA_e, ↓wFmtRD_e, ↓aStar_e, ↓seqItK_lst, ↓seqItK_tup, ↓wFldC_e, ↓wMakeK_e, ↓wTryL_e, ↓wHds_nil, ↓wHds_cons, ↓revTK_tup, ↓wRevT_e, ↓rsRep_t, ↓rsRep_l, ↓wKp_e, ↓aConsF_e, ↓notSl_val, ↓notSl_fresh, ↓notSl_bor, ↓wParN_e, ↓asgN_nil, ↓asgN_cons, ↓rcMin1_lst, ↓wRaise_e, ↓wTry_e, ↓wExf_e, ↓wExI_e, ↓fldL1, ↓rcReprD_e, sIsW, h2, h3, okW, isW, gz.is, hcut]
        exact ⟨by rw [szLine]; omega, fun x hx => (key x hx).1, fun x hx => (key x hx).2, fun _ => hk _ ⟨_, _, rfl, rfl, rfl⟩⟩
    · rintro S ⟨s2, s3, rfl, h2, h3⟩
      exact hend _ _
  have fin : ∀ (a : BV.Slot) (E : En), ((a = .val (.lst (zs.map PV.str))) ∨ a = .val (.tup (zs.map PV.str)) ∨ a = .bor (.lst (zs.map PV.str))) → (∀ S, E.nx S = slfK S fun r => rt r S.c) → ∀ s2 s3, t_Table___init___2 K sIsW ⟨[.slf (.obj (TA K) []), a, s2, s3], c⟩ E := fun a E ha hE s2 s3 => by
    unfold t_Table___init___2
    rcases ha with rfl | rfl | rfl
    all_goals
      simp [↓wVar_e, ↓wC_e, ↓wOp2_e, ↓wTest_e, ↓wAnd_e, ↓wOr_e, ↓wNot_e, ↓wAndV_e, ↓wOrV_e, ↓wNotV_e, ↓wIfE_e, ↓aNil_e, ↓aCons_e, ↓wLst_e, ↓wTup_e, ↓wCall_e, ↓wSet_e, ↓wSeq_e, ↓wSkip_e, ↓wIf_e, ↓wDrop_e, ↓wRet_e, ↓wRetN_e, ↓wBrk_e, ↓wCnt_e, ↓wNev_e, ↓gwName_e, ↓gwNil_e, ↓gwCons_e, ↓gwTup_e, ↓gwTupN_e, ↓wSrc_e, ↓wSrcZ_e, ↓wRng1_e, ↓wRng2_e, ↓wFor_e, ↓wLc_e, ↓wYes_e, ↓rsEq_e, ↓rsNe_e, ↓rsIn_e, ↓rsNotIn_e, ↓rsInt_e, ↓rsInt0_e, ↓rsAdd_e, ↓rsIsN_e, ↓rsNotN_e, ↓rsIx_e, ↓oNo_e, ↓oOf_e, ↓wSl_e, ↓wRev_e, ↓wNeg_e, ↓wCh_e, ↓wBlt_e, ↓rc1_e, ↓rc2_e, ↓wEn_e, ↓wChs_e, ↓wJoin_e, ↓wMut_e, ↓mfAppend_e, ↓mfPop_e, ↓mfReverse_e, ↓mfInsert_e, ↓mfExtend_e, ↓wSetIx_e, ↓wFmt_e, ↓wFmtR_e, ↓wFs_e, ↓wIsi_e, ↓wFld_e, ↓wSetF_e, ↓wSp1_e, ↓wEqO_e, ↓wInO_e, ↓wMeth_e, ↓wIxC_e, ↓rsIxS_e, ↓wSlS_e, ↓wLstC_e, ↓wTupC_e, ↓rsSub_e, ↓rsMulI_e, ↓rsFdiv_e, ↓rsMod_e, ↓rsPow_e, ↓rsLt_e, ↓rsLe_e, ↓rsGt_e, ↓rsGe_e, ↓rdK_val, ↓rdK_fresh, ↓rdK_bor, ↓rdK_slot, ↓kpK_val, ↓kpK_fresh, ↓kpK_slot, ↓retK_val, ↓retK_fresh, ↓retK_slot, ↓asgK_val, ↓asgK_bor, ↓asgK_fresh, ↓asgK_slot, ↓wrK_slot, ↓wrK_cel, ↓lstK_lst, ↓asInt_int, ↓intK_ii, ↓isBl_bl, ↓isBlT_bl, ↓strK_str, ↓itemsK_lst, ↓itemsK_tup, ↓stl_val, ↓stl_fresh, ↓stl_bor, ↓stl_slot, ↓srcK_val, ↓srcK_fresh, ↓srcK_bor, ↓srcK_slot, ↓rdAll_nil, ↓rdAll_cons, ↓kpAll_nil, ↓kpAll_cons, ↓argK_nil, ↓argK_val, ↓argK_bor, ↓argK_slot, ↓rcInt_int, ↓rcInt_bl, ↓rcLen_lst, ↓rcLen_tup, ↓rcLen_scr, ↓rcLen_str, ↓rcAbs_int, ↓rcMax2_ii, ↓rcMin2_ii, ↓rcListS_str, ↓rcListS_lst, ↓rcListS_tup, ↓rcTuple_lst, ↓rcTuple_tup, ↓rcAll_lst, ↓rcSum_lst, ↓rcStr_int, ↓rcStr_str, ↓rcRepr_int, ↓slK_lst, ↓slK_tup, ↓slK_str, ↓slSK_scr, ↓revK_lst, ↓inK_lst, ↓inK_tup, ↓inK_ss, ↓objK_e, ↓obK_obj, ↓obK_cel, ↓objW_obj, ↓wJs_nil, ↓wJs_cons, ↓fmtK_str, ↓fmtK_int, ↓fmtRK_str, ↓fmtRK_int, ↓joinK_lst, ↓joinK_tup, ↓noLent_nil, ↓noLent_cons, ↓wipeS_e, ↓wipeL_nil, ↓wipeL_cons, ↓pI_int, ↓pS_str, ↓pB_bl, ↓nfK_obj, ↓nfK_cel, ↓nfK_non, ↓nfK_bl, ↓nfK_int, ↓nfK_str, ↓nfK_tup, ↓nfK_lst, ↓nfK_dct, ↓slfK_e, ↓isNonT_non, ↓ofK_e, ↓derefK_lst, ↓derefK_tup, ↓derefK_str, ↓derefK_cel, ↓rcReprA_e, ↓wFmtRD_e, ↓aStar_e, ↓seqItK_lst, ↓seqItK_tup, ↓wFldC_e, ↓wMakeK_e, ↓wTryL_e, ↓wHds_nil, ↓wHds_cons, ↓revTK_tup, ↓wRevT_e, ↓rsRep_t, ↓rsRep_l, ↓wKp_e, ↓aConsF_e, ↓notSl_val, ↓notSl_fresh, ↓notSl_bor, ↓wParN_e, ↓asgN_nil, ↓asgN_cons, ↓rcMin1_lst, ↓wRaise_e, ↓wTry_e, ↓wExf_e, ↓wExI_e, ↓fldL1, ↓rcReprD_e, hE, putP]
      exact hq
  rcases ha with rfl | rfl | rfl
  all_goals
    refine fwI_i rfl fun E hnx _ _ => ?_
    unfold w_Table___init__
    simp [↓wVar_e, ↓wC_e, ↓wOp2_e, ↓wTest_e, ↓wAnd_e, ↓wOr_e, ↓wNot_e, ↓wAndV_e, ↓wOrV_e, ↓wNotV_e, ↓wIfE_e, ↓aNil_e, ↓aCons_e, ↓wLst_e, ↓wTup_e, ↓wCall_e, ↓wSet_e, ↓wSeq_e, ↓wSkip_e, ↓wIf_e, ↓wDrop_e, ↓wRet_e, ↓wRetN_e, ↓wBrk_e, ↓wCnt_e, ↓wNev_e, ↓gwName_e, ↓gwNil_e, ↓gwCons_e, ↓gwTup_e, ↓gwTupN_e, ↓wSrc_e, ↓wSrcZ_e, ↓wRng1_e, ↓wRng2_e, ↓wFor_e, ↓wLc_e, ↓wYes_e, ↓rsEq_e, ↓rsNe_e, ↓rsIn_e, ↓rsNotIn_e, ↓rsInt_e, ↓rsInt0_e, ↓rsAdd_e, ↓rsIsN_e, ↓rsNotN_e, ↓rsIx_e, ↓oNo_e, ↓oOf_e, ↓wSl_e, ↓wRev_e, ↓wNeg_e, ↓wCh_e, ↓wBlt_e, ↓rc1_e, ↓rc2_e, ↓wEn_e, ↓wChs_e, ↓wJoin_e, ↓wMut_e, ↓mfAppend_e, ↓mfPop_e, ↓mfReverse_e, ↓mfInsert_e, ↓mfExtend_e, ↓wSetIx_e, ↓wFmt_e, ↓wFmtR_e, ↓wFs_e, ↓wIsi_e, ↓wFld_e, ↓wSetF_e, ↓wSp1_e, ↓wEqO_e, ↓wInO_e, ↓wMeth_e, ↓wIxC_e, ↓rsIxS_e, ↓wSlS_e, ↓wLstC_e, ↓wTupC_e, ↓rsSub_e, ↓rsMulI_e, ↓rsFdiv_e, ↓rsMod_e, ↓rsPow_e, ↓rsLt_e, ↓rsLe_e, ↓rsGt_e, ↓rsGe_e, ↓rdK_val, ↓rdK_fresh, ↓rdK_bor, ↓rdK_slot, ↓kpK_val, ↓kpK_fresh, ↓kpK_slot, ↓retK_val, ↓retK_fresh, ↓retK_slot, ↓asgK_val, ↓asgK_bor, ↓asgK_fresh, ↓asgK_slot, ↓wrK_slot, ↓wrK_cel, ↓lstK_lst, ↓asInt_int, ↓intK_ii, ↓isBl_bl, ↓isBlT_bl, ↓strK_str, ↓itemsK_lst, ↓itemsK_tup, ↓stl_val, ↓stl_fresh, ↓stl_bor, ↓stl_slot, ↓srcK_val, ↓srcK_fresh, ↓srcK_bor, ↓srcK_slot, ↓rdAll_nil, ↓rdAll_cons, ↓kpAll_nil, ↓kpAll_cons, ↓argK_nil, ↓argK_val, ↓argK_bor, ↓argK_slot, ↓rcInt_int, ↓rcInt_bl, ↓rcLen_lst, ↓rcLen_tup, ↓rcLen_scr, ↓rcLen_str, ↓rcAbs_int, ↓rcMax2_ii, ↓rcMin2_ii, ↓rcListS_str, ↓rcListS_lst, ↓rcListS_tup, ↓rcTuple_lst, ↓rcTuple_tup, ↓rcAll_lst, ↓rcSum_lst, ↓rcStr_int, ↓rcStr_str, ↓rcRepr_int, ↓slK_lst, ↓slK_tup, ↓slK_str, ↓slSK_scr, ↓revK_lst, ↓inK_lst, ↓inK_tup, ↓inK_ss, ↓objK_e, ↓obK_obj, ↓obK_cel, ↓objW_obj, ↓wJs_nil, ↓wJs_cons, ↓fmtK_str, ↓fmtK_int, ↓fmtRK_str, ↓fmtRK_int, ↓joinK_lst, ↓joinK_tup, ↓noLent_nil, ↓noLent_cons, ↓wipeS_e, ↓wipeL_nil, ↓wipeL_cons, ↓pI_int, ↓pS_str, ↓pB_bl, ↓nfK_obj, ↓nfK_cel, ↓nfK_non, ↓nfK_bl, ↓nfK_int, ↓nfK_str, ↓nfK_tup, ↓nfK_lst, ↓nfK_dct, ↓slfK_e, ↓isNonT_non, ↓ofK_e, ↓derefK_lst, ↓derefK_tup, ↓derefK_str, ↓derefK_cel, ↓rcReprA_e, ↓wFmtRD_e, ↓aStar_e, ↓seqItK_lst, ↓seqItK_tup, ↓wFldC_e, ↓wMakeK_e, ↓wTryL_e, ↓wHds_nil, ↓wHds_cons, ↓revTK_tup, ↓wRevT_e, ↓rsRep_t, ↓rsRep_l, ↓wKp_e, ↓aConsF_e, ↓notSl_val, ↓notSl_fresh, ↓notSl_bor, ↓wParN_e, ↓asgN_nil, ↓asgN_cons, ↓rcMin1_lst, ↓wRaise_e, ↓wTry_e, ↓wExf_e, ↓wExI_e, ↓fldL1, ↓rcReprD_e, ↓t_Table___init___3]
    exact ⟨fun _ => ⟨by omega, fun _ => core _ _ _ _ rfl rfl rfl (fin _ _ (by simp) hnx) (by simp)⟩, by omega⟩
theorem eqs_strs (zs ws : List Str) : pvEqs (zs.map PV.str) (ws.map PV.str) = decide (zs = ws) := by
  induction zs generalizing ws with
  | nil => cases ws <;> simp
  | cons z zs ih =>
    cases ws with
    | nil => simp
    | cons w ws =>
      simp [ih, Bool.decide_and]
      rw [Bool.beq_eq_decide_eq]
theorem strs_inj {zs ws : List Str} (h : zs.map PV.str = ws.map PV.str) : zs = ws := List.map_inj_right (fun a b e => by cases e; rfl) |>.mp h
theorem tabP_inj {K : PySem.W.Frag} {zs ws : List Str} (h : tabP K zs = tabP K ws) : zs = ws := by
  simp only [tabP, PV.obj.injEq, List.cons.injEq, Prod.mk.injEq, PV.tup.injEq, true_and, and_true] at h
  exact strs_inj h
theorem sTab_bl {K : PySem.W.Frag} {zs : List Str} {c : List PV} {rt : TV → List PV → Prop} {ex : Ex → List PV → Prop} : sTab K [.bor (.lst (zs.map PV.str))] c rt ex = (Row zs ∧ 1 ≤ zs.length ∧ rt (.fresh (tabP K zs)) c) := propext ⟨fun ⟨ws, u, h, e, q⟩ => by
    rcases h with h | h | h <;> simp only [List.cons.injEq, BV.Slot.bor.injEq, and_true, reduceCtorEq, PV.lst.injEq] at h
    rw [strs_inj (h.trans e)]; exact q, fun q => ⟨zs, _, .inr (.inr rfl), rfl, q⟩⟩
theorem sTab_vl {K : PySem.W.Frag} {zs : List Str} {c : List PV} {rt : TV → List PV → Prop} {ex : Ex → List PV → Prop} : sTab K [.val (.lst (zs.map PV.str))] c rt ex = (Row zs ∧ 1 ≤ zs.length ∧ rt (.fresh (tabP K zs)) c) := propext ⟨fun ⟨ws, u, h, e, q⟩ => by
    rcases h with h | h | h <;> simp only [List.cons.injEq, BV.Slot.val.injEq, and_true, reduceCtorEq, PV.lst.injEq] at h
    rw [strs_inj (h.trans e)]; exact q, fun q => ⟨zs, _, .inl rfl, rfl, q⟩⟩
theorem sTab_vt {K : PySem.W.Frag} {zs : List Str} {c : List PV} {rt : TV → List PV → Prop} {ex : Ex → List PV → Prop} : sTab K [.val (.tup (zs.map PV.str))] c rt ex = (Row zs ∧ 1 ≤ zs.length ∧ rt (.fresh (tabP K zs)) c) := propext ⟨fun ⟨ws, u, h, e, q⟩ => by
    rcases h with h | h | h <;> simp only [List.cons.injEq, BV.Slot.val.injEq, and_true, reduceCtorEq, PV.tup.injEq] at h
    rw [strs_inj (h.trans e)]; exact q, fun q => ⟨zs, _, .inr (.inl rfl), rfl, q⟩⟩
end Lk26

namespace Lk26
open PySem L2 BV
/-- an entry: data that all may look at -/
structure Ent (x : PV) : Prop where
  ok : okD x = true
  dat : ∀ n, 5 ≤ n → datN n x = true
  dep : (toD x).depth ≤ 5
  sh : (shownP x).length ≤ 300
  w : okW x
theorem ent_word {z : Str} (h : lowS z) (hl : z.length ≤ 20) : Ent (.str z) where
  ok := by simp [okD]
  dat := fun n _ => by simp
  dep := by simp [toD, PyData.depth]
  sh := by
    have := StrLaws.reprText_len z (fun c hc => by have := h c hc; omega)
    have e : shownP (.str z) = reprText z := by unfold shownP; rw [toD, PyData.shown]
    rw [e]; omega
  w := by show _ ≤ sizeLine; rw [szLine]; omega
/-- membership as the lists reckon it -/
def memP (x : PV) (xs : List PV) : Bool := xs.any fun y => pvEq y x
def kwL : List Str := ["def", "if", "else", "for", "in", "break", "skip", "refuse", "take", "guard", "blank", "every", "none", "any", "all", "pick", "given", "and", "or", "not", "true", "false", "self"]
theorem kw_low : ∀ z ∈ kwL, z.length ≤ 20 ∧ ∀ c ∈ z.cps.toList, 97 ≤ c ∧ c ≤ 122 := by decide +kernel
theorem kw_kept : kwL = c_KEPT := rfl
def sKept : FW := fun args c rt _ => args = [] ∧ rt (.fresh (.lst (kwL.map PV.str))) c
theorem sKept_v {c : List PV} {rt : TV → List PV → Prop} {ex : Ex → List PV → Prop} : sKept [] c rt ex = rt (.fresh (.lst (kwL.map PV.str))) c := propext ⟨fun h => h.2, fun h => ⟨rfl, h⟩⟩
theorem kept_ok (K : PySem.W.Frag) : ∀ args c rt ex, sKept args c rt ex → fwOf 1 0 (w__law_kept K) args c rt ex := by
  rintro args c rt ex ⟨rfl, hq⟩
  refine fwOf_i rfl fun E _ hrt _ => ?_
  unfold w__law_kept t__law_kept_1
  simp [↓wVar_e, ↓wC_e, ↓wOp2_e, ↓wTest_e, ↓wAnd_e, ↓wOr_e, ↓wNot_e, ↓wAndV_e, ↓wOrV_e, ↓wNotV_e, ↓wIfE_e, ↓aNil_e, ↓aCons_e, ↓wLst_e, ↓wTup_e, ↓wCall_e, ↓wSet_e, ↓wSeq_e, ↓wSkip_e, ↓wIf_e, ↓wDrop_e, ↓wRet_e, ↓wRetN_e, ↓wBrk_e, ↓wCnt_e, ↓wNev_e, ↓gwName_e, ↓gwNil_e, ↓gwCons_e, ↓gwTup_e, ↓gwTupN_e, ↓wSrc_e, ↓wSrcZ_e, ↓wRng1_e, ↓wRng2_e, ↓wFor_e, ↓wLc_e, ↓wYes_e, ↓rsEq_e, ↓rsNe_e, ↓rsIn_e, ↓rsNotIn_e, ↓rsInt_e, ↓rsInt0_e, ↓rsAdd_e, ↓rsIsN_e, ↓rsNotN_e, ↓rsIx_e, ↓oNo_e, ↓oOf_e, ↓wSl_e, ↓wRev_e, ↓wNeg_e, ↓wCh_e, ↓wBlt_e, ↓rc1_e, ↓rc2_e, ↓wEn_e, ↓wChs_e, ↓wJoin_e, ↓wMut_e, ↓mfAppend_e, ↓mfPop_e, ↓mfReverse_e, ↓mfInsert_e, ↓mfExtend_e, ↓wSetIx_e, ↓wFmt_e, ↓wFmtR_e, ↓wFs_e, ↓wIsi_e, ↓wFld_e, ↓wSetF_e, ↓wSp1_e, ↓wEqO_e, ↓wInO_e, ↓wMeth_e, ↓wIxC_e, ↓rsIxS_e, ↓wSlS_e, ↓wLstC_e, ↓wTupC_e, ↓rsSub_e, ↓rsMulI_e, ↓rsFdiv_e, ↓rsMod_e, ↓rsPow_e, ↓rsLt_e, ↓rsLe_e, ↓rsGt_e, ↓rsGe_e, ↓rdK_val, ↓rdK_fresh, ↓rdK_bor, ↓rdK_slot, ↓kpK_val, ↓kpK_fresh, ↓kpK_slot, ↓retK_val, ↓retK_fresh, ↓retK_slot, ↓asgK_val, ↓asgK_bor, ↓asgK_fresh, ↓asgK_slot, ↓wrK_slot, ↓wrK_cel, ↓lstK_lst, ↓asInt_int, ↓intK_ii, ↓isBl_bl, ↓isBlT_bl, ↓strK_str, ↓itemsK_lst, ↓itemsK_tup, ↓stl_val, ↓stl_fresh, ↓stl_bor, ↓stl_slot, ↓srcK_val, ↓srcK_fresh, ↓srcK_bor, ↓srcK_slot, ↓rdAll_nil, ↓rdAll_cons, ↓kpAll_nil, ↓kpAll_cons, ↓argK_nil, ↓argK_val, ↓argK_bor, ↓argK_slot, ↓rcInt_int, ↓rcInt_bl, ↓rcLen_lst, ↓rcLen_tup, ↓rcLen_scr, ↓rcLen_str, ↓rcAbs_int, ↓rcMax2_ii, ↓rcMin2_ii, ↓rcListS_str, ↓rcListS_lst, ↓rcListS_tup, ↓rcTuple_lst, ↓rcTuple_tup, ↓rcAll_lst, ↓rcSum_lst, ↓rcStr_int, ↓rcStr_str, ↓rcRepr_int, ↓slK_lst, ↓slK_tup, ↓slK_str, ↓slSK_scr, ↓revK_lst, ↓inK_lst, ↓inK_tup, ↓inK_ss, ↓objK_e, ↓obK_obj, ↓obK_cel, ↓objW_obj, ↓wJs_nil, ↓wJs_cons, ↓fmtK_str, ↓fmtK_int, ↓fmtRK_str, ↓fmtRK_int, ↓joinK_lst, ↓joinK_tup, ↓noLent_nil, ↓noLent_cons, ↓wipeS_e, ↓wipeL_nil, ↓wipeL_cons, ↓pI_int, ↓pS_str, ↓pB_bl, ↓nfK_obj, ↓nfK_cel, ↓nfK_non, ↓nfK_bl, ↓nfK_int, ↓nfK_str, ↓nfK_tup, ↓nfK_lst, ↓nfK_dct, ↓slfK_e, ↓isNonT_non, ↓ofK_e, ↓derefK_lst, ↓derefK_tup, ↓derefK_str, ↓derefK_cel, ↓rcReprA_e, ↓wFmtRD_e, ↓aStar_e, ↓seqItK_lst, ↓seqItK_tup, ↓wFldC_e, ↓wMakeK_e, ↓wTryL_e, ↓wHds_nil, ↓wHds_cons, ↓revTK_tup, ↓wRevT_e, ↓rsRep_t, ↓rsRep_l, ↓wKp_e, ↓aConsF_e, ↓notSl_val, ↓notSl_fresh, ↓notSl_bor, ↓wParN_e, ↓asgN_nil, ↓asgN_cons, ↓rcMin1_lst, ↓wRaise_e, ↓wTry_e, ↓wExf_e, ↓wExI_e, ↓fldL1, ↓rcReprD_e, szLine, CPow, CMul, CDivN, hrt]
  exact hq
theorem az_any (ch : Nat) : ((chars (Str.ofString "abcdefghijklmnopqrstuvwxyz")).any fun y => pvEq y (PV.str { cps := #[ch] })) = (decide (97 ≤ ch) && decide (ch ≤ 122)) := by
  have e : chars (Str.ofString "abcdefghijklmnopqrstuvwxyz") = lets.map PV.str := lets_chars
  rw [e, any_str, ← Bool.decide_and, Bool.eq_iff_iff, decide_eq_true_iff, List.contains_iff_mem, ← letters_mem ch]
  unfold lets
  rw [List.mem_map]
  constructor
  · rintro ⟨d, hd, ed⟩
    have : d = ch := by
      have e2 : (#[d] : Array Nat) = #[ch] := congrArg Str.cps ed
      simpa using e2
    rw [← this]; exact hd
  · intro h
    exact ⟨ch, h, rfl⟩
theorem lis_word_ok (K : PySem.W.Frag) : ∀ args c rt ex, sIsW args c rt ex → fwOf 2 1 (w__law_is_word K sKept) args c rt ex := by
  intro args c rt ex h
  obtain ⟨x, rfl, hx, hq⟩ := sIsW_of h
  refine fwOf_i rfl fun E _ hrt _ => ?_
  unfold w__law_is_word
  cases x with
  | str z =>
    have hx : z.length ≤ sizeLine := hx
    have no : ¬ (1 ≤ z.length ∧ z.length ≤ 8 ∧ z ∉ kwL) → E.rt (.val (.bl false)) ⟨[.val (.str z), .emp], c⟩ := fun hn => by
      rw [hrt]
      show rt _ c
      have : isW (.str z) = false := by
        show isWs z = false
        rw [Bool.eq_false_iff]
        intro q
        unfold isWs at q
        simp at q
        exact hn ⟨q.1, q.2.1, q.2.2.1⟩
      rw [← this]
      exact hq
    have fin : (1 ≤ z.length ∧ z.length ≤ 8 ∧ z ∉ kwL) → t__law_is_word_1 K sKept ⟨[.val (.str z), .emp], c⟩ E := fun ⟨a1, a2, a3⟩ => by
      unfold t__law_is_word_1
      simp [↓wVar_e, ↓wC_e, ↓wOp2_e, ↓wTest_e, ↓wAnd_e, ↓wOr_e, ↓wNot_e, ↓wAndV_e, ↓wOrV_e, ↓wNotV_e, ↓wIfE_e, ↓aNil_e, ↓aCons_e, ↓wLst_e, ↓wTup_e, ↓wCall_e, ↓wSet_e, ↓wSeq_e, ↓wSkip_e, ↓wIf_e, ↓wDrop_e, ↓wRet_e, ↓wRetN_e, ↓wBrk_e, ↓wCnt_e, ↓wNev_e, ↓gwName_e, ↓gwNil_e, ↓gwCons_e, ↓gwTup_e, ↓gwTupN_e, ↓wSrc_e, ↓wSrcZ_e, ↓wRng1_e, ↓wRng2_e, ↓wFor_e, ↓wLc_e, ↓wYes_e, ↓rsEq_e, ↓rsNe_e, ↓rsIn_e, ↓rsNotIn_e, ↓rsInt_e, ↓rsInt0_e, ↓rsAdd_e, ↓rsIsN_e, ↓rsNotN_e, ↓rsIx_e, ↓oNo_e, ↓oOf_e, ↓wSl_e, ↓wRev_e, ↓wNeg_e, ↓wCh_e, ↓wBlt_e, ↓rc1_e, ↓rc2_e, ↓wEn_e, ↓wChs_e, ↓wJoin_e, ↓wMut_e, ↓mfAppend_e, ↓mfPop_e, ↓mfReverse_e, ↓mfInsert_e, ↓mfExtend_e, ↓wSetIx_e, ↓wFmt_e, ↓wFmtR_e, ↓wFs_e, ↓wIsi_e, ↓wFld_e, ↓wSetF_e, ↓wSp1_e, ↓wEqO_e, ↓wInO_e, ↓wMeth_e, ↓wIxC_e, ↓rsIxS_e, ↓wSlS_e, ↓wLstC_e, ↓wTupC_e, ↓rsSub_e, ↓rsMulI_e, ↓rsFdiv_e, ↓rsMod_e, ↓rsPow_e, ↓rsLt_e, ↓rsLe_e, ↓rsGt_e, ↓rsGe_e, ↓rdK_val, ↓rdK_fresh, ↓rdK_bor, ↓rdK_slot, ↓kpK_val, ↓kpK_fresh, ↓kpK_slot, ↓retK_val, ↓retK_fresh, ↓retK_slot, ↓asgK_val, ↓asgK_bor, ↓asgK_fresh, ↓asgK_slot, ↓wrK_slot, ↓wrK_cel, ↓lstK_lst, ↓asInt_int, ↓intK_ii, ↓isBl_bl, ↓isBlT_bl, ↓strK_str, ↓itemsK_lst, ↓itemsK_tup, ↓stl_val, ↓stl_fresh, ↓stl_bor, ↓stl_slot, ↓srcK_val, ↓srcK_fresh, ↓srcK_bor, ↓srcK_slot, ↓rdAll_nil, ↓rdAll_cons, ↓kpAll_nil, ↓kpAll_cons, ↓argK_nil, ↓argK_val, ↓argK_bor, ↓argK_slot, ↓rcInt_int, ↓rcInt_bl, ↓rcLen_lst, ↓rcLen_tup, ↓rcLen_scr, ↓rcLen_str, ↓rcAbs_int, ↓rcMax2_ii, ↓rcMin2_ii, ↓rcListS_str, ↓rcListS_lst, ↓rcListS_tup, ↓rcTuple_lst, ↓rcTuple_tup, ↓rcAll_lst, ↓rcSum_lst, ↓rcStr_int, ↓rcStr_str, ↓rcRepr_int, ↓slK_lst, ↓slK_tup, ↓slK_str, ↓slSK_scr, ↓revK_lst, ↓inK_lst, ↓inK_tup, ↓inK_ss, ↓objK_e, ↓obK_obj, ↓obK_cel, ↓objW_obj, ↓wJs_nil, ↓wJs_cons, ↓fmtK_str, ↓fmtK_int, ↓fmtRK_str, ↓fmtRK_int, ↓joinK_lst, ↓joinK_tup, ↓noLent_nil, ↓noLent_cons, ↓wipeS_e, ↓wipeL_nil, ↓wipeL_cons, ↓pI_int, ↓pS_str, ↓pB_bl, ↓nfK_obj, ↓nfK_cel, ↓nfK_non, ↓nfK_bl, ↓nfK_int, ↓nfK_str, ↓nfK_tup, ↓nfK_lst, ↓nfK_dct, ↓slfK_e, ↓isNonT_non, ↓ofK_e, ↓derefK_lst, ↓derefK_tup, ↓derefK_str, ↓derefK_cel, ↓rcReprA_e, ↓wFmtRD_e, ↓aStar_e, ↓seqItK_lst, ↓seqItK_tup, ↓wFldC_e, ↓wMakeK_e, ↓wTryL_e, ↓wHds_nil, ↓wHds_cons, ↓revTK_tup, ↓wRevT_e, ↓rsRep_t, ↓rsRep_l, ↓wKp_e, ↓aConsF_e, ↓notSl_val, ↓notSl_fresh, ↓notSl_bor, ↓wParN_e, ↓asgN_nil, ↓asgN_cons, ↓rcMin1_lst, ↓wRaise_e, ↓wTry_e, ↓wExf_e, ↓wExI_e, ↓fldL1, ↓rcReprD_e, szLine, CPow, CMul, CDivN]
      refine lc_map (fun x => match x with | .str y => .bl (y.cps.toList.all fun c => decide (97 ≤ c ∧ c ≤ 122)) | _ => .non) ?_ ?_ ?_
      · intro x ys k hx hy hk
        obtain ⟨ch, rfl, hc1⟩ := chars_mem hx
        simp at hk
        rw [szLine] at hy
        simp [↓wVar_e, ↓wC_e, ↓wOp2_e, ↓wTest_e, ↓wAnd_e, ↓wOr_e, ↓wNot_e, ↓wAndV_e, ↓wOrV_e, ↓wNotV_e, ↓wIfE_e, ↓aNil_e, ↓aCons_e, ↓wLst_e, ↓wTup_e, ↓wCall_e, ↓wSet_e, ↓wSeq_e, ↓wSkip_e, ↓wIf_e, ↓wDrop_e, ↓wRet_e, ↓wRetN_e, ↓wBrk_e, ↓wCnt_e, ↓wNev_e, ↓gwName_e, ↓gwNil_e, ↓gwCons_e, ↓gwTup_e, ↓gwTupN_e, ↓wSrc_e, ↓wSrcZ_e, ↓wRng1_e, ↓wRng2_e, ↓wFor_e, ↓wLc_e, ↓wYes_e, ↓rsEq_e, ↓rsNe_e, ↓rsIn_e, ↓rsNotIn_e, ↓rsInt_e, ↓rsInt0_e, ↓rsAdd_e, ↓rsIsN_e, ↓rsNotN_e, ↓rsIx_e, ↓oNo_e, ↓oOf_e, ↓wSl_e, ↓wRev_e, ↓wNeg_e, ↓wCh_e, ↓wBlt_e, ↓rc1_e, ↓rc2_e, ↓wEn_e, ↓wChs_e, ↓wJoin_e, ↓wMut_e, ↓mfAppend_e, ↓mfPop_e, ↓mfReverse_e, ↓mfInsert_e, ↓mfExtend_e, ↓wSetIx_e, ↓wFmt_e, ↓wFmtR_e, ↓wFs_e, ↓wIsi_e, ↓wFld_e, ↓wSetF_e, ↓wSp1_e, ↓wEqO_e, ↓wInO_e, ↓wMeth_e, ↓wIxC_e, ↓rsIxS_e, ↓wSlS_e, ↓wLstC_e, ↓wTupC_e, ↓rsSub_e, ↓rsMulI_e, ↓rsFdiv_e, ↓rsMod_e, ↓rsPow_e, ↓rsLt_e, ↓rsLe_e, ↓rsGt_e, ↓rsGe_e, ↓rdK_val, ↓rdK_fresh, ↓rdK_bor, ↓rdK_slot, ↓kpK_val, ↓kpK_fresh, ↓kpK_slot, ↓retK_val, ↓retK_fresh, ↓retK_slot, ↓asgK_val, ↓asgK_bor, ↓asgK_fresh, ↓asgK_slot, ↓wrK_slot, ↓wrK_cel, ↓lstK_lst, ↓asInt_int, ↓intK_ii, ↓isBl_bl, ↓isBlT_bl, ↓strK_str, ↓itemsK_lst, ↓itemsK_tup, ↓stl_val, ↓stl_fresh, ↓stl_bor, ↓stl_slot, ↓srcK_val, ↓srcK_fresh, ↓srcK_bor, ↓srcK_slot, ↓rdAll_nil, ↓rdAll_cons, ↓kpAll_nil, ↓kpAll_cons, ↓argK_nil, ↓argK_val, ↓argK_bor, ↓argK_slot, ↓rcInt_int, ↓rcInt_bl, ↓rcLen_lst, ↓rcLen_tup, ↓rcLen_scr, ↓rcLen_str, ↓rcAbs_int, ↓rcMax2_ii, ↓rcMin2_ii, ↓rcListS_str, ↓rcListS_lst, ↓rcListS_tup, ↓rcTuple_lst, ↓rcTuple_tup, ↓rcAll_lst, ↓rcSum_lst, ↓rcStr_int, ↓rcStr_str, ↓rcRepr_int, ↓slK_lst, ↓slK_tup, ↓slK_str, ↓slSK_scr, ↓revK_lst, ↓inK_lst, ↓inK_tup, ↓inK_ss, ↓objK_e, ↓obK_obj, ↓obK_cel, ↓objW_obj, ↓wJs_nil, ↓wJs_cons, ↓fmtK_str, ↓fmtK_int, ↓fmtRK_str, ↓fmtRK_int, ↓joinK_lst, ↓joinK_tup, ↓noLent_nil, ↓noLent_cons, ↓wipeS_e, ↓wipeL_nil, ↓wipeL_cons, ↓pI_int, ↓pS_str, ↓pB_bl, ↓nfK_obj, ↓nfK_cel, ↓nfK_non, ↓nfK_bl, ↓nfK_int, ↓nfK_str, ↓nfK_tup, ↓nfK_lst, ↓nfK_dct, ↓slfK_e, ↓isNonT_non, ↓ofK_e, ↓derefK_lst, ↓derefK_tup, ↓derefK_str, ↓derefK_cel, ↓rcReprA_e, ↓wFmtRD_e, ↓aStar_e, ↓seqItK_lst, ↓seqItK_tup, ↓wFldC_e, ↓wMakeK_e, ↓wTryL_e, ↓wHds_nil, ↓wHds_cons, ↓revTK_tup, ↓wRevT_e, ↓rsRep_t, ↓rsRep_l, ↓wKp_e, ↓aConsF_e, ↓notSl_val, ↓notSl_fresh, ↓notSl_bor, ↓wParN_e, ↓asgN_nil, ↓asgN_cons, ↓rcMin1_lst, ↓wRaise_e, ↓wTry_e, ↓wExf_e, ↓wExI_e, ↓fldL1, ↓rcReprD_e, szLine, CPow, CMul, CDivN, hy]
        rw [← az_any ch] at hk
        exact ⟨by decide, fun x hx => by
          obtain ⟨d, rfl, _⟩ := chars_mem hx
          simp, hk⟩
      · unfold chars
        rw [List.length_map]
        exact hx
      · refine ⟨z.cps.toList.map fun c => decide (97 ≤ c ∧ c ≤ 122), ?_, ?_⟩
        · unfold chars
          rw [List.map_map, List.map_map]
          refine List.map_congr_left fun a _ => ?_
          simp
        · rw [hrt]
          show rt _ c
          have : isW (.str z) = ((z.cps.toList.map fun c => decide (97 ≤ c ∧ c ≤ 122)).all id) := by
            show isWs z = _
            unfold isWs
            rw [decide_eq_true a1, decide_eq_true a2, show c_KEPT.contains z = false from Bool.eq_false_iff.mpr fun q => a3 (by rw [kw_kept]; simpa using q), List.all_map]
            rfl
          rw [← this]
          exact hq
    simp [↓wVar_e, ↓wC_e, ↓wOp2_e, ↓wTest_e, ↓wAnd_e, ↓wOr_e, ↓wNot_e, ↓wAndV_e, ↓wOrV_e, ↓wNotV_e, ↓wIfE_e, ↓aNil_e, ↓aCons_e, ↓wLst_e, ↓wTup_e, ↓wCall_e, ↓wSet_e, ↓wSeq_e, ↓wSkip_e, ↓wIf_e, ↓wDrop_e, ↓wRet_e, ↓wRetN_e, ↓wBrk_e, ↓wCnt_e, ↓wNev_e, ↓gwName_e, ↓gwNil_e, ↓gwCons_e, ↓gwTup_e, ↓gwTupN_e, ↓wSrc_e, ↓wSrcZ_e, ↓wRng1_e, ↓wRng2_e, ↓wFor_e, ↓wLc_e, ↓wYes_e, ↓rsEq_e, ↓rsNe_e, ↓rsIn_e, ↓rsNotIn_e, ↓rsInt_e, ↓rsInt0_e, ↓rsAdd_e, ↓rsIsN_e, ↓rsNotN_e, ↓rsIx_e, ↓oNo_e, ↓oOf_e, ↓wSl_e, ↓wRev_e, ↓wNeg_e, ↓wCh_e, ↓wBlt_e, ↓rc1_e, ↓rc2_e, ↓wEn_e, ↓wChs_e, ↓wJoin_e, ↓wMut_e, ↓mfAppend_e, ↓mfPop_e, ↓mfReverse_e, ↓mfInsert_e, ↓mfExtend_e, ↓wSetIx_e, ↓wFmt_e, ↓wFmtR_e, ↓wFs_e, ↓wIsi_e, ↓wFld_e, ↓wSetF_e, ↓wSp1_e, ↓wEqO_e, ↓wInO_e, ↓wMeth_e, ↓wIxC_e, ↓rsIxS_e, ↓wSlS_e, ↓wLstC_e, ↓wTupC_e, ↓rsSub_e, ↓rsMulI_e, ↓rsFdiv_e, ↓rsMod_e, ↓rsPow_e, ↓rsLt_e, ↓rsLe_e, ↓rsGt_e, ↓rsGe_e, ↓rdK_val, ↓rdK_fresh, ↓rdK_bor, ↓rdK_slot, ↓kpK_val, ↓kpK_fresh, ↓kpK_slot, ↓retK_val, ↓retK_fresh, ↓retK_slot, ↓asgK_val, ↓asgK_bor, ↓asgK_fresh, ↓asgK_slot, ↓wrK_slot, ↓wrK_cel, ↓lstK_lst, ↓asInt_int, ↓intK_ii, ↓isBl_bl, ↓isBlT_bl, ↓strK_str, ↓itemsK_lst, ↓itemsK_tup, ↓stl_val, ↓stl_fresh, ↓stl_bor, ↓stl_slot, ↓srcK_val, ↓srcK_fresh, ↓srcK_bor, ↓srcK_slot, ↓rdAll_nil, ↓rdAll_cons, ↓kpAll_nil, ↓kpAll_cons, ↓argK_nil, ↓argK_val, ↓argK_bor, ↓argK_slot, ↓rcInt_int, ↓rcInt_bl, ↓rcLen_lst, ↓rcLen_tup, ↓rcLen_scr, ↓rcLen_str, ↓rcAbs_int, ↓rcMax2_ii, ↓rcMin2_ii, ↓rcListS_str, ↓rcListS_lst, ↓rcListS_tup, ↓rcTuple_lst, ↓rcTuple_tup, ↓rcAll_lst, ↓rcSum_lst, ↓rcStr_int, ↓rcStr_str, ↓rcRepr_int, ↓slK_lst, ↓slK_tup, ↓slK_str, ↓slSK_scr, ↓revK_lst, ↓inK_lst, ↓inK_tup, ↓inK_ss, ↓objK_e, ↓obK_obj, ↓obK_cel, ↓objW_obj, ↓wJs_nil, ↓wJs_cons, ↓fmtK_str, ↓fmtK_int, ↓fmtRK_str, ↓fmtRK_int, ↓joinK_lst, ↓joinK_tup, ↓noLent_nil, ↓noLent_cons, ↓wipeS_e, ↓wipeL_nil, ↓wipeL_cons, ↓pI_int, ↓pS_str, ↓pB_bl, ↓nfK_obj, ↓nfK_cel, ↓nfK_non, ↓nfK_bl, ↓nfK_int, ↓nfK_str, ↓nfK_tup, ↓nfK_lst, ↓nfK_dct, ↓slfK_e, ↓isNonT_non, ↓ofK_e, ↓derefK_lst, ↓derefK_tup, ↓derefK_str, ↓derefK_cel, ↓rcReprA_e, ↓wFmtRD_e, ↓aStar_e, ↓seqItK_lst, ↓seqItK_tup, ↓wFldC_e, ↓wMakeK_e, ↓wTryL_e, ↓wHds_nil, ↓wHds_cons, ↓revTK_tup, ↓wRevT_e, ↓rsRep_t, ↓rsRep_l, ↓wKp_e, ↓aConsF_e, ↓notSl_val, ↓notSl_fresh, ↓notSl_bor, ↓wParN_e, ↓asgN_nil, ↓asgN_cons, ↓rcMin1_lst, ↓wRaise_e, ↓wTry_e, ↓wExf_e, ↓wExI_e, ↓fldL1, ↓rcReprD_e, szLine, CPow, CMul, CDivN, fStr, fTy, ↓sKept_v]
    exact ⟨by rw [szLine] at hx; exact hx, fun a1 => ⟨fun a2 => ⟨fun a3 => no fun q => q.2.2 a3, fun a3 => fin ⟨by omega, by omega, fun q => a3 _ q rfl⟩⟩, fun a2 => no fun q => by omega⟩, fun a1 => no fun q => by omega⟩
  | non => simp [↓wVar_e, ↓wC_e, ↓wOp2_e, ↓wTest_e, ↓wAnd_e, ↓wOr_e, ↓wNot_e, ↓wAndV_e, ↓wOrV_e, ↓wNotV_e, ↓wIfE_e, ↓aNil_e, ↓aCons_e, ↓wLst_e, ↓wTup_e, ↓wCall_e, ↓wSet_e, ↓wSeq_e, ↓wSkip_e, ↓wIf_e, ↓wDrop_e, ↓wRet_e, ↓wRetN_e, ↓wBrk_e, ↓wCnt_e, ↓wNev_e, ↓gwName_e, ↓gwNil_e, ↓gwCons_e, ↓gwTup_e, ↓gwTupN_e, ↓wSrc_e, ↓wSrcZ_e, ↓wRng1_e, ↓wRng2_e, ↓wFor_e, ↓wLc_e, ↓wYes_e, ↓rsEq_e, ↓rsNe_e, ↓rsIn_e, ↓rsNotIn_e, ↓rsInt_e, ↓rsInt0_e, ↓rsAdd_e, ↓rsIsN_e, ↓rsNotN_e, ↓rsIx_e, ↓oNo_e, ↓oOf_e, ↓wSl_e, ↓wRev_e, ↓wNeg_e, ↓wCh_e, ↓wBlt_e, ↓rc1_e, ↓rc2_e, ↓wEn_e, ↓wChs_e, ↓wJoin_e, ↓wMut_e, ↓mfAppend_e, ↓mfPop_e, ↓mfReverse_e, ↓mfInsert_e, ↓mfExtend_e, ↓wSetIx_e, ↓wFmt_e, ↓wFmtR_e, ↓wFs_e, ↓wIsi_e, ↓wFld_e, ↓wSetF_e, ↓wSp1_e, ↓wEqO_e, ↓wInO_e, ↓wMeth_e, ↓wIxC_e, ↓rsIxS_e, ↓wSlS_e, ↓wLstC_e, ↓wTupC_e, ↓rsSub_e, ↓rsMulI_e, ↓rsFdiv_e, ↓rsMod_e, ↓rsPow_e, ↓rsLt_e, ↓rsLe_e, ↓rsGt_e, ↓rsGe_e, ↓rdK_val, ↓rdK_fresh, ↓rdK_bor, ↓rdK_slot, ↓kpK_val, ↓kpK_fresh, ↓kpK_slot, ↓retK_val, ↓retK_fresh, ↓retK_slot, ↓asgK_val, ↓asgK_bor, ↓asgK_fresh, ↓asgK_slot, ↓wrK_slot, ↓wrK_cel, ↓lstK_lst, ↓asInt_int, ↓intK_ii, ↓isBl_bl, ↓isBlT_bl, ↓strK_str, ↓itemsK_lst, ↓itemsK_tup, ↓stl_val, ↓stl_fresh, ↓stl_bor, ↓stl_slot, ↓srcK_val, ↓srcK_fresh, ↓srcK_bor, ↓srcK_slot, ↓rdAll_nil, ↓rdAll_cons, ↓kpAll_nil, ↓kpAll_cons, ↓argK_nil, ↓argK_val, ↓argK_bor, ↓argK_slot, ↓rcInt_int, ↓rcInt_bl, ↓rcLen_lst, ↓rcLen_tup, ↓rcLen_scr, ↓rcLen_str, ↓rcAbs_int, ↓rcMax2_ii, ↓rcMin2_ii, ↓rcListS_str, ↓rcListS_lst, ↓rcListS_tup, ↓rcTuple_lst, ↓rcTuple_tup, ↓rcAll_lst, ↓rcSum_lst, ↓rcStr_int, ↓rcStr_str, ↓rcRepr_int, ↓slK_lst, ↓slK_tup, ↓slK_str, ↓slSK_scr, ↓revK_lst, ↓inK_lst, ↓inK_tup, ↓inK_ss, ↓objK_e, ↓obK_obj, ↓obK_cel, ↓objW_obj, ↓wJs_nil, ↓wJs_cons, ↓fmtK_str, ↓fmtK_int, ↓fmtRK_str, ↓fmtRK_int, ↓joinK_lst, ↓joinK_tup, ↓noLent_nil, ↓noLent_cons, ↓wipeS_e, ↓wipeL_nil, ↓wipeL_cons, ↓pI_int, ↓pS_str, ↓pB_bl, ↓nfK_obj, ↓nfK_cel, ↓nfK_non, ↓nfK_bl, ↓nfK_int, ↓nfK_str, ↓nfK_tup, ↓nfK_lst, ↓nfK_dct, ↓slfK_e, ↓isNonT_non, ↓ofK_e, ↓derefK_lst, ↓derefK_tup, ↓derefK_str, ↓derefK_cel, ↓rcReprA_e, ↓wFmtRD_e, ↓aStar_e, ↓seqItK_lst, ↓seqItK_tup, ↓wFldC_e, ↓wMakeK_e, ↓wTryL_e, ↓wHds_nil, ↓wHds_cons, ↓revTK_tup, ↓wRevT_e, ↓rsRep_t, ↓rsRep_l, ↓wKp_e, ↓aConsF_e, ↓notSl_val, ↓notSl_fresh, ↓notSl_bor, ↓wParN_e, ↓asgN_nil, ↓asgN_cons, ↓rcMin1_lst, ↓wRaise_e, ↓wTry_e, ↓wExf_e, ↓wExI_e, ↓fldL1, ↓rcReprD_e, szLine, CPow, CMul, CDivN, fStr, fTy, hrt]; exact hq
  | bl b => simp [↓wVar_e, ↓wC_e, ↓wOp2_e, ↓wTest_e, ↓wAnd_e, ↓wOr_e, ↓wNot_e, ↓wAndV_e, ↓wOrV_e, ↓wNotV_e, ↓wIfE_e, ↓aNil_e, ↓aCons_e, ↓wLst_e, ↓wTup_e, ↓wCall_e, ↓wSet_e, ↓wSeq_e, ↓wSkip_e, ↓wIf_e, ↓wDrop_e, ↓wRet_e, ↓wRetN_e, ↓wBrk_e, ↓wCnt_e, ↓wNev_e, ↓gwName_e, ↓gwNil_e, ↓gwCons_e, ↓gwTup_e, ↓gwTupN_e, ↓wSrc_e, ↓wSrcZ_e, ↓wRng1_e, ↓wRng2_e, ↓wFor_e, ↓wLc_e, ↓wYes_e, ↓rsEq_e, ↓rsNe_e, ↓rsIn_e, ↓rsNotIn_e, ↓rsInt_e, ↓rsInt0_e, ↓rsAdd_e, ↓rsIsN_e, ↓rsNotN_e, ↓rsIx_e, ↓oNo_e, ↓oOf_e, ↓wSl_e, ↓wRev_e, ↓wNeg_e, ↓wCh_e, ↓wBlt_e, ↓rc1_e, ↓rc2_e, ↓wEn_e, ↓wChs_e, ↓wJoin_e, ↓wMut_e, ↓mfAppend_e, ↓mfPop_e, ↓mfReverse_e, ↓mfInsert_e, ↓mfExtend_e, ↓wSetIx_e, ↓wFmt_e, ↓wFmtR_e, ↓wFs_e, ↓wIsi_e, ↓wFld_e, ↓wSetF_e, ↓wSp1_e, ↓wEqO_e, ↓wInO_e, ↓wMeth_e, ↓wIxC_e, ↓rsIxS_e, ↓wSlS_e, ↓wLstC_e, ↓wTupC_e, ↓rsSub_e, ↓rsMulI_e, ↓rsFdiv_e, ↓rsMod_e, ↓rsPow_e, ↓rsLt_e, ↓rsLe_e, ↓rsGt_e, ↓rsGe_e, ↓rdK_val, ↓rdK_fresh, ↓rdK_bor, ↓rdK_slot, ↓kpK_val, ↓kpK_fresh, ↓kpK_slot, ↓retK_val, ↓retK_fresh, ↓retK_slot, ↓asgK_val, ↓asgK_bor, ↓asgK_fresh, ↓asgK_slot, ↓wrK_slot, ↓wrK_cel, ↓lstK_lst, ↓asInt_int, ↓intK_ii, ↓isBl_bl, ↓isBlT_bl, ↓strK_str, ↓itemsK_lst, ↓itemsK_tup, ↓stl_val, ↓stl_fresh, ↓stl_bor, ↓stl_slot, ↓srcK_val, ↓srcK_fresh, ↓srcK_bor, ↓srcK_slot, ↓rdAll_nil, ↓rdAll_cons, ↓kpAll_nil, ↓kpAll_cons, ↓argK_nil, ↓argK_val, ↓argK_bor, ↓argK_slot, ↓rcInt_int, ↓rcInt_bl, ↓rcLen_lst, ↓rcLen_tup, ↓rcLen_scr, ↓rcLen_str, ↓rcAbs_int, ↓rcMax2_ii, ↓rcMin2_ii, ↓rcListS_str, ↓rcListS_lst, ↓rcListS_tup, ↓rcTuple_lst, ↓rcTuple_tup, ↓rcAll_lst, ↓rcSum_lst, ↓rcStr_int, ↓rcStr_str, ↓rcRepr_int, ↓slK_lst, ↓slK_tup, ↓slK_str, ↓slSK_scr, ↓revK_lst, ↓inK_lst, ↓inK_tup, ↓inK_ss, ↓objK_e, ↓obK_obj, ↓obK_cel, ↓objW_obj, ↓wJs_nil, ↓wJs_cons, ↓fmtK_str, ↓fmtK_int, ↓fmtRK_str, ↓fmtRK_int, ↓joinK_lst, ↓joinK_tup, ↓noLent_nil, ↓noLent_cons, ↓wipeS_e, ↓wipeL_nil, ↓wipeL_cons, ↓pI_int, ↓pS_str, ↓pB_bl, ↓nfK_obj, ↓nfK_cel, ↓nfK_non, ↓nfK_bl, ↓nfK_int, ↓nfK_str, ↓nfK_tup, ↓nfK_lst, ↓nfK_dct, ↓slfK_e, ↓isNonT_non, ↓ofK_e, ↓derefK_lst, ↓derefK_tup, ↓derefK_str, ↓derefK_cel, ↓rcReprA_e, ↓wFmtRD_e, ↓aStar_e, ↓seqItK_lst, ↓seqItK_tup, ↓wFldC_e, ↓wMakeK_e, ↓wTryL_e, ↓wHds_nil, ↓wHds_cons, ↓revTK_tup, ↓wRevT_e, ↓rsRep_t, ↓rsRep_l, ↓wKp_e, ↓aConsF_e, ↓notSl_val, ↓notSl_fresh, ↓notSl_bor, ↓wParN_e, ↓asgN_nil, ↓asgN_cons, ↓rcMin1_lst, ↓wRaise_e, ↓wTry_e, ↓wExf_e, ↓wExI_e, ↓fldL1, ↓rcReprD_e, szLine, CPow, CMul, CDivN, fStr, fTy, hrt]; exact hq
  | int b => simp [↓wVar_e, ↓wC_e, ↓wOp2_e, ↓wTest_e, ↓wAnd_e, ↓wOr_e, ↓wNot_e, ↓wAndV_e, ↓wOrV_e, ↓wNotV_e, ↓wIfE_e, ↓aNil_e, ↓aCons_e, ↓wLst_e, ↓wTup_e, ↓wCall_e, ↓wSet_e, ↓wSeq_e, ↓wSkip_e, ↓wIf_e, ↓wDrop_e, ↓wRet_e, ↓wRetN_e, ↓wBrk_e, ↓wCnt_e, ↓wNev_e, ↓gwName_e, ↓gwNil_e, ↓gwCons_e, ↓gwTup_e, ↓gwTupN_e, ↓wSrc_e, ↓wSrcZ_e, ↓wRng1_e, ↓wRng2_e, ↓wFor_e, ↓wLc_e, ↓wYes_e, ↓rsEq_e, ↓rsNe_e, ↓rsIn_e, ↓rsNotIn_e, ↓rsInt_e, ↓rsInt0_e, ↓rsAdd_e, ↓rsIsN_e, ↓rsNotN_e, ↓rsIx_e, ↓oNo_e, ↓oOf_e, ↓wSl_e, ↓wRev_e, ↓wNeg_e, ↓wCh_e, ↓wBlt_e, ↓rc1_e, ↓rc2_e, ↓wEn_e, ↓wChs_e, ↓wJoin_e, ↓wMut_e, ↓mfAppend_e, ↓mfPop_e, ↓mfReverse_e, ↓mfInsert_e, ↓mfExtend_e, ↓wSetIx_e, ↓wFmt_e, ↓wFmtR_e, ↓wFs_e, ↓wIsi_e, ↓wFld_e, ↓wSetF_e, ↓wSp1_e, ↓wEqO_e, ↓wInO_e, ↓wMeth_e, ↓wIxC_e, ↓rsIxS_e, ↓wSlS_e, ↓wLstC_e, ↓wTupC_e, ↓rsSub_e, ↓rsMulI_e, ↓rsFdiv_e, ↓rsMod_e, ↓rsPow_e, ↓rsLt_e, ↓rsLe_e, ↓rsGt_e, ↓rsGe_e, ↓rdK_val, ↓rdK_fresh, ↓rdK_bor, ↓rdK_slot, ↓kpK_val, ↓kpK_fresh, ↓kpK_slot, ↓retK_val, ↓retK_fresh, ↓retK_slot, ↓asgK_val, ↓asgK_bor, ↓asgK_fresh, ↓asgK_slot, ↓wrK_slot, ↓wrK_cel, ↓lstK_lst, ↓asInt_int, ↓intK_ii, ↓isBl_bl, ↓isBlT_bl, ↓strK_str, ↓itemsK_lst, ↓itemsK_tup, ↓stl_val, ↓stl_fresh, ↓stl_bor, ↓stl_slot, ↓srcK_val, ↓srcK_fresh, ↓srcK_bor, ↓srcK_slot, ↓rdAll_nil, ↓rdAll_cons, ↓kpAll_nil, ↓kpAll_cons, ↓argK_nil, ↓argK_val, ↓argK_bor, ↓argK_slot, ↓rcInt_int, ↓rcInt_bl, ↓rcLen_lst, ↓rcLen_tup, ↓rcLen_scr, ↓rcLen_str, ↓rcAbs_int, ↓rcMax2_ii, ↓rcMin2_ii, ↓rcListS_str, ↓rcListS_lst, ↓rcListS_tup, ↓rcTuple_lst, ↓rcTuple_tup, ↓rcAll_lst, ↓rcSum_lst, ↓rcStr_int, ↓rcStr_str, ↓rcRepr_int, ↓slK_lst, ↓slK_tup, ↓slK_str, ↓slSK_scr, ↓revK_lst, ↓inK_lst, ↓inK_tup, ↓inK_ss, ↓objK_e, ↓obK_obj, ↓obK_cel, ↓objW_obj, ↓wJs_nil, ↓wJs_cons, ↓fmtK_str, ↓fmtK_int, ↓fmtRK_str, ↓fmtRK_int, ↓joinK_lst, ↓joinK_tup, ↓noLent_nil, ↓noLent_cons, ↓wipeS_e, ↓wipeL_nil, ↓wipeL_cons, ↓pI_int, ↓pS_str, ↓pB_bl, ↓nfK_obj, ↓nfK_cel, ↓nfK_non, ↓nfK_bl, ↓nfK_int, ↓nfK_str, ↓nfK_tup, ↓nfK_lst, ↓nfK_dct, ↓slfK_e, ↓isNonT_non, ↓ofK_e, ↓derefK_lst, ↓derefK_tup, ↓derefK_str, ↓derefK_cel, ↓rcReprA_e, ↓wFmtRD_e, ↓aStar_e, ↓seqItK_lst, ↓seqItK_tup, ↓wFldC_e, ↓wMakeK_e, ↓wTryL_e, ↓wHds_nil, ↓wHds_cons, ↓revTK_tup, ↓wRevT_e, ↓rsRep_t, ↓rsRep_l, ↓wKp_e, ↓aConsF_e, ↓notSl_val, ↓notSl_fresh, ↓notSl_bor, ↓wParN_e, ↓asgN_nil, ↓asgN_cons, ↓rcMin1_lst, ↓wRaise_e, ↓wTry_e, ↓wExf_e, ↓wExI_e, ↓fldL1, ↓rcReprD_e, szLine, CPow, CMul, CDivN, fStr, fTy, hrt]; exact hq
  | tup b => simp [↓wVar_e, ↓wC_e, ↓wOp2_e, ↓wTest_e, ↓wAnd_e, ↓wOr_e, ↓wNot_e, ↓wAndV_e, ↓wOrV_e, ↓wNotV_e, ↓wIfE_e, ↓aNil_e, ↓aCons_e, ↓wLst_e, ↓wTup_e, ↓wCall_e, ↓wSet_e, ↓wSeq_e, ↓wSkip_e, ↓wIf_e, ↓wDrop_e, ↓wRet_e, ↓wRetN_e, ↓wBrk_e, ↓wCnt_e, ↓wNev_e, ↓gwName_e, ↓gwNil_e, ↓gwCons_e, ↓gwTup_e, ↓gwTupN_e, ↓wSrc_e, ↓wSrcZ_e, ↓wRng1_e, ↓wRng2_e, ↓wFor_e, ↓wLc_e, ↓wYes_e, ↓rsEq_e, ↓rsNe_e, ↓rsIn_e, ↓rsNotIn_e, ↓rsInt_e, ↓rsInt0_e, ↓rsAdd_e, ↓rsIsN_e, ↓rsNotN_e, ↓rsIx_e, ↓oNo_e, ↓oOf_e, ↓wSl_e, ↓wRev_e, ↓wNeg_e, ↓wCh_e, ↓wBlt_e, ↓rc1_e, ↓rc2_e, ↓wEn_e, ↓wChs_e, ↓wJoin_e, ↓wMut_e, ↓mfAppend_e, ↓mfPop_e, ↓mfReverse_e, ↓mfInsert_e, ↓mfExtend_e, ↓wSetIx_e, ↓wFmt_e, ↓wFmtR_e, ↓wFs_e, ↓wIsi_e, ↓wFld_e, ↓wSetF_e, ↓wSp1_e, ↓wEqO_e, ↓wInO_e, ↓wMeth_e, ↓wIxC_e, ↓rsIxS_e, ↓wSlS_e, ↓wLstC_e, ↓wTupC_e, ↓rsSub_e, ↓rsMulI_e, ↓rsFdiv_e, ↓rsMod_e, ↓rsPow_e, ↓rsLt_e, ↓rsLe_e, ↓rsGt_e, ↓rsGe_e, ↓rdK_val, ↓rdK_fresh, ↓rdK_bor, ↓rdK_slot, ↓kpK_val, ↓kpK_fresh, ↓kpK_slot, ↓retK_val, ↓retK_fresh, ↓retK_slot, ↓asgK_val, ↓asgK_bor, ↓asgK_fresh, ↓asgK_slot, ↓wrK_slot, ↓wrK_cel, ↓lstK_lst, ↓asInt_int, ↓intK_ii, ↓isBl_bl, ↓isBlT_bl, ↓strK_str, ↓itemsK_lst, ↓itemsK_tup, ↓stl_val, ↓stl_fresh, ↓stl_bor, ↓stl_slot, ↓srcK_val, ↓srcK_fresh, ↓srcK_bor, ↓srcK_slot, ↓rdAll_nil, ↓rdAll_cons, ↓kpAll_nil, ↓kpAll_cons, ↓argK_nil, ↓argK_val, ↓argK_bor, ↓argK_slot, ↓rcInt_int, ↓rcInt_bl, ↓rcLen_lst, ↓rcLen_tup, ↓rcLen_scr, ↓rcLen_str, ↓rcAbs_int, ↓rcMax2_ii, ↓rcMin2_ii, ↓rcListS_str, ↓rcListS_lst, ↓rcListS_tup, ↓rcTuple_lst, ↓rcTuple_tup, ↓rcAll_lst, ↓rcSum_lst, ↓rcStr_int, ↓rcStr_str, ↓rcRepr_int, ↓slK_lst, ↓slK_tup, ↓slK_str, ↓slSK_scr, ↓revK_lst, ↓inK_lst, ↓inK_tup, ↓inK_ss, ↓objK_e, ↓obK_obj, ↓obK_cel, ↓objW_obj, ↓wJs_nil, ↓wJs_cons, ↓fmtK_str, ↓fmtK_int, ↓fmtRK_str, ↓fmtRK_int, ↓joinK_lst, ↓joinK_tup, ↓noLent_nil, ↓noLent_cons, ↓wipeS_e, ↓wipeL_nil, ↓wipeL_cons, ↓pI_int, ↓pS_str, ↓pB_bl, ↓nfK_obj, ↓nfK_cel, ↓nfK_non, ↓nfK_bl, ↓nfK_int, ↓nfK_str, ↓nfK_tup, ↓nfK_lst, ↓nfK_dct, ↓slfK_e, ↓isNonT_non, ↓ofK_e, ↓derefK_lst, ↓derefK_tup, ↓derefK_str, ↓derefK_cel, ↓rcReprA_e, ↓wFmtRD_e, ↓aStar_e, ↓seqItK_lst, ↓seqItK_tup, ↓wFldC_e, ↓wMakeK_e, ↓wTryL_e, ↓wHds_nil, ↓wHds_cons, ↓revTK_tup, ↓wRevT_e, ↓rsRep_t, ↓rsRep_l, ↓wKp_e, ↓aConsF_e, ↓notSl_val, ↓notSl_fresh, ↓notSl_bor, ↓wParN_e, ↓asgN_nil, ↓asgN_cons, ↓rcMin1_lst, ↓wRaise_e, ↓wTry_e, ↓wExf_e, ↓wExI_e, ↓fldL1, ↓rcReprD_e, szLine, CPow, CMul, CDivN, fStr, fTy, hrt]; exact hq
  | lst b => simp [↓wVar_e, ↓wC_e, ↓wOp2_e, ↓wTest_e, ↓wAnd_e, ↓wOr_e, ↓wNot_e, ↓wAndV_e, ↓wOrV_e, ↓wNotV_e, ↓wIfE_e, ↓aNil_e, ↓aCons_e, ↓wLst_e, ↓wTup_e, ↓wCall_e, ↓wSet_e, ↓wSeq_e, ↓wSkip_e, ↓wIf_e, ↓wDrop_e, ↓wRet_e, ↓wRetN_e, ↓wBrk_e, ↓wCnt_e, ↓wNev_e, ↓gwName_e, ↓gwNil_e, ↓gwCons_e, ↓gwTup_e, ↓gwTupN_e, ↓wSrc_e, ↓wSrcZ_e, ↓wRng1_e, ↓wRng2_e, ↓wFor_e, ↓wLc_e, ↓wYes_e, ↓rsEq_e, ↓rsNe_e, ↓rsIn_e, ↓rsNotIn_e, ↓rsInt_e, ↓rsInt0_e, ↓rsAdd_e, ↓rsIsN_e, ↓rsNotN_e, ↓rsIx_e, ↓oNo_e, ↓oOf_e, ↓wSl_e, ↓wRev_e, ↓wNeg_e, ↓wCh_e, ↓wBlt_e, ↓rc1_e, ↓rc2_e, ↓wEn_e, ↓wChs_e, ↓wJoin_e, ↓wMut_e, ↓mfAppend_e, ↓mfPop_e, ↓mfReverse_e, ↓mfInsert_e, ↓mfExtend_e, ↓wSetIx_e, ↓wFmt_e, ↓wFmtR_e, ↓wFs_e, ↓wIsi_e, ↓wFld_e, ↓wSetF_e, ↓wSp1_e, ↓wEqO_e, ↓wInO_e, ↓wMeth_e, ↓wIxC_e, ↓rsIxS_e, ↓wSlS_e, ↓wLstC_e, ↓wTupC_e, ↓rsSub_e, ↓rsMulI_e, ↓rsFdiv_e, ↓rsMod_e, ↓rsPow_e, ↓rsLt_e, ↓rsLe_e, ↓rsGt_e, ↓rsGe_e, ↓rdK_val, ↓rdK_fresh, ↓rdK_bor, ↓rdK_slot, ↓kpK_val, ↓kpK_fresh, ↓kpK_slot, ↓retK_val, ↓retK_fresh, ↓retK_slot, ↓asgK_val, ↓asgK_bor, ↓asgK_fresh, ↓asgK_slot, ↓wrK_slot, ↓wrK_cel, ↓lstK_lst, ↓asInt_int, ↓intK_ii, ↓isBl_bl, ↓isBlT_bl, ↓strK_str, ↓itemsK_lst, ↓itemsK_tup, ↓stl_val, ↓stl_fresh, ↓stl_bor, ↓stl_slot, ↓srcK_val, ↓srcK_fresh, ↓srcK_bor, ↓srcK_slot, ↓rdAll_nil, ↓rdAll_cons, ↓kpAll_nil, ↓kpAll_cons, ↓argK_nil, ↓argK_val, ↓argK_bor, ↓argK_slot, ↓rcInt_int, ↓rcInt_bl, ↓rcLen_lst, ↓rcLen_tup, ↓rcLen_scr, ↓rcLen_str, ↓rcAbs_int, ↓rcMax2_ii, ↓rcMin2_ii, ↓rcListS_str, ↓rcListS_lst, ↓rcListS_tup, ↓rcTuple_lst, ↓rcTuple_tup, ↓rcAll_lst, ↓rcSum_lst, ↓rcStr_int, ↓rcStr_str, ↓rcRepr_int, ↓slK_lst, ↓slK_tup, ↓slK_str, ↓slSK_scr, ↓revK_lst, ↓inK_lst, ↓inK_tup, ↓inK_ss, ↓objK_e, ↓obK_obj, ↓obK_cel, ↓objW_obj, ↓wJs_nil, ↓wJs_cons, ↓fmtK_str, ↓fmtK_int, ↓fmtRK_str, ↓fmtRK_int, ↓joinK_lst, ↓joinK_tup, ↓noLent_nil, ↓noLent_cons, ↓wipeS_e, ↓wipeL_nil, ↓wipeL_cons, ↓pI_int, ↓pS_str, ↓pB_bl, ↓nfK_obj, ↓nfK_cel, ↓nfK_non, ↓nfK_bl, ↓nfK_int, ↓nfK_str, ↓nfK_tup, ↓nfK_lst, ↓nfK_dct, ↓slfK_e, ↓isNonT_non, ↓ofK_e, ↓derefK_lst, ↓derefK_tup, ↓derefK_str, ↓derefK_cel, ↓rcReprA_e, ↓wFmtRD_e, ↓aStar_e, ↓seqItK_lst, ↓seqItK_tup, ↓wFldC_e, ↓wMakeK_e, ↓wTryL_e, ↓wHds_nil, ↓wHds_cons, ↓revTK_tup, ↓wRevT_e, ↓rsRep_t, ↓rsRep_l, ↓wKp_e, ↓aConsF_e, ↓notSl_val, ↓notSl_fresh, ↓notSl_bor, ↓wParN_e, ↓asgN_nil, ↓asgN_cons, ↓rcMin1_lst, ↓wRaise_e, ↓wTry_e, ↓wExf_e, ↓wExI_e, ↓fldL1, ↓rcReprD_e, szLine, CPow, CMul, CDivN, fStr, fTy, hrt]; exact hq
  | _ => exact hx.elim
def sWords : FW := fun args c rt _ => ∃ n m, args = [.val (.cel n), .val (.int m)] ∧ c[n]? = some .bag ∧ (0 ≤ m ∧ m ≤ 8) ∧ ∀ xs : List PV, (∀ x ∈ xs, Ent x) → xs.length = m.toNat → rt (.fresh (.lst xs)) c
theorem sWords_v {n : Nat} {m : Int} {c : List PV} {rt : TV → List PV → Prop} {ex : Ex → List PV → Prop} : sWords [.val (.cel n), .val (.int m)] c rt ex = (c[n]? = some .bag ∧ (0 ≤ m ∧ m ≤ 8) ∧ ∀ xs : List PV, (∀ x ∈ xs, Ent x) → xs.length = m.toNat → rt (.fresh (.lst xs)) c) := propext ⟨fun ⟨_, _, h, q⟩ => by cases h; exact q, fun q => ⟨n, m, rfl, q⟩⟩
theorem words_ok (K : PySem.W.Frag) : ∀ args c rt ex, sWords args c rt ex → fwOf 6 2 (w__law_words K sOf) args c rt ex := by
  rintro args c rt ex ⟨n, m, rfl, hc, ⟨m0, m8⟩, hq⟩
  refine fwOf_i rfl fun E _ hrt _ => ?_
  unfold w__law_words
  simp [↓wVar_e, ↓wC_e, ↓wOp2_e, ↓wTest_e, ↓wAnd_e, ↓wOr_e, ↓wNot_e, ↓wAndV_e, ↓wOrV_e, ↓wNotV_e, ↓wIfE_e, ↓aNil_e, ↓aCons_e, ↓wLst_e, ↓wTup_e, ↓wCall_e, ↓wSet_e, ↓wSeq_e, ↓wSkip_e, ↓wIf_e, ↓wDrop_e, ↓wRet_e, ↓wRetN_e, ↓wBrk_e, ↓wCnt_e, ↓wNev_e, ↓gwName_e, ↓gwNil_e, ↓gwCons_e, ↓gwTup_e, ↓gwTupN_e, ↓wSrc_e, ↓wSrcZ_e, ↓wRng1_e, ↓wRng2_e, ↓wFor_e, ↓wLc_e, ↓wYes_e, ↓rsEq_e, ↓rsNe_e, ↓rsIn_e, ↓rsNotIn_e, ↓rsInt_e, ↓rsInt0_e, ↓rsAdd_e, ↓rsIsN_e, ↓rsNotN_e, ↓rsIx_e, ↓oNo_e, ↓oOf_e, ↓wSl_e, ↓wRev_e, ↓wNeg_e, ↓wCh_e, ↓wBlt_e, ↓rc1_e, ↓rc2_e, ↓wEn_e, ↓wChs_e, ↓wJoin_e, ↓wMut_e, ↓mfAppend_e, ↓mfPop_e, ↓mfReverse_e, ↓mfInsert_e, ↓mfExtend_e, ↓wSetIx_e, ↓wFmt_e, ↓wFmtR_e, ↓wFs_e, ↓wIsi_e, ↓wFld_e, ↓wSetF_e, ↓wSp1_e, ↓wEqO_e, ↓wInO_e, ↓wMeth_e, ↓wIxC_e, ↓rsIxS_e, ↓wSlS_e, ↓wLstC_e, ↓wTupC_e, ↓rsSub_e, ↓rsMulI_e, ↓rsFdiv_e, ↓rsMod_e, ↓rsPow_e, ↓rsLt_e, ↓rsLe_e, ↓rsGt_e, ↓rsGe_e, ↓rdK_val, ↓rdK_fresh, ↓rdK_bor, ↓rdK_slot, ↓kpK_val, ↓kpK_fresh, ↓kpK_slot, ↓retK_val, ↓retK_fresh, ↓retK_slot, ↓asgK_val, ↓asgK_bor, ↓asgK_fresh, ↓asgK_slot, ↓wrK_slot, ↓wrK_cel, ↓lstK_lst, ↓asInt_int, ↓intK_ii, ↓isBl_bl, ↓isBlT_bl, ↓strK_str, ↓itemsK_lst, ↓itemsK_tup, ↓stl_val, ↓stl_fresh, ↓stl_bor, ↓stl_slot, ↓srcK_val, ↓srcK_fresh, ↓srcK_bor, ↓srcK_slot, ↓rdAll_nil, ↓rdAll_cons, ↓kpAll_nil, ↓kpAll_cons, ↓argK_nil, ↓argK_val, ↓argK_bor, ↓argK_slot, ↓rcInt_int, ↓rcInt_bl, ↓rcLen_lst, ↓rcLen_tup, ↓rcLen_scr, ↓rcLen_str, ↓rcAbs_int, ↓rcMax2_ii, ↓rcMin2_ii, ↓rcListS_str, ↓rcListS_lst, ↓rcListS_tup, ↓rcTuple_lst, ↓rcTuple_tup, ↓rcAll_lst, ↓rcSum_lst, ↓rcStr_int, ↓rcStr_str, ↓rcRepr_int, ↓slK_lst, ↓slK_tup, ↓slK_str, ↓slSK_scr, ↓revK_lst, ↓inK_lst, ↓inK_tup, ↓inK_ss, ↓objK_e, ↓obK_obj, ↓obK_cel, ↓objW_obj, ↓wJs_nil, ↓wJs_cons, ↓fmtK_str, ↓fmtK_int, ↓fmtRK_str, ↓fmtRK_int, ↓joinK_lst, ↓joinK_tup, ↓noLent_nil, ↓noLent_cons, ↓wipeS_e, ↓wipeL_nil, ↓wipeL_cons, ↓pI_int, ↓pS_str, ↓pB_bl, ↓nfK_obj, ↓nfK_cel, ↓nfK_non, ↓nfK_bl, ↓nfK_int, ↓nfK_str, ↓nfK_tup, ↓nfK_lst, ↓nfK_dct, ↓slfK_e, ↓isNonT_non, ↓ofK_e, ↓derefK_lst, ↓derefK_tup, ↓derefK_str, ↓derefK_cel, ↓rcReprA_e, ↓wFmtRD_e, ↓aStar_e, ↓seqItK_lst, ↓seqItK_tup, ↓wFldC_e, ↓wMakeK_e, ↓wTryL_e, ↓wHds_nil, ↓wHds_cons, ↓revTK_tup, ↓wRevT_e, ↓rsRep_t, ↓rsRep_l, ↓wKp_e, ↓aConsF_e, ↓notSl_val, ↓notSl_fresh, ↓notSl_bor, ↓wParN_e, ↓asgN_nil, ↓asgN_cons, ↓rcMin1_lst, ↓wRaise_e, ↓wTry_e, ↓wExf_e, ↓wExI_e, ↓fldL1, ↓rcReprD_e, szLine, CPow, CMul, CDivN]
  unfold t__law_words_6
  simp [↓wVar_e, ↓wC_e, ↓wOp2_e, ↓wTest_e, ↓wAnd_e, ↓wOr_e, ↓wNot_e, ↓wAndV_e, ↓wOrV_e, ↓wNotV_e, ↓wIfE_e, ↓aNil_e, ↓aCons_e, ↓wLst_e, ↓wTup_e, ↓wCall_e, ↓wSet_e, ↓wSeq_e, ↓wSkip_e, ↓wIf_e, ↓wDrop_e, ↓wRet_e, ↓wRetN_e, ↓wBrk_e, ↓wCnt_e, ↓wNev_e, ↓gwName_e, ↓gwNil_e, ↓gwCons_e, ↓gwTup_e, ↓gwTupN_e, ↓wSrc_e, ↓wSrcZ_e, ↓wRng1_e, ↓wRng2_e, ↓wFor_e, ↓wLc_e, ↓wYes_e, ↓rsEq_e, ↓rsNe_e, ↓rsIn_e, ↓rsNotIn_e, ↓rsInt_e, ↓rsInt0_e, ↓rsAdd_e, ↓rsIsN_e, ↓rsNotN_e, ↓rsIx_e, ↓oNo_e, ↓oOf_e, ↓wSl_e, ↓wRev_e, ↓wNeg_e, ↓wCh_e, ↓wBlt_e, ↓rc1_e, ↓rc2_e, ↓wEn_e, ↓wChs_e, ↓wJoin_e, ↓wMut_e, ↓mfAppend_e, ↓mfPop_e, ↓mfReverse_e, ↓mfInsert_e, ↓mfExtend_e, ↓wSetIx_e, ↓wFmt_e, ↓wFmtR_e, ↓wFs_e, ↓wIsi_e, ↓wFld_e, ↓wSetF_e, ↓wSp1_e, ↓wEqO_e, ↓wInO_e, ↓wMeth_e, ↓wIxC_e, ↓rsIxS_e, ↓wSlS_e, ↓wLstC_e, ↓wTupC_e, ↓rsSub_e, ↓rsMulI_e, ↓rsFdiv_e, ↓rsMod_e, ↓rsPow_e, ↓rsLt_e, ↓rsLe_e, ↓rsGt_e, ↓rsGe_e, ↓rdK_val, ↓rdK_fresh, ↓rdK_bor, ↓rdK_slot, ↓kpK_val, ↓kpK_fresh, ↓kpK_slot, ↓retK_val, ↓retK_fresh, ↓retK_slot, ↓asgK_val, ↓asgK_bor, ↓asgK_fresh, ↓asgK_slot, ↓wrK_slot, ↓wrK_cel, ↓lstK_lst, ↓asInt_int, ↓intK_ii, ↓isBl_bl, ↓isBlT_bl, ↓strK_str, ↓itemsK_lst, ↓itemsK_tup, ↓stl_val, ↓stl_fresh, ↓stl_bor, ↓stl_slot, ↓srcK_val, ↓srcK_fresh, ↓srcK_bor, ↓srcK_slot, ↓rdAll_nil, ↓rdAll_cons, ↓kpAll_nil, ↓kpAll_cons, ↓argK_nil, ↓argK_val, ↓argK_bor, ↓argK_slot, ↓rcInt_int, ↓rcInt_bl, ↓rcLen_lst, ↓rcLen_tup, ↓rcLen_scr, ↓rcLen_str, ↓rcAbs_int, ↓rcMax2_ii, ↓rcMin2_ii, ↓rcListS_str, ↓rcListS_lst, ↓rcListS_tup, ↓rcTuple_lst, ↓rcTuple_tup, ↓rcAll_lst, ↓rcSum_lst, ↓rcStr_int, ↓rcStr_str, ↓rcRepr_int, ↓slK_lst, ↓slK_tup, ↓slK_str, ↓slSK_scr, ↓revK_lst, ↓inK_lst, ↓inK_tup, ↓inK_ss, ↓objK_e, ↓obK_obj, ↓obK_cel, ↓objW_obj, ↓wJs_nil, ↓wJs_cons, ↓fmtK_str, ↓fmtK_int, ↓fmtRK_str, ↓fmtRK_int, ↓joinK_lst, ↓joinK_tup, ↓noLent_nil, ↓noLent_cons, ↓wipeS_e, ↓wipeL_nil, ↓wipeL_cons, ↓pI_int, ↓pS_str, ↓pB_bl, ↓nfK_obj, ↓nfK_cel, ↓nfK_non, ↓nfK_bl, ↓nfK_int, ↓nfK_str, ↓nfK_tup, ↓nfK_lst, ↓nfK_dct, ↓slfK_e, ↓isNonT_non, ↓ofK_e, ↓derefK_lst, ↓derefK_tup, ↓derefK_str, ↓derefK_cel, ↓rcReprA_e, ↓wFmtRD_e, ↓aStar_e, ↓seqItK_lst, ↓seqItK_tup, ↓wFldC_e, ↓wMakeK_e, ↓wTryL_e, ↓wHds_nil, ↓wHds_cons, ↓revTK_tup, ↓wRevT_e, ↓rsRep_t, ↓rsRep_l, ↓wKp_e, ↓aConsF_e, ↓notSl_val, ↓notSl_fresh, ↓notSl_bor, ↓wParN_e, ↓asgN_nil, ↓asgN_cons, ↓rcMin1_lst, ↓wRaise_e, ↓wTry_e, ↓wExf_e, ↓wExI_e, ↓fldL1, ↓rcReprD_e, szLine, CPow, CMul, CDivN]
  refine ⟨by omega, for_inv (fun i S => ∃ (ys : List PV) (s3 s4 s5 : BV.Slot), S = ⟨[.val (.cel n), .val (.int m), .own (.lst ys), s3, s4, s5], c⟩ ∧ s3.isL = false ∧ s4.isL = false ∧ s5.isL = false ∧ (∀ x ∈ ys, Ent x) ∧ ys.length = i) ⟨_, _, _, _, rfl, rfl, rfl, rfl, fun x h => (by cases h), rfl⟩ ?_ ?_⟩
  · rintro i x S k hx' ⟨ys, s3, s4, s5, rfl, l3, l4, l5, hy, hyl⟩ hk
    obtain ⟨rfl, hi⟩ := rgP_at hx'
    unfold b__law_words_4
    simp [↓wVar_e, ↓wC_e, ↓wOp2_e, ↓wTest_e, ↓wAnd_e, ↓wOr_e, ↓wNot_e, ↓wAndV_e, ↓wOrV_e, ↓wNotV_e, ↓wIfE_e, ↓aNil_e, ↓aCons_e, ↓wLst_e, ↓wTup_e, ↓wCall_e, ↓wSet_e, ↓wSeq_e, ↓wSkip_e, ↓wIf_e, ↓wDrop_e, ↓wRet_e, ↓wRetN_e, ↓wBrk_e, ↓wCnt_e, ↓wNev_e, ↓gwName_e, ↓gwNil_e, ↓gwCons_e, ↓gwTup_e, ↓gwTupN_e, ↓wSrc_e, ↓wSrcZ_e, ↓wRng1_e, ↓wRng2_e, ↓wFor_e, ↓wLc_e, ↓wYes_e, ↓rsEq_e, ↓rsNe_e, ↓rsIn_e, ↓rsNotIn_e, ↓rsInt_e, ↓rsInt0_e, ↓rsAdd_e, ↓rsIsN_e, ↓rsNotN_e, ↓rsIx_e, ↓oNo_e, ↓oOf_e, ↓wSl_e, ↓wRev_e, ↓wNeg_e, ↓wCh_e, ↓wBlt_e, ↓rc1_e, ↓rc2_e, ↓wEn_e, ↓wChs_e, ↓wJoin_e, ↓wMut_e, ↓mfAppend_e, ↓mfPop_e, ↓mfReverse_e, ↓mfInsert_e, ↓mfExtend_e, ↓wSetIx_e, ↓wFmt_e, ↓wFmtR_e, ↓wFs_e, ↓wIsi_e, ↓wFld_e, ↓wSetF_e, ↓wSp1_e, ↓wEqO_e, ↓wInO_e, ↓wMeth_e, ↓wIxC_e, ↓rsIxS_e, ↓wSlS_e, ↓wLstC_e, ↓wTupC_e, ↓rsSub_e, ↓rsMulI_e, ↓rsFdiv_e, ↓rsMod_e, ↓rsPow_e, ↓rsLt_e, ↓rsLe_e, ↓rsGt_e, ↓rsGe_e, ↓rdK_val, ↓rdK_fresh, ↓rdK_bor, ↓rdK_slot, ↓kpK_val, ↓kpK_fresh, ↓kpK_slot, ↓retK_val, ↓retK_fresh, ↓retK_slot, ↓asgK_val, ↓asgK_bor, ↓asgK_fresh, ↓asgK_slot, ↓wrK_slot, ↓wrK_cel, ↓lstK_lst, ↓asInt_int, ↓intK_ii, ↓isBl_bl, ↓isBlT_bl, ↓strK_str, ↓itemsK_lst, ↓itemsK_tup, ↓stl_val, ↓stl_fresh, ↓stl_bor, ↓stl_slot, ↓srcK_val, ↓srcK_fresh, ↓srcK_bor, ↓srcK_slot, ↓rdAll_nil, ↓rdAll_cons, ↓kpAll_nil, ↓kpAll_cons, ↓argK_nil, ↓argK_val, ↓argK_bor, ↓argK_slot, ↓rcInt_int, ↓rcInt_bl, ↓rcLen_lst, ↓rcLen_tup, ↓rcLen_scr, ↓rcLen_str, ↓rcAbs_int, ↓rcMax2_ii, ↓rcMin2_ii, ↓rcListS_str, ↓rcListS_lst, ↓rcListS_tup, ↓rcTuple_lst, ↓rcTuple_tup, ↓rcAll_lst, ↓rcSum_lst, ↓rcStr_int, ↓rcStr_str, ↓rcRepr_int, ↓slK_lst, ↓slK_tup, ↓slK_str, ↓slSK_scr, ↓revK_lst, ↓inK_lst, ↓inK_tup, ↓inK_ss, ↓objK_e, ↓obK_obj, ↓obK_cel, ↓objW_obj, ↓wJs_nil, ↓wJs_cons, ↓fmtK_str, ↓fmtK_int, ↓fmtRK_str, ↓fmtRK_int, ↓joinK_lst, ↓joinK_tup, ↓noLent_nil, ↓noLent_cons, ↓wipeS_e, ↓wipeL_nil, ↓wipeL_cons, ↓pI_int, ↓pS_str, ↓pB_bl, ↓nfK_obj, ↓nfK_cel, ↓nfK_non, ↓nfK_bl, ↓nfK_int, ↓nfK_str, ↓nfK_tup, ↓nfK_lst, ↓nfK_dct, ↓slfK_e, ↓isNonT_non, ↓ofK_e, ↓derefK_lst, ↓derefK_tup, ↓derefK_str, ↓derefK_cel, ↓rcReprA_e, ↓wFmtRD_e, ↓aStar_e, ↓seqItK_lst, ↓seqItK_tup, ↓wFldC_e, ↓wMakeK_e, ↓wTryL_e, ↓wHds_nil, ↓wHds_cons, ↓revTK_tup, ↓wRevT_e, ↓rsRep_t, ↓rsRep_l, ↓wKp_e, ↓aConsF_e, ↓notSl_val, ↓notSl_fresh, ↓notSl_bor, ↓wParN_e, ↓asgN_nil, ↓asgN_cons, ↓rcMin1_lst, ↓wRaise_e, ↓wTry_e, ↓wExf_e, ↓wExI_e, ↓fldL1, ↓rcReprD_e, szLine, CPow, CMul, CDivN, l3, l4]
    unfold t__law_words_3
    simp [↓wVar_e, ↓wC_e, ↓wOp2_e, ↓wTest_e, ↓wAnd_e, ↓wOr_e, ↓wNot_e, ↓wAndV_e, ↓wOrV_e, ↓wNotV_e, ↓wIfE_e, ↓aNil_e, ↓aCons_e, ↓wLst_e, ↓wTup_e, ↓wCall_e, ↓wSet_e, ↓wSeq_e, ↓wSkip_e, ↓wIf_e, ↓wDrop_e, ↓wRet_e, ↓wRetN_e, ↓wBrk_e, ↓wCnt_e, ↓wNev_e, ↓gwName_e, ↓gwNil_e, ↓gwCons_e, ↓gwTup_e, ↓gwTupN_e, ↓wSrc_e, ↓wSrcZ_e, ↓wRng1_e, ↓wRng2_e, ↓wFor_e, ↓wLc_e, ↓wYes_e, ↓rsEq_e, ↓rsNe_e, ↓rsIn_e, ↓rsNotIn_e, ↓rsInt_e, ↓rsInt0_e, ↓rsAdd_e, ↓rsIsN_e, ↓rsNotN_e, ↓rsIx_e, ↓oNo_e, ↓oOf_e, ↓wSl_e, ↓wRev_e, ↓wNeg_e, ↓wCh_e, ↓wBlt_e, ↓rc1_e, ↓rc2_e, ↓wEn_e, ↓wChs_e, ↓wJoin_e, ↓wMut_e, ↓mfAppend_e, ↓mfPop_e, ↓mfReverse_e, ↓mfInsert_e, ↓mfExtend_e, ↓wSetIx_e, ↓wFmt_e, ↓wFmtR_e, ↓wFs_e, ↓wIsi_e, ↓wFld_e, ↓wSetF_e, ↓wSp1_e, ↓wEqO_e, ↓wInO_e, ↓wMeth_e, ↓wIxC_e, ↓rsIxS_e, ↓wSlS_e, ↓wLstC_e, ↓wTupC_e, ↓rsSub_e, ↓rsMulI_e, ↓rsFdiv_e, ↓rsMod_e, ↓rsPow_e, ↓rsLt_e, ↓rsLe_e, ↓rsGt_e, ↓rsGe_e, ↓rdK_val, ↓rdK_fresh, ↓rdK_bor, ↓rdK_slot, ↓kpK_val, ↓kpK_fresh, ↓kpK_slot, ↓retK_val, ↓retK_fresh, ↓retK_slot, ↓asgK_val, ↓asgK_bor, ↓asgK_fresh, ↓asgK_slot, ↓wrK_slot, ↓wrK_cel, ↓lstK_lst, ↓asInt_int, ↓intK_ii, ↓isBl_bl, ↓isBlT_bl, ↓strK_str, ↓itemsK_lst, ↓itemsK_tup, ↓stl_val, ↓stl_fresh, ↓stl_bor, ↓stl_slot, ↓srcK_val, ↓srcK_fresh, ↓srcK_bor, ↓srcK_slot, ↓rdAll_nil, ↓rdAll_cons, ↓kpAll_nil, ↓kpAll_cons, ↓argK_nil, ↓argK_val, ↓argK_bor, ↓argK_slot, ↓rcInt_int, ↓rcInt_bl, ↓rcLen_lst, ↓rcLen_tup, ↓rcLen_scr, ↓rcLen_str, ↓rcAbs_int, ↓rcMax2_ii, ↓rcMin2_ii, ↓rcListS_str, ↓rcListS_lst, ↓rcListS_tup, ↓rcTuple_lst, ↓rcTuple_tup, ↓rcAll_lst, ↓rcSum_lst, ↓rcStr_int, ↓rcStr_str, ↓rcRepr_int, ↓slK_lst, ↓slK_tup, ↓slK_str, ↓slSK_scr, ↓revK_lst, ↓inK_lst, ↓inK_tup, ↓inK_ss, ↓objK_e, ↓obK_obj, ↓obK_cel, ↓objW_obj, ↓wJs_nil, ↓wJs_cons, ↓fmtK_str, ↓fmtK_int, ↓fmtRK_str, ↓fmtRK_int, ↓joinK_lst, ↓joinK_tup, ↓noLent_nil, ↓noLent_cons, ↓wipeS_e, ↓wipeL_nil, ↓wipeL_cons, ↓pI_int, ↓pS_str, ↓pB_bl, ↓nfK_obj, ↓nfK_cel, ↓nfK_non, ↓nfK_bl, ↓nfK_int, ↓nfK_str, ↓nfK_tup, ↓nfK_lst, ↓nfK_dct, ↓slfK_e, ↓isNonT_non, ↓ofK_e, ↓derefK_lst, ↓derefK_tup, ↓derefK_str, ↓derefK_cel, ↓rcReprA_e, ↓wFmtRD_e, ↓aStar_e, ↓seqItK_lst, ↓seqItK_tup, ↓wFldC_e, ↓wMakeK_e, ↓wTryL_e, ↓wHds_nil, ↓wHds_cons, ↓revTK_tup, ↓wRevT_e, ↓rsRep_t, ↓rsRep_l, ↓wKp_e, ↓aConsF_e, ↓notSl_val, ↓notSl_fresh, ↓notSl_bor, ↓wParN_e, ↓asgN_nil, ↓asgN_cons, ↓rcMin1_lst, ↓wRaise_e, ↓wTry_e, ↓wExf_e, ↓wExI_e, ↓fldL1, ↓rcReprD_e, szLine, CPow, CMul, CDivN, sOf, ofK, hc]
    have loop : ∀ d : Nat, d ≤ 8 → wForL (gwName 5) (b__law_words_1 K sOf) id (rgP 0 d) ⟨[.val (.cel n), .val (.int m), .own (.lst ys), .val (.int i), .val (.str ""), s5], c⟩ { E with nx := fun S1 => t__law_words_2 K sOf S1 { E with nx := k, bk := fun S1 => t__law_words_5 K sOf S1 E, ct := k } } := by
      intro d dl
      refine for_inv (fun j S => ∃ (z : Str) (s5 : BV.Slot), S = ⟨[.val (.cel n), .val (.int m), .own (.lst ys), .val (.int i), .val (.str z), s5], c⟩ ∧ s5.isL = false ∧ lowS z ∧ z.length ≤ j) ⟨_, _, rfl, l5, by unfold lowS; decide, by decide⟩ ?_ ?_
      · rintro j x S k hx' ⟨z, s5, rfl, l5, hz, hzl⟩ hk
        obtain ⟨rfl, hj⟩ := rgP_at hx'
        unfold b__law_words_1
        simp [↓wVar_e, ↓wC_e, ↓wOp2_e, ↓wTest_e, ↓wAnd_e, ↓wOr_e, ↓wNot_e, ↓wAndV_e, ↓wOrV_e, ↓wNotV_e, ↓wIfE_e, ↓aNil_e, ↓aCons_e, ↓wLst_e, ↓wTup_e, ↓wCall_e, ↓wSet_e, ↓wSeq_e, ↓wSkip_e, ↓wIf_e, ↓wDrop_e, ↓wRet_e, ↓wRetN_e, ↓wBrk_e, ↓wCnt_e, ↓wNev_e, ↓gwName_e, ↓gwNil_e, ↓gwCons_e, ↓gwTup_e, ↓gwTupN_e, ↓wSrc_e, ↓wSrcZ_e, ↓wRng1_e, ↓wRng2_e, ↓wFor_e, ↓wLc_e, ↓wYes_e, ↓rsEq_e, ↓rsNe_e, ↓rsIn_e, ↓rsNotIn_e, ↓rsInt_e, ↓rsInt0_e, ↓rsAdd_e, ↓rsIsN_e, ↓rsNotN_e, ↓rsIx_e, ↓oNo_e, ↓oOf_e, ↓wSl_e, ↓wRev_e, ↓wNeg_e, ↓wCh_e, ↓wBlt_e, ↓rc1_e, ↓rc2_e, ↓wEn_e, ↓wChs_e, ↓wJoin_e, ↓wMut_e, ↓mfAppend_e, ↓mfPop_e, ↓mfReverse_e, ↓mfInsert_e, ↓mfExtend_e, ↓wSetIx_e, ↓wFmt_e, ↓wFmtR_e, ↓wFs_e, ↓wIsi_e, ↓wFld_e, ↓wSetF_e, ↓wSp1_e, ↓wEqO_e, ↓wInO_e, ↓wMeth_e, ↓wIxC_e, ↓rsIxS_e, ↓wSlS_e, ↓wLstC_e, ↓wTupC_e, ↓rsSub_e, ↓rsMulI_e, ↓rsFdiv_e, ↓rsMod_e, ↓rsPow_e, ↓rsLt_e, ↓rsLe_e, ↓rsGt_e, ↓rsGe_e, ↓rdK_val, ↓rdK_fresh, ↓rdK_bor, ↓rdK_slot, ↓kpK_val, ↓kpK_fresh, ↓kpK_slot, ↓retK_val, ↓retK_fresh, ↓retK_slot, ↓asgK_val, ↓asgK_bor, ↓asgK_fresh, ↓asgK_slot, ↓wrK_slot, ↓wrK_cel, ↓lstK_lst, ↓asInt_int, ↓intK_ii, ↓isBl_bl, ↓isBlT_bl, ↓strK_str, ↓itemsK_lst, ↓itemsK_tup, ↓stl_val, ↓stl_fresh, ↓stl_bor, ↓stl_slot, ↓srcK_val, ↓srcK_fresh, ↓srcK_bor, ↓srcK_slot, ↓rdAll_nil, ↓rdAll_cons, ↓kpAll_nil, ↓kpAll_cons, ↓argK_nil, ↓argK_val, ↓argK_bor, ↓argK_slot, ↓rcInt_int, ↓rcInt_bl, ↓rcLen_lst, ↓rcLen_tup, ↓rcLen_scr, ↓rcLen_str, ↓rcAbs_int, ↓rcMax2_ii, ↓rcMin2_ii, ↓rcListS_str, ↓rcListS_lst, ↓rcListS_tup, ↓rcTuple_lst, ↓rcTuple_tup, ↓rcAll_lst, ↓rcSum_lst, ↓rcStr_int, ↓rcStr_str, ↓rcRepr_int, ↓slK_lst, ↓slK_tup, ↓slK_str, ↓slSK_scr, ↓revK_lst, ↓inK_lst, ↓inK_tup, ↓inK_ss, ↓objK_e, ↓obK_obj, ↓obK_cel, ↓objW_obj, ↓wJs_nil, ↓wJs_cons, ↓fmtK_str, ↓fmtK_int, ↓fmtRK_str, ↓fmtRK_int, ↓joinK_lst, ↓joinK_tup, ↓noLent_nil, ↓noLent_cons, ↓wipeS_e, ↓wipeL_nil, ↓wipeL_cons, ↓pI_int, ↓pS_str, ↓pB_bl, ↓nfK_obj, ↓nfK_cel, ↓nfK_non, ↓nfK_bl, ↓nfK_int, ↓nfK_str, ↓nfK_tup, ↓nfK_lst, ↓nfK_dct, ↓slfK_e, ↓isNonT_non, ↓ofK_e, ↓derefK_lst, ↓derefK_tup, ↓derefK_str, ↓derefK_cel, ↓rcReprA_e, ↓wFmtRD_e, ↓aStar_e, ↓seqItK_lst, ↓seqItK_tup, ↓wFldC_e, ↓wMakeK_e, ↓wTryL_e, ↓wHds_nil, ↓wHds_cons, ↓revTK_tup, ↓wRevT_e, ↓rsRep_t, ↓rsRep_l, ↓wKp_e, ↓aConsF_e, ↓notSl_val, ↓notSl_fresh, ↓notSl_bor, ↓wParN_e, ↓asgN_nil, ↓asgN_cons, ↓rcMin1_lst, ↓wRaise_e, ↓wTry_e, ↓wExf_e, ↓wExI_e, ↓fldL1, ↓rcReprD_e, szLine, CPow, CMul, CDivN, l5, sOf, ofK, hc]
        refine ⟨by decide, by rw [show (chars (Str.ofString "abcdefghijklmnopqrstuvwxyz")).length = 26 from rfl]; omega, fun x hx => ?_⟩
        obtain ⟨ch, rfl, hc1⟩ := chars_mem hx
        have e1 : (⟨#[ch]⟩ : Str).length = 1 := rfl
        exact ⟨by rw [e1]; omega, hk _ ⟨_, .val (.int j), rfl, rfl, low_app hz (low1 lowAZ hc1), by rw [app_len, e1]; omega⟩⟩
      · rintro S ⟨z, s5, rfl, l5, hz, hzl⟩
        rw [rgP_length] at hzl
        unfold t__law_words_2
        simp [↓wVar_e, ↓wC_e, ↓wOp2_e, ↓wTest_e, ↓wAnd_e, ↓wOr_e, ↓wNot_e, ↓wAndV_e, ↓wOrV_e, ↓wNotV_e, ↓wIfE_e, ↓aNil_e, ↓aCons_e, ↓wLst_e, ↓wTup_e, ↓wCall_e, ↓wSet_e, ↓wSeq_e, ↓wSkip_e, ↓wIf_e, ↓wDrop_e, ↓wRet_e, ↓wRetN_e, ↓wBrk_e, ↓wCnt_e, ↓wNev_e, ↓gwName_e, ↓gwNil_e, ↓gwCons_e, ↓gwTup_e, ↓gwTupN_e, ↓wSrc_e, ↓wSrcZ_e, ↓wRng1_e, ↓wRng2_e, ↓wFor_e, ↓wLc_e, ↓wYes_e, ↓rsEq_e, ↓rsNe_e, ↓rsIn_e, ↓rsNotIn_e, ↓rsInt_e, ↓rsInt0_e, ↓rsAdd_e, ↓rsIsN_e, ↓rsNotN_e, ↓rsIx_e, ↓oNo_e, ↓oOf_e, ↓wSl_e, ↓wRev_e, ↓wNeg_e, ↓wCh_e, ↓wBlt_e, ↓rc1_e, ↓rc2_e, ↓wEn_e, ↓wChs_e, ↓wJoin_e, ↓wMut_e, ↓mfAppend_e, ↓mfPop_e, ↓mfReverse_e, ↓mfInsert_e, ↓mfExtend_e, ↓wSetIx_e, ↓wFmt_e, ↓wFmtR_e, ↓wFs_e, ↓wIsi_e, ↓wFld_e, ↓wSetF_e, ↓wSp1_e, ↓wEqO_e, ↓wInO_e, ↓wMeth_e, ↓wIxC_e, ↓rsIxS_e, ↓wSlS_e, ↓wLstC_e, ↓wTupC_e, ↓rsSub_e, ↓rsMulI_e, ↓rsFdiv_e, ↓rsMod_e, ↓rsPow_e, ↓rsLt_e, ↓rsLe_e, ↓rsGt_e, ↓rsGe_e, ↓rdK_val, ↓rdK_fresh, ↓rdK_bor, ↓rdK_slot, ↓kpK_val, ↓kpK_fresh, ↓kpK_slot, ↓retK_val, ↓retK_fresh, ↓retK_slot, ↓asgK_val, ↓asgK_bor, ↓asgK_fresh, ↓asgK_slot, ↓wrK_slot, ↓wrK_cel, ↓lstK_lst, ↓asInt_int, ↓intK_ii, ↓isBl_bl, ↓isBlT_bl, ↓strK_str, ↓itemsK_lst, ↓itemsK_tup, ↓stl_val, ↓stl_fresh, ↓stl_bor, ↓stl_slot, ↓srcK_val, ↓srcK_fresh, ↓srcK_bor, ↓srcK_slot, ↓rdAll_nil, ↓rdAll_cons, ↓kpAll_nil, ↓kpAll_cons, ↓argK_nil, ↓argK_val, ↓argK_bor, ↓argK_slot, ↓rcInt_int, ↓rcInt_bl, ↓rcLen_lst, ↓rcLen_tup, ↓rcLen_scr, ↓rcLen_str, ↓rcAbs_int, ↓rcMax2_ii, ↓rcMin2_ii, ↓rcListS_str, ↓rcListS_lst, ↓rcListS_tup, ↓rcTuple_lst, ↓rcTuple_tup, ↓rcAll_lst, ↓rcSum_lst, ↓rcStr_int, ↓rcStr_str, ↓rcRepr_int, ↓slK_lst, ↓slK_tup, ↓slK_str, ↓slSK_scr, ↓revK_lst, ↓inK_lst, ↓inK_tup, ↓inK_ss, ↓objK_e, ↓obK_obj, ↓obK_cel, ↓objW_obj, ↓wJs_nil, ↓wJs_cons, ↓fmtK_str, ↓fmtK_int, ↓fmtRK_str, ↓fmtRK_int, ↓joinK_lst, ↓joinK_tup, ↓noLent_nil, ↓noLent_cons, ↓wipeS_e, ↓wipeL_nil, ↓wipeL_cons, ↓pI_int, ↓pS_str, ↓pB_bl, ↓nfK_obj, ↓nfK_cel, ↓nfK_non, ↓nfK_bl, ↓nfK_int, ↓nfK_str, ↓nfK_tup, ↓nfK_lst, ↓nfK_dct, ↓slfK_e, ↓isNonT_non, ↓ofK_e, ↓derefK_lst, ↓derefK_tup, ↓derefK_str, ↓derefK_cel, ↓rcReprA_e, ↓wFmtRD_e, ↓aStar_e, ↓seqItK_lst, ↓seqItK_tup, ↓wFldC_e, ↓wMakeK_e, ↓wTryL_e, ↓wHds_nil, ↓wHds_cons, ↓revTK_tup, ↓wRevT_e, ↓rsRep_t, ↓rsRep_l, ↓wKp_e, ↓aConsF_e, ↓notSl_val, ↓notSl_fresh, ↓notSl_bor, ↓wParN_e, ↓asgN_nil, ↓asgN_cons, ↓rcMin1_lst, ↓wRaise_e, ↓wTry_e, ↓wExf_e, ↓wExI_e, ↓fldL1, ↓rcReprD_e, szLine, CPow, CMul, CDivN]
        refine ⟨by omega, hk _ ⟨_, .val (.int i), .val (.str z), s5, rfl, rfl, rfl, l5, fun x hx => ?_, by rw [List.length_append]; simp [hyl]⟩⟩
        rcases List.mem_append.mp hx with h | h
        · exact hy x h
        · rw [List.mem_singleton.mp h]
          exact ent_word hz (by omega)
    exact ⟨loop 1 (by omega), loop 2 (by omega), loop 4 (by omega), loop 8 (by omega)⟩
  · rintro S ⟨ys, s3, s4, s5, rfl, l3, l4, l5, hy, hyl⟩
    rw [rgP_length] at hyl
    unfold t__law_words_5
    simp [↓wVar_e, ↓wC_e, ↓wOp2_e, ↓wTest_e, ↓wAnd_e, ↓wOr_e, ↓wNot_e, ↓wAndV_e, ↓wOrV_e, ↓wNotV_e, ↓wIfE_e, ↓aNil_e, ↓aCons_e, ↓wLst_e, ↓wTup_e, ↓wCall_e, ↓wSet_e, ↓wSeq_e, ↓wSkip_e, ↓wIf_e, ↓wDrop_e, ↓wRet_e, ↓wRetN_e, ↓wBrk_e, ↓wCnt_e, ↓wNev_e, ↓gwName_e, ↓gwNil_e, ↓gwCons_e, ↓gwTup_e, ↓gwTupN_e, ↓wSrc_e, ↓wSrcZ_e, ↓wRng1_e, ↓wRng2_e, ↓wFor_e, ↓wLc_e, ↓wYes_e, ↓rsEq_e, ↓rsNe_e, ↓rsIn_e, ↓rsNotIn_e, ↓rsInt_e, ↓rsInt0_e, ↓rsAdd_e, ↓rsIsN_e, ↓rsNotN_e, ↓rsIx_e, ↓oNo_e, ↓oOf_e, ↓wSl_e, ↓wRev_e, ↓wNeg_e, ↓wCh_e, ↓wBlt_e, ↓rc1_e, ↓rc2_e, ↓wEn_e, ↓wChs_e, ↓wJoin_e, ↓wMut_e, ↓mfAppend_e, ↓mfPop_e, ↓mfReverse_e, ↓mfInsert_e, ↓mfExtend_e, ↓wSetIx_e, ↓wFmt_e, ↓wFmtR_e, ↓wFs_e, ↓wIsi_e, ↓wFld_e, ↓wSetF_e, ↓wSp1_e, ↓wEqO_e, ↓wInO_e, ↓wMeth_e, ↓wIxC_e, ↓rsIxS_e, ↓wSlS_e, ↓wLstC_e, ↓wTupC_e, ↓rsSub_e, ↓rsMulI_e, ↓rsFdiv_e, ↓rsMod_e, ↓rsPow_e, ↓rsLt_e, ↓rsLe_e, ↓rsGt_e, ↓rsGe_e, ↓rdK_val, ↓rdK_fresh, ↓rdK_bor, ↓rdK_slot, ↓kpK_val, ↓kpK_fresh, ↓kpK_slot, ↓retK_val, ↓retK_fresh, ↓retK_slot, ↓asgK_val, ↓asgK_bor, ↓asgK_fresh, ↓asgK_slot, ↓wrK_slot, ↓wrK_cel, ↓lstK_lst, ↓asInt_int, ↓intK_ii, ↓isBl_bl, ↓isBlT_bl, ↓strK_str, ↓itemsK_lst, ↓itemsK_tup, ↓stl_val, ↓stl_fresh, ↓stl_bor, ↓stl_slot, ↓srcK_val, ↓srcK_fresh, ↓srcK_bor, ↓srcK_slot, ↓rdAll_nil, ↓rdAll_cons, ↓kpAll_nil, ↓kpAll_cons, ↓argK_nil, ↓argK_val, ↓argK_bor, ↓argK_slot, ↓rcInt_int, ↓rcInt_bl, ↓rcLen_lst, ↓rcLen_tup, ↓rcLen_scr, ↓rcLen_str, ↓rcAbs_int, ↓rcMax2_ii, ↓rcMin2_ii, ↓rcListS_str, ↓rcListS_lst, ↓rcListS_tup, ↓rcTuple_lst, ↓rcTuple_tup, ↓rcAll_lst, ↓rcSum_lst, ↓rcStr_int, ↓rcStr_str, ↓rcRepr_int, ↓slK_lst, ↓slK_tup, ↓slK_str, ↓slSK_scr, ↓revK_lst, ↓inK_lst, ↓inK_tup, ↓inK_ss, ↓objK_e, ↓obK_obj, ↓obK_cel, ↓objW_obj, ↓wJs_nil, ↓wJs_cons, ↓fmtK_str, ↓fmtK_int, ↓fmtRK_str, ↓fmtRK_int, ↓joinK_lst, ↓joinK_tup, ↓noLent_nil, ↓noLent_cons, ↓wipeS_e, ↓wipeL_nil, ↓wipeL_cons, ↓pI_int, ↓pS_str, ↓pB_bl, ↓nfK_obj, ↓nfK_cel, ↓nfK_non, ↓nfK_bl, ↓nfK_int, ↓nfK_str, ↓nfK_tup, ↓nfK_lst, ↓nfK_dct, ↓slfK_e, ↓isNonT_non, ↓ofK_e, ↓derefK_lst, ↓derefK_tup, ↓derefK_str, ↓derefK_cel, ↓rcReprA_e, ↓wFmtRD_e, ↓aStar_e, ↓seqItK_lst, ↓seqItK_tup, ↓wFldC_e, ↓wMakeK_e, ↓wTryL_e, ↓wHds_nil, ↓wHds_cons, ↓revTK_tup, ↓wRevT_e, ↓rsRep_t, ↓rsRep_l, ↓wKp_e, ↓aConsF_e, ↓notSl_val, ↓notSl_fresh, ↓notSl_bor, ↓wParN_e, ↓asgN_nil, ↓asgN_cons, ↓rcMin1_lst, ↓wRaise_e, ↓wTry_e, ↓wExf_e, ↓wExI_e, ↓fldL1, ↓rcReprD_e, szLine, CPow, CMul, CDivN, hrt]
    exact hq ys hy (by omega)
theorem odd_ent : ∀ x ∈ [PV.non, PV.bl true, PV.int 0, PV.int 7, PV.str (Str.ofString ""), PV.str (Str.ofString "A"), PV.str (Str.ofString "abcdefghi"), PV.str (Str.ofString "a b"), PV.str (Str.ofString "a1"), PV.tup [PV.str (Str.ofString "a")], PV.lst [PV.str (Str.ofString "a")], PV.lst [], PV.str (Str.ofString "a\n")], Ent x := by
  simp
  exact ⟨⟨by decide +kernel, fun n hn => by (obtain ⟨m, rfl⟩ : ∃ m, n = m + 5 := ⟨n - 5, by omega⟩; simp), by decide +kernel, by decide +kernel, by first | trivial | (show _ ≤ sizeLine; rw [szLine]; decide +kernel)⟩, ⟨by decide +kernel, fun n hn => by (obtain ⟨m, rfl⟩ : ∃ m, n = m + 5 := ⟨n - 5, by omega⟩; simp), by decide +kernel, by decide +kernel, by first | trivial | (show _ ≤ sizeLine; rw [szLine]; decide +kernel)⟩, ⟨by decide +kernel, fun n hn => by (obtain ⟨m, rfl⟩ : ∃ m, n = m + 5 := ⟨n - 5, by omega⟩; simp), by decide +kernel, by decide +kernel, by first | trivial | (show _ ≤ sizeLine; rw [szLine]; decide +kernel)⟩, ⟨by decide +kernel, fun n hn => by (obtain ⟨m, rfl⟩ : ∃ m, n = m + 5 := ⟨n - 5, by omega⟩; simp), by decide +kernel, by decide +kernel, by first | trivial | (show _ ≤ sizeLine; rw [szLine]; decide +kernel)⟩, ⟨by decide +kernel, fun n hn => by (obtain ⟨m, rfl⟩ : ∃ m, n = m + 5 := ⟨n - 5, by omega⟩; simp), by decide +kernel, by decide +kernel, by first | trivial | (show _ ≤ sizeLine; rw [szLine]; decide +kernel)⟩, ⟨by decide +kernel, fun n hn => by (obtain ⟨m, rfl⟩ : ∃ m, n = m + 5 := ⟨n - 5, by omega⟩; simp), by decide +kernel, by decide +kernel, by first | trivial | (show _ ≤ sizeLine; rw [szLine]; decide +kernel)⟩, ⟨by decide +kernel, fun n hn => by (obtain ⟨m, rfl⟩ : ∃ m, n = m + 5 := ⟨n - 5, by omega⟩; simp), by decide +kernel, by decide +kernel, by first | trivial | (show _ ≤ sizeLine; rw [szLine]; decide +kernel)⟩, ⟨by decide +kernel, fun n hn => by (obtain ⟨m, rfl⟩ : ∃ m, n = m + 5 := ⟨n - 5, by omega⟩; simp), by decide +kernel, by decide +kernel, by first | trivial | (show _ ≤ sizeLine; rw [szLine]; decide +kernel)⟩, ⟨by decide +kernel, fun n hn => by (obtain ⟨m, rfl⟩ : ∃ m, n = m + 5 := ⟨n - 5, by omega⟩; simp), by decide +kernel, by decide +kernel, by first | trivial | (show _ ≤ sizeLine; rw [szLine]; decide +kernel)⟩, ⟨by decide +kernel, fun n hn => by (obtain ⟨m, rfl⟩ : ∃ m, n = m + 5 := ⟨n - 5, by omega⟩; simp), by decide +kernel, by decide +kernel, by first | trivial | (show _ ≤ sizeLine; rw [szLine]; decide +kernel)⟩, ⟨by decide +kernel, fun n hn => by (obtain ⟨m, rfl⟩ : ∃ m, n = m + 5 := ⟨n - 5, by omega⟩; simp), by decide +kernel, by decide +kernel, by first | trivial | (show _ ≤ sizeLine; rw [szLine]; decide +kernel)⟩, ⟨by decide +kernel, fun n hn => by (obtain ⟨m, rfl⟩ : ∃ m, n = m + 5 := ⟨n - 5, by omega⟩; simp), by decide +kernel, by decide +kernel, by first | trivial | (show _ ≤ sizeLine; rw [szLine]; decide +kernel)⟩, ⟨by decide +kernel, fun n hn => by (obtain ⟨m, rfl⟩ : ∃ m, n = m + 5 := ⟨n - 5, by omega⟩; simp), by decide +kernel, by decide +kernel, by first | trivial | (show _ ≤ sizeLine; rw [szLine]; decide +kernel)⟩⟩
def sSpoilt : FW := fun args c rt _ => ∃ n xs cs, args = [.val (.cel n), .val (.lst xs), .val (.lst cs)] ∧ c[n]? = some .bag ∧ ((∀ x ∈ xs, Ent x) ∧ (∀ x ∈ cs, Ent x) ∧ 1 ≤ xs.length ∧ 1 ≤ cs.length ∧ xs.length ≤ 8 ∧ cs.length ≤ 3) ∧ ∀ ys : List PV, (∀ x ∈ ys, Ent x) → ys.length = xs.length → rt (.fresh (.lst ys)) c
theorem sSpoilt_v {n : Nat} {xs cs : List PV} {c : List PV} {rt : TV → List PV → Prop} {ex : Ex → List PV → Prop} : sSpoilt [.val (.cel n), .val (.lst xs), .val (.lst cs)] c rt ex = (c[n]? = some .bag ∧ ((∀ x ∈ xs, Ent x) ∧ (∀ x ∈ cs, Ent x) ∧ 1 ≤ xs.length ∧ 1 ≤ cs.length ∧ xs.length ≤ 8 ∧ cs.length ≤ 3) ∧ ∀ ys : List PV, (∀ x ∈ ys, Ent x) → ys.length = xs.length → rt (.fresh (.lst ys)) c) := propext ⟨fun ⟨_, _, _, h, q⟩ => by cases h; exact q, fun q => ⟨n, xs, cs, rfl, q⟩⟩
theorem spoilt_ok (K : PySem.W.Frag) : ∀ args c rt ex, sSpoilt args c rt ex → fwOf 6 3 (w__law_spoilt K sTake sOf sKept) args c rt ex := by
  rintro args c rt ex ⟨n, xs, cs, rfl, hc, ⟨hx, hcs, x1, c1, x8, c3⟩, hq⟩
  refine fwOf_i rfl fun E _ hrt _ => ?_
  unfold w__law_spoilt
  simp [↓wVar_e, ↓wC_e, ↓wOp2_e, ↓wTest_e, ↓wAnd_e, ↓wOr_e, ↓wNot_e, ↓wAndV_e, ↓wOrV_e, ↓wNotV_e, ↓wIfE_e, ↓aNil_e, ↓aCons_e, ↓wLst_e, ↓wTup_e, ↓wCall_e, ↓wSet_e, ↓wSeq_e, ↓wSkip_e, ↓wIf_e, ↓wDrop_e, ↓wRet_e, ↓wRetN_e, ↓wBrk_e, ↓wCnt_e, ↓wNev_e, ↓gwName_e, ↓gwNil_e, ↓gwCons_e, ↓gwTup_e, ↓gwTupN_e, ↓wSrc_e, ↓wSrcZ_e, ↓wRng1_e, ↓wRng2_e, ↓wFor_e, ↓wLc_e, ↓wYes_e, ↓rsEq_e, ↓rsNe_e, ↓rsIn_e, ↓rsNotIn_e, ↓rsInt_e, ↓rsInt0_e, ↓rsAdd_e, ↓rsIsN_e, ↓rsNotN_e, ↓rsIx_e, ↓oNo_e, ↓oOf_e, ↓wSl_e, ↓wRev_e, ↓wNeg_e, ↓wCh_e, ↓wBlt_e, ↓rc1_e, ↓rc2_e, ↓wEn_e, ↓wChs_e, ↓wJoin_e, ↓wMut_e, ↓mfAppend_e, ↓mfPop_e, ↓mfReverse_e, ↓mfInsert_e, ↓mfExtend_e, ↓wSetIx_e, ↓wFmt_e, ↓wFmtR_e, ↓wFs_e, ↓wIsi_e, ↓wFld_e, ↓wSetF_e, ↓wSp1_e, ↓wEqO_e, ↓wInO_e, ↓wMeth_e, ↓wIxC_e, ↓rsIxS_e, ↓wSlS_e, ↓wLstC_e, ↓wTupC_e, ↓rsSub_e, ↓rsMulI_e, ↓rsFdiv_e, ↓rsMod_e, ↓rsPow_e, ↓rsLt_e, ↓rsLe_e, ↓rsGt_e, ↓rsGe_e, ↓rdK_val, ↓rdK_fresh, ↓rdK_bor, ↓rdK_slot, ↓kpK_val, ↓kpK_fresh, ↓kpK_slot, ↓retK_val, ↓retK_fresh, ↓retK_slot, ↓asgK_val, ↓asgK_bor, ↓asgK_fresh, ↓asgK_slot, ↓wrK_slot, ↓wrK_cel, ↓lstK_lst, ↓asInt_int, ↓intK_ii, ↓isBl_bl, ↓isBlT_bl, ↓strK_str, ↓itemsK_lst, ↓itemsK_tup, ↓stl_val, ↓stl_fresh, ↓stl_bor, ↓stl_slot, ↓srcK_val, ↓srcK_fresh, ↓srcK_bor, ↓srcK_slot, ↓rdAll_nil, ↓rdAll_cons, ↓kpAll_nil, ↓kpAll_cons, ↓argK_nil, ↓argK_val, ↓argK_bor, ↓argK_slot, ↓rcInt_int, ↓rcInt_bl, ↓rcLen_lst, ↓rcLen_tup, ↓rcLen_scr, ↓rcLen_str, ↓rcAbs_int, ↓rcMax2_ii, ↓rcMin2_ii, ↓rcListS_str, ↓rcListS_lst, ↓rcListS_tup, ↓rcTuple_lst, ↓rcTuple_tup, ↓rcAll_lst, ↓rcSum_lst, ↓rcStr_int, ↓rcStr_str, ↓rcRepr_int, ↓slK_lst, ↓slK_tup, ↓slK_str, ↓slSK_scr, ↓revK_lst, ↓inK_lst, ↓inK_tup, ↓inK_ss, ↓objK_e, ↓obK_obj, ↓obK_cel, ↓objW_obj, ↓wJs_nil, ↓wJs_cons, ↓fmtK_str, ↓fmtK_int, ↓fmtRK_str, ↓fmtRK_int, ↓joinK_lst, ↓joinK_tup, ↓noLent_nil, ↓noLent_cons, ↓wipeS_e, ↓wipeL_nil, ↓wipeL_cons, ↓pI_int, ↓pS_str, ↓pB_bl, ↓nfK_obj, ↓nfK_cel, ↓nfK_non, ↓nfK_bl, ↓nfK_int, ↓nfK_str, ↓nfK_tup, ↓nfK_lst, ↓nfK_dct, ↓slfK_e, ↓isNonT_non, ↓ofK_e, ↓derefK_lst, ↓derefK_tup, ↓derefK_str, ↓derefK_cel, ↓rcReprA_e, ↓wFmtRD_e, ↓aStar_e, ↓seqItK_lst, ↓seqItK_tup, ↓wFldC_e, ↓wMakeK_e, ↓wTryL_e, ↓wHds_nil, ↓wHds_cons, ↓revTK_tup, ↓wRevT_e, ↓rsRep_t, ↓rsRep_l, ↓wKp_e, ↓aConsF_e, ↓notSl_val, ↓notSl_fresh, ↓notSl_bor, ↓wParN_e, ↓asgN_nil, ↓asgN_cons, ↓rcMin1_lst, ↓wRaise_e, ↓wTry_e, ↓wExf_e, ↓wExI_e, ↓fldL1, ↓rcReprD_e, szLine, CPow, CMul, CDivN, sTake, hc]
  refine ⟨by omega, fun d d0 d1 => ?_⟩
  obtain ⟨d, rfl⟩ : ∃ q : Nat, d = (q : Int) := ⟨d.toNat, by omega⟩
  unfold t__law_spoilt_3
  simp [↓wVar_e, ↓wC_e, ↓wOp2_e, ↓wTest_e, ↓wAnd_e, ↓wOr_e, ↓wNot_e, ↓wAndV_e, ↓wOrV_e, ↓wNotV_e, ↓wIfE_e, ↓aNil_e, ↓aCons_e, ↓wLst_e, ↓wTup_e, ↓wCall_e, ↓wSet_e, ↓wSeq_e, ↓wSkip_e, ↓wIf_e, ↓wDrop_e, ↓wRet_e, ↓wRetN_e, ↓wBrk_e, ↓wCnt_e, ↓wNev_e, ↓gwName_e, ↓gwNil_e, ↓gwCons_e, ↓gwTup_e, ↓gwTupN_e, ↓wSrc_e, ↓wSrcZ_e, ↓wRng1_e, ↓wRng2_e, ↓wFor_e, ↓wLc_e, ↓wYes_e, ↓rsEq_e, ↓rsNe_e, ↓rsIn_e, ↓rsNotIn_e, ↓rsInt_e, ↓rsInt0_e, ↓rsAdd_e, ↓rsIsN_e, ↓rsNotN_e, ↓rsIx_e, ↓oNo_e, ↓oOf_e, ↓wSl_e, ↓wRev_e, ↓wNeg_e, ↓wCh_e, ↓wBlt_e, ↓rc1_e, ↓rc2_e, ↓wEn_e, ↓wChs_e, ↓wJoin_e, ↓wMut_e, ↓mfAppend_e, ↓mfPop_e, ↓mfReverse_e, ↓mfInsert_e, ↓mfExtend_e, ↓wSetIx_e, ↓wFmt_e, ↓wFmtR_e, ↓wFs_e, ↓wIsi_e, ↓wFld_e, ↓wSetF_e, ↓wSp1_e, ↓wEqO_e, ↓wInO_e, ↓wMeth_e, ↓wIxC_e, ↓rsIxS_e, ↓wSlS_e, ↓wLstC_e, ↓wTupC_e, ↓rsSub_e, ↓rsMulI_e, ↓rsFdiv_e, ↓rsMod_e, ↓rsPow_e, ↓rsLt_e, ↓rsLe_e, ↓rsGt_e, ↓rsGe_e, ↓rdK_val, ↓rdK_fresh, ↓rdK_bor, ↓rdK_slot, ↓kpK_val, ↓kpK_fresh, ↓kpK_slot, ↓retK_val, ↓retK_fresh, ↓retK_slot, ↓asgK_val, ↓asgK_bor, ↓asgK_fresh, ↓asgK_slot, ↓wrK_slot, ↓wrK_cel, ↓lstK_lst, ↓asInt_int, ↓intK_ii, ↓isBl_bl, ↓isBlT_bl, ↓strK_str, ↓itemsK_lst, ↓itemsK_tup, ↓stl_val, ↓stl_fresh, ↓stl_bor, ↓stl_slot, ↓srcK_val, ↓srcK_fresh, ↓srcK_bor, ↓srcK_slot, ↓rdAll_nil, ↓rdAll_cons, ↓kpAll_nil, ↓kpAll_cons, ↓argK_nil, ↓argK_val, ↓argK_bor, ↓argK_slot, ↓rcInt_int, ↓rcInt_bl, ↓rcLen_lst, ↓rcLen_tup, ↓rcLen_scr, ↓rcLen_str, ↓rcAbs_int, ↓rcMax2_ii, ↓rcMin2_ii, ↓rcListS_str, ↓rcListS_lst, ↓rcListS_tup, ↓rcTuple_lst, ↓rcTuple_tup, ↓rcAll_lst, ↓rcSum_lst, ↓rcStr_int, ↓rcStr_str, ↓rcRepr_int, ↓slK_lst, ↓slK_tup, ↓slK_str, ↓slSK_scr, ↓revK_lst, ↓inK_lst, ↓inK_tup, ↓inK_ss, ↓objK_e, ↓obK_obj, ↓obK_cel, ↓objW_obj, ↓wJs_nil, ↓wJs_cons, ↓fmtK_str, ↓fmtK_int, ↓fmtRK_str, ↓fmtRK_int, ↓joinK_lst, ↓joinK_tup, ↓noLent_nil, ↓noLent_cons, ↓wipeS_e, ↓wipeL_nil, ↓wipeL_cons, ↓pI_int, ↓pS_str, ↓pB_bl, ↓nfK_obj, ↓nfK_cel, ↓nfK_non, ↓nfK_bl, ↓nfK_int, ↓nfK_str, ↓nfK_tup, ↓nfK_lst, ↓nfK_dct, ↓slfK_e, ↓isNonT_non, ↓ofK_e, ↓derefK_lst, ↓derefK_tup, ↓derefK_str, ↓derefK_cel, ↓rcReprA_e, ↓wFmtRD_e, ↓aStar_e, ↓seqItK_lst, ↓seqItK_tup, ↓wFldC_e, ↓wMakeK_e, ↓wTryL_e, ↓wHds_nil, ↓wHds_cons, ↓revTK_tup, ↓wRevT_e, ↓rsRep_t, ↓rsRep_l, ↓wKp_e, ↓aConsF_e, ↓notSl_val, ↓notSl_fresh, ↓notSl_bor, ↓wParN_e, ↓asgN_nil, ↓asgN_cons, ↓rcMin1_lst, ↓wRaise_e, ↓wTry_e, ↓wExf_e, ↓wExI_e, ↓fldL1, ↓rcReprD_e, szLine, CPow, CMul, CDivN]
  unfold t__law_spoilt_2
  simp [↓wVar_e, ↓wC_e, ↓wOp2_e, ↓wTest_e, ↓wAnd_e, ↓wOr_e, ↓wNot_e, ↓wAndV_e, ↓wOrV_e, ↓wNotV_e, ↓wIfE_e, ↓aNil_e, ↓aCons_e, ↓wLst_e, ↓wTup_e, ↓wCall_e, ↓wSet_e, ↓wSeq_e, ↓wSkip_e, ↓wIf_e, ↓wDrop_e, ↓wRet_e, ↓wRetN_e, ↓wBrk_e, ↓wCnt_e, ↓wNev_e, ↓gwName_e, ↓gwNil_e, ↓gwCons_e, ↓gwTup_e, ↓gwTupN_e, ↓wSrc_e, ↓wSrcZ_e, ↓wRng1_e, ↓wRng2_e, ↓wFor_e, ↓wLc_e, ↓wYes_e, ↓rsEq_e, ↓rsNe_e, ↓rsIn_e, ↓rsNotIn_e, ↓rsInt_e, ↓rsInt0_e, ↓rsAdd_e, ↓rsIsN_e, ↓rsNotN_e, ↓rsIx_e, ↓oNo_e, ↓oOf_e, ↓wSl_e, ↓wRev_e, ↓wNeg_e, ↓wCh_e, ↓wBlt_e, ↓rc1_e, ↓rc2_e, ↓wEn_e, ↓wChs_e, ↓wJoin_e, ↓wMut_e, ↓mfAppend_e, ↓mfPop_e, ↓mfReverse_e, ↓mfInsert_e, ↓mfExtend_e, ↓wSetIx_e, ↓wFmt_e, ↓wFmtR_e, ↓wFs_e, ↓wIsi_e, ↓wFld_e, ↓wSetF_e, ↓wSp1_e, ↓wEqO_e, ↓wInO_e, ↓wMeth_e, ↓wIxC_e, ↓rsIxS_e, ↓wSlS_e, ↓wLstC_e, ↓wTupC_e, ↓rsSub_e, ↓rsMulI_e, ↓rsFdiv_e, ↓rsMod_e, ↓rsPow_e, ↓rsLt_e, ↓rsLe_e, ↓rsGt_e, ↓rsGe_e, ↓rdK_val, ↓rdK_fresh, ↓rdK_bor, ↓rdK_slot, ↓kpK_val, ↓kpK_fresh, ↓kpK_slot, ↓retK_val, ↓retK_fresh, ↓retK_slot, ↓asgK_val, ↓asgK_bor, ↓asgK_fresh, ↓asgK_slot, ↓wrK_slot, ↓wrK_cel, ↓lstK_lst, ↓asInt_int, ↓intK_ii, ↓isBl_bl, ↓isBlT_bl, ↓strK_str, ↓itemsK_lst, ↓itemsK_tup, ↓stl_val, ↓stl_fresh, ↓stl_bor, ↓stl_slot, ↓srcK_val, ↓srcK_fresh, ↓srcK_bor, ↓srcK_slot, ↓rdAll_nil, ↓rdAll_cons, ↓kpAll_nil, ↓kpAll_cons, ↓argK_nil, ↓argK_val, ↓argK_bor, ↓argK_slot, ↓rcInt_int, ↓rcInt_bl, ↓rcLen_lst, ↓rcLen_tup, ↓rcLen_scr, ↓rcLen_str, ↓rcAbs_int, ↓rcMax2_ii, ↓rcMin2_ii, ↓rcListS_str, ↓rcListS_lst, ↓rcListS_tup, ↓rcTuple_lst, ↓rcTuple_tup, ↓rcAll_lst, ↓rcSum_lst, ↓rcStr_int, ↓rcStr_str, ↓rcRepr_int, ↓slK_lst, ↓slK_tup, ↓slK_str, ↓slSK_scr, ↓revK_lst, ↓inK_lst, ↓inK_tup, ↓inK_ss, ↓objK_e, ↓obK_obj, ↓obK_cel, ↓objW_obj, ↓wJs_nil, ↓wJs_cons, ↓fmtK_str, ↓fmtK_int, ↓fmtRK_str, ↓fmtRK_int, ↓joinK_lst, ↓joinK_tup, ↓noLent_nil, ↓noLent_cons, ↓wipeS_e, ↓wipeL_nil, ↓wipeL_cons, ↓pI_int, ↓pS_str, ↓pB_bl, ↓nfK_obj, ↓nfK_cel, ↓nfK_non, ↓nfK_bl, ↓nfK_int, ↓nfK_str, ↓nfK_tup, ↓nfK_lst, ↓nfK_dct, ↓slfK_e, ↓isNonT_non, ↓ofK_e, ↓derefK_lst, ↓derefK_tup, ↓derefK_str, ↓derefK_cel, ↓rcReprA_e, ↓wFmtRD_e, ↓aStar_e, ↓seqItK_lst, ↓seqItK_tup, ↓wFldC_e, ↓wMakeK_e, ↓wTryL_e, ↓wHds_nil, ↓wHds_cons, ↓revTK_tup, ↓wRevT_e, ↓rsRep_t, ↓rsRep_l, ↓wKp_e, ↓aConsF_e, ↓notSl_val, ↓notSl_fresh, ↓notSl_bor, ↓wParN_e, ↓asgN_nil, ↓asgN_cons, ↓rcMin1_lst, ↓wRaise_e, ↓wTry_e, ↓wExf_e, ↓wExI_e, ↓fldL1, ↓rcReprD_e, szLine, CPow, CMul, CDivN, ↓sKept_v, sOf, ofK, hc]
  have kl : kwL.length = 23 := rfl
  have put : ∀ (s4 s5 : BV.Slot) x, Ent x → E.rt (.fresh (.lst (xs.take d ++ [x] ++ xs.drop (d + 1)))) ⟨[.val (.cel n), .val (.lst xs), .val (.lst cs), .val (.int d), s4, s5], c⟩ := fun s4 s5 x h => by
    rw [hrt]
    refine hq _ (fun y hy => ?_) ?_
    · rcases List.mem_append.mp hy with hy | hy
      · rcases List.mem_append.mp hy with hy | hy
        · exact hx y (List.mem_of_mem_take hy)
        · rw [List.mem_singleton.mp hy]; exact h
      · exact hx y (List.mem_of_mem_drop hy)
    · simp only [List.length_append, List.length_take, List.length_drop, List.length_singleton]
      omega
  have go : ∀ (s4 : BV.Slot) (us : List PV), (∀ x ∈ us, Ent x) → 1 ≤ us.length → us.length ≤ 23 → t__law_spoilt_1 K sTake sOf sKept ⟨[.val (.cel n), .val (.lst xs), .val (.lst cs), .val (.int d), s4, .val (.lst us)], c⟩ E := fun s4 us hu u1 u2 => by
    have cut1 : cutP xs none (some (d : Int)) = xs.take d := by rw [cutP_to _ (by omega), Int.toNat_natCast]
    have cut2 : cutP xs (some ((d : Int) + 1)) none = xs.drop (d + 1) := by
      rw [cutP_from _ (by omega)]
      rfl
    unfold t__law_spoilt_1
    simp [↓wVar_e, ↓wC_e, ↓wOp2_e, ↓wTest_e, ↓wAnd_e, ↓wOr_e, ↓wNot_e, ↓wAndV_e, ↓wOrV_e, ↓wNotV_e, ↓wIfE_e, ↓aNil_e, ↓aCons_e, ↓wLst_e, ↓wTup_e, ↓wCall_e, ↓wSet_e, ↓wSeq_e, ↓wSkip_e, ↓wIf_e, ↓wDrop_e, ↓wRet_e, ↓wRetN_e, ↓wBrk_e, ↓wCnt_e, ↓wNev_e, ↓gwName_e, ↓gwNil_e, ↓gwCons_e, ↓gwTup_e, ↓gwTupN_e, ↓wSrc_e, ↓wSrcZ_e, ↓wRng1_e, ↓wRng2_e, ↓wFor_e, ↓wLc_e, ↓wYes_e, ↓rsEq_e, ↓rsNe_e, ↓rsIn_e, ↓rsNotIn_e, ↓rsInt_e, ↓rsInt0_e, ↓rsAdd_e, ↓rsIsN_e, ↓rsNotN_e, ↓rsIx_e, ↓oNo_e, ↓oOf_e, ↓wSl_e, ↓wRev_e, ↓wNeg_e, ↓wCh_e, ↓wBlt_e, ↓rc1_e, ↓rc2_e, ↓wEn_e, ↓wChs_e, ↓wJoin_e, ↓wMut_e, ↓mfAppend_e, ↓mfPop_e, ↓mfReverse_e, ↓mfInsert_e, ↓mfExtend_e, ↓wSetIx_e, ↓wFmt_e, ↓wFmtR_e, ↓wFs_e, ↓wIsi_e, ↓wFld_e, ↓wSetF_e, ↓wSp1_e, ↓wEqO_e, ↓wInO_e, ↓wMeth_e, ↓wIxC_e, ↓rsIxS_e, ↓wSlS_e, ↓wLstC_e, ↓wTupC_e, ↓rsSub_e, ↓rsMulI_e, ↓rsFdiv_e, ↓rsMod_e, ↓rsPow_e, ↓rsLt_e, ↓rsLe_e, ↓rsGt_e, ↓rsGe_e, ↓rdK_val, ↓rdK_fresh, ↓rdK_bor, ↓rdK_slot, ↓kpK_val, ↓kpK_fresh, ↓kpK_slot, ↓retK_val, ↓retK_fresh, ↓retK_slot, ↓asgK_val, ↓asgK_bor, ↓asgK_fresh, ↓asgK_slot, ↓wrK_slot, ↓wrK_cel, ↓lstK_lst, ↓asInt_int, ↓intK_ii, ↓isBl_bl, ↓isBlT_bl, ↓strK_str, ↓itemsK_lst, ↓itemsK_tup, ↓stl_val, ↓stl_fresh, ↓stl_bor, ↓stl_slot, ↓srcK_val, ↓srcK_fresh, ↓srcK_bor, ↓srcK_slot, ↓rdAll_nil, ↓rdAll_cons, ↓kpAll_nil, ↓kpAll_cons, ↓argK_nil, ↓argK_val, ↓argK_bor, ↓argK_slot, ↓rcInt_int, ↓rcInt_bl, ↓rcLen_lst, ↓rcLen_tup, ↓rcLen_scr, ↓rcLen_str, ↓rcAbs_int, ↓rcMax2_ii, ↓rcMin2_ii, ↓rcListS_str, ↓rcListS_lst, ↓rcListS_tup, ↓rcTuple_lst, ↓rcTuple_tup, ↓rcAll_lst, ↓rcSum_lst, ↓rcStr_int, ↓rcStr_str, ↓rcRepr_int, ↓slK_lst, ↓slK_tup, ↓slK_str, ↓slSK_scr, ↓revK_lst, ↓inK_lst, ↓inK_tup, ↓inK_ss, ↓objK_e, ↓obK_obj, ↓obK_cel, ↓objW_obj, ↓wJs_nil, ↓wJs_cons, ↓fmtK_str, ↓fmtK_int, ↓fmtRK_str, ↓fmtRK_int, ↓joinK_lst, ↓joinK_tup, ↓noLent_nil, ↓noLent_cons, ↓wipeS_e, ↓wipeL_nil, ↓wipeL_cons, ↓pI_int, ↓pS_str, ↓pB_bl, ↓nfK_obj, ↓nfK_cel, ↓nfK_non, ↓nfK_bl, ↓nfK_int, ↓nfK_str, ↓nfK_tup, ↓nfK_lst, ↓nfK_dct, ↓slfK_e, ↓isNonT_non, ↓ofK_e, ↓derefK_lst, ↓derefK_tup, ↓derefK_str, ↓derefK_cel, ↓rcReprA_e, ↓wFmtRD_e, ↓aStar_e, ↓seqItK_lst, ↓seqItK_tup, ↓wFldC_e, ↓wMakeK_e, ↓wTryL_e, ↓wHds_nil, ↓wHds_cons, ↓revTK_tup, ↓wRevT_e, ↓rsRep_t, ↓rsRep_l, ↓wKp_e, ↓aConsF_e, ↓notSl_val, ↓notSl_fresh, ↓notSl_bor, ↓wParN_e, ↓asgN_nil, ↓asgN_cons, ↓rcMin1_lst, ↓wRaise_e, ↓wTry_e, ↓wExf_e, ↓wExI_e, ↓fldL1, ↓rcReprD_e, szLine, CPow, CMul, CDivN, sOf, ofK, hc, cut1, cut2]
    refine ⟨⟨u1, by omega⟩, fun x h => ?_⟩
    have := put s4 (.val (.lst us)) x (hu x h)
    simp at this
    exact ⟨by omega, by omega, this⟩
  exact ⟨go _ _ hcs (by omega) (by omega), go _ _ hx (by omega) (by omega), go _ _ odd_ent (by decide) (by decide), go _ _ (fun z hz => by
    obtain ⟨y, hy, rfl⟩ := List.mem_map.mp hz
    exact ent_word (kw_low y hy).2 (kw_low y hy).1) (by decide) (by decide)⟩
end Lk26

namespace Lk26
open PySem L2 BV
/-- the first entry that is no free word -/
def goF : List PV → List PV → Option PV
  | _, [] => none
  | used, x :: r => if (!isW x || memP x used) = true then some x else goF (used ++ [x]) r
theorem goF_bad {used xs : List PV} {i : Nat} {x : PV} (h : xs[i]? = some x) (hb : (!isW x || memP x (used ++ xs.take i)) = true) : goF (used ++ xs.take i) (xs.drop i) = some x := by
  have hi : i < xs.length := (List.getElem?_eq_some_iff.mp h).1
  have ex : xs[i] = x := (List.getElem?_eq_some_iff.mp h).2
  rw [List.drop_eq_getElem_cons hi, ex, goF, if_pos hb]
theorem goF_next {used xs : List PV} {i : Nat} {x : PV} (h : xs[i]? = some x) (hb : (!isW x || memP x (used ++ xs.take i)) = false) : goF (used ++ xs.take i) (xs.drop i) = goF (used ++ xs.take (i + 1)) (xs.drop (i + 1)) := by
  have hi : i < xs.length := (List.getElem?_eq_some_iff.mp h).1
  have ex : xs[i] = x := (List.getElem?_eq_some_iff.mp h).2
  rw [List.drop_eq_getElem_cons hi, ex, goF, if_neg (by rw [hb]; exact Bool.false_ne_true), List.take_succ_eq_append_getElem hi, ex, List.append_assoc]
def dueV (cs us vs : List PV) : PV := match goF cs (us ++ vs) with
  | some x => .tup [.str "form", x]
  | none => if 2 < us.length then .tup [.str "many", .str "options"] else if 2 < vs.length then .tup [.str "many", .str "lists"] else .non
def sDue : FW := fun args c rt _ => ∃ cs us vs, args = [.val (.lst cs), .val (.lst us), .val (.lst vs)] ∧ ((∀ x ∈ cs, Ent x) ∧ (∀ x ∈ us, Ent x) ∧ (∀ x ∈ vs, Ent x) ∧ cs.length + us.length + vs.length ≤ 20) ∧ rt (.val (dueV cs us vs)) c
theorem sDue_v {cs us vs : List PV} {c : List PV} {rt : TV → List PV → Prop} {ex : Ex → List PV → Prop} : sDue [.val (.lst cs), .val (.lst us), .val (.lst vs)] c rt ex = (((∀ x ∈ cs, Ent x) ∧ (∀ x ∈ us, Ent x) ∧ (∀ x ∈ vs, Ent x) ∧ cs.length + us.length + vs.length ≤ 20) ∧ rt (.val (dueV cs us vs)) c) := propext ⟨fun ⟨_, _, _, h, q⟩ => by cases h; exact q, fun q => ⟨cs, us, vs, rfl, q⟩⟩
theorem mem_f {x : PV} {xs : List PV} (hy : Ent x) (hx : ∀ z ∈ xs, Ent z) : (datN 40 x = true ∧ ∀ z ∈ xs, datN 40 z = true) ∧ (∀ z ∈ xs, pvEq z x = true → memP x xs = true) ∧ ((∀ z ∈ xs, pvEq z x = false) → memP x xs = false) :=
  ⟨⟨hy.dat 40 (by omega), fun z h => (hx z h).dat 40 (by omega)⟩, fun z h e => List.any_eq_true.mpr ⟨z, h, e⟩, fun h => by unfold memP; rw [List.any_eq_false]; intro z hz; simp [h z hz]⟩
theorem due_ok (K : PySem.W.Frag) : ∀ args c rt ex, sDue args c rt ex → fwOf 5 3 (w__law_due K sIsW) args c rt ex := by
  rintro args c rt ex ⟨cs, us, vs, rfl, ⟨hc, hu, hv, hl⟩, hq⟩
  refine fwOf_i rfl fun E _ hrt _ => ?_
  have out : ∀ S, S.c = c → E.rt (.val (dueV cs us vs)) S := fun S e => by rw [hrt]; show rt _ S.c; rw [e]; exact hq
  have hx : ∀ x ∈ us ++ vs, Ent x := fun x h => (List.mem_append.mp h).elim (hu x) (hv x)
  unfold w__law_due
  simp [↓wVar_e, ↓wC_e, ↓wOp2_e, ↓wTest_e, ↓wAnd_e, ↓wOr_e, ↓wNot_e, ↓wAndV_e, ↓wOrV_e, ↓wNotV_e, ↓wIfE_e, ↓aNil_e, ↓aCons_e, ↓wLst_e, ↓wTup_e, ↓wCall_e, ↓wSet_e, ↓wSeq_e, ↓wSkip_e, ↓wIf_e, ↓wDrop_e, ↓wRet_e, ↓wRetN_e, ↓wBrk_e, ↓wCnt_e, ↓wNev_e, ↓gwName_e, ↓gwNil_e, ↓gwCons_e, ↓gwTup_e, ↓gwTupN_e, ↓wSrc_e, ↓wSrcZ_e, ↓wRng1_e, ↓wRng2_e, ↓wFor_e, ↓wLc_e, ↓wYes_e, ↓rsEq_e, ↓rsNe_e, ↓rsIn_e, ↓rsNotIn_e, ↓rsInt_e, ↓rsInt0_e, ↓rsAdd_e, ↓rsIsN_e, ↓rsNotN_e, ↓rsIx_e, ↓oNo_e, ↓oOf_e, ↓wSl_e, ↓wRev_e, ↓wNeg_e, ↓wCh_e, ↓wBlt_e, ↓rc1_e, ↓rc2_e, ↓wEn_e, ↓wChs_e, ↓wJoin_e, ↓wMut_e, ↓mfAppend_e, ↓mfPop_e, ↓mfReverse_e, ↓mfInsert_e, ↓mfExtend_e, ↓wSetIx_e, ↓wFmt_e, ↓wFmtR_e, ↓wFs_e, ↓wIsi_e, ↓wFld_e, ↓wSetF_e, ↓wSp1_e, ↓wEqO_e, ↓wInO_e, ↓wMeth_e, ↓wIxC_e, ↓rsIxS_e, ↓wSlS_e, ↓wLstC_e, ↓wTupC_e, ↓rsSub_e, ↓rsMulI_e, ↓rsFdiv_e, ↓rsMod_e, ↓rsPow_e, ↓rsLt_e, ↓rsLe_e, ↓rsGt_e, ↓rsGe_e, ↓rdK_val, ↓rdK_fresh, ↓rdK_bor, ↓rdK_slot, ↓kpK_val, ↓kpK_fresh, ↓kpK_slot, ↓retK_val, ↓retK_fresh, ↓retK_slot, ↓asgK_val, ↓asgK_bor, ↓asgK_fresh, ↓asgK_slot, ↓wrK_slot, ↓wrK_cel, ↓lstK_lst, ↓asInt_int, ↓intK_ii, ↓isBl_bl, ↓isBlT_bl, ↓strK_str, ↓itemsK_lst, ↓itemsK_tup, ↓stl_val, ↓stl_fresh, ↓stl_bor, ↓stl_slot, ↓srcK_val, ↓srcK_fresh, ↓srcK_bor, ↓srcK_slot, ↓rdAll_nil, ↓rdAll_cons, ↓kpAll_nil, ↓kpAll_cons, ↓argK_nil, ↓argK_val, ↓argK_bor, ↓argK_slot, ↓rcInt_int, ↓rcInt_bl, ↓rcLen_lst, ↓rcLen_tup, ↓rcLen_scr, ↓rcLen_str, ↓rcAbs_int, ↓rcMax2_ii, ↓rcMin2_ii, ↓rcListS_str, ↓rcListS_lst, ↓rcListS_tup, ↓rcTuple_lst, ↓rcTuple_tup, ↓rcAll_lst, ↓rcSum_lst, ↓rcStr_int, ↓rcStr_str, ↓rcRepr_int, ↓slK_lst, ↓slK_tup, ↓slK_str, ↓slSK_scr, ↓revK_lst, ↓inK_lst, ↓inK_tup, ↓inK_ss, ↓objK_e, ↓obK_obj, ↓obK_cel, ↓objW_obj, ↓wJs_nil, ↓wJs_cons, ↓fmtK_str, ↓fmtK_int, ↓fmtRK_str, ↓fmtRK_int, ↓joinK_lst, ↓joinK_tup, ↓noLent_nil, ↓noLent_cons, ↓wipeS_e, ↓wipeL_nil, ↓wipeL_cons, ↓pI_int, ↓pS_str, ↓pB_bl, ↓nfK_obj, ↓nfK_cel, ↓nfK_non, ↓nfK_bl, ↓nfK_int, ↓nfK_str, ↓nfK_tup, ↓nfK_lst, ↓nfK_dct, ↓slfK_e, ↓isNonT_non, ↓ofK_e, ↓derefK_lst, ↓derefK_tup, ↓derefK_str, ↓derefK_cel, ↓rcReprA_e, ↓wFmtRD_e, ↓aStar_e, ↓seqItK_lst, ↓seqItK_tup, ↓wFldC_e, ↓wMakeK_e, ↓wTryL_e, ↓wHds_nil, ↓wHds_cons, ↓revTK_tup, ↓wRevT_e, ↓rsRep_t, ↓rsRep_l, ↓wKp_e, ↓aConsF_e, ↓notSl_val, ↓notSl_fresh, ↓notSl_bor, ↓wParN_e, ↓asgN_nil, ↓asgN_cons, ↓rcMin1_lst, ↓wRaise_e, ↓wTry_e, ↓wExf_e, ↓wExI_e, ↓fldL1, ↓rcReprD_e, szLine, CPow, CMul, CDivN]
  unfold t__law_due_5
  simp [↓wVar_e, ↓wC_e, ↓wOp2_e, ↓wTest_e, ↓wAnd_e, ↓wOr_e, ↓wNot_e, ↓wAndV_e, ↓wOrV_e, ↓wNotV_e, ↓wIfE_e, ↓aNil_e, ↓aCons_e, ↓wLst_e, ↓wTup_e, ↓wCall_e, ↓wSet_e, ↓wSeq_e, ↓wSkip_e, ↓wIf_e, ↓wDrop_e, ↓wRet_e, ↓wRetN_e, ↓wBrk_e, ↓wCnt_e, ↓wNev_e, ↓gwName_e, ↓gwNil_e, ↓gwCons_e, ↓gwTup_e, ↓gwTupN_e, ↓wSrc_e, ↓wSrcZ_e, ↓wRng1_e, ↓wRng2_e, ↓wFor_e, ↓wLc_e, ↓wYes_e, ↓rsEq_e, ↓rsNe_e, ↓rsIn_e, ↓rsNotIn_e, ↓rsInt_e, ↓rsInt0_e, ↓rsAdd_e, ↓rsIsN_e, ↓rsNotN_e, ↓rsIx_e, ↓oNo_e, ↓oOf_e, ↓wSl_e, ↓wRev_e, ↓wNeg_e, ↓wCh_e, ↓wBlt_e, ↓rc1_e, ↓rc2_e, ↓wEn_e, ↓wChs_e, ↓wJoin_e, ↓wMut_e, ↓mfAppend_e, ↓mfPop_e, ↓mfReverse_e, ↓mfInsert_e, ↓mfExtend_e, ↓wSetIx_e, ↓wFmt_e, ↓wFmtR_e, ↓wFs_e, ↓wIsi_e, ↓wFld_e, ↓wSetF_e, ↓wSp1_e, ↓wEqO_e, ↓wInO_e, ↓wMeth_e, ↓wIxC_e, ↓rsIxS_e, ↓wSlS_e, ↓wLstC_e, ↓wTupC_e, ↓rsSub_e, ↓rsMulI_e, ↓rsFdiv_e, ↓rsMod_e, ↓rsPow_e, ↓rsLt_e, ↓rsLe_e, ↓rsGt_e, ↓rsGe_e, ↓rdK_val, ↓rdK_fresh, ↓rdK_bor, ↓rdK_slot, ↓kpK_val, ↓kpK_fresh, ↓kpK_slot, ↓retK_val, ↓retK_fresh, ↓retK_slot, ↓asgK_val, ↓asgK_bor, ↓asgK_fresh, ↓asgK_slot, ↓wrK_slot, ↓wrK_cel, ↓lstK_lst, ↓asInt_int, ↓intK_ii, ↓isBl_bl, ↓isBlT_bl, ↓strK_str, ↓itemsK_lst, ↓itemsK_tup, ↓stl_val, ↓stl_fresh, ↓stl_bor, ↓stl_slot, ↓srcK_val, ↓srcK_fresh, ↓srcK_bor, ↓srcK_slot, ↓rdAll_nil, ↓rdAll_cons, ↓kpAll_nil, ↓kpAll_cons, ↓argK_nil, ↓argK_val, ↓argK_bor, ↓argK_slot, ↓rcInt_int, ↓rcInt_bl, ↓rcLen_lst, ↓rcLen_tup, ↓rcLen_scr, ↓rcLen_str, ↓rcAbs_int, ↓rcMax2_ii, ↓rcMin2_ii, ↓rcListS_str, ↓rcListS_lst, ↓rcListS_tup, ↓rcTuple_lst, ↓rcTuple_tup, ↓rcAll_lst, ↓rcSum_lst, ↓rcStr_int, ↓rcStr_str, ↓rcRepr_int, ↓slK_lst, ↓slK_tup, ↓slK_str, ↓slSK_scr, ↓revK_lst, ↓inK_lst, ↓inK_tup, ↓inK_ss, ↓objK_e, ↓obK_obj, ↓obK_cel, ↓objW_obj, ↓wJs_nil, ↓wJs_cons, ↓fmtK_str, ↓fmtK_int, ↓fmtRK_str, ↓fmtRK_int, ↓joinK_lst, ↓joinK_tup, ↓noLent_nil, ↓noLent_cons, ↓wipeS_e, ↓wipeL_nil, ↓wipeL_cons, ↓pI_int, ↓pS_str, ↓pB_bl, ↓nfK_obj, ↓nfK_cel, ↓nfK_non, ↓nfK_bl, ↓nfK_int, ↓nfK_str, ↓nfK_tup, ↓nfK_lst, ↓nfK_dct, ↓slfK_e, ↓isNonT_non, ↓ofK_e, ↓derefK_lst, ↓derefK_tup, ↓derefK_str, ↓derefK_cel, ↓rcReprA_e, ↓wFmtRD_e, ↓aStar_e, ↓seqItK_lst, ↓seqItK_tup, ↓wFldC_e, ↓wMakeK_e, ↓wTryL_e, ↓wHds_nil, ↓wHds_cons, ↓revTK_tup, ↓wRevT_e, ↓rsRep_t, ↓rsRep_l, ↓wKp_e, ↓aConsF_e, ↓notSl_val, ↓notSl_fresh, ↓notSl_bor, ↓wParN_e, ↓asgN_nil, ↓asgN_cons, ↓rcMin1_lst, ↓wRaise_e, ↓wTry_e, ↓wExf_e, ↓wExI_e, ↓fldL1, ↓rcReprD_e, szLine, CPow, CMul, CDivN]
  refine ⟨by omega, for_inv (fun i S => ∃ s4 : BV.Slot, S = ⟨[.val (.lst cs), .val (.lst us), .val (.lst vs), .own (.lst (cs ++ (us ++ vs).take i)), s4], c⟩ ∧ s4.isL = false ∧ goF cs (us ++ vs) = goF (cs ++ (us ++ vs).take i) ((us ++ vs).drop i)) ⟨_, by simp; rfl, rfl, by simp⟩ ?_ ?_⟩
  · rintro i x S k hxi ⟨s4, rfl, l4, hg⟩ hk
    have hxm := hx x (List.mem_iff_getElem?.mpr ⟨i, hxi⟩)
    have hused : ∀ z ∈ cs ++ (us ++ vs).take i, Ent z := fun z h => (List.mem_append.mp h).elim (hc z) fun h => hx z (List.mem_of_mem_take h)
    have hlen : (cs ++ (us ++ vs).take i).length ≤ 20 := by simp only [List.length_append, List.length_take]; omega
    have hn1 : (!isW x || memP x (cs ++ (us ++ vs).take i)) = true → dueV cs us vs = .tup [.str "form", x] := fun h => by unfold dueV; rw [hg, goF_bad hxi h]
    have hn2 : (!isW x || memP x (cs ++ (us ++ vs).take i)) = false → k ⟨[.val (.lst cs), .val (.lst us), .val (.lst vs), .own (.lst ((cs ++ (us ++ vs).take i) ++ [x])), .val x], c⟩ := fun h => hk _ ⟨.val x, by
      have hi : i < (us ++ vs).length := (List.getElem?_eq_some_iff.mp hxi).1
      have exi : (us ++ vs)[i] = x := (List.getElem?_eq_some_iff.mp hxi).2
      rw [List.take_succ_eq_append_getElem hi, exi, List.append_assoc], rfl, by rw [hg, goF_next hxi h]⟩
    obtain ⟨f1, f2, f3⟩ := mem_f hxm hused
    generalize cs ++ (us ++ vs).take i = used at *
    unfold b__law_due_2
    simp [↓wVar_e, ↓wC_e, ↓wOp2_e, ↓wTest_e, ↓wAnd_e, ↓wOr_e, ↓wNot_e, ↓wAndV_e, ↓wOrV_e, ↓wNotV_e, ↓wIfE_e, ↓aNil_e, ↓aCons_e, ↓wLst_e, ↓wTup_e, ↓wCall_e, ↓wSet_e, ↓wSeq_e, ↓wSkip_e, ↓wIf_e, ↓wDrop_e, ↓wRet_e, ↓wRetN_e, ↓wBrk_e, ↓wCnt_e, ↓wNev_e, ↓gwName_e, ↓gwNil_e, ↓gwCons_e, ↓gwTup_e, ↓gwTupN_e, ↓wSrc_e, ↓wSrcZ_e, ↓wRng1_e, ↓wRng2_e, ↓wFor_e, ↓wLc_e, ↓wYes_e, ↓rsEq_e, ↓rsNe_e, ↓rsIn_e, ↓rsNotIn_e, ↓rsInt_e, ↓rsInt0_e, ↓rsAdd_e, ↓rsIsN_e, ↓rsNotN_e, ↓rsIx_e, ↓oNo_e, ↓oOf_e, ↓wSl_e, ↓wRev_e, ↓wNeg_e, ↓wCh_e, ↓wBlt_e, ↓rc1_e, ↓rc2_e, ↓wEn_e, ↓wChs_e, ↓wJoin_e, ↓wMut_e, ↓mfAppend_e, ↓mfPop_e, ↓mfReverse_e, ↓mfInsert_e, ↓mfExtend_e, ↓wSetIx_e, ↓wFmt_e, ↓wFmtR_e, ↓wFs_e, ↓wIsi_e, ↓wFld_e, ↓wSetF_e, ↓wSp1_e, ↓wEqO_e, ↓wInO_e, ↓wMeth_e, ↓wIxC_e, ↓rsIxS_e, ↓wSlS_e, ↓wLstC_e, ↓wTupC_e, ↓rsSub_e, ↓rsMulI_e, ↓rsFdiv_e, ↓rsMod_e, ↓rsPow_e, ↓rsLt_e, ↓rsLe_e, ↓rsGt_e, ↓rsGe_e, ↓rdK_val, ↓rdK_fresh, ↓rdK_bor, ↓rdK_slot, ↓kpK_val, ↓kpK_fresh, ↓kpK_slot, ↓retK_val, ↓retK_fresh, ↓retK_slot, ↓asgK_val, ↓asgK_bor, ↓asgK_fresh, ↓asgK_slot, ↓wrK_slot, ↓wrK_cel, ↓lstK_lst, ↓asInt_int, ↓intK_ii, ↓isBl_bl, ↓isBlT_bl, ↓strK_str, ↓itemsK_lst, ↓itemsK_tup, ↓stl_val, ↓stl_fresh, ↓stl_bor, ↓stl_slot, ↓srcK_val, ↓srcK_fresh, ↓srcK_bor, ↓srcK_slot, ↓rdAll_nil, ↓rdAll_cons, ↓kpAll_nil, ↓kpAll_cons, ↓argK_nil, ↓argK_val, ↓argK_bor, ↓argK_slot, ↓rcInt_int, ↓rcInt_bl, ↓rcLen_lst, ↓rcLen_tup, ↓rcLen_scr, ↓rcLen_str, ↓rcAbs_int, ↓rcMax2_ii, ↓rcMin2_ii, ↓rcListS_str, ↓rcListS_lst, ↓rcListS_tup, ↓rcTuple_lst, ↓rcTuple_tup, ↓rcAll_lst, ↓rcSum_lst, ↓rcStr_int, ↓rcStr_str, ↓rcRepr_int, ↓slK_lst, ↓slK_tup, ↓slK_str, ↓slSK_scr, ↓revK_lst, ↓inK_lst, ↓inK_tup, ↓inK_ss, ↓objK_e, ↓obK_obj, ↓obK_cel, ↓objW_obj, ↓wJs_nil, ↓wJs_cons, ↓fmtK_str, ↓fmtK_int, ↓fmtRK_str, ↓fmtRK_int, ↓joinK_lst, ↓joinK_tup, ↓noLent_nil, ↓noLent_cons, ↓wipeS_e, ↓wipeL_nil, ↓wipeL_cons, ↓pI_int, ↓pS_str, ↓pB_bl, ↓nfK_obj, ↓nfK_cel, ↓nfK_non, ↓nfK_bl, ↓nfK_int, ↓nfK_str, ↓nfK_tup, ↓nfK_lst, ↓nfK_dct, ↓slfK_e, ↓isNonT_non, ↓ofK_e, ↓derefK_lst, ↓derefK_tup, ↓derefK_str, ↓derefK_cel, ↓rcReprA_e, ↓wFmtRD_e, ↓aStar_e, ↓seqItK_lst, ↓seqItK_tup, ↓wFldC_e, ↓wMakeK_e, ↓wTryL_e, ↓wHds_nil, ↓wHds_cons, ↓revTK_tup, ↓wRevT_e, ↓rsRep_t, ↓rsRep_l, ↓wKp_e, ↓aConsF_e, ↓notSl_val, ↓notSl_fresh, ↓notSl_bor, ↓wParN_e, ↓asgN_nil, ↓asgN_cons, ↓rcMin1_lst, ↓wRaise_e, ↓wTry_e, ↓wExf_e, ↓wExI_e, ↓fldL1, ↓rcReprD_e, szLine, CPow, CMul, CDivN, l4, sIsW, hxm.w]
    have fin : dueV cs us vs = .tup [.str "form", x] → ∀ S, S.c = c → E.rt (.val (.tup [.str "form", x])) S := fun h S e => by rw [← h]; exact out S e
    have nx : isW x = true → (∀ z ∈ used, pvEq z x = false) → t__law_due_1 K sIsW ⟨[.val (.lst cs), .val (.lst us), .val (.lst vs), .own (.lst used), .val x], c⟩ { E with nx := k, bk := fun S1 => t__law_due_4 K sIsW S1 E, ct := k } := fun h g => by
      unfold t__law_due_1
      simp [↓wVar_e, ↓wC_e, ↓wOp2_e, ↓wTest_e, ↓wAnd_e, ↓wOr_e, ↓wNot_e, ↓wAndV_e, ↓wOrV_e, ↓wNotV_e, ↓wIfE_e, ↓aNil_e, ↓aCons_e, ↓wLst_e, ↓wTup_e, ↓wCall_e, ↓wSet_e, ↓wSeq_e, ↓wSkip_e, ↓wIf_e, ↓wDrop_e, ↓wRet_e, ↓wRetN_e, ↓wBrk_e, ↓wCnt_e, ↓wNev_e, ↓gwName_e, ↓gwNil_e, ↓gwCons_e, ↓gwTup_e, ↓gwTupN_e, ↓wSrc_e, ↓wSrcZ_e, ↓wRng1_e, ↓wRng2_e, ↓wFor_e, ↓wLc_e, ↓wYes_e, ↓rsEq_e, ↓rsNe_e, ↓rsIn_e, ↓rsNotIn_e, ↓rsInt_e, ↓rsInt0_e, ↓rsAdd_e, ↓rsIsN_e, ↓rsNotN_e, ↓rsIx_e, ↓oNo_e, ↓oOf_e, ↓wSl_e, ↓wRev_e, ↓wNeg_e, ↓wCh_e, ↓wBlt_e, ↓rc1_e, ↓rc2_e, ↓wEn_e, ↓wChs_e, ↓wJoin_e, ↓wMut_e, ↓mfAppend_e, ↓mfPop_e, ↓mfReverse_e, ↓mfInsert_e, ↓mfExtend_e, ↓wSetIx_e, ↓wFmt_e, ↓wFmtR_e, ↓wFs_e, ↓wIsi_e, ↓wFld_e, ↓wSetF_e, ↓wSp1_e, ↓wEqO_e, ↓wInO_e, ↓wMeth_e, ↓wIxC_e, ↓rsIxS_e, ↓wSlS_e, ↓wLstC_e, ↓wTupC_e, ↓rsSub_e, ↓rsMulI_e, ↓rsFdiv_e, ↓rsMod_e, ↓rsPow_e, ↓rsLt_e, ↓rsLe_e, ↓rsGt_e, ↓rsGe_e, ↓rdK_val, ↓rdK_fresh, ↓rdK_bor, ↓rdK_slot, ↓kpK_val, ↓kpK_fresh, ↓kpK_slot, ↓retK_val, ↓retK_fresh, ↓retK_slot, ↓asgK_val, ↓asgK_bor, ↓asgK_fresh, ↓asgK_slot, ↓wrK_slot, ↓wrK_cel, ↓lstK_lst, ↓asInt_int, ↓intK_ii, ↓isBl_bl, ↓isBlT_bl, ↓strK_str, ↓itemsK_lst, ↓itemsK_tup, ↓stl_val, ↓stl_fresh, ↓stl_bor, ↓stl_slot, ↓srcK_val, ↓srcK_fresh, ↓srcK_bor, ↓srcK_slot, ↓rdAll_nil, ↓rdAll_cons, ↓kpAll_nil, ↓kpAll_cons, ↓argK_nil, ↓argK_val, ↓argK_bor, ↓argK_slot, ↓rcInt_int, ↓rcInt_bl, ↓rcLen_lst, ↓rcLen_tup, ↓rcLen_scr, ↓rcLen_str, ↓rcAbs_int, ↓rcMax2_ii, ↓rcMin2_ii, ↓rcListS_str, ↓rcListS_lst, ↓rcListS_tup, ↓rcTuple_lst, ↓rcTuple_tup, ↓rcAll_lst, ↓rcSum_lst, ↓rcStr_int, ↓rcStr_str, ↓rcRepr_int, ↓slK_lst, ↓slK_tup, ↓slK_str, ↓slSK_scr, ↓revK_lst, ↓inK_lst, ↓inK_tup, ↓inK_ss, ↓objK_e, ↓obK_obj, ↓obK_cel, ↓objW_obj, ↓wJs_nil, ↓wJs_cons, ↓fmtK_str, ↓fmtK_int, ↓fmtRK_str, ↓fmtRK_int, ↓joinK_lst, ↓joinK_tup, ↓noLent_nil, ↓noLent_cons, ↓wipeS_e, ↓wipeL_nil, ↓wipeL_cons, ↓pI_int, ↓pS_str, ↓pB_bl, ↓nfK_obj, ↓nfK_cel, ↓nfK_non, ↓nfK_bl, ↓nfK_int, ↓nfK_str, ↓nfK_tup, ↓nfK_lst, ↓nfK_dct, ↓slfK_e, ↓isNonT_non, ↓ofK_e, ↓derefK_lst, ↓derefK_tup, ↓derefK_str, ↓derefK_cel, ↓rcReprA_e, ↓wFmtRD_e, ↓aStar_e, ↓seqItK_lst, ↓seqItK_tup, ↓wFldC_e, ↓wMakeK_e, ↓wTryL_e, ↓wHds_nil, ↓wHds_cons, ↓revTK_tup, ↓wRevT_e, ↓rsRep_t, ↓rsRep_l, ↓wKp_e, ↓aConsF_e, ↓notSl_val, ↓notSl_fresh, ↓notSl_bor, ↓wParN_e, ↓asgN_nil, ↓asgN_cons, ↓rcMin1_lst, ↓wRaise_e, ↓wTry_e, ↓wExf_e, ↓wExI_e, ↓fldL1, ↓rcReprD_e, szLine, CPow, CMul, CDivN]
      exact ⟨by omega, hn2 (by rw [h, f3 g]; rfl)⟩
    exact ⟨fun h => ⟨f1, fun z hz e => fin (hn1 (by rw [f2 z hz e, Bool.or_true])) _ rfl, nx h⟩, fun h => fin (hn1 (by rw [h]; rfl)) _ rfl⟩
  · rintro S ⟨s4, rfl, l4, hg⟩
    have hn : goF cs (us ++ vs) = none := by rw [hg]; simp [goF]
    unfold t__law_due_4
    simp [↓wVar_e, ↓wC_e, ↓wOp2_e, ↓wTest_e, ↓wAnd_e, ↓wOr_e, ↓wNot_e, ↓wAndV_e, ↓wOrV_e, ↓wNotV_e, ↓wIfE_e, ↓aNil_e, ↓aCons_e, ↓wLst_e, ↓wTup_e, ↓wCall_e, ↓wSet_e, ↓wSeq_e, ↓wSkip_e, ↓wIf_e, ↓wDrop_e, ↓wRet_e, ↓wRetN_e, ↓wBrk_e, ↓wCnt_e, ↓wNev_e, ↓gwName_e, ↓gwNil_e, ↓gwCons_e, ↓gwTup_e, ↓gwTupN_e, ↓wSrc_e, ↓wSrcZ_e, ↓wRng1_e, ↓wRng2_e, ↓wFor_e, ↓wLc_e, ↓wYes_e, ↓rsEq_e, ↓rsNe_e, ↓rsIn_e, ↓rsNotIn_e, ↓rsInt_e, ↓rsInt0_e, ↓rsAdd_e, ↓rsIsN_e, ↓rsNotN_e, ↓rsIx_e, ↓oNo_e, ↓oOf_e, ↓wSl_e, ↓wRev_e, ↓wNeg_e, ↓wCh_e, ↓wBlt_e, ↓rc1_e, ↓rc2_e, ↓wEn_e, ↓wChs_e, ↓wJoin_e, ↓wMut_e, ↓mfAppend_e, ↓mfPop_e, ↓mfReverse_e, ↓mfInsert_e, ↓mfExtend_e, ↓wSetIx_e, ↓wFmt_e, ↓wFmtR_e, ↓wFs_e, ↓wIsi_e, ↓wFld_e, ↓wSetF_e, ↓wSp1_e, ↓wEqO_e, ↓wInO_e, ↓wMeth_e, ↓wIxC_e, ↓rsIxS_e, ↓wSlS_e, ↓wLstC_e, ↓wTupC_e, ↓rsSub_e, ↓rsMulI_e, ↓rsFdiv_e, ↓rsMod_e, ↓rsPow_e, ↓rsLt_e, ↓rsLe_e, ↓rsGt_e, ↓rsGe_e, ↓rdK_val, ↓rdK_fresh, ↓rdK_bor, ↓rdK_slot, ↓kpK_val, ↓kpK_fresh, ↓kpK_slot, ↓retK_val, ↓retK_fresh, ↓retK_slot, ↓asgK_val, ↓asgK_bor, ↓asgK_fresh, ↓asgK_slot, ↓wrK_slot, ↓wrK_cel, ↓lstK_lst, ↓asInt_int, ↓intK_ii, ↓isBl_bl, ↓isBlT_bl, ↓strK_str, ↓itemsK_lst, ↓itemsK_tup, ↓stl_val, ↓stl_fresh, ↓stl_bor, ↓stl_slot, ↓srcK_val, ↓srcK_fresh, ↓srcK_bor, ↓srcK_slot, ↓rdAll_nil, ↓rdAll_cons, ↓kpAll_nil, ↓kpAll_cons, ↓argK_nil, ↓argK_val, ↓argK_bor, ↓argK_slot, ↓rcInt_int, ↓rcInt_bl, ↓rcLen_lst, ↓rcLen_tup, ↓rcLen_scr, ↓rcLen_str, ↓rcAbs_int, ↓rcMax2_ii, ↓rcMin2_ii, ↓rcListS_str, ↓rcListS_lst, ↓rcListS_tup, ↓rcTuple_lst, ↓rcTuple_tup, ↓rcAll_lst, ↓rcSum_lst, ↓rcStr_int, ↓rcStr_str, ↓rcRepr_int, ↓slK_lst, ↓slK_tup, ↓slK_str, ↓slSK_scr, ↓revK_lst, ↓inK_lst, ↓inK_tup, ↓inK_ss, ↓objK_e, ↓obK_obj, ↓obK_cel, ↓objW_obj, ↓wJs_nil, ↓wJs_cons, ↓fmtK_str, ↓fmtK_int, ↓fmtRK_str, ↓fmtRK_int, ↓joinK_lst, ↓joinK_tup, ↓noLent_nil, ↓noLent_cons, ↓wipeS_e, ↓wipeL_nil, ↓wipeL_cons, ↓pI_int, ↓pS_str, ↓pB_bl, ↓nfK_obj, ↓nfK_cel, ↓nfK_non, ↓nfK_bl, ↓nfK_int, ↓nfK_str, ↓nfK_tup, ↓nfK_lst, ↓nfK_dct, ↓slfK_e, ↓isNonT_non, ↓ofK_e, ↓derefK_lst, ↓derefK_tup, ↓derefK_str, ↓derefK_cel, ↓rcReprA_e, ↓wFmtRD_e, ↓aStar_e, ↓seqItK_lst, ↓seqItK_tup, ↓wFldC_e, ↓wMakeK_e, ↓wTryL_e, ↓wHds_nil, ↓wHds_cons, ↓revTK_tup, ↓wRevT_e, ↓rsRep_t, ↓rsRep_l, ↓wKp_e, ↓aConsF_e, ↓notSl_val, ↓notSl_fresh, ↓notSl_bor, ↓wParN_e, ↓asgN_nil, ↓asgN_cons, ↓rcMin1_lst, ↓wRaise_e, ↓wTry_e, ↓wExf_e, ↓wExI_e, ↓fldL1, ↓rcReprD_e, szLine, CPow, CMul, CDivN]
    generalize cs ++ List.take (us.length + vs.length) (us ++ vs) = used
    have e : dueV cs us vs = if 2 < us.length then .tup [.str "many", .str "options"] else if 2 < vs.length then .tup [.str "many", .str "lists"] else .non := by unfold dueV; rw [hn]
    refine ⟨fun h => ?_, fun h => ?_⟩
    · rw [if_pos (by omega)] at e
      have := out ⟨[Slot.val (PV.lst cs), Slot.val (PV.lst us), Slot.val (PV.lst vs), Slot.own (PV.lst used), s4], c⟩ rfl
      rw [e] at this; exact this
    · rw [if_neg (by omega)] at e
      have := out ⟨[Slot.val (PV.lst cs), Slot.val (PV.lst us), Slot.val (PV.lst vs), Slot.own (PV.lst used), s4], c⟩ rfl
      rw [e] at this
      unfold t__law_due_3
      simp [↓wVar_e, ↓wC_e, ↓wOp2_e, ↓wTest_e, ↓wAnd_e, ↓wOr_e, ↓wNot_e, ↓wAndV_e, ↓wOrV_e, ↓wNotV_e, ↓wIfE_e, ↓aNil_e, ↓aCons_e, ↓wLst_e, ↓wTup_e, ↓wCall_e, ↓wSet_e, ↓wSeq_e, ↓wSkip_e, ↓wIf_e, ↓wDrop_e, ↓wRet_e, ↓wRetN_e, ↓wBrk_e, ↓wCnt_e, ↓wNev_e, ↓gwName_e, ↓gwNil_e, ↓gwCons_e, ↓gwTup_e, ↓gwTupN_e, ↓wSrc_e, ↓wSrcZ_e, ↓wRng1_e, ↓wRng2_e, ↓wFor_e, ↓wLc_e, ↓wYes_e, ↓rsEq_e, ↓rsNe_e, ↓rsIn_e, ↓rsNotIn_e, ↓rsInt_e, ↓rsInt0_e, ↓rsAdd_e, ↓rsIsN_e, ↓rsNotN_e, ↓rsIx_e, ↓oNo_e, ↓oOf_e, ↓wSl_e, ↓wRev_e, ↓wNeg_e, ↓wCh_e, ↓wBlt_e, ↓rc1_e, ↓rc2_e, ↓wEn_e, ↓wChs_e, ↓wJoin_e, ↓wMut_e, ↓mfAppend_e, ↓mfPop_e, ↓mfReverse_e, ↓mfInsert_e, ↓mfExtend_e, ↓wSetIx_e, ↓wFmt_e, ↓wFmtR_e, ↓wFs_e, ↓wIsi_e, ↓wFld_e, ↓wSetF_e, ↓wSp1_e, ↓wEqO_e, ↓wInO_e, ↓wMeth_e, ↓wIxC_e, ↓rsIxS_e, ↓wSlS_e, ↓wLstC_e, ↓wTupC_e, ↓rsSub_e, ↓rsMulI_e, ↓rsFdiv_e, ↓rsMod_e, ↓rsPow_e, ↓rsLt_e, ↓rsLe_e, ↓rsGt_e, ↓rsGe_e, ↓rdK_val, ↓rdK_fresh, ↓rdK_bor, ↓rdK_slot, ↓kpK_val, ↓kpK_fresh, ↓kpK_slot, ↓retK_val, ↓retK_fresh, ↓retK_slot, ↓asgK_val, ↓asgK_bor, ↓asgK_fresh, ↓asgK_slot, ↓wrK_slot, ↓wrK_cel, ↓lstK_lst, ↓asInt_int, ↓intK_ii, ↓isBl_bl, ↓isBlT_bl, ↓strK_str, ↓itemsK_lst, ↓itemsK_tup, ↓stl_val, ↓stl_fresh, ↓stl_bor, ↓stl_slot, ↓srcK_val, ↓srcK_fresh, ↓srcK_bor, ↓srcK_slot, ↓rdAll_nil, ↓rdAll_cons, ↓kpAll_nil, ↓kpAll_cons, ↓argK_nil, ↓argK_val, ↓argK_bor, ↓argK_slot, ↓rcInt_int, ↓rcInt_bl, ↓rcLen_lst, ↓rcLen_tup, ↓rcLen_scr, ↓rcLen_str, ↓rcAbs_int, ↓rcMax2_ii, ↓rcMin2_ii, ↓rcListS_str, ↓rcListS_lst, ↓rcListS_tup, ↓rcTuple_lst, ↓rcTuple_tup, ↓rcAll_lst, ↓rcSum_lst, ↓rcStr_int, ↓rcStr_str, ↓rcRepr_int, ↓slK_lst, ↓slK_tup, ↓slK_str, ↓slSK_scr, ↓revK_lst, ↓inK_lst, ↓inK_tup, ↓inK_ss, ↓objK_e, ↓obK_obj, ↓obK_cel, ↓objW_obj, ↓wJs_nil, ↓wJs_cons, ↓fmtK_str, ↓fmtK_int, ↓fmtRK_str, ↓fmtRK_int, ↓joinK_lst, ↓joinK_tup, ↓noLent_nil, ↓noLent_cons, ↓wipeS_e, ↓wipeL_nil, ↓wipeL_cons, ↓pI_int, ↓pS_str, ↓pB_bl, ↓nfK_obj, ↓nfK_cel, ↓nfK_non, ↓nfK_bl, ↓nfK_int, ↓nfK_str, ↓nfK_tup, ↓nfK_lst, ↓nfK_dct, ↓slfK_e, ↓isNonT_non, ↓ofK_e, ↓derefK_lst, ↓derefK_tup, ↓derefK_str, ↓derefK_cel, ↓rcReprA_e, ↓wFmtRD_e, ↓aStar_e, ↓seqItK_lst, ↓seqItK_tup, ↓wFldC_e, ↓wMakeK_e, ↓wTryL_e, ↓wHds_nil, ↓wHds_cons, ↓revTK_tup, ↓wRevT_e, ↓rsRep_t, ↓rsRep_l, ↓wKp_e, ↓aConsF_e, ↓notSl_val, ↓notSl_fresh, ↓notSl_bor, ↓wParN_e, ↓asgN_nil, ↓asgN_cons, ↓rcMin1_lst, ↓wRaise_e, ↓wTry_e, ↓wExf_e, ↓wExI_e, ↓fldL1, ↓rcReprD_e, szLine, CPow, CMul, CDivN]
      refine ⟨fun h => ?_, fun h => ?_⟩
      · rw [if_pos (by omega)] at this; exact this
      · rw [if_neg (by omega)] at this; exact this

theorem pf1 : ¬ (Str.ofString "table" = Str.ofString "options") := by decide +kernel
theorem pf2 : ¬ (Str.ofString "table" = Str.ofString "lists") := by decide +kernel
theorem pf3 : ¬ (Str.ofString "options" = Str.ofString "lists") := by decide +kernel
abbrev FA (K : PySem.W.Frag) : Addr := He.ga K "Form"
abbrev formP (K : PySem.W.Frag) (zs : List Str) (us vs : List PV) : PV := .obj (FA K) [("table", tabP K zs), ("options", .tup us), ("lists", .tup vs)]
/-- what leaves the making of a form -/
def frmK (K : PySem.W.Frag) (zs : List Str) (us vs : List PV) (c : List PV) (rt : TV → List PV → Prop) (ex : Ex → List PV → Prop) : Prop :=
  match goF (zs.map PV.str) (us ++ vs) with
  | some x => ex ⟨He.ga K "BadForm", [("name", x)]⟩ c
  | none => if 2 < us.length then ex ⟨He.ga K "TooMany", [("what", .str "options")]⟩ c else if 2 < vs.length then ex ⟨He.ga K "TooMany", [("what", .str "lists")]⟩ c else rt (.fresh (formP K zs us vs)) c
def sForm (K : PySem.W.Frag) : FW := fun args c rt ex => ∃ zs o l xo xl us vs, args = [.val (tabP K zs), o, l] ∧ (rdA o = some xo ∧ itA xo = some us) ∧ (rdA l = some xl ∧ itA xl = some vs) ∧ ((∀ z ∈ zs, Ent (.str z)) ∧ (∀ x ∈ us, Ent x) ∧ (∀ x ∈ vs, Ent x) ∧ zs.length + us.length + vs.length ≤ 20) ∧ frmK K zs us vs c rt ex
theorem rdA_it {o : BV.Slot} {x : PV} {us : List PV} (h : rdA o = some x ∧ itA x = some us) : o = .val (.lst us) ∨ o = .val (.tup us) ∨ o = .bor (.lst us) ∨ o = .bor (.tup us) := by
  obtain ⟨h1, h2⟩ := h
  cases o with
  | val y =>
    have e : y = x := by injection h1
    subst e
    cases y with
    | lst xs => injection h2 with h2; subst h2; exact .inl rfl
    | tup xs => injection h2 with h2; subst h2; exact .inr (.inl rfl)
    | _ => cases h2
  | bor y =>
    have e : y = x := by injection h1
    subst e
    cases y with
    | lst xs => injection h2 with h2; subst h2; exact .inr (.inr (.inl rfl))
    | tup xs => injection h2 with h2; subst h2; exact .inr (.inr (.inr rfl))
    | _ => cases h2
  | _ => cases h1
theorem shK_ent {x : PV} (h : Ent x) {k : Str → Prop} (hk : k (shownP x)) : shK x k := ⟨h.ok, by have := h.dep; omega, by have := h.sh; rw [szLine]; omega, hk⟩
theorem msg_ok {x : PV} (h : Ent x) : (Str.empty ++ Str.ofString "not a free word: ").length ≤ 16777216 ∧ shK x fun z => (Str.empty ++ Str.ofString "not a free word: " ++ z).length ≤ 16777216 := by
  have e : (Str.empty ++ Str.ofString "not a free word: ").length = 17 := by decide +kernel
  refine ⟨by omega, shK_ent h ?_⟩
  rw [app_len, e]
  have := h.sh
  omega
theorem form_ok (K : PySem.W.Frag) : ∀ args c rt ex, sForm K args c rt ex → fwI (FA K) 6 3 (w_Form___init__ K sIsW) args c rt ex := by
  rintro args c rt ex ⟨zs, o, l, xo, xl, us, vs, rfl, ho, hl', ⟨hz, hu, hv, hl⟩, hq⟩
  refine fwI_i rfl fun E hnx _ hE => ?_
  have hx : ∀ x ∈ us ++ vs, Ent x := fun x h => (List.mem_append.mp h).elim (hu x) (hv x)
  have tail : goF (zs.map PV.str) (us ++ vs) = none → ∀ s4 s5 : BV.Slot, t_Form___init___7 K sIsW ⟨[.slf (.obj (FA K) []), .val (tabP K zs), o, l, s4, s5], c⟩ E := by
    intro hn s4 s5
    unfold frmK at hq
    rw [hn] at hq
    have exc : ∀ z : Str, ex ⟨He.ga K "TooMany", [("what", .str z)]⟩ c → ∀ S, S.c = c → E.ex ⟨He.ga K "TooMany", [("what", .str z)]⟩ S := fun z h S e => by rw [hE, e]; exact h
    have tl3 : ¬ 2 < us.length → ¬ 2 < vs.length → t_Form___init___5 K sIsW ⟨[.slf (.obj (FA K) []), .val (tabP K zs), o, l, s4, s5], c⟩ E := fun h1 h2 => by
      have hq : rt (.fresh (formP K zs us vs)) c := by rw [if_neg h1, if_neg h2] at hq; exact hq
      unfold t_Form___init___5
      simp [↓wVar_e, ↓wC_e, ↓wOp2_e, ↓wTest_e, ↓wAnd_e, ↓wOr_e, ↓wNot_e, ↓wAndV_e, ↓wOrV_e, ↓wNotV_e, ↓wIfE_e, ↓aNil_e, ↓aCons_e, ↓wLst_e, ↓wTup_e, ↓wCall_e, ↓wSet_e, ↓wSeq_e, ↓wSkip_e, ↓wIf_e, ↓wDrop_e, ↓wRet_e, ↓wRetN_e, ↓wBrk_e, ↓wCnt_e, ↓wNev_e, ↓gwName_e, ↓gwNil_e, ↓gwCons_e, ↓gwTup_e, ↓gwTupN_e, ↓wSrc_e, ↓wSrcZ_e, ↓wRng1_e, ↓wRng2_e, ↓wFor_e, ↓wLc_e, ↓wYes_e, ↓rsEq_e, ↓rsNe_e, ↓rsIn_e, ↓rsNotIn_e, ↓rsInt_e, ↓rsInt0_e, ↓rsAdd_e, ↓rsIsN_e, ↓rsNotN_e, ↓rsIx_e, ↓oNo_e, ↓oOf_e, ↓wSl_e, ↓wRev_e, ↓wNeg_e, ↓wCh_e, ↓wBlt_e, ↓rc1_e, ↓rc2_e, ↓wEn_e, ↓wChs_e, ↓wJoin_e, ↓wMut_e, ↓mfAppend_e, ↓mfPop_e, ↓mfReverse_e, ↓mfInsert_e, ↓mfExtend_e, ↓wSetIx_e, ↓wFmt_e, ↓wFmtR_e, ↓wFs_e, ↓wIsi_e, ↓wFld_e, ↓wSetF_e, ↓wSp1_e, ↓wEqO_e, ↓wInO_e, ↓wMeth_e, ↓wIxC_e, ↓rsIxS_e, ↓wSlS_e, ↓wLstC_e, ↓wTupC_e, ↓rsSub_e, ↓rsMulI_e, ↓rsFdiv_e, ↓rsMod_e, ↓rsPow_e, ↓rsLt_e, ↓rsLe_e, ↓rsGt_e, ↓rsGe_e, ↓rdK_val, ↓rdK_fresh, ↓rdK_bor, ↓rdK_slot, ↓kpK_val, ↓kpK_fresh, ↓kpK_slot, ↓retK_val, ↓retK_fresh, ↓retK_slot, ↓asgK_val, ↓asgK_bor, ↓asgK_fresh, ↓asgK_slot, ↓wrK_slot, ↓wrK_cel, ↓lstK_lst, ↓asInt_int, ↓intK_ii, ↓isBl_bl, ↓isBlT_bl, ↓strK_str, ↓itemsK_lst, ↓itemsK_tup, ↓stl_val, ↓stl_fresh, ↓stl_bor, ↓stl_slot, ↓srcK_val, ↓srcK_fresh, ↓srcK_bor, ↓srcK_slot, ↓rdAll_nil, ↓rdAll_cons, ↓kpAll_nil, ↓kpAll_cons, ↓argK_nil, ↓argK_val, ↓argK_bor, ↓argK_slot, ↓rcInt_int, ↓rcInt_bl, ↓rcLen_lst, ↓rcLen_tup, ↓rcLen_scr, ↓rcLen_str, ↓rcAbs_int, ↓rcMax2_ii, ↓rcMin2_ii, ↓rcListS_str, ↓rcListS_lst, ↓rcListS_tup, ↓rcTuple_lst, ↓rcTuple_tup, ↓rcAll_lst, ↓rcSum_lst, ↓rcStr_int, ↓rcStr_str, ↓rcRepr_int, ↓slK_lst, ↓slK_tup, ↓slK_str, ↓slSK_scr, ↓revK_lst, ↓inK_lst, ↓inK_tup, ↓inK_ss, ↓objK_e, ↓obK_obj, ↓obK_cel, ↓objW_obj, ↓wJs_nil, ↓wJs_cons, ↓fmtK_str, ↓fmtK_int, ↓fmtRK_str, ↓fmtRK_int, ↓joinK_lst, ↓joinK_tup, ↓noLent_nil, ↓noLent_cons, ↓wipeS_e, ↓wipeL_nil, ↓wipeL_cons, ↓pI_int, ↓pS_str, ↓pB_bl, ↓nfK_obj, ↓nfK_cel, ↓nfK_non, ↓nfK_bl, ↓nfK_int, ↓nfK_str, ↓nfK_tup, ↓nfK_lst, ↓nfK_dct, ↓slfK_e, ↓isNonT_non, ↓ofK_e, ↓derefK_lst, ↓derefK_tup, ↓derefK_str, ↓derefK_cel, ↓rcReprA_e, ↓wFmtRD_e, ↓aStar_e, ↓seqItK_lst, ↓seqItK_tup, ↓wFldC_e, ↓wMakeK_e, ↓wTryL_e, ↓wHds_nil, ↓wHds_cons, ↓revTK_tup, ↓wRevT_e, ↓rsRep_t, ↓rsRep_l, ↓wKp_e, ↓aConsF_e, ↓notSl_val, ↓notSl_fresh, ↓notSl_bor, ↓wParN_e, ↓asgN_nil, ↓asgN_cons, ↓rcMin1_lst, ↓wRaise_e, ↓wTry_e, ↓wExf_e, ↓wExI_e, ↓fldL1, ↓rcReprD_e, szLine, CPow, CMul, CDivN]
      unfold t_Form___init___4
      rcases rdA_it ho with rfl | rfl | rfl | rfl <;> simp [↓wVar_e, ↓wC_e, ↓wOp2_e, ↓wTest_e, ↓wAnd_e, ↓wOr_e, ↓wNot_e, ↓wAndV_e, ↓wOrV_e, ↓wNotV_e, ↓wIfE_e, ↓aNil_e, ↓aCons_e, ↓wLst_e, ↓wTup_e, ↓wCall_e, ↓wSet_e, ↓wSeq_e, ↓wSkip_e, ↓wIf_e, ↓wDrop_e, ↓wRet_e, ↓wRetN_e, ↓wBrk_e, ↓wCnt_e, ↓wNev_e, ↓gwName_e, ↓gwNil_e, ↓gwCons_e, ↓gwTup_e, ↓gwTupN_e, ↓wSrc_e, ↓wSrcZ_e, ↓wRng1_e, ↓wRng2_e, ↓wFor_e, ↓wLc_e, ↓wYes_e, ↓rsEq_e, ↓rsNe_e, ↓rsIn_e, ↓rsNotIn_e, ↓rsInt_e, ↓rsInt0_e, ↓rsAdd_e, ↓rsIsN_e, ↓rsNotN_e, ↓rsIx_e, ↓oNo_e, ↓oOf_e, ↓wSl_e, ↓wRev_e, ↓wNeg_e, ↓wCh_e, ↓wBlt_e, ↓rc1_e, ↓rc2_e, ↓wEn_e, ↓wChs_e, ↓wJoin_e, ↓wMut_e, ↓mfAppend_e, ↓mfPop_e, ↓mfReverse_e, ↓mfInsert_e, ↓mfExtend_e, ↓wSetIx_e, ↓wFmt_e, ↓wFmtR_e, ↓wFs_e, ↓wIsi_e, ↓wFld_e, ↓wSetF_e, ↓wSp1_e, ↓wEqO_e, ↓wInO_e, ↓wMeth_e, ↓wIxC_e, ↓rsIxS_e, ↓wSlS_e, ↓wLstC_e, ↓wTupC_e, ↓rsSub_e, ↓rsMulI_e, ↓rsFdiv_e, ↓rsMod_e, ↓rsPow_e, ↓rsLt_e, ↓rsLe_e, ↓rsGt_e, ↓rsGe_e, ↓rdK_val, ↓rdK_fresh, ↓rdK_bor, ↓rdK_slot, ↓kpK_val, ↓kpK_fresh, ↓kpK_slot, ↓retK_val, ↓retK_fresh, ↓retK_slot, ↓asgK_val, ↓asgK_bor, ↓asgK_fresh, ↓asgK_slot, ↓wrK_slot, ↓wrK_cel, ↓lstK_lst, ↓asInt_int, ↓intK_ii, ↓isBl_bl, ↓isBlT_bl, ↓strK_str, ↓itemsK_lst, ↓itemsK_tup, ↓stl_val, ↓stl_fresh, ↓stl_bor, ↓stl_slot, ↓srcK_val, ↓srcK_fresh, ↓srcK_bor, ↓srcK_slot, ↓rdAll_nil, ↓rdAll_cons, ↓kpAll_nil, ↓kpAll_cons, ↓argK_nil, ↓argK_val, ↓argK_bor, ↓argK_slot, ↓rcInt_int, ↓rcInt_bl, ↓rcLen_lst, ↓rcLen_tup, ↓rcLen_scr, ↓rcLen_str, ↓rcAbs_int, ↓rcMax2_ii, ↓rcMin2_ii, ↓rcListS_str, ↓rcListS_lst, ↓rcListS_tup, ↓rcTuple_lst, ↓rcTuple_tup, ↓rcAll_lst, ↓rcSum_lst, ↓rcStr_int, ↓rcStr_str, ↓rcRepr_int, ↓slK_lst, ↓slK_tup, ↓slK_str, ↓slSK_scr, ↓revK_lst, ↓inK_lst, ↓inK_tup, ↓inK_ss, ↓objK_e, ↓obK_obj, ↓obK_cel, ↓objW_obj, ↓wJs_nil, ↓wJs_cons, ↓fmtK_str, ↓fmtK_int, ↓fmtRK_str, ↓fmtRK_int, ↓joinK_lst, ↓joinK_tup, ↓noLent_nil, ↓noLent_cons, ↓wipeS_e, ↓wipeL_nil, ↓wipeL_cons, ↓pI_int, ↓pS_str, ↓pB_bl, ↓nfK_obj, ↓nfK_cel, ↓nfK_non, ↓nfK_bl, ↓nfK_int, ↓nfK_str, ↓nfK_tup, ↓nfK_lst, ↓nfK_dct, ↓slfK_e, ↓isNonT_non, ↓ofK_e, ↓derefK_lst, ↓derefK_tup, ↓derefK_str, ↓derefK_cel, ↓rcReprA_e, ↓wFmtRD_e, ↓aStar_e, ↓seqItK_lst, ↓seqItK_tup, ↓wFldC_e, ↓wMakeK_e, ↓wTryL_e, ↓wHds_nil, ↓wHds_cons, ↓revTK_tup, ↓wRevT_e, ↓rsRep_t, ↓rsRep_l, ↓wKp_e, ↓aConsF_e, ↓notSl_val, ↓notSl_fresh, ↓notSl_bor, ↓wParN_e, ↓asgN_nil, ↓asgN_cons, ↓rcMin1_lst, ↓wRaise_e, ↓wTry_e, ↓wExf_e, ↓wExI_e, ↓fldL1, ↓rcReprD_e, szLine, CPow, CMul, CDivN, putP, pf1] <;> unfold t_Form___init___3 <;> rcases rdA_it hl' with rfl | rfl | rfl | rfl <;> simp [↓wVar_e, ↓wC_e, ↓wOp2_e, ↓wTest_e, ↓wAnd_e, ↓wOr_e, ↓wNot_e, ↓wAndV_e, ↓wOrV_e, ↓wNotV_e, ↓wIfE_e, ↓aNil_e, ↓aCons_e, ↓wLst_e, ↓wTup_e, ↓wCall_e, ↓wSet_e, ↓wSeq_e, ↓wSkip_e, ↓wIf_e, ↓wDrop_e, ↓wRet_e, ↓wRetN_e, ↓wBrk_e, ↓wCnt_e, ↓wNev_e, ↓gwName_e, ↓gwNil_e, ↓gwCons_e, ↓gwTup_e, ↓gwTupN_e, ↓wSrc_e, ↓wSrcZ_e, ↓wRng1_e, ↓wRng2_e, ↓wFor_e, ↓wLc_e, ↓wYes_e, ↓rsEq_e, ↓rsNe_e, ↓rsIn_e, ↓rsNotIn_e, ↓rsInt_e, ↓rsInt0_e, ↓rsAdd_e, ↓rsIsN_e, ↓rsNotN_e, ↓rsIx_e, ↓oNo_e, ↓oOf_e, ↓wSl_e, ↓wRev_e, ↓wNeg_e, ↓wCh_e, ↓wBlt_e, ↓rc1_e, ↓rc2_e, ↓wEn_e, ↓wChs_e, ↓wJoin_e, ↓wMut_e, ↓mfAppend_e, ↓mfPop_e, ↓mfReverse_e, ↓mfInsert_e, ↓mfExtend_e, ↓wSetIx_e, ↓wFmt_e, ↓wFmtR_e, ↓wFs_e, ↓wIsi_e, ↓wFld_e, ↓wSetF_e, ↓wSp1_e, ↓wEqO_e, ↓wInO_e, ↓wMeth_e, ↓wIxC_e, ↓rsIxS_e, ↓wSlS_e, ↓wLstC_e, ↓wTupC_e, ↓rsSub_e, ↓rsMulI_e, ↓rsFdiv_e, ↓rsMod_e, ↓rsPow_e, ↓rsLt_e, ↓rsLe_e, ↓rsGt_e, ↓rsGe_e, ↓rdK_val, ↓rdK_fresh, ↓rdK_bor, ↓rdK_slot, ↓kpK_val, ↓kpK_fresh, ↓kpK_slot, ↓retK_val, ↓retK_fresh, ↓retK_slot, ↓asgK_val, ↓asgK_bor, ↓asgK_fresh, ↓asgK_slot, ↓wrK_slot, ↓wrK_cel, ↓lstK_lst, ↓asInt_int, ↓intK_ii, ↓isBl_bl, ↓isBlT_bl, ↓strK_str, ↓itemsK_lst, ↓itemsK_tup, ↓stl_val, ↓stl_fresh, ↓stl_bor, ↓stl_slot, ↓srcK_val, ↓srcK_fresh, ↓srcK_bor, ↓srcK_slot, ↓rdAll_nil, ↓rdAll_cons, ↓kpAll_nil, ↓kpAll_cons, ↓argK_nil, ↓argK_val, ↓argK_bor, ↓argK_slot, ↓rcInt_int, ↓rcInt_bl, ↓rcLen_lst, ↓rcLen_tup, ↓rcLen_scr, ↓rcLen_str, ↓rcAbs_int, ↓rcMax2_ii, ↓rcMin2_ii, ↓rcListS_str, ↓rcListS_lst, ↓rcListS_tup, ↓rcTuple_lst, ↓rcTuple_tup, ↓rcAll_lst, ↓rcSum_lst, ↓rcStr_int, ↓rcStr_str, ↓rcRepr_int, ↓slK_lst, ↓slK_tup, ↓slK_str, ↓slSK_scr, ↓revK_lst, ↓inK_lst, ↓inK_tup, ↓inK_ss, ↓objK_e, ↓obK_obj, ↓obK_cel, ↓objW_obj, ↓wJs_nil, ↓wJs_cons, ↓fmtK_str, ↓fmtK_int, ↓fmtRK_str, ↓fmtRK_int, ↓joinK_lst, ↓joinK_tup, ↓noLent_nil, ↓noLent_cons, ↓wipeS_e, ↓wipeL_nil, ↓wipeL_cons, ↓pI_int, ↓pS_str, ↓pB_bl, ↓nfK_obj, ↓nfK_cel, ↓nfK_non, ↓nfK_bl, ↓nfK_int, ↓nfK_str, ↓nfK_tup, ↓nfK_lst, ↓nfK_dct, ↓slfK_e, ↓isNonT_non, ↓ofK_e, ↓derefK_lst, ↓derefK_tup, ↓derefK_str, ↓derefK_cel, ↓rcReprA_e, ↓wFmtRD_e, ↓aStar_e, ↓seqItK_lst, ↓seqItK_tup, ↓wFldC_e, ↓wMakeK_e, ↓wTryL_e, ↓wHds_nil, ↓wHds_cons, ↓revTK_tup, ↓wRevT_e, ↓rsRep_t, ↓rsRep_l, ↓wKp_e, ↓aConsF_e, ↓notSl_val, ↓notSl_fresh, ↓notSl_bor, ↓wParN_e, ↓asgN_nil, ↓asgN_cons, ↓rcMin1_lst, ↓wRaise_e, ↓wTry_e, ↓wExf_e, ↓wExI_e, ↓fldL1, ↓rcReprD_e, szLine, CPow, CMul, CDivN, putP, hnx, pf1, pf2, pf3] <;> exact hq
    have m1 : (Str.empty ++ Str.ofString "too many: ").length ≤ 16777216 ∧ (shK (.str "options") fun z => (Str.empty ++ Str.ofString "too many: " ++ z).length ≤ 16777216) ∧ (shK (.str "lists") fun z => (Str.empty ++ Str.ofString "too many: " ++ z).length ≤ 16777216) := by
      refine ⟨by decide +kernel, ?_, ?_⟩
      · exact shK_ent ⟨by decide +kernel, fun n hn => by (obtain ⟨m, rfl⟩ : ∃ m, n = m + 5 := ⟨n - 5, by omega⟩; simp), by decide +kernel, by decide +kernel, by first | trivial | (show _ ≤ sizeLine; rw [szLine]; decide +kernel)⟩ (by decide +kernel)
      · exact shK_ent ⟨by decide +kernel, fun n hn => by (obtain ⟨m, rfl⟩ : ∃ m, n = m + 5 := ⟨n - 5, by omega⟩; simp), by decide +kernel, by decide +kernel, by first | trivial | (show _ ≤ sizeLine; rw [szLine]; decide +kernel)⟩ (by decide +kernel)
    have tl2 : ¬ 2 < us.length → t_Form___init___6 K sIsW ⟨[.slf (.obj (FA K) []), .val (tabP K zs), o, l, s4, s5], c⟩ E := fun h1 => by
      unfold t_Form___init___6
      rcases rdA_it hl' with rfl | rfl | rfl | rfl <;> simp [↓wVar_e, ↓wC_e, ↓wOp2_e, ↓wTest_e, ↓wAnd_e, ↓wOr_e, ↓wNot_e, ↓wAndV_e, ↓wOrV_e, ↓wNotV_e, ↓wIfE_e, ↓aNil_e, ↓aCons_e, ↓wLst_e, ↓wTup_e, ↓wCall_e, ↓wSet_e, ↓wSeq_e, ↓wSkip_e, ↓wIf_e, ↓wDrop_e, ↓wRet_e, ↓wRetN_e, ↓wBrk_e, ↓wCnt_e, ↓wNev_e, ↓gwName_e, ↓gwNil_e, ↓gwCons_e, ↓gwTup_e, ↓gwTupN_e, ↓wSrc_e, ↓wSrcZ_e, ↓wRng1_e, ↓wRng2_e, ↓wFor_e, ↓wLc_e, ↓wYes_e, ↓rsEq_e, ↓rsNe_e, ↓rsIn_e, ↓rsNotIn_e, ↓rsInt_e, ↓rsInt0_e, ↓rsAdd_e, ↓rsIsN_e, ↓rsNotN_e, ↓rsIx_e, ↓oNo_e, ↓oOf_e, ↓wSl_e, ↓wRev_e, ↓wNeg_e, ↓wCh_e, ↓wBlt_e, ↓rc1_e, ↓rc2_e, ↓wEn_e, ↓wChs_e, ↓wJoin_e, ↓wMut_e, ↓mfAppend_e, ↓mfPop_e, ↓mfReverse_e, ↓mfInsert_e, ↓mfExtend_e, ↓wSetIx_e, ↓wFmt_e, ↓wFmtR_e, ↓wFs_e, ↓wIsi_e, ↓wFld_e, ↓wSetF_e, ↓wSp1_e, ↓wEqO_e, ↓wInO_e, ↓wMeth_e, ↓wIxC_e, ↓rsIxS_e, ↓wSlS_e, ↓wLstC_e, ↓wTupC_e, ↓rsSub_e, ↓rsMulI_e, ↓rsFdiv_e, ↓rsMod_e, ↓rsPow_e, ↓rsLt_e, ↓rsLe_e, ↓rsGt_e, ↓rsGe_e, ↓rdK_val, ↓rdK_fresh, ↓rdK_bor, ↓rdK_slot, ↓kpK_val, ↓kpK_fresh, ↓kpK_slot, ↓retK_val, ↓retK_fresh, ↓retK_slot, ↓asgK_val, ↓asgK_bor, ↓asgK_fresh, ↓asgK_slot, ↓wrK_slot, ↓wrK_cel, ↓lstK_lst, ↓asInt_int, ↓intK_ii, ↓isBl_bl, ↓isBlT_bl, ↓strK_str, ↓itemsK_lst, ↓itemsK_tup, ↓stl_val, ↓stl_fresh, ↓stl_bor, ↓stl_slot, ↓srcK_val, ↓srcK_fresh, ↓srcK_bor, ↓srcK_slot, ↓rdAll_nil, ↓rdAll_cons, ↓kpAll_nil, ↓kpAll_cons, ↓argK_nil, ↓argK_val, ↓argK_bor, ↓argK_slot, ↓rcInt_int, ↓rcInt_bl, ↓rcLen_lst, ↓rcLen_tup, ↓rcLen_scr, ↓rcLen_str, ↓rcAbs_int, ↓rcMax2_ii, ↓rcMin2_ii, ↓rcListS_str, ↓rcListS_lst, ↓rcListS_tup, ↓rcTuple_lst, ↓rcTuple_tup, ↓rcAll_lst, ↓rcSum_lst, ↓rcStr_int, ↓rcStr_str, ↓rcRepr_int, ↓slK_lst, ↓slK_tup, ↓slK_str, ↓slSK_scr, ↓revK_lst, ↓inK_lst, ↓inK_tup, ↓inK_ss, ↓objK_e, ↓obK_obj, ↓obK_cel, ↓objW_obj, ↓wJs_nil, ↓wJs_cons, ↓fmtK_str, ↓fmtK_int, ↓fmtRK_str, ↓fmtRK_int, ↓joinK_lst, ↓joinK_tup, ↓noLent_nil, ↓noLent_cons, ↓wipeS_e, ↓wipeL_nil, ↓wipeL_cons, ↓pI_int, ↓pS_str, ↓pB_bl, ↓nfK_obj, ↓nfK_cel, ↓nfK_non, ↓nfK_bl, ↓nfK_int, ↓nfK_str, ↓nfK_tup, ↓nfK_lst, ↓nfK_dct, ↓slfK_e, ↓isNonT_non, ↓ofK_e, ↓derefK_lst, ↓derefK_tup, ↓derefK_str, ↓derefK_cel, ↓rcReprA_e, ↓wFmtRD_e, ↓aStar_e, ↓seqItK_lst, ↓seqItK_tup, ↓wFldC_e, ↓wMakeK_e, ↓wTryL_e, ↓wHds_nil, ↓wHds_cons, ↓revTK_tup, ↓wRevT_e, ↓rsRep_t, ↓rsRep_l, ↓wKp_e, ↓aConsF_e, ↓notSl_val, ↓notSl_fresh, ↓notSl_bor, ↓wParN_e, ↓asgN_nil, ↓asgN_cons, ↓rcMin1_lst, ↓wRaise_e, ↓wTry_e, ↓wExf_e, ↓wExI_e, ↓fldL1, ↓rcReprD_e, szLine, CPow, CMul, CDivN, wx_TooMany] <;> exact ⟨fun h => ⟨⟨m1.1, m1.2.2⟩, exc _ (by rw [if_neg h1, if_pos (by omega)] at hq; exact hq) _ rfl⟩, fun h => tl3 h1 (by omega)⟩
    unfold t_Form___init___7
    rcases rdA_it ho with rfl | rfl | rfl | rfl <;> simp [↓wVar_e, ↓wC_e, ↓wOp2_e, ↓wTest_e, ↓wAnd_e, ↓wOr_e, ↓wNot_e, ↓wAndV_e, ↓wOrV_e, ↓wNotV_e, ↓wIfE_e, ↓aNil_e, ↓aCons_e, ↓wLst_e, ↓wTup_e, ↓wCall_e, ↓wSet_e, ↓wSeq_e, ↓wSkip_e, ↓wIf_e, ↓wDrop_e, ↓wRet_e, ↓wRetN_e, ↓wBrk_e, ↓wCnt_e, ↓wNev_e, ↓gwName_e, ↓gwNil_e, ↓gwCons_e, ↓gwTup_e, ↓gwTupN_e, ↓wSrc_e, ↓wSrcZ_e, ↓wRng1_e, ↓wRng2_e, ↓wFor_e, ↓wLc_e, ↓wYes_e, ↓rsEq_e, ↓rsNe_e, ↓rsIn_e, ↓rsNotIn_e, ↓rsInt_e, ↓rsInt0_e, ↓rsAdd_e, ↓rsIsN_e, ↓rsNotN_e, ↓rsIx_e, ↓oNo_e, ↓oOf_e, ↓wSl_e, ↓wRev_e, ↓wNeg_e, ↓wCh_e, ↓wBlt_e, ↓rc1_e, ↓rc2_e, ↓wEn_e, ↓wChs_e, ↓wJoin_e, ↓wMut_e, ↓mfAppend_e, ↓mfPop_e, ↓mfReverse_e, ↓mfInsert_e, ↓mfExtend_e, ↓wSetIx_e, ↓wFmt_e, ↓wFmtR_e, ↓wFs_e, ↓wIsi_e, ↓wFld_e, ↓wSetF_e, ↓wSp1_e, ↓wEqO_e, ↓wInO_e, ↓wMeth_e, ↓wIxC_e, ↓rsIxS_e, ↓wSlS_e, ↓wLstC_e, ↓wTupC_e, ↓rsSub_e, ↓rsMulI_e, ↓rsFdiv_e, ↓rsMod_e, ↓rsPow_e, ↓rsLt_e, ↓rsLe_e, ↓rsGt_e, ↓rsGe_e, ↓rdK_val, ↓rdK_fresh, ↓rdK_bor, ↓rdK_slot, ↓kpK_val, ↓kpK_fresh, ↓kpK_slot, ↓retK_val, ↓retK_fresh, ↓retK_slot, ↓asgK_val, ↓asgK_bor, ↓asgK_fresh, ↓asgK_slot, ↓wrK_slot, ↓wrK_cel, ↓lstK_lst, ↓asInt_int, ↓intK_ii, ↓isBl_bl, ↓isBlT_bl, ↓strK_str, ↓itemsK_lst, ↓itemsK_tup, ↓stl_val, ↓stl_fresh, ↓stl_bor, ↓stl_slot, ↓srcK_val, ↓srcK_fresh, ↓srcK_bor, ↓srcK_slot, ↓rdAll_nil, ↓rdAll_cons, ↓kpAll_nil, ↓kpAll_cons, ↓argK_nil, ↓argK_val, ↓argK_bor, ↓argK_slot, ↓rcInt_int, ↓rcInt_bl, ↓rcLen_lst, ↓rcLen_tup, ↓rcLen_scr, ↓rcLen_str, ↓rcAbs_int, ↓rcMax2_ii, ↓rcMin2_ii, ↓rcListS_str, ↓rcListS_lst, ↓rcListS_tup, ↓rcTuple_lst, ↓rcTuple_tup, ↓rcAll_lst, ↓rcSum_lst, ↓rcStr_int, ↓rcStr_str, ↓rcRepr_int, ↓slK_lst, ↓slK_tup, ↓slK_str, ↓slSK_scr, ↓revK_lst, ↓inK_lst, ↓inK_tup, ↓inK_ss, ↓objK_e, ↓obK_obj, ↓obK_cel, ↓objW_obj, ↓wJs_nil, ↓wJs_cons, ↓fmtK_str, ↓fmtK_int, ↓fmtRK_str, ↓fmtRK_int, ↓joinK_lst, ↓joinK_tup, ↓noLent_nil, ↓noLent_cons, ↓wipeS_e, ↓wipeL_nil, ↓wipeL_cons, ↓pI_int, ↓pS_str, ↓pB_bl, ↓nfK_obj, ↓nfK_cel, ↓nfK_non, ↓nfK_bl, ↓nfK_int, ↓nfK_str, ↓nfK_tup, ↓nfK_lst, ↓nfK_dct, ↓slfK_e, ↓isNonT_non, ↓ofK_e, ↓derefK_lst, ↓derefK_tup, ↓derefK_str, ↓derefK_cel, ↓rcReprA_e, ↓wFmtRD_e, ↓aStar_e, ↓seqItK_lst, ↓seqItK_tup, ↓wFldC_e, ↓wMakeK_e, ↓wTryL_e, ↓wHds_nil, ↓wHds_cons, ↓revTK_tup, ↓wRevT_e, ↓rsRep_t, ↓rsRep_l, ↓wKp_e, ↓aConsF_e, ↓notSl_val, ↓notSl_fresh, ↓notSl_bor, ↓wParN_e, ↓asgN_nil, ↓asgN_cons, ↓rcMin1_lst, ↓wRaise_e, ↓wTry_e, ↓wExf_e, ↓wExI_e, ↓fldL1, ↓rcReprD_e, szLine, CPow, CMul, CDivN, wx_TooMany] <;> exact ⟨fun h => ⟨⟨m1.1, m1.2.1⟩, exc _ (by rw [if_pos (by omega)] at hq; exact hq) _ rfl⟩, fun h => tl2 (by omega)⟩
  have loop : ∀ s5 : BV.Slot, s5.isL = false → wForL (gwName 5) (b_Form___init___2 K sIsW) id (us ++ vs) ⟨[.slf (.obj (FA K) []), .val (tabP K zs), o, l, .own (.lst (zs.map PV.str)), s5], c⟩ { E with nx := fun S1 => t_Form___init___7 K sIsW S1 E } := by
    intro s5 l5
    refine for_inv (fun i S => ∃ s5 : BV.Slot, S = ⟨[.slf (.obj (FA K) []), .val (tabP K zs), o, l, .own (.lst (zs.map PV.str ++ (us ++ vs).take i)), s5], c⟩ ∧ s5.isL = false ∧ goF (zs.map PV.str) (us ++ vs) = goF (zs.map PV.str ++ (us ++ vs).take i) ((us ++ vs).drop i)) ⟨s5, by simp, l5, by simp⟩ ?_ ?_
    · rintro i x S k hxi ⟨s5, rfl, l5, hg⟩ hk
      have hxm := hx x (List.mem_iff_getElem?.mpr ⟨i, hxi⟩)
      have hused : ∀ z ∈ zs.map PV.str ++ (us ++ vs).take i, Ent z := fun z h => (List.mem_append.mp h).elim (fun h => by
        obtain ⟨y, hy, rfl⟩ := List.mem_map.mp h
        exact hz y hy) fun h => hx z (List.mem_of_mem_take h)
      have hlen : (zs.map PV.str ++ (us ++ vs).take i).length ≤ 20 := by simp only [List.length_append, List.length_take, List.length_map]; omega
      have hn1 : (!isW x || memP x (zs.map PV.str ++ (us ++ vs).take i)) = true → ∀ S, S.c = c → E.ex ⟨He.ga K "BadForm", [("name", x)]⟩ S := fun h S e => by
        have hq' := hq
        unfold frmK at hq'
        rw [hg, goF_bad hxi h] at hq'
        rw [hE, e]; exact hq'
      have hn2 : (!isW x || memP x (zs.map PV.str ++ (us ++ vs).take i)) = false → k ⟨[.slf (.obj (FA K) []), .val (tabP K zs), o, l, .own (.lst ((zs.map PV.str ++ (us ++ vs).take i) ++ [x])), .val x], c⟩ := fun h => hk _ ⟨.val x, by
        have hi : i < (us ++ vs).length := (List.getElem?_eq_some_iff.mp hxi).1
        have exi : (us ++ vs)[i] = x := (List.getElem?_eq_some_iff.mp hxi).2
        rw [List.take_succ_eq_append_getElem hi, exi, List.append_assoc], rfl, by rw [hg, goF_next hxi h]⟩
      obtain ⟨f1, f2, f3⟩ := mem_f hxm hused
      generalize zs.map PV.str ++ (us ++ vs).take i = used at *
      unfold b_Form___init___2
      simp [↓wVar_e, ↓wC_e, ↓wOp2_e, ↓wTest_e, ↓wAnd_e, ↓wOr_e, ↓wNot_e, ↓wAndV_e, ↓wOrV_e, ↓wNotV_e, ↓wIfE_e, ↓aNil_e, ↓aCons_e, ↓wLst_e, ↓wTup_e, ↓wCall_e, ↓wSet_e, ↓wSeq_e, ↓wSkip_e, ↓wIf_e, ↓wDrop_e, ↓wRet_e, ↓wRetN_e, ↓wBrk_e, ↓wCnt_e, ↓wNev_e, ↓gwName_e, ↓gwNil_e, ↓gwCons_e, ↓gwTup_e, ↓gwTupN_e, ↓wSrc_e, ↓wSrcZ_e, ↓wRng1_e, ↓wRng2_e, ↓wFor_e, ↓wLc_e, ↓wYes_e, ↓rsEq_e, ↓rsNe_e, ↓rsIn_e, ↓rsNotIn_e, ↓rsInt_e, ↓rsInt0_e, ↓rsAdd_e, ↓rsIsN_e, ↓rsNotN_e, ↓rsIx_e, ↓oNo_e, ↓oOf_e, ↓wSl_e, ↓wRev_e, ↓wNeg_e, ↓wCh_e, ↓wBlt_e, ↓rc1_e, ↓rc2_e, ↓wEn_e, ↓wChs_e, ↓wJoin_e, ↓wMut_e, ↓mfAppend_e, ↓mfPop_e, ↓mfReverse_e, ↓mfInsert_e, ↓mfExtend_e, ↓wSetIx_e, ↓wFmt_e, ↓wFmtR_e, ↓wFs_e, ↓wIsi_e, ↓wFld_e, ↓wSetF_e, ↓wSp1_e, ↓wEqO_e, ↓wInO_e, ↓wMeth_e, ↓wIxC_e, ↓rsIxS_e, ↓wSlS_e, ↓wLstC_e, ↓wTupC_e, ↓rsSub_e, ↓rsMulI_e, ↓rsFdiv_e, ↓rsMod_e, ↓rsPow_e, ↓rsLt_e, ↓rsLe_e, ↓rsGt_e, ↓rsGe_e, ↓rdK_val, ↓rdK_fresh, ↓rdK_bor, ↓rdK_slot, ↓kpK_val, ↓kpK_fresh, ↓kpK_slot, ↓retK_val, ↓retK_fresh, ↓retK_slot, ↓asgK_val, ↓asgK_bor, ↓asgK_fresh, ↓asgK_slot, ↓wrK_slot, ↓wrK_cel, ↓lstK_lst, ↓asInt_int, ↓intK_ii, ↓isBl_bl, ↓isBlT_bl, ↓strK_str, ↓itemsK_lst, ↓itemsK_tup, ↓stl_val, ↓stl_fresh, ↓stl_bor, ↓stl_slot, ↓srcK_val, ↓srcK_fresh, ↓srcK_bor, ↓srcK_slot, ↓rdAll_nil, ↓rdAll_cons, ↓kpAll_nil, ↓kpAll_cons, ↓argK_nil, ↓argK_val, ↓argK_bor, ↓argK_slot, ↓rcInt_int, ↓rcInt_bl, ↓rcLen_lst, ↓rcLen_tup, ↓rcLen_scr, ↓rcLen_str, ↓rcAbs_int, ↓rcMax2_ii, ↓rcMin2_ii, ↓rcListS_str, ↓rcListS_lst, ↓rcListS_tup, ↓rcTuple_lst, ↓rcTuple_tup, ↓rcAll_lst, ↓rcSum_lst, ↓rcStr_int, ↓rcStr_str, ↓rcRepr_int, ↓slK_lst, ↓slK_tup, ↓slK_str, ↓slSK_scr, ↓revK_lst, ↓inK_lst, ↓inK_tup, ↓inK_ss, ↓objK_e, ↓obK_obj, ↓obK_cel, ↓objW_obj, ↓wJs_nil, ↓wJs_cons, ↓fmtK_str, ↓fmtK_int, ↓fmtRK_str, ↓fmtRK_int, ↓joinK_lst, ↓joinK_tup, ↓noLent_nil, ↓noLent_cons, ↓wipeS_e, ↓wipeL_nil, ↓wipeL_cons, ↓pI_int, ↓pS_str, ↓pB_bl, ↓nfK_obj, ↓nfK_cel, ↓nfK_non, ↓nfK_bl, ↓nfK_int, ↓nfK_str, ↓nfK_tup, ↓nfK_lst, ↓nfK_dct, ↓slfK_e, ↓isNonT_non, ↓ofK_e, ↓derefK_lst, ↓derefK_tup, ↓derefK_str, ↓derefK_cel, ↓rcReprA_e, ↓wFmtRD_e, ↓aStar_e, ↓seqItK_lst, ↓seqItK_tup, ↓wFldC_e, ↓wMakeK_e, ↓wTryL_e, ↓wHds_nil, ↓wHds_cons, ↓revTK_tup, ↓wRevT_e, ↓rsRep_t, ↓rsRep_l, ↓wKp_e, ↓aConsF_e, ↓notSl_val, ↓notSl_fresh, ↓notSl_bor, ↓wParN_e, ↓asgN_nil, ↓asgN_cons, ↓rcMin1_lst, ↓wRaise_e, ↓wTry_e, ↓wExf_e, ↓wExI_e, ↓fldL1, ↓rcReprD_e, szLine, CPow, CMul, CDivN, l5, sIsW, hxm.w, wx_BadForm]
      have nx : isW x = true → (∀ z ∈ used, pvEq z x = false) → t_Form___init___1 K sIsW ⟨[.slf (.obj (FA K) []), .val (tabP K zs), o, l, .own (.lst used), .val x], c⟩ { E with nx := k, bk := fun S1 => t_Form___init___7 K sIsW S1 E, ct := k } := fun h g => by
        unfold t_Form___init___1
        simp [↓wVar_e, ↓wC_e, ↓wOp2_e, ↓wTest_e, ↓wAnd_e, ↓wOr_e, ↓wNot_e, ↓wAndV_e, ↓wOrV_e, ↓wNotV_e, ↓wIfE_e, ↓aNil_e, ↓aCons_e, ↓wLst_e, ↓wTup_e, ↓wCall_e, ↓wSet_e, ↓wSeq_e, ↓wSkip_e, ↓wIf_e, ↓wDrop_e, ↓wRet_e, ↓wRetN_e, ↓wBrk_e, ↓wCnt_e, ↓wNev_e, ↓gwName_e, ↓gwNil_e, ↓gwCons_e, ↓gwTup_e, ↓gwTupN_e, ↓wSrc_e, ↓wSrcZ_e, ↓wRng1_e, ↓wRng2_e, ↓wFor_e, ↓wLc_e, ↓wYes_e, ↓rsEq_e, ↓rsNe_e, ↓rsIn_e, ↓rsNotIn_e, ↓rsInt_e, ↓rsInt0_e, ↓rsAdd_e, ↓rsIsN_e, ↓rsNotN_e, ↓rsIx_e, ↓oNo_e, ↓oOf_e, ↓wSl_e, ↓wRev_e, ↓wNeg_e, ↓wCh_e, ↓wBlt_e, ↓rc1_e, ↓rc2_e, ↓wEn_e, ↓wChs_e, ↓wJoin_e, ↓wMut_e, ↓mfAppend_e, ↓mfPop_e, ↓mfReverse_e, ↓mfInsert_e, ↓mfExtend_e, ↓wSetIx_e, ↓wFmt_e, ↓wFmtR_e, ↓wFs_e, ↓wIsi_e, ↓wFld_e, ↓wSetF_e, ↓wSp1_e, ↓wEqO_e, ↓wInO_e, ↓wMeth_e, ↓wIxC_e, ↓rsIxS_e, ↓wSlS_e, ↓wLstC_e, ↓wTupC_e, ↓rsSub_e, ↓rsMulI_e, ↓rsFdiv_e, ↓rsMod_e, ↓rsPow_e, ↓rsLt_e, ↓rsLe_e, ↓rsGt_e, ↓rsGe_e, ↓rdK_val, ↓rdK_fresh, ↓rdK_bor, ↓rdK_slot, ↓kpK_val, ↓kpK_fresh, ↓kpK_slot, ↓retK_val, ↓retK_fresh, ↓retK_slot, ↓asgK_val, ↓asgK_bor, ↓asgK_fresh, ↓asgK_slot, ↓wrK_slot, ↓wrK_cel, ↓lstK_lst, ↓asInt_int, ↓intK_ii, ↓isBl_bl, ↓isBlT_bl, ↓strK_str, ↓itemsK_lst, ↓itemsK_tup, ↓stl_val, ↓stl_fresh, ↓stl_bor, ↓stl_slot, ↓srcK_val, ↓srcK_fresh, ↓srcK_bor, ↓srcK_slot, ↓rdAll_nil, ↓rdAll_cons, ↓kpAll_nil, ↓kpAll_cons, ↓argK_nil, ↓argK_val, ↓argK_bor, ↓argK_slot, ↓rcInt_int, ↓rcInt_bl, ↓rcLen_lst, ↓rcLen_tup, ↓rcLen_scr, ↓rcLen_str, ↓rcAbs_int, ↓rcMax2_ii, ↓rcMin2_ii, ↓rcListS_str, ↓rcListS_lst, ↓rcListS_tup, ↓rcTuple_lst, ↓rcTuple_tup, ↓rcAll_lst, ↓rcSum_lst, ↓rcStr_int, ↓rcStr_str, ↓rcRepr_int, ↓slK_lst, ↓slK_tup, ↓slK_str, ↓slSK_scr, ↓revK_lst, ↓inK_lst, ↓inK_tup, ↓inK_ss, ↓objK_e, ↓obK_obj, ↓obK_cel, ↓objW_obj, ↓wJs_nil, ↓wJs_cons, ↓fmtK_str, ↓fmtK_int, ↓fmtRK_str, ↓fmtRK_int, ↓joinK_lst, ↓joinK_tup, ↓noLent_nil, ↓noLent_cons, ↓wipeS_e, ↓wipeL_nil, ↓wipeL_cons, ↓pI_int, ↓pS_str, ↓pB_bl, ↓nfK_obj, ↓nfK_cel, ↓nfK_non, ↓nfK_bl, ↓nfK_int, ↓nfK_str, ↓nfK_tup, ↓nfK_lst, ↓nfK_dct, ↓slfK_e, ↓isNonT_non, ↓ofK_e, ↓derefK_lst, ↓derefK_tup, ↓derefK_str, ↓derefK_cel, ↓rcReprA_e, ↓wFmtRD_e, ↓aStar_e, ↓seqItK_lst, ↓seqItK_tup, ↓wFldC_e, ↓wMakeK_e, ↓wTryL_e, ↓wHds_nil, ↓wHds_cons, ↓revTK_tup, ↓wRevT_e, ↓rsRep_t, ↓rsRep_l, ↓wKp_e, ↓aConsF_e, ↓notSl_val, ↓notSl_fresh, ↓notSl_bor, ↓wParN_e, ↓asgN_nil, ↓asgN_cons, ↓rcMin1_lst, ↓wRaise_e, ↓wTry_e, ↓wExf_e, ↓wExI_e, ↓fldL1, ↓rcReprD_e, szLine, CPow, CMul, CDivN]
        exact ⟨by omega, hn2 (by rw [h, f3 g]; rfl)⟩
      exact ⟨fun h => ⟨f1, fun z hz e => ⟨msg_ok hxm, hn1 (by rw [f2 z hz e, Bool.or_true]) _ rfl⟩, nx h⟩, fun h => ⟨msg_ok hxm, hn1 (by rw [h]; rfl) _ rfl⟩⟩
    · rintro S ⟨s5, rfl, l5, hg⟩
      exact tail (by rw [hg]; simp [goF]) _ _
  unfold w_Form___init__
  simp [↓wVar_e, ↓wC_e, ↓wOp2_e, ↓wTest_e, ↓wAnd_e, ↓wOr_e, ↓wNot_e, ↓wAndV_e, ↓wOrV_e, ↓wNotV_e, ↓wIfE_e, ↓aNil_e, ↓aCons_e, ↓wLst_e, ↓wTup_e, ↓wCall_e, ↓wSet_e, ↓wSeq_e, ↓wSkip_e, ↓wIf_e, ↓wDrop_e, ↓wRet_e, ↓wRetN_e, ↓wBrk_e, ↓wCnt_e, ↓wNev_e, ↓gwName_e, ↓gwNil_e, ↓gwCons_e, ↓gwTup_e, ↓gwTupN_e, ↓wSrc_e, ↓wSrcZ_e, ↓wRng1_e, ↓wRng2_e, ↓wFor_e, ↓wLc_e, ↓wYes_e, ↓rsEq_e, ↓rsNe_e, ↓rsIn_e, ↓rsNotIn_e, ↓rsInt_e, ↓rsInt0_e, ↓rsAdd_e, ↓rsIsN_e, ↓rsNotN_e, ↓rsIx_e, ↓oNo_e, ↓oOf_e, ↓wSl_e, ↓wRev_e, ↓wNeg_e, ↓wCh_e, ↓wBlt_e, ↓rc1_e, ↓rc2_e, ↓wEn_e, ↓wChs_e, ↓wJoin_e, ↓wMut_e, ↓mfAppend_e, ↓mfPop_e, ↓mfReverse_e, ↓mfInsert_e, ↓mfExtend_e, ↓wSetIx_e, ↓wFmt_e, ↓wFmtR_e, ↓wFs_e, ↓wIsi_e, ↓wFld_e, ↓wSetF_e, ↓wSp1_e, ↓wEqO_e, ↓wInO_e, ↓wMeth_e, ↓wIxC_e, ↓rsIxS_e, ↓wSlS_e, ↓wLstC_e, ↓wTupC_e, ↓rsSub_e, ↓rsMulI_e, ↓rsFdiv_e, ↓rsMod_e, ↓rsPow_e, ↓rsLt_e, ↓rsLe_e, ↓rsGt_e, ↓rsGe_e, ↓rdK_val, ↓rdK_fresh, ↓rdK_bor, ↓rdK_slot, ↓kpK_val, ↓kpK_fresh, ↓kpK_slot, ↓retK_val, ↓retK_fresh, ↓retK_slot, ↓asgK_val, ↓asgK_bor, ↓asgK_fresh, ↓asgK_slot, ↓wrK_slot, ↓wrK_cel, ↓lstK_lst, ↓asInt_int, ↓intK_ii, ↓isBl_bl, ↓isBlT_bl, ↓strK_str, ↓itemsK_lst, ↓itemsK_tup, ↓stl_val, ↓stl_fresh, ↓stl_bor, ↓stl_slot, ↓srcK_val, ↓srcK_fresh, ↓srcK_bor, ↓srcK_slot, ↓rdAll_nil, ↓rdAll_cons, ↓kpAll_nil, ↓kpAll_cons, ↓argK_nil, ↓argK_val, ↓argK_bor, ↓argK_slot, ↓rcInt_int, ↓rcInt_bl, ↓rcLen_lst, ↓rcLen_tup, ↓rcLen_scr, ↓rcLen_str, ↓rcAbs_int, ↓rcMax2_ii, ↓rcMin2_ii, ↓rcListS_str, ↓rcListS_lst, ↓rcListS_tup, ↓rcTuple_lst, ↓rcTuple_tup, ↓rcAll_lst, ↓rcSum_lst, ↓rcStr_int, ↓rcStr_str, ↓rcRepr_int, ↓slK_lst, ↓slK_tup, ↓slK_str, ↓slSK_scr, ↓revK_lst, ↓inK_lst, ↓inK_tup, ↓inK_ss, ↓objK_e, ↓obK_obj, ↓obK_cel, ↓objW_obj, ↓wJs_nil, ↓wJs_cons, ↓fmtK_str, ↓fmtK_int, ↓fmtRK_str, ↓fmtRK_int, ↓joinK_lst, ↓joinK_tup, ↓noLent_nil, ↓noLent_cons, ↓wipeS_e, ↓wipeL_nil, ↓wipeL_cons, ↓pI_int, ↓pS_str, ↓pB_bl, ↓nfK_obj, ↓nfK_cel, ↓nfK_non, ↓nfK_bl, ↓nfK_int, ↓nfK_str, ↓nfK_tup, ↓nfK_lst, ↓nfK_dct, ↓slfK_e, ↓isNonT_non, ↓ofK_e, ↓derefK_lst, ↓derefK_tup, ↓derefK_str, ↓derefK_cel, ↓rcReprA_e, ↓wFmtRD_e, ↓aStar_e, ↓seqItK_lst, ↓seqItK_tup, ↓wFldC_e, ↓wMakeK_e, ↓wTryL_e, ↓wHds_nil, ↓wHds_cons, ↓revTK_tup, ↓wRevT_e, ↓rsRep_t, ↓rsRep_l, ↓wKp_e, ↓aConsF_e, ↓notSl_val, ↓notSl_fresh, ↓notSl_bor, ↓wParN_e, ↓asgN_nil, ↓asgN_cons, ↓rcMin1_lst, ↓wRaise_e, ↓wTry_e, ↓wExf_e, ↓wExI_e, ↓fldL1, ↓rcReprD_e, szLine, CPow, CMul, CDivN]
  unfold t_Form___init___8
  rcases rdA_it ho with rfl | rfl | rfl | rfl <;> rcases rdA_it hl' with rfl | rfl | rfl | rfl <;> simp [↓wVar_e, ↓wC_e, ↓wOp2_e, ↓wTest_e, ↓wAnd_e, ↓wOr_e, ↓wNot_e, ↓wAndV_e, ↓wOrV_e, ↓wNotV_e, ↓wIfE_e, ↓aNil_e, ↓aCons_e, ↓wLst_e, ↓wTup_e, ↓wCall_e, ↓wSet_e, ↓wSeq_e, ↓wSkip_e, ↓wIf_e, ↓wDrop_e, ↓wRet_e, ↓wRetN_e, ↓wBrk_e, ↓wCnt_e, ↓wNev_e, ↓gwName_e, ↓gwNil_e, ↓gwCons_e, ↓gwTup_e, ↓gwTupN_e, ↓wSrc_e, ↓wSrcZ_e, ↓wRng1_e, ↓wRng2_e, ↓wFor_e, ↓wLc_e, ↓wYes_e, ↓rsEq_e, ↓rsNe_e, ↓rsIn_e, ↓rsNotIn_e, ↓rsInt_e, ↓rsInt0_e, ↓rsAdd_e, ↓rsIsN_e, ↓rsNotN_e, ↓rsIx_e, ↓oNo_e, ↓oOf_e, ↓wSl_e, ↓wRev_e, ↓wNeg_e, ↓wCh_e, ↓wBlt_e, ↓rc1_e, ↓rc2_e, ↓wEn_e, ↓wChs_e, ↓wJoin_e, ↓wMut_e, ↓mfAppend_e, ↓mfPop_e, ↓mfReverse_e, ↓mfInsert_e, ↓mfExtend_e, ↓wSetIx_e, ↓wFmt_e, ↓wFmtR_e, ↓wFs_e, ↓wIsi_e, ↓wFld_e, ↓wSetF_e, ↓wSp1_e, ↓wEqO_e, ↓wInO_e, ↓wMeth_e, ↓wIxC_e, ↓rsIxS_e, ↓wSlS_e, ↓wLstC_e, ↓wTupC_e, ↓rsSub_e, ↓rsMulI_e, ↓rsFdiv_e, ↓rsMod_e, ↓rsPow_e, ↓rsLt_e, ↓rsLe_e, ↓rsGt_e, ↓rsGe_e, ↓rdK_val, ↓rdK_fresh, ↓rdK_bor, ↓rdK_slot, ↓kpK_val, ↓kpK_fresh, ↓kpK_slot, ↓retK_val, ↓retK_fresh, ↓retK_slot, ↓asgK_val, ↓asgK_bor, ↓asgK_fresh, ↓asgK_slot, ↓wrK_slot, ↓wrK_cel, ↓lstK_lst, ↓asInt_int, ↓intK_ii, ↓isBl_bl, ↓isBlT_bl, ↓strK_str, ↓itemsK_lst, ↓itemsK_tup, ↓stl_val, ↓stl_fresh, ↓stl_bor, ↓stl_slot, ↓srcK_val, ↓srcK_fresh, ↓srcK_bor, ↓srcK_slot, ↓rdAll_nil, ↓rdAll_cons, ↓kpAll_nil, ↓kpAll_cons, ↓argK_nil, ↓argK_val, ↓argK_bor, ↓argK_slot, ↓rcInt_int, ↓rcInt_bl, ↓rcLen_lst, ↓rcLen_tup, ↓rcLen_scr, ↓rcLen_str, ↓rcAbs_int, ↓rcMax2_ii, ↓rcMin2_ii, ↓rcListS_str, ↓rcListS_lst, ↓rcListS_tup, ↓rcTuple_lst, ↓rcTuple_tup, ↓rcAll_lst, ↓rcSum_lst, ↓rcStr_int, ↓rcStr_str, ↓rcRepr_int, ↓slK_lst, ↓slK_tup, ↓slK_str, ↓slSK_scr, ↓revK_lst, ↓inK_lst, ↓inK_tup, ↓inK_ss, ↓objK_e, ↓obK_obj, ↓obK_cel, ↓objW_obj, ↓wJs_nil, ↓wJs_cons, ↓fmtK_str, ↓fmtK_int, ↓fmtRK_str, ↓fmtRK_int, ↓joinK_lst, ↓joinK_tup, ↓noLent_nil, ↓noLent_cons, ↓wipeS_e, ↓wipeL_nil, ↓wipeL_cons, ↓pI_int, ↓pS_str, ↓pB_bl, ↓nfK_obj, ↓nfK_cel, ↓nfK_non, ↓nfK_bl, ↓nfK_int, ↓nfK_str, ↓nfK_tup, ↓nfK_lst, ↓nfK_dct, ↓slfK_e, ↓isNonT_non, ↓ofK_e, ↓derefK_lst, ↓derefK_tup, ↓derefK_str, ↓derefK_cel, ↓rcReprA_e, ↓wFmtRD_e, ↓aStar_e, ↓seqItK_lst, ↓seqItK_tup, ↓wFldC_e, ↓wMakeK_e, ↓wTryL_e, ↓wHds_nil, ↓wHds_cons, ↓revTK_tup, ↓wRevT_e, ↓rsRep_t, ↓rsRep_l, ↓wKp_e, ↓aConsF_e, ↓notSl_val, ↓notSl_fresh, ↓notSl_bor, ↓wParN_e, ↓asgN_nil, ↓asgN_cons, ↓rcMin1_lst, ↓wRaise_e, ↓wTry_e, ↓wExf_e, ↓wExI_e, ↓fldL1, ↓rcReprD_e, szLine, CPow, CMul, CDivN, ↓kpAll_valsA, ↓kpAll_vals] <;> exact ⟨by omega, loop _ rfl⟩
end Lk26

namespace Lk26
open PySem L2 BV
def eqTab (K : PySem.W.Frag) (zs : List Str) (p : PV) : Option Bool := match p with
  | .obj C fs => (match fs with | [f] => (match f.2 with | .tup xs => if C = TA K ∧ f.1 = "columns" then some (pvEqs (zs.map PV.str) xs) else none | _ => none) | _ => none)
  | .cel _ => none | .bag => none | .scr _ => none
  | _ => some false
def sEq (K : PySem.W.Frag) : FW := fun args c rt _ => ∃ zs a p b, args = [a, p] ∧ rdA a = some (tabP K zs) ∧ ((∃ ws, rdA p = some (tabP K ws) ∧ b = decide (zs = ws)) ∨ (∃ x, rdA p = some x ∧ datN 40 x = true ∧ b = false)) ∧ rt (.val (.bl b)) c
theorem rdA_of {a : BV.Slot} {x : PV} (h : rdA a = some x) : a = .val x ∨ a = .bor x := by
  cases a <;> simp [rdA] at h <;> simp [h]
theorem eq_ok (K : PySem.W.Frag) : ∀ args c rt ex, sEq K args c rt ex → fwOf 2 2 (w_Table___eq__ K) args c rt ex := by
  rintro args c rt ex ⟨zs, a, p, b, rfl, ha, hp, hq⟩
  refine fwOf_i rfl fun E _ hrt _ => ?_
  have d39 : ∀ zs : List Str, (zs.map PV.str).all (datN 39) = true := fun zs => dat_strs zs 39
  unfold w_Table___eq__
  rcases hp with ⟨ws, hp, rfl⟩ | ⟨x, hp, hx, rfl⟩
  · rcases rdA_of ha with rfl | rfl <;> rcases rdA_of hp with rfl | rfl
    all_goals
      simp [↓wVar_e, ↓wC_e, ↓wOp2_e, ↓wTest_e, ↓wAnd_e, ↓wOr_e, ↓wNot_e, ↓wAndV_e, ↓wOrV_e, ↓wNotV_e, ↓wIfE_e, ↓aNil_e, ↓aCons_e, ↓wLst_e, ↓wTup_e, ↓wCall_e, ↓wSet_e, ↓wSeq_e, ↓wSkip_e, ↓wIf_e, ↓wDrop_e, ↓wRet_e, ↓wRetN_e, ↓wBrk_e, ↓wCnt_e, ↓wNev_e, ↓gwName_e, ↓gwNil_e, ↓gwCons_e, ↓gwTup_e, ↓gwTupN_e, ↓wSrc_e, ↓wSrcZ_e, ↓wRng1_e, ↓wRng2_e, ↓wFor_e, ↓wLc_e, ↓wYes_e, ↓rsEq_e, ↓rsNe_e, ↓rsIn_e, ↓rsNotIn_e, ↓rsInt_e, ↓rsInt0_e, ↓rsAdd_e, ↓rsIsN_e, ↓rsNotN_e, ↓rsIx_e, ↓oNo_e, ↓oOf_e, ↓wSl_e, ↓wRev_e, ↓wNeg_e, ↓wCh_e, ↓wBlt_e, ↓rc1_e, ↓rc2_e, ↓wEn_e, ↓wChs_e, ↓wJoin_e, ↓wMut_e, ↓mfAppend_e, ↓mfPop_e, ↓mfReverse_e, ↓mfInsert_e, ↓mfExtend_e, ↓wSetIx_e, ↓wFmt_e, ↓wFmtR_e, ↓wFs_e, ↓wIsi_e, ↓wFld_e, ↓wSetF_e, ↓wSp1_e, ↓wEqO_e, ↓wInO_e, ↓wMeth_e, ↓wIxC_e, ↓rsIxS_e, ↓wSlS_e, ↓wLstC_e, ↓wTupC_e, ↓rsSub_e, ↓rsMulI_e, ↓rsFdiv_e, ↓rsMod_e, ↓rsPow_e, ↓rsLt_e, ↓rsLe_e, ↓rsGt_e, ↓rsGe_e, ↓rdK_val, ↓rdK_fresh, ↓rdK_bor, ↓rdK_slot, ↓kpK_val, ↓kpK_fresh, ↓kpK_slot, ↓retK_val, ↓retK_fresh, ↓retK_slot, ↓asgK_val, ↓asgK_bor, ↓asgK_fresh, ↓asgK_slot, ↓wrK_slot, ↓wrK_cel, ↓lstK_lst, ↓asInt_int, ↓intK_ii, ↓isBl_bl, ↓isBlT_bl, ↓strK_str, ↓itemsK_lst, ↓itemsK_tup, ↓stl_val, ↓stl_fresh, ↓stl_bor, ↓stl_slot, ↓srcK_val, ↓srcK_fresh, ↓srcK_bor, ↓srcK_slot, ↓rdAll_nil, ↓rdAll_cons, ↓kpAll_nil, ↓kpAll_cons, ↓argK_nil, ↓argK_val, ↓argK_bor, ↓argK_slot, ↓rcInt_int, ↓rcInt_bl, ↓rcLen_lst, ↓rcLen_tup, ↓rcLen_scr, ↓rcLen_str, ↓rcAbs_int, ↓rcMax2_ii, ↓rcMin2_ii, ↓rcListS_str, ↓rcListS_lst, ↓rcListS_tup, ↓rcTuple_lst, ↓rcTuple_tup, ↓rcAll_lst, ↓rcSum_lst, ↓rcStr_int, ↓rcStr_str, ↓rcRepr_int, ↓slK_lst, ↓slK_tup, ↓slK_str, ↓slSK_scr, ↓revK_lst, ↓inK_lst, ↓inK_tup, ↓inK_ss, ↓objK_e, ↓obK_obj, ↓obK_cel, ↓objW_obj, ↓wJs_nil, ↓wJs_cons, ↓fmtK_str, ↓fmtK_int, ↓fmtRK_str, ↓fmtRK_int, ↓joinK_lst, ↓joinK_tup, ↓noLent_nil, ↓noLent_cons, ↓wipeS_e, ↓wipeL_nil, ↓wipeL_cons, ↓pI_int, ↓pS_str, ↓pB_bl, ↓nfK_obj, ↓nfK_cel, ↓nfK_non, ↓nfK_bl, ↓nfK_int, ↓nfK_str, ↓nfK_tup, ↓nfK_lst, ↓nfK_dct, ↓slfK_e, ↓isNonT_non, ↓ofK_e, ↓derefK_lst, ↓derefK_tup, ↓derefK_str, ↓derefK_cel, ↓rcReprA_e, ↓wFmtRD_e, ↓aStar_e, ↓seqItK_lst, ↓seqItK_tup, ↓wFldC_e, ↓wMakeK_e, ↓wTryL_e, ↓wHds_nil, ↓wHds_cons, ↓revTK_tup, ↓wRevT_e, ↓rsRep_t, ↓rsRep_l, ↓wKp_e, ↓aConsF_e, ↓notSl_val, ↓notSl_fresh, ↓notSl_bor, ↓wParN_e, ↓asgN_nil, ↓asgN_cons, ↓rcMin1_lst, ↓wRaise_e, ↓wTry_e, ↓wExf_e, ↓wExI_e, ↓fldL1, ↓rcReprD_e, hrt, fCls, isi_ds_Table, eqs_strs]
      exact hq
  · have hf : fCls K isi_ds_Table x = some false := by
      cases x with
      | non => rfl
      | bl _ => rfl
      | int _ => rfl
      | str _ => rfl
      | tup _ => rfl
      | lst _ => rfl
      | _ => simp [datN] at hx
    rcases rdA_of ha with rfl | rfl <;> rcases rdA_of hp with rfl | rfl
    all_goals
      simp [↓wVar_e, ↓wC_e, ↓wOp2_e, ↓wTest_e, ↓wAnd_e, ↓wOr_e, ↓wNot_e, ↓wAndV_e, ↓wOrV_e, ↓wNotV_e, ↓wIfE_e, ↓aNil_e, ↓aCons_e, ↓wLst_e, ↓wTup_e, ↓wCall_e, ↓wSet_e, ↓wSeq_e, ↓wSkip_e, ↓wIf_e, ↓wDrop_e, ↓wRet_e, ↓wRetN_e, ↓wBrk_e, ↓wCnt_e, ↓wNev_e, ↓gwName_e, ↓gwNil_e, ↓gwCons_e, ↓gwTup_e, ↓gwTupN_e, ↓wSrc_e, ↓wSrcZ_e, ↓wRng1_e, ↓wRng2_e, ↓wFor_e, ↓wLc_e, ↓wYes_e, ↓rsEq_e, ↓rsNe_e, ↓rsIn_e, ↓rsNotIn_e, ↓rsInt_e, ↓rsInt0_e, ↓rsAdd_e, ↓rsIsN_e, ↓rsNotN_e, ↓rsIx_e, ↓oNo_e, ↓oOf_e, ↓wSl_e, ↓wRev_e, ↓wNeg_e, ↓wCh_e, ↓wBlt_e, ↓rc1_e, ↓rc2_e, ↓wEn_e, ↓wChs_e, ↓wJoin_e, ↓wMut_e, ↓mfAppend_e, ↓mfPop_e, ↓mfReverse_e, ↓mfInsert_e, ↓mfExtend_e, ↓wSetIx_e, ↓wFmt_e, ↓wFmtR_e, ↓wFs_e, ↓wIsi_e, ↓wFld_e, ↓wSetF_e, ↓wSp1_e, ↓wEqO_e, ↓wInO_e, ↓wMeth_e, ↓wIxC_e, ↓rsIxS_e, ↓wSlS_e, ↓wLstC_e, ↓wTupC_e, ↓rsSub_e, ↓rsMulI_e, ↓rsFdiv_e, ↓rsMod_e, ↓rsPow_e, ↓rsLt_e, ↓rsLe_e, ↓rsGt_e, ↓rsGe_e, ↓rdK_val, ↓rdK_fresh, ↓rdK_bor, ↓rdK_slot, ↓kpK_val, ↓kpK_fresh, ↓kpK_slot, ↓retK_val, ↓retK_fresh, ↓retK_slot, ↓asgK_val, ↓asgK_bor, ↓asgK_fresh, ↓asgK_slot, ↓wrK_slot, ↓wrK_cel, ↓lstK_lst, ↓asInt_int, ↓intK_ii, ↓isBl_bl, ↓isBlT_bl, ↓strK_str, ↓itemsK_lst, ↓itemsK_tup, ↓stl_val, ↓stl_fresh, ↓stl_bor, ↓stl_slot, ↓srcK_val, ↓srcK_fresh, ↓srcK_bor, ↓srcK_slot, ↓rdAll_nil, ↓rdAll_cons, ↓kpAll_nil, ↓kpAll_cons, ↓argK_nil, ↓argK_val, ↓argK_bor, ↓argK_slot, ↓rcInt_int, ↓rcInt_bl, ↓rcLen_lst, ↓rcLen_tup, ↓rcLen_scr, ↓rcLen_str, ↓rcAbs_int, ↓rcMax2_ii, ↓rcMin2_ii, ↓rcListS_str, ↓rcListS_lst, ↓rcListS_tup, ↓rcTuple_lst, ↓rcTuple_tup, ↓rcAll_lst, ↓rcSum_lst, ↓rcStr_int, ↓rcStr_str, ↓rcRepr_int, ↓slK_lst, ↓slK_tup, ↓slK_str, ↓slSK_scr, ↓revK_lst, ↓inK_lst, ↓inK_tup, ↓inK_ss, ↓objK_e, ↓obK_obj, ↓obK_cel, ↓objW_obj, ↓wJs_nil, ↓wJs_cons, ↓fmtK_str, ↓fmtK_int, ↓fmtRK_str, ↓fmtRK_int, ↓joinK_lst, ↓joinK_tup, ↓noLent_nil, ↓noLent_cons, ↓wipeS_e, ↓wipeL_nil, ↓wipeL_cons, ↓pI_int, ↓pS_str, ↓pB_bl, ↓nfK_obj, ↓nfK_cel, ↓nfK_non, ↓nfK_bl, ↓nfK_int, ↓nfK_str, ↓nfK_tup, ↓nfK_lst, ↓nfK_dct, ↓slfK_e, ↓isNonT_non, ↓ofK_e, ↓derefK_lst, ↓derefK_tup, ↓derefK_str, ↓derefK_cel, ↓rcReprA_e, ↓wFmtRD_e, ↓aStar_e, ↓seqItK_lst, ↓seqItK_tup, ↓wFldC_e, ↓wMakeK_e, ↓wTryL_e, ↓wHds_nil, ↓wHds_cons, ↓revTK_tup, ↓wRevT_e, ↓rsRep_t, ↓rsRep_l, ↓wKp_e, ↓aConsF_e, ↓notSl_val, ↓notSl_fresh, ↓notSl_bor, ↓wParN_e, ↓asgN_nil, ↓asgN_cons, ↓rcMin1_lst, ↓wRaise_e, ↓wTry_e, ↓wExf_e, ↓wExI_e, ↓fldL1, ↓rcReprD_e, hrt, hf]
      exact hq

theorem sEq_g {K : PySem.W.Frag} {zs ws : List Str} {a p : BV.Slot} {c : List PV} {rt : TV → List PV → Prop} {ex : Ex → List PV → Prop} (ha : rdA a = some (tabP K zs)) (hp : rdA p = some (tabP K ws)) (h : rt (.val (.bl (decide (zs = ws)))) c) : sEq K [a, p] c rt ex := ⟨zs, a, p, _, rfl, ha, .inl ⟨ws, hp, rfl⟩, h⟩
theorem sEq_vv {K : PySem.W.Frag} {zs ws : List Str} {c : List PV} {rt : TV → List PV → Prop} {ex : Ex → List PV → Prop} : sEq K [.val (tabP K zs), .val (tabP K ws)] c rt ex = rt (.val (.bl (decide (zs = ws)))) c := propext ⟨fun ⟨zs', a, p', b, e, ha, hb, q⟩ => by
    simp only [List.cons.injEq, and_true] at e
    obtain ⟨rfl, rfl⟩ := e
    have e1 : zs = zs' := tabP_inj (Option.some.inj ha)
    subst e1
    rcases hb with ⟨ws', h', rfl⟩ | ⟨x, h', hx, rfl⟩
    · rw [tabP_inj (Option.some.inj h')]
      exact q
    · cases h'
      simp [datN] at hx, fun q => sEq_g rfl rfl q⟩
def sTold (K : PySem.W.Frag) : FW := fun args c rt _ => ∃ zs o us vs, args = [.val (tabP K zs), o, .val (.lst vs)] ∧ (o = .bor (.lst us) ∨ o = .val (.tup us)) ∧ ((∀ z ∈ zs, Ent (.str z)) ∧ (∀ x ∈ us, Ent x) ∧ (∀ x ∈ vs, Ent x) ∧ zs.length + us.length + vs.length ≤ 20) ∧ rt (.val (dueV (zs.map PV.str) us vs)) c
theorem told_ok (K : PySem.W.Frag) (h1 : PySem.W.exmOne K (.ref (He.ga K "BadForm")) (.ref (He.ga K "BadForm")) = some true) (h2 : PySem.W.exmOne K (.ref (He.ga K "TooMany")) (.ref (He.ga K "BadForm")) = some false) (h3 : PySem.W.exmOne K (.ref (He.ga K "TooMany")) (.ref (He.ga K "TooMany")) = some true) :
    ∀ args c rt ex, sTold K args c rt ex → fwOf 5 3 (w__law_told K (sForm K)) args c rt ex := by
  rintro args c rt ex ⟨zs, o, us, vs, rfl, ho, hb, hq⟩
  refine fwOf_i rfl fun E _ hrt _ => ?_
  have out : ∀ (s3 s4 o l : BV.Slot) v, v = dueV (zs.map PV.str) us vs → E.rt (.val v) ⟨[.val (tabP K zs), o, l, s3, s4], c⟩ := fun s3 s4 o l v e => by rw [hrt, e]; exact hq
  unfold w__law_told
  rcases ho with rfl | rfl
  all_goals
    simp [↓wVar_e, ↓wC_e, ↓wOp2_e, ↓wTest_e, ↓wAnd_e, ↓wOr_e, ↓wNot_e, ↓wAndV_e, ↓wOrV_e, ↓wNotV_e, ↓wIfE_e, ↓aNil_e, ↓aCons_e, ↓wLst_e, ↓wTup_e, ↓wCall_e, ↓wSet_e, ↓wSeq_e, ↓wSkip_e, ↓wIf_e, ↓wDrop_e, ↓wRet_e, ↓wRetN_e, ↓wBrk_e, ↓wCnt_e, ↓wNev_e, ↓gwName_e, ↓gwNil_e, ↓gwCons_e, ↓gwTup_e, ↓gwTupN_e, ↓wSrc_e, ↓wSrcZ_e, ↓wRng1_e, ↓wRng2_e, ↓wFor_e, ↓wLc_e, ↓wYes_e, ↓rsEq_e, ↓rsNe_e, ↓rsIn_e, ↓rsNotIn_e, ↓rsInt_e, ↓rsInt0_e, ↓rsAdd_e, ↓rsIsN_e, ↓rsNotN_e, ↓rsIx_e, ↓oNo_e, ↓oOf_e, ↓wSl_e, ↓wRev_e, ↓wNeg_e, ↓wCh_e, ↓wBlt_e, ↓rc1_e, ↓rc2_e, ↓wEn_e, ↓wChs_e, ↓wJoin_e, ↓wMut_e, ↓mfAppend_e, ↓mfPop_e, ↓mfReverse_e, ↓mfInsert_e, ↓mfExtend_e, ↓wSetIx_e, ↓wFmt_e, ↓wFmtR_e, ↓wFs_e, ↓wIsi_e, ↓wFld_e, ↓wSetF_e, ↓wSp1_e, ↓wEqO_e, ↓wInO_e, ↓wMeth_e, ↓wIxC_e, ↓rsIxS_e, ↓wSlS_e, ↓wLstC_e, ↓wTupC_e, ↓rsSub_e, ↓rsMulI_e, ↓rsFdiv_e, ↓rsMod_e, ↓rsPow_e, ↓rsLt_e, ↓rsLe_e, ↓rsGt_e, ↓rsGe_e, ↓rdK_val, ↓rdK_fresh, ↓rdK_bor, ↓rdK_slot, ↓kpK_val, ↓kpK_fresh, ↓kpK_slot, ↓retK_val, ↓retK_fresh, ↓retK_slot, ↓asgK_val, ↓asgK_bor, ↓asgK_fresh, ↓asgK_slot, ↓wrK_slot, ↓wrK_cel, ↓lstK_lst, ↓asInt_int, ↓intK_ii, ↓isBl_bl, ↓isBlT_bl, ↓strK_str, ↓itemsK_lst, ↓itemsK_tup, ↓stl_val, ↓stl_fresh, ↓stl_bor, ↓stl_slot, ↓srcK_val, ↓srcK_fresh, ↓srcK_bor, ↓srcK_slot, ↓rdAll_nil, ↓rdAll_cons, ↓kpAll_nil, ↓kpAll_cons, ↓argK_nil, ↓argK_val, ↓argK_bor, ↓argK_slot, ↓rcInt_int, ↓rcInt_bl, ↓rcLen_lst, ↓rcLen_tup, ↓rcLen_scr, ↓rcLen_str, ↓rcAbs_int, ↓rcMax2_ii, ↓rcMin2_ii, ↓rcListS_str, ↓rcListS_lst, ↓rcListS_tup, ↓rcTuple_lst, ↓rcTuple_tup, ↓rcAll_lst, ↓rcSum_lst, ↓rcStr_int, ↓rcStr_str, ↓rcRepr_int, ↓slK_lst, ↓slK_tup, ↓slK_str, ↓slSK_scr, ↓revK_lst, ↓inK_lst, ↓inK_tup, ↓inK_ss, ↓objK_e, ↓obK_obj, ↓obK_cel, ↓objW_obj, ↓wJs_nil, ↓wJs_cons, ↓fmtK_str, ↓fmtK_int, ↓fmtRK_str, ↓fmtRK_int, ↓joinK_lst, ↓joinK_tup, ↓noLent_nil, ↓noLent_cons, ↓wipeS_e, ↓wipeL_nil, ↓wipeL_cons, ↓pI_int, ↓pS_str, ↓pB_bl, ↓nfK_obj, ↓nfK_cel, ↓nfK_non, ↓nfK_bl, ↓nfK_int, ↓nfK_str, ↓nfK_tup, ↓nfK_lst, ↓nfK_dct, ↓slfK_e, ↓isNonT_non, ↓ofK_e, ↓derefK_lst, ↓derefK_tup, ↓derefK_str, ↓derefK_cel, ↓rcReprA_e, ↓wFmtRD_e, ↓aStar_e, ↓seqItK_lst, ↓seqItK_tup, ↓wFldC_e, ↓wMakeK_e, ↓wTryL_e, ↓wHds_nil, ↓wHds_cons, ↓revTK_tup, ↓wRevT_e, ↓rsRep_t, ↓rsRep_l, ↓wKp_e, ↓aConsF_e, ↓notSl_val, ↓notSl_fresh, ↓notSl_bor, ↓wParN_e, ↓asgN_nil, ↓asgN_cons, ↓rcMin1_lst, ↓wRaise_e, ↓wTry_e, ↓wExf_e, ↓wExI_e, ↓fldL1, ↓rcReprD_e, szLine, CPow, CMul, CDivN]
    refine ⟨zs, _, _, _, _, us, vs, rfl, ⟨rfl, rfl⟩, ⟨rfl, rfl⟩, hb, ?_⟩
    unfold frmK
    cases hg : goF (zs.map PV.str) (us ++ vs) with
    | some x =>
      refine .inr ⟨h1, by simp, fun a d => ?_⟩
      unfold ws__law_told_2 t__law_told_1
      simp [↓wVar_e, ↓wC_e, ↓wOp2_e, ↓wTest_e, ↓wAnd_e, ↓wOr_e, ↓wNot_e, ↓wAndV_e, ↓wOrV_e, ↓wNotV_e, ↓wIfE_e, ↓aNil_e, ↓aCons_e, ↓wLst_e, ↓wTup_e, ↓wCall_e, ↓wSet_e, ↓wSeq_e, ↓wSkip_e, ↓wIf_e, ↓wDrop_e, ↓wRet_e, ↓wRetN_e, ↓wBrk_e, ↓wCnt_e, ↓wNev_e, ↓gwName_e, ↓gwNil_e, ↓gwCons_e, ↓gwTup_e, ↓gwTupN_e, ↓wSrc_e, ↓wSrcZ_e, ↓wRng1_e, ↓wRng2_e, ↓wFor_e, ↓wLc_e, ↓wYes_e, ↓rsEq_e, ↓rsNe_e, ↓rsIn_e, ↓rsNotIn_e, ↓rsInt_e, ↓rsInt0_e, ↓rsAdd_e, ↓rsIsN_e, ↓rsNotN_e, ↓rsIx_e, ↓oNo_e, ↓oOf_e, ↓wSl_e, ↓wRev_e, ↓wNeg_e, ↓wCh_e, ↓wBlt_e, ↓rc1_e, ↓rc2_e, ↓wEn_e, ↓wChs_e, ↓wJoin_e, ↓wMut_e, ↓mfAppend_e, ↓mfPop_e, ↓mfReverse_e, ↓mfInsert_e, ↓mfExtend_e, ↓wSetIx_e, ↓wFmt_e, ↓wFmtR_e, ↓wFs_e, ↓wIsi_e, ↓wFld_e, ↓wSetF_e, ↓wSp1_e, ↓wEqO_e, ↓wInO_e, ↓wMeth_e, ↓wIxC_e, ↓rsIxS_e, ↓wSlS_e, ↓wLstC_e, ↓wTupC_e, ↓rsSub_e, ↓rsMulI_e, ↓rsFdiv_e, ↓rsMod_e, ↓rsPow_e, ↓rsLt_e, ↓rsLe_e, ↓rsGt_e, ↓rsGe_e, ↓rdK_val, ↓rdK_fresh, ↓rdK_bor, ↓rdK_slot, ↓kpK_val, ↓kpK_fresh, ↓kpK_slot, ↓retK_val, ↓retK_fresh, ↓retK_slot, ↓asgK_val, ↓asgK_bor, ↓asgK_fresh, ↓asgK_slot, ↓wrK_slot, ↓wrK_cel, ↓lstK_lst, ↓asInt_int, ↓intK_ii, ↓isBl_bl, ↓isBlT_bl, ↓strK_str, ↓itemsK_lst, ↓itemsK_tup, ↓stl_val, ↓stl_fresh, ↓stl_bor, ↓stl_slot, ↓srcK_val, ↓srcK_fresh, ↓srcK_bor, ↓srcK_slot, ↓rdAll_nil, ↓rdAll_cons, ↓kpAll_nil, ↓kpAll_cons, ↓argK_nil, ↓argK_val, ↓argK_bor, ↓argK_slot, ↓rcInt_int, ↓rcInt_bl, ↓rcLen_lst, ↓rcLen_tup, ↓rcLen_scr, ↓rcLen_str, ↓rcAbs_int, ↓rcMax2_ii, ↓rcMin2_ii, ↓rcListS_str, ↓rcListS_lst, ↓rcListS_tup, ↓rcTuple_lst, ↓rcTuple_tup, ↓rcAll_lst, ↓rcSum_lst, ↓rcStr_int, ↓rcStr_str, ↓rcRepr_int, ↓slK_lst, ↓slK_tup, ↓slK_str, ↓slSK_scr, ↓revK_lst, ↓inK_lst, ↓inK_tup, ↓inK_ss, ↓objK_e, ↓obK_obj, ↓obK_cel, ↓objW_obj, ↓wJs_nil, ↓wJs_cons, ↓fmtK_str, ↓fmtK_int, ↓fmtRK_str, ↓fmtRK_int, ↓joinK_lst, ↓joinK_tup, ↓noLent_nil, ↓noLent_cons, ↓wipeS_e, ↓wipeL_nil, ↓wipeL_cons, ↓pI_int, ↓pS_str, ↓pB_bl, ↓nfK_obj, ↓nfK_cel, ↓nfK_non, ↓nfK_bl, ↓nfK_int, ↓nfK_str, ↓nfK_tup, ↓nfK_lst, ↓nfK_dct, ↓slfK_e, ↓isNonT_non, ↓ofK_e, ↓derefK_lst, ↓derefK_tup, ↓derefK_str, ↓derefK_cel, ↓rcReprA_e, ↓wFmtRD_e, ↓aStar_e, ↓seqItK_lst, ↓seqItK_tup, ↓wFldC_e, ↓wMakeK_e, ↓wTryL_e, ↓wHds_nil, ↓wHds_cons, ↓revTK_tup, ↓wRevT_e, ↓rsRep_t, ↓rsRep_l, ↓wKp_e, ↓aConsF_e, ↓notSl_val, ↓notSl_fresh, ↓notSl_bor, ↓wParN_e, ↓asgN_nil, ↓asgN_cons, ↓rcMin1_lst, ↓wRaise_e, ↓wTry_e, ↓wExf_e, ↓wExI_e, ↓fldL1, ↓rcReprD_e, szLine, CPow, CMul, CDivN]
      exact out _ _ _ _ _ (by unfold dueV; rw [hg])
    | none =>
      by_cases g1 : 2 < us.length
      · dsimp only
        rw [if_pos g1]
        refine .inl ⟨h2, .inr ⟨h3, by simp, fun a d => ?_⟩⟩
        unfold ws__law_told_4 t__law_told_3
        simp [↓wVar_e, ↓wC_e, ↓wOp2_e, ↓wTest_e, ↓wAnd_e, ↓wOr_e, ↓wNot_e, ↓wAndV_e, ↓wOrV_e, ↓wNotV_e, ↓wIfE_e, ↓aNil_e, ↓aCons_e, ↓wLst_e, ↓wTup_e, ↓wCall_e, ↓wSet_e, ↓wSeq_e, ↓wSkip_e, ↓wIf_e, ↓wDrop_e, ↓wRet_e, ↓wRetN_e, ↓wBrk_e, ↓wCnt_e, ↓wNev_e, ↓gwName_e, ↓gwNil_e, ↓gwCons_e, ↓gwTup_e, ↓gwTupN_e, ↓wSrc_e, ↓wSrcZ_e, ↓wRng1_e, ↓wRng2_e, ↓wFor_e, ↓wLc_e, ↓wYes_e, ↓rsEq_e, ↓rsNe_e, ↓rsIn_e, ↓rsNotIn_e, ↓rsInt_e, ↓rsInt0_e, ↓rsAdd_e, ↓rsIsN_e, ↓rsNotN_e, ↓rsIx_e, ↓oNo_e, ↓oOf_e, ↓wSl_e, ↓wRev_e, ↓wNeg_e, ↓wCh_e, ↓wBlt_e, ↓rc1_e, ↓rc2_e, ↓wEn_e, ↓wChs_e, ↓wJoin_e, ↓wMut_e, ↓mfAppend_e, ↓mfPop_e, ↓mfReverse_e, ↓mfInsert_e, ↓mfExtend_e, ↓wSetIx_e, ↓wFmt_e, ↓wFmtR_e, ↓wFs_e, ↓wIsi_e, ↓wFld_e, ↓wSetF_e, ↓wSp1_e, ↓wEqO_e, ↓wInO_e, ↓wMeth_e, ↓wIxC_e, ↓rsIxS_e, ↓wSlS_e, ↓wLstC_e, ↓wTupC_e, ↓rsSub_e, ↓rsMulI_e, ↓rsFdiv_e, ↓rsMod_e, ↓rsPow_e, ↓rsLt_e, ↓rsLe_e, ↓rsGt_e, ↓rsGe_e, ↓rdK_val, ↓rdK_fresh, ↓rdK_bor, ↓rdK_slot, ↓kpK_val, ↓kpK_fresh, ↓kpK_slot, ↓retK_val, ↓retK_fresh, ↓retK_slot, ↓asgK_val, ↓asgK_bor, ↓asgK_fresh, ↓asgK_slot, ↓wrK_slot, ↓wrK_cel, ↓lstK_lst, ↓asInt_int, ↓intK_ii, ↓isBl_bl, ↓isBlT_bl, ↓strK_str, ↓itemsK_lst, ↓itemsK_tup, ↓stl_val, ↓stl_fresh, ↓stl_bor, ↓stl_slot, ↓srcK_val, ↓srcK_fresh, ↓srcK_bor, ↓srcK_slot, ↓rdAll_nil, ↓rdAll_cons, ↓kpAll_nil, ↓kpAll_cons, ↓argK_nil, ↓argK_val, ↓argK_bor, ↓argK_slot, ↓rcInt_int, ↓rcInt_bl, ↓rcLen_lst, ↓rcLen_tup, ↓rcLen_scr, ↓rcLen_str, ↓rcAbs_int, ↓rcMax2_ii, ↓rcMin2_ii, ↓rcListS_str, ↓rcListS_lst, ↓rcListS_tup, ↓rcTuple_lst, ↓rcTuple_tup, ↓rcAll_lst, ↓rcSum_lst, ↓rcStr_int, ↓rcStr_str, ↓rcRepr_int, ↓slK_lst, ↓slK_tup, ↓slK_str, ↓slSK_scr, ↓revK_lst, ↓inK_lst, ↓inK_tup, ↓inK_ss, ↓objK_e, ↓obK_obj, ↓obK_cel, ↓objW_obj, ↓wJs_nil, ↓wJs_cons, ↓fmtK_str, ↓fmtK_int, ↓fmtRK_str, ↓fmtRK_int, ↓joinK_lst, ↓joinK_tup, ↓noLent_nil, ↓noLent_cons, ↓wipeS_e, ↓wipeL_nil, ↓wipeL_cons, ↓pI_int, ↓pS_str, ↓pB_bl, ↓nfK_obj, ↓nfK_cel, ↓nfK_non, ↓nfK_bl, ↓nfK_int, ↓nfK_str, ↓nfK_tup, ↓nfK_lst, ↓nfK_dct, ↓slfK_e, ↓isNonT_non, ↓ofK_e, ↓derefK_lst, ↓derefK_tup, ↓derefK_str, ↓derefK_cel, ↓rcReprA_e, ↓wFmtRD_e, ↓aStar_e, ↓seqItK_lst, ↓seqItK_tup, ↓wFldC_e, ↓wMakeK_e, ↓wTryL_e, ↓wHds_nil, ↓wHds_cons, ↓revTK_tup, ↓wRevT_e, ↓rsRep_t, ↓rsRep_l, ↓wKp_e, ↓aConsF_e, ↓notSl_val, ↓notSl_fresh, ↓notSl_bor, ↓wParN_e, ↓asgN_nil, ↓asgN_cons, ↓rcMin1_lst, ↓wRaise_e, ↓wTry_e, ↓wExf_e, ↓wExI_e, ↓fldL1, ↓rcReprD_e, szLine, CPow, CMul, CDivN]
        exact out _ _ _ _ _ (by unfold dueV; rw [hg]; dsimp only; rw [if_pos g1])
      · by_cases g2 : 2 < vs.length
        · dsimp only
          rw [if_neg g1, if_pos g2]
          refine .inl ⟨h2, .inr ⟨h3, by simp, fun a d => ?_⟩⟩
          unfold ws__law_told_4 t__law_told_3
          simp [↓wVar_e, ↓wC_e, ↓wOp2_e, ↓wTest_e, ↓wAnd_e, ↓wOr_e, ↓wNot_e, ↓wAndV_e, ↓wOrV_e, ↓wNotV_e, ↓wIfE_e, ↓aNil_e, ↓aCons_e, ↓wLst_e, ↓wTup_e, ↓wCall_e, ↓wSet_e, ↓wSeq_e, ↓wSkip_e, ↓wIf_e, ↓wDrop_e, ↓wRet_e, ↓wRetN_e, ↓wBrk_e, ↓wCnt_e, ↓wNev_e, ↓gwName_e, ↓gwNil_e, ↓gwCons_e, ↓gwTup_e, ↓gwTupN_e, ↓wSrc_e, ↓wSrcZ_e, ↓wRng1_e, ↓wRng2_e, ↓wFor_e, ↓wLc_e, ↓wYes_e, ↓rsEq_e, ↓rsNe_e, ↓rsIn_e, ↓rsNotIn_e, ↓rsInt_e, ↓rsInt0_e, ↓rsAdd_e, ↓rsIsN_e, ↓rsNotN_e, ↓rsIx_e, ↓oNo_e, ↓oOf_e, ↓wSl_e, ↓wRev_e, ↓wNeg_e, ↓wCh_e, ↓wBlt_e, ↓rc1_e, ↓rc2_e, ↓wEn_e, ↓wChs_e, ↓wJoin_e, ↓wMut_e, ↓mfAppend_e, ↓mfPop_e, ↓mfReverse_e, ↓mfInsert_e, ↓mfExtend_e, ↓wSetIx_e, ↓wFmt_e, ↓wFmtR_e, ↓wFs_e, ↓wIsi_e, ↓wFld_e, ↓wSetF_e, ↓wSp1_e, ↓wEqO_e, ↓wInO_e, ↓wMeth_e, ↓wIxC_e, ↓rsIxS_e, ↓wSlS_e, ↓wLstC_e, ↓wTupC_e, ↓rsSub_e, ↓rsMulI_e, ↓rsFdiv_e, ↓rsMod_e, ↓rsPow_e, ↓rsLt_e, ↓rsLe_e, ↓rsGt_e, ↓rsGe_e, ↓rdK_val, ↓rdK_fresh, ↓rdK_bor, ↓rdK_slot, ↓kpK_val, ↓kpK_fresh, ↓kpK_slot, ↓retK_val, ↓retK_fresh, ↓retK_slot, ↓asgK_val, ↓asgK_bor, ↓asgK_fresh, ↓asgK_slot, ↓wrK_slot, ↓wrK_cel, ↓lstK_lst, ↓asInt_int, ↓intK_ii, ↓isBl_bl, ↓isBlT_bl, ↓strK_str, ↓itemsK_lst, ↓itemsK_tup, ↓stl_val, ↓stl_fresh, ↓stl_bor, ↓stl_slot, ↓srcK_val, ↓srcK_fresh, ↓srcK_bor, ↓srcK_slot, ↓rdAll_nil, ↓rdAll_cons, ↓kpAll_nil, ↓kpAll_cons, ↓argK_nil, ↓argK_val, ↓argK_bor, ↓argK_slot, ↓rcInt_int, ↓rcInt_bl, ↓rcLen_lst, ↓rcLen_tup, ↓rcLen_scr, ↓rcLen_str, ↓rcAbs_int, ↓rcMax2_ii, ↓rcMin2_ii, ↓rcListS_str, ↓rcListS_lst, ↓rcListS_tup, ↓rcTuple_lst, ↓rcTuple_tup, ↓rcAll_lst, ↓rcSum_lst, ↓rcStr_int, ↓rcStr_str, ↓rcRepr_int, ↓slK_lst, ↓slK_tup, ↓slK_str, ↓slSK_scr, ↓revK_lst, ↓inK_lst, ↓inK_tup, ↓inK_ss, ↓objK_e, ↓obK_obj, ↓obK_cel, ↓objW_obj, ↓wJs_nil, ↓wJs_cons, ↓fmtK_str, ↓fmtK_int, ↓fmtRK_str, ↓fmtRK_int, ↓joinK_lst, ↓joinK_tup, ↓noLent_nil, ↓noLent_cons, ↓wipeS_e, ↓wipeL_nil, ↓wipeL_cons, ↓pI_int, ↓pS_str, ↓pB_bl, ↓nfK_obj, ↓nfK_cel, ↓nfK_non, ↓nfK_bl, ↓nfK_int, ↓nfK_str, ↓nfK_tup, ↓nfK_lst, ↓nfK_dct, ↓slfK_e, ↓isNonT_non, ↓ofK_e, ↓derefK_lst, ↓derefK_tup, ↓derefK_str, ↓derefK_cel, ↓rcReprA_e, ↓wFmtRD_e, ↓aStar_e, ↓seqItK_lst, ↓seqItK_tup, ↓wFldC_e, ↓wMakeK_e, ↓wTryL_e, ↓wHds_nil, ↓wHds_cons, ↓revTK_tup, ↓wRevT_e, ↓rsRep_t, ↓rsRep_l, ↓wKp_e, ↓aConsF_e, ↓notSl_val, ↓notSl_fresh, ↓notSl_bor, ↓wParN_e, ↓asgN_nil, ↓asgN_cons, ↓rcMin1_lst, ↓wRaise_e, ↓wTry_e, ↓wExf_e, ↓wExI_e, ↓fldL1, ↓rcReprD_e, szLine, CPow, CMul, CDivN]
          exact out _ _ _ _ _ (by unfold dueV; rw [hg]; dsimp only; rw [if_neg g1, if_pos g2])
        · dsimp only
          rw [if_neg g1, if_neg g2]
          unfold t__law_told_5
          simp [↓wVar_e, ↓wC_e, ↓wOp2_e, ↓wTest_e, ↓wAnd_e, ↓wOr_e, ↓wNot_e, ↓wAndV_e, ↓wOrV_e, ↓wNotV_e, ↓wIfE_e, ↓aNil_e, ↓aCons_e, ↓wLst_e, ↓wTup_e, ↓wCall_e, ↓wSet_e, ↓wSeq_e, ↓wSkip_e, ↓wIf_e, ↓wDrop_e, ↓wRet_e, ↓wRetN_e, ↓wBrk_e, ↓wCnt_e, ↓wNev_e, ↓gwName_e, ↓gwNil_e, ↓gwCons_e, ↓gwTup_e, ↓gwTupN_e, ↓wSrc_e, ↓wSrcZ_e, ↓wRng1_e, ↓wRng2_e, ↓wFor_e, ↓wLc_e, ↓wYes_e, ↓rsEq_e, ↓rsNe_e, ↓rsIn_e, ↓rsNotIn_e, ↓rsInt_e, ↓rsInt0_e, ↓rsAdd_e, ↓rsIsN_e, ↓rsNotN_e, ↓rsIx_e, ↓oNo_e, ↓oOf_e, ↓wSl_e, ↓wRev_e, ↓wNeg_e, ↓wCh_e, ↓wBlt_e, ↓rc1_e, ↓rc2_e, ↓wEn_e, ↓wChs_e, ↓wJoin_e, ↓wMut_e, ↓mfAppend_e, ↓mfPop_e, ↓mfReverse_e, ↓mfInsert_e, ↓mfExtend_e, ↓wSetIx_e, ↓wFmt_e, ↓wFmtR_e, ↓wFs_e, ↓wIsi_e, ↓wFld_e, ↓wSetF_e, ↓wSp1_e, ↓wEqO_e, ↓wInO_e, ↓wMeth_e, ↓wIxC_e, ↓rsIxS_e, ↓wSlS_e, ↓wLstC_e, ↓wTupC_e, ↓rsSub_e, ↓rsMulI_e, ↓rsFdiv_e, ↓rsMod_e, ↓rsPow_e, ↓rsLt_e, ↓rsLe_e, ↓rsGt_e, ↓rsGe_e, ↓rdK_val, ↓rdK_fresh, ↓rdK_bor, ↓rdK_slot, ↓kpK_val, ↓kpK_fresh, ↓kpK_slot, ↓retK_val, ↓retK_fresh, ↓retK_slot, ↓asgK_val, ↓asgK_bor, ↓asgK_fresh, ↓asgK_slot, ↓wrK_slot, ↓wrK_cel, ↓lstK_lst, ↓asInt_int, ↓intK_ii, ↓isBl_bl, ↓isBlT_bl, ↓strK_str, ↓itemsK_lst, ↓itemsK_tup, ↓stl_val, ↓stl_fresh, ↓stl_bor, ↓stl_slot, ↓srcK_val, ↓srcK_fresh, ↓srcK_bor, ↓srcK_slot, ↓rdAll_nil, ↓rdAll_cons, ↓kpAll_nil, ↓kpAll_cons, ↓argK_nil, ↓argK_val, ↓argK_bor, ↓argK_slot, ↓rcInt_int, ↓rcInt_bl, ↓rcLen_lst, ↓rcLen_tup, ↓rcLen_scr, ↓rcLen_str, ↓rcAbs_int, ↓rcMax2_ii, ↓rcMin2_ii, ↓rcListS_str, ↓rcListS_lst, ↓rcListS_tup, ↓rcTuple_lst, ↓rcTuple_tup, ↓rcAll_lst, ↓rcSum_lst, ↓rcStr_int, ↓rcStr_str, ↓rcRepr_int, ↓slK_lst, ↓slK_tup, ↓slK_str, ↓slSK_scr, ↓revK_lst, ↓inK_lst, ↓inK_tup, ↓inK_ss, ↓objK_e, ↓obK_obj, ↓obK_cel, ↓objW_obj, ↓wJs_nil, ↓wJs_cons, ↓fmtK_str, ↓fmtK_int, ↓fmtRK_str, ↓fmtRK_int, ↓joinK_lst, ↓joinK_tup, ↓noLent_nil, ↓noLent_cons, ↓wipeS_e, ↓wipeL_nil, ↓wipeL_cons, ↓pI_int, ↓pS_str, ↓pB_bl, ↓nfK_obj, ↓nfK_cel, ↓nfK_non, ↓nfK_bl, ↓nfK_int, ↓nfK_str, ↓nfK_tup, ↓nfK_lst, ↓nfK_dct, ↓slfK_e, ↓isNonT_non, ↓ofK_e, ↓derefK_lst, ↓derefK_tup, ↓derefK_str, ↓derefK_cel, ↓rcReprA_e, ↓wFmtRD_e, ↓aStar_e, ↓seqItK_lst, ↓seqItK_tup, ↓wFldC_e, ↓wMakeK_e, ↓wTryL_e, ↓wHds_nil, ↓wHds_cons, ↓revTK_tup, ↓wRevT_e, ↓rsRep_t, ↓rsRep_l, ↓wKp_e, ↓aConsF_e, ↓notSl_val, ↓notSl_fresh, ↓notSl_bor, ↓wParN_e, ↓asgN_nil, ↓asgN_cons, ↓rcMin1_lst, ↓wRaise_e, ↓wTry_e, ↓wExf_e, ↓wExI_e, ↓fldL1, ↓rcReprD_e, szLine, CPow, CMul, CDivN]
          exact out _ _ _ _ _ (by unfold dueV; rw [hg]; dsimp only; rw [if_neg g1, if_neg g2])
/-- nested equality of rows of entries -/
theorem eqs_refl : ∀ xs : List PV, (∀ x ∈ xs, pvEq x x = true) → pvEqs xs xs = true
  | [], _ => by simp
  | x :: xs, h => by
    have h1 := h x (by simp)
    have h2 := eqs_refl xs fun y hy => h y (by simp [hy])
    rw [show pvEqs (x :: xs) (x :: xs) = (pvEq x x && pvEqs xs xs) by simp [pvEqs], h1, h2]; rfl
theorem okDs_all : ∀ {xs : List PV}, okDs xs = true → ∀ x ∈ xs, okD x = true
  | [], _, _, m => by cases m
  | y :: ys, h, x, m => by
    have h' : okD y = true ∧ okDs ys = true := by simpa [okDs] using h
    rcases List.mem_cons.mp m with rfl | m
    · exact h'.1
    · exact okDs_all h'.2 x m
theorem eq_refl : ∀ x : PV, okD x = true → pvEq x x = true
  | .non, _ => by simp
  | .bl _, _ => by simp
  | .int _, _ => by simp
  | .str _, _ => by simp
  | .tup xs, h => by
    have h' : okDs xs = true := by simpa [okD] using h
    have := eqs_refl xs fun x hx => eq_refl x (okDs_all h' x hx)
    simpa using this
  | .lst xs, h => by
    have h' : okDs xs = true := by simpa [okD] using h
    have := eqs_refl xs fun x hx => eq_refl x (okDs_all h' x hx)
    simpa using this
  | .dct _, h => by simp [okD] at h
  | .obj _ _, h => by simp [okD] at h
  | .cel _, h => by simp [okD] at h
  | .bag, h => by simp [okD] at h
  | .scr _, h => by simp [okD] at h
theorem ent_refl {xs : List PV} (h : ∀ x ∈ xs, Ent x) : pvEqs xs xs = true := eqs_refl xs fun x hx => eq_refl x (h x hx).ok
theorem ent_d {xs : List PV} (h : ∀ x ∈ xs, Ent x) : ∀ x ∈ xs, datN 39 x = true := fun x hx => (h x hx).dat 39 (by omega)
theorem lkT {a b c : PV} : List.lookup (Str.ofString "table") [(Str.ofString "table", a), (Str.ofString "options", b), (Str.ofString "lists", c)] = some a := rfl
theorem lkO {a b c : PV} : List.lookup (Str.ofString "options") [(Str.ofString "table", a), (Str.ofString "options", b), (Str.ofString "lists", c)] = some b := rfl
theorem lkL {a b c : PV} : List.lookup (Str.ofString "lists") [(Str.ofString "table", a), (Str.ofString "options", b), (Str.ofString "lists", c)] = some c := rfl
theorem lkP {a b c : PV} : List.lookup (Str.ofString "OPTIONS") [(Str.ofString "table", a), (Str.ofString "options", b), (Str.ofString "lists", c)] = none := rfl
theorem lkQ {a b c : PV} : List.lookup (Str.ofString "LISTS") [(Str.ofString "table", a), (Str.ofString "options", b), (Str.ofString "lists", c)] = none := rfl
def sIsF (K : PySem.W.Frag) : FW := fun args c rt _ => ∃ zs f o l us vs, args = [f, .val (.lst (zs.map PV.str)), o, l] ∧ (rdA f = some (formP K zs us vs)) ∧ (o = .val (.lst us)) ∧ (l = .val (.lst vs)) ∧ (Row zs ∧ 1 ≤ zs.length ∧ (∀ x ∈ us, Ent x) ∧ (∀ x ∈ vs, Ent x)) ∧ rt (.val (.bl true)) c
theorem isf_ok (K : PySem.W.Frag) : ∀ args c rt ex, sIsF K args c rt ex → fwOf 4 4 (w__law_is_form K (sTab K) (sEq K)) args c rt ex := by
  rintro args c rt ex ⟨zs, f, o, l, us, vs, rfl, hf, rfl, rfl, ⟨hz, z1, hu, hv⟩, hq⟩
  refine fwOf_i rfl fun E _ hrt _ => ?_
  have d1 := ent_d hu
  have d2 := ent_d hv
  have r1 := ent_refl hu
  have r2 := ent_refl hv
  unfold w__law_is_form
  rcases rdA_of hf with rfl | rfl
  all_goals
    simp [↓wVar_e, ↓wC_e, ↓wOp2_e, ↓wTest_e, ↓wAnd_e, ↓wOr_e, ↓wNot_e, ↓wAndV_e, ↓wOrV_e, ↓wNotV_e, ↓wIfE_e, ↓aNil_e, ↓aCons_e, ↓wLst_e, ↓wTup_e, ↓wCall_e, ↓wSet_e, ↓wSeq_e, ↓wSkip_e, ↓wIf_e, ↓wDrop_e, ↓wRet_e, ↓wRetN_e, ↓wBrk_e, ↓wCnt_e, ↓wNev_e, ↓gwName_e, ↓gwNil_e, ↓gwCons_e, ↓gwTup_e, ↓gwTupN_e, ↓wSrc_e, ↓wSrcZ_e, ↓wRng1_e, ↓wRng2_e, ↓wFor_e, ↓wLc_e, ↓wYes_e, ↓rsEq_e, ↓rsNe_e, ↓rsIn_e, ↓rsNotIn_e, ↓rsInt_e, ↓rsInt0_e, ↓rsAdd_e, ↓rsIsN_e, ↓rsNotN_e, ↓rsIx_e, ↓oNo_e, ↓oOf_e, ↓wSl_e, ↓wRev_e, ↓wNeg_e, ↓wCh_e, ↓wBlt_e, ↓rc1_e, ↓rc2_e, ↓wEn_e, ↓wChs_e, ↓wJoin_e, ↓wMut_e, ↓mfAppend_e, ↓mfPop_e, ↓mfReverse_e, ↓mfInsert_e, ↓mfExtend_e, ↓wSetIx_e, ↓wFmt_e, ↓wFmtR_e, ↓wFs_e, ↓wIsi_e, ↓wFld_e, ↓wSetF_e, ↓wSp1_e, ↓wEqO_e, ↓wInO_e, ↓wMeth_e, ↓wIxC_e, ↓rsIxS_e, ↓wSlS_e, ↓wLstC_e, ↓wTupC_e, ↓rsSub_e, ↓rsMulI_e, ↓rsFdiv_e, ↓rsMod_e, ↓rsPow_e, ↓rsLt_e, ↓rsLe_e, ↓rsGt_e, ↓rsGe_e, ↓rdK_val, ↓rdK_fresh, ↓rdK_bor, ↓rdK_slot, ↓kpK_val, ↓kpK_fresh, ↓kpK_slot, ↓retK_val, ↓retK_fresh, ↓retK_slot, ↓asgK_val, ↓asgK_bor, ↓asgK_fresh, ↓asgK_slot, ↓wrK_slot, ↓wrK_cel, ↓lstK_lst, ↓asInt_int, ↓intK_ii, ↓isBl_bl, ↓isBlT_bl, ↓strK_str, ↓itemsK_lst, ↓itemsK_tup, ↓stl_val, ↓stl_fresh, ↓stl_bor, ↓stl_slot, ↓srcK_val, ↓srcK_fresh, ↓srcK_bor, ↓srcK_slot, ↓rdAll_nil, ↓rdAll_cons, ↓kpAll_nil, ↓kpAll_cons, ↓argK_nil, ↓argK_val, ↓argK_bor, ↓argK_slot, ↓rcInt_int, ↓rcInt_bl, ↓rcLen_lst, ↓rcLen_tup, ↓rcLen_scr, ↓rcLen_str, ↓rcAbs_int, ↓rcMax2_ii, ↓rcMin2_ii, ↓rcListS_str, ↓rcListS_lst, ↓rcListS_tup, ↓rcTuple_lst, ↓rcTuple_tup, ↓rcAll_lst, ↓rcSum_lst, ↓rcStr_int, ↓rcStr_str, ↓rcRepr_int, ↓slK_lst, ↓slK_tup, ↓slK_str, ↓slSK_scr, ↓revK_lst, ↓inK_lst, ↓inK_tup, ↓inK_ss, ↓objK_e, ↓obK_obj, ↓obK_cel, ↓objW_obj, ↓wJs_nil, ↓wJs_cons, ↓fmtK_str, ↓fmtK_int, ↓fmtRK_str, ↓fmtRK_int, ↓joinK_lst, ↓joinK_tup, ↓noLent_nil, ↓noLent_cons, ↓wipeS_e, ↓wipeL_nil, ↓wipeL_cons, ↓pI_int, ↓pS_str, ↓pB_bl, ↓nfK_obj, ↓nfK_cel, ↓nfK_non, ↓nfK_bl, ↓nfK_int, ↓nfK_str, ↓nfK_tup, ↓nfK_lst, ↓nfK_dct, ↓slfK_e, ↓isNonT_non, ↓ofK_e, ↓derefK_lst, ↓derefK_tup, ↓derefK_str, ↓derefK_cel, ↓rcReprA_e, ↓wFmtRD_e, ↓aStar_e, ↓seqItK_lst, ↓seqItK_tup, ↓wFldC_e, ↓wMakeK_e, ↓wTryL_e, ↓wHds_nil, ↓wHds_cons, ↓revTK_tup, ↓wRevT_e, ↓rsRep_t, ↓rsRep_l, ↓wKp_e, ↓aConsF_e, ↓notSl_val, ↓notSl_fresh, ↓notSl_bor, ↓wParN_e, ↓asgN_nil, ↓asgN_cons, ↓rcMin1_lst, ↓wRaise_e, ↓wTry_e, ↓wExf_e, ↓wExI_e, ↓fldL1, ↓rcReprD_e, szLine, CPow, CMul, CDivN, ↓sTab_vl, ↓sEq_vv, lkT, lkO, lkL, hz, z1, r1, r2]
    refine ⟨d1, d2, ?_⟩
    unfold t__law_is_form_1
    simp [↓wVar_e, ↓wC_e, ↓wOp2_e, ↓wTest_e, ↓wAnd_e, ↓wOr_e, ↓wNot_e, ↓wAndV_e, ↓wOrV_e, ↓wNotV_e, ↓wIfE_e, ↓aNil_e, ↓aCons_e, ↓wLst_e, ↓wTup_e, ↓wCall_e, ↓wSet_e, ↓wSeq_e, ↓wSkip_e, ↓wIf_e, ↓wDrop_e, ↓wRet_e, ↓wRetN_e, ↓wBrk_e, ↓wCnt_e, ↓wNev_e, ↓gwName_e, ↓gwNil_e, ↓gwCons_e, ↓gwTup_e, ↓gwTupN_e, ↓wSrc_e, ↓wSrcZ_e, ↓wRng1_e, ↓wRng2_e, ↓wFor_e, ↓wLc_e, ↓wYes_e, ↓rsEq_e, ↓rsNe_e, ↓rsIn_e, ↓rsNotIn_e, ↓rsInt_e, ↓rsInt0_e, ↓rsAdd_e, ↓rsIsN_e, ↓rsNotN_e, ↓rsIx_e, ↓oNo_e, ↓oOf_e, ↓wSl_e, ↓wRev_e, ↓wNeg_e, ↓wCh_e, ↓wBlt_e, ↓rc1_e, ↓rc2_e, ↓wEn_e, ↓wChs_e, ↓wJoin_e, ↓wMut_e, ↓mfAppend_e, ↓mfPop_e, ↓mfReverse_e, ↓mfInsert_e, ↓mfExtend_e, ↓wSetIx_e, ↓wFmt_e, ↓wFmtR_e, ↓wFs_e, ↓wIsi_e, ↓wFld_e, ↓wSetF_e, ↓wSp1_e, ↓wEqO_e, ↓wInO_e, ↓wMeth_e, ↓wIxC_e, ↓rsIxS_e, ↓wSlS_e, ↓wLstC_e, ↓wTupC_e, ↓rsSub_e, ↓rsMulI_e, ↓rsFdiv_e, ↓rsMod_e, ↓rsPow_e, ↓rsLt_e, ↓rsLe_e, ↓rsGt_e, ↓rsGe_e, ↓rdK_val, ↓rdK_fresh, ↓rdK_bor, ↓rdK_slot, ↓kpK_val, ↓kpK_fresh, ↓kpK_slot, ↓retK_val, ↓retK_fresh, ↓retK_slot, ↓asgK_val, ↓asgK_bor, ↓asgK_fresh, ↓asgK_slot, ↓wrK_slot, ↓wrK_cel, ↓lstK_lst, ↓asInt_int, ↓intK_ii, ↓isBl_bl, ↓isBlT_bl, ↓strK_str, ↓itemsK_lst, ↓itemsK_tup, ↓stl_val, ↓stl_fresh, ↓stl_bor, ↓stl_slot, ↓srcK_val, ↓srcK_fresh, ↓srcK_bor, ↓srcK_slot, ↓rdAll_nil, ↓rdAll_cons, ↓kpAll_nil, ↓kpAll_cons, ↓argK_nil, ↓argK_val, ↓argK_bor, ↓argK_slot, ↓rcInt_int, ↓rcInt_bl, ↓rcLen_lst, ↓rcLen_tup, ↓rcLen_scr, ↓rcLen_str, ↓rcAbs_int, ↓rcMax2_ii, ↓rcMin2_ii, ↓rcListS_str, ↓rcListS_lst, ↓rcListS_tup, ↓rcTuple_lst, ↓rcTuple_tup, ↓rcAll_lst, ↓rcSum_lst, ↓rcStr_int, ↓rcStr_str, ↓rcRepr_int, ↓slK_lst, ↓slK_tup, ↓slK_str, ↓slSK_scr, ↓revK_lst, ↓inK_lst, ↓inK_tup, ↓inK_ss, ↓objK_e, ↓obK_obj, ↓obK_cel, ↓objW_obj, ↓wJs_nil, ↓wJs_cons, ↓fmtK_str, ↓fmtK_int, ↓fmtRK_str, ↓fmtRK_int, ↓joinK_lst, ↓joinK_tup, ↓noLent_nil, ↓noLent_cons, ↓wipeS_e, ↓wipeL_nil, ↓wipeL_cons, ↓pI_int, ↓pS_str, ↓pB_bl, ↓nfK_obj, ↓nfK_cel, ↓nfK_non, ↓nfK_bl, ↓nfK_int, ↓nfK_str, ↓nfK_tup, ↓nfK_lst, ↓nfK_dct, ↓slfK_e, ↓isNonT_non, ↓ofK_e, ↓derefK_lst, ↓derefK_tup, ↓derefK_str, ↓derefK_cel, ↓rcReprA_e, ↓wFmtRD_e, ↓aStar_e, ↓seqItK_lst, ↓seqItK_tup, ↓wFldC_e, ↓wMakeK_e, ↓wTryL_e, ↓wHds_nil, ↓wHds_cons, ↓revTK_tup, ↓wRevT_e, ↓rsRep_t, ↓rsRep_l, ↓wKp_e, ↓aConsF_e, ↓notSl_val, ↓notSl_fresh, ↓notSl_bor, ↓wParN_e, ↓asgN_nil, ↓asgN_cons, ↓rcMin1_lst, ↓wRaise_e, ↓wTry_e, ↓wExf_e, ↓wExI_e, ↓fldL1, ↓rcReprD_e, szLine, CPow, CMul, CDivN, fTup, fTy, lkO, lkL, lkP, lkQ]
    rw [hrt]
    exact hq
def sFeq (K : PySem.W.Frag) : FW := fun args c rt _ => ∃ zs us vs a p b, args = [a, p] ∧ rdA a = some (formP K zs us vs) ∧ ((∀ x ∈ us, Ent x) ∧ (∀ x ∈ vs, Ent x)) ∧
  ((∃ ws us' vs', rdA p = some (formP K ws us' vs') ∧ ((∀ x ∈ us', Ent x) ∧ (∀ x ∈ vs', Ent x)) ∧ b = (decide (zs = ws) && (pvEqs us us' && pvEqs vs vs'))) ∨ (∃ ws, rdA p = some (tabP K ws) ∧ b = false) ∨ (∃ xs, rdA p = some (.tup xs) ∧ b = false)) ∧ rt (.val (.bl b)) c
theorem feq_ok (K : PySem.W.Frag) (hTF : FA K ≠ TA K) : ∀ args c rt ex, sFeq K args c rt ex → fwOf 2 2 (w_Form___eq__ K (sEq K)) args c rt ex := by
  rintro args c rt ex ⟨zs, us, vs, a, p, b, rfl, ha, ⟨hu, hv⟩, hp, hq⟩
  refine fwOf_i rfl fun E _ hrt _ => ?_
  have d1 := ent_d hu
  have d2 := ent_d hv
  unfold w_Form___eq__
  rcases hp with ⟨ws, us', vs', hp, ⟨hu', hv'⟩, rfl⟩ | ⟨ws, hp, rfl⟩ | ⟨xs, hp, rfl⟩
  · have d3 := ent_d hu'
    have d4 := ent_d hv'
    have hf : fCls K isi_ds_Form (formP K ws us' vs') = some true := by
      simp [fCls, isi_ds_Form]
    rcases rdA_of ha with rfl | rfl <;> rcases rdA_of hp with rfl | rfl
    all_goals
      simp [↓wVar_e, ↓wC_e, ↓wOp2_e, ↓wTest_e, ↓wAnd_e, ↓wOr_e, ↓wNot_e, ↓wAndV_e, ↓wOrV_e, ↓wNotV_e, ↓wIfE_e, ↓aNil_e, ↓aCons_e, ↓wLst_e, ↓wTup_e, ↓wCall_e, ↓wSet_e, ↓wSeq_e, ↓wSkip_e, ↓wIf_e, ↓wDrop_e, ↓wRet_e, ↓wRetN_e, ↓wBrk_e, ↓wCnt_e, ↓wNev_e, ↓gwName_e, ↓gwNil_e, ↓gwCons_e, ↓gwTup_e, ↓gwTupN_e, ↓wSrc_e, ↓wSrcZ_e, ↓wRng1_e, ↓wRng2_e, ↓wFor_e, ↓wLc_e, ↓wYes_e, ↓rsEq_e, ↓rsNe_e, ↓rsIn_e, ↓rsNotIn_e, ↓rsInt_e, ↓rsInt0_e, ↓rsAdd_e, ↓rsIsN_e, ↓rsNotN_e, ↓rsIx_e, ↓oNo_e, ↓oOf_e, ↓wSl_e, ↓wRev_e, ↓wNeg_e, ↓wCh_e, ↓wBlt_e, ↓rc1_e, ↓rc2_e, ↓wEn_e, ↓wChs_e, ↓wJoin_e, ↓wMut_e, ↓mfAppend_e, ↓mfPop_e, ↓mfReverse_e, ↓mfInsert_e, ↓mfExtend_e, ↓wSetIx_e, ↓wFmt_e, ↓wFmtR_e, ↓wFs_e, ↓wIsi_e, ↓wFld_e, ↓wSetF_e, ↓wSp1_e, ↓wEqO_e, ↓wInO_e, ↓wMeth_e, ↓wIxC_e, ↓rsIxS_e, ↓wSlS_e, ↓wLstC_e, ↓wTupC_e, ↓rsSub_e, ↓rsMulI_e, ↓rsFdiv_e, ↓rsMod_e, ↓rsPow_e, ↓rsLt_e, ↓rsLe_e, ↓rsGt_e, ↓rsGe_e, ↓rdK_val, ↓rdK_fresh, ↓rdK_bor, ↓rdK_slot, ↓kpK_val, ↓kpK_fresh, ↓kpK_slot, ↓retK_val, ↓retK_fresh, ↓retK_slot, ↓asgK_val, ↓asgK_bor, ↓asgK_fresh, ↓asgK_slot, ↓wrK_slot, ↓wrK_cel, ↓lstK_lst, ↓asInt_int, ↓intK_ii, ↓isBl_bl, ↓isBlT_bl, ↓strK_str, ↓itemsK_lst, ↓itemsK_tup, ↓stl_val, ↓stl_fresh, ↓stl_bor, ↓stl_slot, ↓srcK_val, ↓srcK_fresh, ↓srcK_bor, ↓srcK_slot, ↓rdAll_nil, ↓rdAll_cons, ↓kpAll_nil, ↓kpAll_cons, ↓argK_nil, ↓argK_val, ↓argK_bor, ↓argK_slot, ↓rcInt_int, ↓rcInt_bl, ↓rcLen_lst, ↓rcLen_tup, ↓rcLen_scr, ↓rcLen_str, ↓rcAbs_int, ↓rcMax2_ii, ↓rcMin2_ii, ↓rcListS_str, ↓rcListS_lst, ↓rcListS_tup, ↓rcTuple_lst, ↓rcTuple_tup, ↓rcAll_lst, ↓rcSum_lst, ↓rcStr_int, ↓rcStr_str, ↓rcRepr_int, ↓slK_lst, ↓slK_tup, ↓slK_str, ↓slSK_scr, ↓revK_lst, ↓inK_lst, ↓inK_tup, ↓inK_ss, ↓objK_e, ↓obK_obj, ↓obK_cel, ↓objW_obj, ↓wJs_nil, ↓wJs_cons, ↓fmtK_str, ↓fmtK_int, ↓fmtRK_str, ↓fmtRK_int, ↓joinK_lst, ↓joinK_tup, ↓noLent_nil, ↓noLent_cons, ↓wipeS_e, ↓wipeL_nil, ↓wipeL_cons, ↓pI_int, ↓pS_str, ↓pB_bl, ↓nfK_obj, ↓nfK_cel, ↓nfK_non, ↓nfK_bl, ↓nfK_int, ↓nfK_str, ↓nfK_tup, ↓nfK_lst, ↓nfK_dct, ↓slfK_e, ↓isNonT_non, ↓ofK_e, ↓derefK_lst, ↓derefK_tup, ↓derefK_str, ↓derefK_cel, ↓rcReprA_e, ↓wFmtRD_e, ↓aStar_e, ↓seqItK_lst, ↓seqItK_tup, ↓wFldC_e, ↓wMakeK_e, ↓wTryL_e, ↓wHds_nil, ↓wHds_cons, ↓revTK_tup, ↓wRevT_e, ↓rsRep_t, ↓rsRep_l, ↓wKp_e, ↓aConsF_e, ↓notSl_val, ↓notSl_fresh, ↓notSl_bor, ↓wParN_e, ↓asgN_nil, ↓asgN_cons, ↓rcMin1_lst, ↓wRaise_e, ↓wTry_e, ↓wExf_e, ↓wExI_e, ↓fldL1, ↓rcReprD_e, szLine, CPow, CMul, CDivN, hf]
      unfold t_Form___eq___1
      simp [↓wVar_e, ↓wC_e, ↓wOp2_e, ↓wTest_e, ↓wAnd_e, ↓wOr_e, ↓wNot_e, ↓wAndV_e, ↓wOrV_e, ↓wNotV_e, ↓wIfE_e, ↓aNil_e, ↓aCons_e, ↓wLst_e, ↓wTup_e, ↓wCall_e, ↓wSet_e, ↓wSeq_e, ↓wSkip_e, ↓wIf_e, ↓wDrop_e, ↓wRet_e, ↓wRetN_e, ↓wBrk_e, ↓wCnt_e, ↓wNev_e, ↓gwName_e, ↓gwNil_e, ↓gwCons_e, ↓gwTup_e, ↓gwTupN_e, ↓wSrc_e, ↓wSrcZ_e, ↓wRng1_e, ↓wRng2_e, ↓wFor_e, ↓wLc_e, ↓wYes_e, ↓rsEq_e, ↓rsNe_e, ↓rsIn_e, ↓rsNotIn_e, ↓rsInt_e, ↓rsInt0_e, ↓rsAdd_e, ↓rsIsN_e, ↓rsNotN_e, ↓rsIx_e, ↓oNo_e, ↓oOf_e, ↓wSl_e, ↓wRev_e, ↓wNeg_e, ↓wCh_e, ↓wBlt_e, ↓rc1_e, ↓rc2_e, ↓wEn_e, ↓wChs_e, ↓wJoin_e, ↓wMut_e, ↓mfAppend_e, ↓mfPop_e, ↓mfReverse_e, ↓mfInsert_e, ↓mfExtend_e, ↓wSetIx_e, ↓wFmt_e, ↓wFmtR_e, ↓wFs_e, ↓wIsi_e, ↓wFld_e, ↓wSetF_e, ↓wSp1_e, ↓wEqO_e, ↓wInO_e, ↓wMeth_e, ↓wIxC_e, ↓rsIxS_e, ↓wSlS_e, ↓wLstC_e, ↓wTupC_e, ↓rsSub_e, ↓rsMulI_e, ↓rsFdiv_e, ↓rsMod_e, ↓rsPow_e, ↓rsLt_e, ↓rsLe_e, ↓rsGt_e, ↓rsGe_e, ↓rdK_val, ↓rdK_fresh, ↓rdK_bor, ↓rdK_slot, ↓kpK_val, ↓kpK_fresh, ↓kpK_slot, ↓retK_val, ↓retK_fresh, ↓retK_slot, ↓asgK_val, ↓asgK_bor, ↓asgK_fresh, ↓asgK_slot, ↓wrK_slot, ↓wrK_cel, ↓lstK_lst, ↓asInt_int, ↓intK_ii, ↓isBl_bl, ↓isBlT_bl, ↓strK_str, ↓itemsK_lst, ↓itemsK_tup, ↓stl_val, ↓stl_fresh, ↓stl_bor, ↓stl_slot, ↓srcK_val, ↓srcK_fresh, ↓srcK_bor, ↓srcK_slot, ↓rdAll_nil, ↓rdAll_cons, ↓kpAll_nil, ↓kpAll_cons, ↓argK_nil, ↓argK_val, ↓argK_bor, ↓argK_slot, ↓rcInt_int, ↓rcInt_bl, ↓rcLen_lst, ↓rcLen_tup, ↓rcLen_scr, ↓rcLen_str, ↓rcAbs_int, ↓rcMax2_ii, ↓rcMin2_ii, ↓rcListS_str, ↓rcListS_lst, ↓rcListS_tup, ↓rcTuple_lst, ↓rcTuple_tup, ↓rcAll_lst, ↓rcSum_lst, ↓rcStr_int, ↓rcStr_str, ↓rcRepr_int, ↓slK_lst, ↓slK_tup, ↓slK_str, ↓slSK_scr, ↓revK_lst, ↓inK_lst, ↓inK_tup, ↓inK_ss, ↓objK_e, ↓obK_obj, ↓obK_cel, ↓objW_obj, ↓wJs_nil, ↓wJs_cons, ↓fmtK_str, ↓fmtK_int, ↓fmtRK_str, ↓fmtRK_int, ↓joinK_lst, ↓joinK_tup, ↓noLent_nil, ↓noLent_cons, ↓wipeS_e, ↓wipeL_nil, ↓wipeL_cons, ↓pI_int, ↓pS_str, ↓pB_bl, ↓nfK_obj, ↓nfK_cel, ↓nfK_non, ↓nfK_bl, ↓nfK_int, ↓nfK_str, ↓nfK_tup, ↓nfK_lst, ↓nfK_dct, ↓slfK_e, ↓isNonT_non, ↓ofK_e, ↓derefK_lst, ↓derefK_tup, ↓derefK_str, ↓derefK_cel, ↓rcReprA_e, ↓wFmtRD_e, ↓aStar_e, ↓seqItK_lst, ↓seqItK_tup, ↓wFldC_e, ↓wMakeK_e, ↓wTryL_e, ↓wHds_nil, ↓wHds_cons, ↓revTK_tup, ↓wRevT_e, ↓rsRep_t, ↓rsRep_l, ↓wKp_e, ↓aConsF_e, ↓notSl_val, ↓notSl_fresh, ↓notSl_bor, ↓wParN_e, ↓asgN_nil, ↓asgN_cons, ↓rcMin1_lst, ↓wRaise_e, ↓wTry_e, ↓wExf_e, ↓wExI_e, ↓fldL1, ↓rcReprD_e, szLine, CPow, CMul, CDivN, ↓sEq_vv, lkT, lkO, lkL]
      refine ⟨fun h => ⟨⟨d1, d3⟩, fun h2 => ⟨⟨d2, d4⟩, ?_⟩, fun h2 => ?_⟩, fun h => ?_⟩
      · rw [hrt]; rw [decide_eq_true h, h2] at hq; exact hq
      · rw [hrt]; rw [decide_eq_true h, h2] at hq; exact hq
      · rw [hrt]; rw [decide_eq_false h] at hq; exact hq
  · have hf : fCls K isi_ds_Form (tabP K ws) = some false := by
      simp [fCls, isi_ds_Form, hTF]
    rcases rdA_of ha with rfl | rfl <;> rcases rdA_of hp with rfl | rfl
    all_goals
      simp [↓wVar_e, ↓wC_e, ↓wOp2_e, ↓wTest_e, ↓wAnd_e, ↓wOr_e, ↓wNot_e, ↓wAndV_e, ↓wOrV_e, ↓wNotV_e, ↓wIfE_e, ↓aNil_e, ↓aCons_e, ↓wLst_e, ↓wTup_e, ↓wCall_e, ↓wSet_e, ↓wSeq_e, ↓wSkip_e, ↓wIf_e, ↓wDrop_e, ↓wRet_e, ↓wRetN_e, ↓wBrk_e, ↓wCnt_e, ↓wNev_e, ↓gwName_e, ↓gwNil_e, ↓gwCons_e, ↓gwTup_e, ↓gwTupN_e, ↓wSrc_e, ↓wSrcZ_e, ↓wRng1_e, ↓wRng2_e, ↓wFor_e, ↓wLc_e, ↓wYes_e, ↓rsEq_e, ↓rsNe_e, ↓rsIn_e, ↓rsNotIn_e, ↓rsInt_e, ↓rsInt0_e, ↓rsAdd_e, ↓rsIsN_e, ↓rsNotN_e, ↓rsIx_e, ↓oNo_e, ↓oOf_e, ↓wSl_e, ↓wRev_e, ↓wNeg_e, ↓wCh_e, ↓wBlt_e, ↓rc1_e, ↓rc2_e, ↓wEn_e, ↓wChs_e, ↓wJoin_e, ↓wMut_e, ↓mfAppend_e, ↓mfPop_e, ↓mfReverse_e, ↓mfInsert_e, ↓mfExtend_e, ↓wSetIx_e, ↓wFmt_e, ↓wFmtR_e, ↓wFs_e, ↓wIsi_e, ↓wFld_e, ↓wSetF_e, ↓wSp1_e, ↓wEqO_e, ↓wInO_e, ↓wMeth_e, ↓wIxC_e, ↓rsIxS_e, ↓wSlS_e, ↓wLstC_e, ↓wTupC_e, ↓rsSub_e, ↓rsMulI_e, ↓rsFdiv_e, ↓rsMod_e, ↓rsPow_e, ↓rsLt_e, ↓rsLe_e, ↓rsGt_e, ↓rsGe_e, ↓rdK_val, ↓rdK_fresh, ↓rdK_bor, ↓rdK_slot, ↓kpK_val, ↓kpK_fresh, ↓kpK_slot, ↓retK_val, ↓retK_fresh, ↓retK_slot, ↓asgK_val, ↓asgK_bor, ↓asgK_fresh, ↓asgK_slot, ↓wrK_slot, ↓wrK_cel, ↓lstK_lst, ↓asInt_int, ↓intK_ii, ↓isBl_bl, ↓isBlT_bl, ↓strK_str, ↓itemsK_lst, ↓itemsK_tup, ↓stl_val, ↓stl_fresh, ↓stl_bor, ↓stl_slot, ↓srcK_val, ↓srcK_fresh, ↓srcK_bor, ↓srcK_slot, ↓rdAll_nil, ↓rdAll_cons, ↓kpAll_nil, ↓kpAll_cons, ↓argK_nil, ↓argK_val, ↓argK_bor, ↓argK_slot, ↓rcInt_int, ↓rcInt_bl, ↓rcLen_lst, ↓rcLen_tup, ↓rcLen_scr, ↓rcLen_str, ↓rcAbs_int, ↓rcMax2_ii, ↓rcMin2_ii, ↓rcListS_str, ↓rcListS_lst, ↓rcListS_tup, ↓rcTuple_lst, ↓rcTuple_tup, ↓rcAll_lst, ↓rcSum_lst, ↓rcStr_int, ↓rcStr_str, ↓rcRepr_int, ↓slK_lst, ↓slK_tup, ↓slK_str, ↓slSK_scr, ↓revK_lst, ↓inK_lst, ↓inK_tup, ↓inK_ss, ↓objK_e, ↓obK_obj, ↓obK_cel, ↓objW_obj, ↓wJs_nil, ↓wJs_cons, ↓fmtK_str, ↓fmtK_int, ↓fmtRK_str, ↓fmtRK_int, ↓joinK_lst, ↓joinK_tup, ↓noLent_nil, ↓noLent_cons, ↓wipeS_e, ↓wipeL_nil, ↓wipeL_cons, ↓pI_int, ↓pS_str, ↓pB_bl, ↓nfK_obj, ↓nfK_cel, ↓nfK_non, ↓nfK_bl, ↓nfK_int, ↓nfK_str, ↓nfK_tup, ↓nfK_lst, ↓nfK_dct, ↓slfK_e, ↓isNonT_non, ↓ofK_e, ↓derefK_lst, ↓derefK_tup, ↓derefK_str, ↓derefK_cel, ↓rcReprA_e, ↓wFmtRD_e, ↓aStar_e, ↓seqItK_lst, ↓seqItK_tup, ↓wFldC_e, ↓wMakeK_e, ↓wTryL_e, ↓wHds_nil, ↓wHds_cons, ↓revTK_tup, ↓wRevT_e, ↓rsRep_t, ↓rsRep_l, ↓wKp_e, ↓aConsF_e, ↓notSl_val, ↓notSl_fresh, ↓notSl_bor, ↓wParN_e, ↓asgN_nil, ↓asgN_cons, ↓rcMin1_lst, ↓wRaise_e, ↓wTry_e, ↓wExf_e, ↓wExI_e, ↓fldL1, ↓rcReprD_e, szLine, CPow, CMul, CDivN, hf, hrt]
      exact hq
  · rcases rdA_of ha with rfl | rfl <;> rcases rdA_of hp with rfl | rfl
    all_goals
      simp [↓wVar_e, ↓wC_e, ↓wOp2_e, ↓wTest_e, ↓wAnd_e, ↓wOr_e, ↓wNot_e, ↓wAndV_e, ↓wOrV_e, ↓wNotV_e, ↓wIfE_e, ↓aNil_e, ↓aCons_e, ↓wLst_e, ↓wTup_e, ↓wCall_e, ↓wSet_e, ↓wSeq_e, ↓wSkip_e, ↓wIf_e, ↓wDrop_e, ↓wRet_e, ↓wRetN_e, ↓wBrk_e, ↓wCnt_e, ↓wNev_e, ↓gwName_e, ↓gwNil_e, ↓gwCons_e, ↓gwTup_e, ↓gwTupN_e, ↓wSrc_e, ↓wSrcZ_e, ↓wRng1_e, ↓wRng2_e, ↓wFor_e, ↓wLc_e, ↓wYes_e, ↓rsEq_e, ↓rsNe_e, ↓rsIn_e, ↓rsNotIn_e, ↓rsInt_e, ↓rsInt0_e, ↓rsAdd_e, ↓rsIsN_e, ↓rsNotN_e, ↓rsIx_e, ↓oNo_e, ↓oOf_e, ↓wSl_e, ↓wRev_e, ↓wNeg_e, ↓wCh_e, ↓wBlt_e, ↓rc1_e, ↓rc2_e, ↓wEn_e, ↓wChs_e, ↓wJoin_e, ↓wMut_e, ↓mfAppend_e, ↓mfPop_e, ↓mfReverse_e, ↓mfInsert_e, ↓mfExtend_e, ↓wSetIx_e, ↓wFmt_e, ↓wFmtR_e, ↓wFs_e, ↓wIsi_e, ↓wFld_e, ↓wSetF_e, ↓wSp1_e, ↓wEqO_e, ↓wInO_e, ↓wMeth_e, ↓wIxC_e, ↓rsIxS_e, ↓wSlS_e, ↓wLstC_e, ↓wTupC_e, ↓rsSub_e, ↓rsMulI_e, ↓rsFdiv_e, ↓rsMod_e, ↓rsPow_e, ↓rsLt_e, ↓rsLe_e, ↓rsGt_e, ↓rsGe_e, ↓rdK_val, ↓rdK_fresh, ↓rdK_bor, ↓rdK_slot, ↓kpK_val, ↓kpK_fresh, ↓kpK_slot, ↓retK_val, ↓retK_fresh, ↓retK_slot, ↓asgK_val, ↓asgK_bor, ↓asgK_fresh, ↓asgK_slot, ↓wrK_slot, ↓wrK_cel, ↓lstK_lst, ↓asInt_int, ↓intK_ii, ↓isBl_bl, ↓isBlT_bl, ↓strK_str, ↓itemsK_lst, ↓itemsK_tup, ↓stl_val, ↓stl_fresh, ↓stl_bor, ↓stl_slot, ↓srcK_val, ↓srcK_fresh, ↓srcK_bor, ↓srcK_slot, ↓rdAll_nil, ↓rdAll_cons, ↓kpAll_nil, ↓kpAll_cons, ↓argK_nil, ↓argK_val, ↓argK_bor, ↓argK_slot, ↓rcInt_int, ↓rcInt_bl, ↓rcLen_lst, ↓rcLen_tup, ↓rcLen_scr, ↓rcLen_str, ↓rcAbs_int, ↓rcMax2_ii, ↓rcMin2_ii, ↓rcListS_str, ↓rcListS_lst, ↓rcListS_tup, ↓rcTuple_lst, ↓rcTuple_tup, ↓rcAll_lst, ↓rcSum_lst, ↓rcStr_int, ↓rcStr_str, ↓rcRepr_int, ↓slK_lst, ↓slK_tup, ↓slK_str, ↓slSK_scr, ↓revK_lst, ↓inK_lst, ↓inK_tup, ↓inK_ss, ↓objK_e, ↓obK_obj, ↓obK_cel, ↓objW_obj, ↓wJs_nil, ↓wJs_cons, ↓fmtK_str, ↓fmtK_int, ↓fmtRK_str, ↓fmtRK_int, ↓joinK_lst, ↓joinK_tup, ↓noLent_nil, ↓noLent_cons, ↓wipeS_e, ↓wipeL_nil, ↓wipeL_cons, ↓pI_int, ↓pS_str, ↓pB_bl, ↓nfK_obj, ↓nfK_cel, ↓nfK_non, ↓nfK_bl, ↓nfK_int, ↓nfK_str, ↓nfK_tup, ↓nfK_lst, ↓nfK_dct, ↓slfK_e, ↓isNonT_non, ↓ofK_e, ↓derefK_lst, ↓derefK_tup, ↓derefK_str, ↓derefK_cel, ↓rcReprA_e, ↓wFmtRD_e, ↓aStar_e, ↓seqItK_lst, ↓seqItK_tup, ↓wFldC_e, ↓wMakeK_e, ↓wTryL_e, ↓wHds_nil, ↓wHds_cons, ↓revTK_tup, ↓wRevT_e, ↓rsRep_t, ↓rsRep_l, ↓wKp_e, ↓aConsF_e, ↓notSl_val, ↓notSl_fresh, ↓notSl_bor, ↓wParN_e, ↓asgN_nil, ↓asgN_cons, ↓rcMin1_lst, ↓wRaise_e, ↓wTry_e, ↓wExf_e, ↓wExI_e, ↓fldL1, ↓rcReprD_e, szLine, CPow, CMul, CDivN, fCls, hrt]
      exact hq
end Lk26

namespace Lk26
open PySem L2 BV
/-- the text of a row of entries -/
theorem shown_len {xs : List PV} (hx : ∀ x ∈ xs, Ent x) (hl : xs.length ≤ 20) : okD (.lst xs) = true ∧ (toD (.lst xs)).depth ≤ 60 ∧ (shownP (.lst xs)).length ≤ 16777216 := by
  have h1 : ∀ ys : List PV, (∀ x ∈ ys, Ent x) → okDs ys = true ∧ PyData.depthAll (toDs ys) ≤ 5 ∧ piled (PyData.shownAll (toDs ys)) ≤ 302 * ys.length := by
    intro ys
    induction ys with
    | nil => intro _; exact ⟨by simp [okDs], by simp [toDs, PyData.depthAll], by simp [toDs, PyData.shownAll, piled_nil]⟩
    | cons y ys ih =>
      intro h
      obtain ⟨i1, i2, i3⟩ := ih fun x hx => h x (by simp [hx])
      have e := h y (by simp)
      have sh : ((toD y).shown).length ≤ 300 := e.sh
      refine ⟨by simp [okDs, e.ok, i1], ?_, ?_⟩
      · rw [toDs, PyData.depthAll]
        have := e.dep
        omega
      · rw [toDs, PyData.shownAll, piled_cons, List.length_cons]
        omega
  obtain ⟨h2, h3, h4⟩ := h1 xs hx
  refine ⟨by simpa [okD] using h2, ?_, ?_⟩
  · rw [toD, PyData.depth]; omega
  · have e : shownP (.lst xs) = listText (PyData.shownAll (toDs xs)) := by unfold shownP; rw [toD, PyData.shown]
    rw [e]
    have : ∀ ts : List Str, (listText ts).length ≤ piled ts + 2 := by
      intro ts
      cases ts with
      | nil => decide +kernel
      | cons t r =>
        have h := textFrom_length_pos r 1 (("[" : Str) ++ (if (0 : Nat) > 0 then ", " else "" : String) ++ t) (Nat.succ_pos 0)
        have e1 : ((("[" : Str) ++ (if (0 : Nat) > 0 then ", " else "" : String) ++ t)).length = 1 + t.length := by rw [app_len, app_len]; rfl
        have e2 : (listText (t :: r)).length = (textFrom 1 (("[" : Str) ++ (if (0 : Nat) > 0 then ", " else "" : String) ++ t) r).length + 1 := by
          show (textFrom 1 (("[" : Str) ++ (if (0 : Nat) > 0 then ", " else "" : String) ++ t) r ++ "]").length = _
          rw [app_len]; rfl
        rw [e2, h, e1, piled_cons]; omega
    have := this (PyData.shownAll (toDs xs))
    omega

theorem shK_lst {xs : List PV} (hx : ∀ x ∈ xs, Ent x) (hl : xs.length ≤ 20) {k : Str → Prop} (h : k (shownP (.lst xs))) : shK (.lst xs) k := by
  obtain ⟨o1, o2, o3⟩ := shown_len hx hl
  exact ⟨o1, o2, by rw [szLine]; exact o3, h⟩
theorem shK_due {cs us vs : List PV} (hx : ∀ x ∈ us ++ vs, Ent x) {k : Str → Prop} (h : k (shownP (dueV cs us vs))) : shK (dueV cs us vs) k := by
  have pair : ∀ (z : Str) (x : PV), Ent x → lowS z → z.length ≤ 20 → okD (.tup [.str z, x]) = true ∧ (toD (.tup [.str z, x])).depth ≤ 60 ∧ (shownP (.tup [.str z, x])).length ≤ sizeLine := fun z x hx hz hzl => by
    have ez := ent_word hz hzl
    refine ⟨by simp [okD, okDs, hx.ok], ?_, ?_⟩
    · simp only [toD, toDs, PyData.depth, PyData.depthAll]
      have := hx.dep
      omega
    · have e : shownP (.tup [.str z, x]) = tupleText [shownP (.str z), shownP x] := by
        unfold shownP
        simp only [toD, toDs, PyData.shown, PyData.shownAll]
      rw [e, szLine]
      have l1 := ez.sh
      have l2 := hx.sh
      have e2 : tupleText [shownP (.str z), shownP x] = (Str.ofString "(") ++ Str.join (Str.ofString ", ") [shownP (.str z), shownP x] ++ (Str.ofString ")") := rfl
      have e3 := join_length_add [shownP (.str z), shownP x] (by simp)
      rw [e2]
      simp only [app_len]
      simp only [piled_cons, piled_nil] at e3
      have a1 : (Str.ofString "(").length = 1 := by decide +kernel
      have a3 : (Str.ofString ")").length = 1 := by decide +kernel
      omega
  have lf : lowS "form" ∧ lowS "many" ∧ lowS "options" ∧ lowS "lists" := by unfold lowS; decide
  unfold dueV at h ⊢
  cases hx' : goF cs (us ++ vs) with
  | some x =>
    rw [hx'] at h
    dsimp only at h ⊢
    have hm : x ∈ us ++ vs := by
      have : ∀ (xs used : List PV), goF used xs = some x → x ∈ xs := by
        intro xs
        induction xs with
        | nil => intro used h; cases h
        | cons y r ih =>
          intro used h
          rw [goF] at h
          split at h
          · cases h; simp
          · exact List.mem_cons_of_mem _ (ih _ h)
      exact this _ _ hx'
    obtain ⟨p1, p2, p3⟩ := pair "form" x (hx x hm) lf.1 (by decide)
    exact ⟨p1, p2, p3, h⟩
  | none =>
    rw [hx'] at h
    dsimp only at h ⊢
    by_cases g1 : 2 < us.length
    · rw [if_pos g1] at h ⊢
      obtain ⟨p1, p2, p3⟩ := pair "many" (.str "options") (ent_word lf.2.2.1 (by decide)) lf.2.1 (by decide)
      exact ⟨p1, p2, p3, h⟩
    · rw [if_neg g1] at h ⊢
      by_cases g2 : 2 < vs.length
      · rw [if_pos g2] at h ⊢
        obtain ⟨p1, p2, p3⟩ := pair "many" (.str "lists") (ent_word lf.2.2.2 (by decide)) lf.2.1 (by decide)
        exact ⟨p1, p2, p3, h⟩
      · rw [if_neg g2] at h ⊢
        exact ⟨by decide, by decide +kernel, by decide +kernel, h⟩
theorem goF_iff : ∀ {xs used : List PV}, goF used xs = none ↔ (∀ x ∈ xs, isW x = true) ∧ (∀ x ∈ xs, memP x used = false) ∧ xs.Pairwise (fun a b => pvEq a b = false)
  | [], used => by simp [goF]
  | x :: r, used => by
    have ih := goF_iff (xs := r) (used := used ++ [x])
    have hm : ∀ y, memP y (used ++ [x]) = (memP y used || pvEq x y) := fun y => by simp [memP]
    rw [goF]
    by_cases h : (!isW x || memP x used) = true
    · rw [if_pos h]
      simp only [reduceCtorEq, false_iff]
      rintro ⟨h1, h2, h3⟩
      rw [h1 x (by simp), h2 x (by simp)] at h
      cases h
    · rw [if_neg h, ih]
      simp only [Bool.or_eq_true, not_or, Bool.not_eq_true, Bool.not_eq_false'] at h
      obtain ⟨h1, h2⟩ := h
      simp only [hm, Bool.or_eq_false_iff, List.mem_cons, forall_eq_or_imp, List.pairwise_cons]
      constructor
      · rintro ⟨a, b, c⟩
        exact ⟨⟨by simpa using h1, a⟩, ⟨h2, fun y hy => (b y hy).1⟩, fun y hy => (b y hy).2, c⟩
      · rintro ⟨⟨_, a⟩, ⟨_, b⟩, d, c⟩
        exact ⟨a, fun y hy => ⟨b y hy, d y hy⟩, c⟩
theorem isW_str {x : PV} (h : isW x = true) : ∃ z, x = .str z := by
  cases x with
  | str z => exact ⟨z, rfl⟩
  | _ => cases h
theorem goF_perm {xs ys used : List PV} (p : xs.Perm ys) (h : goF used xs = none) : goF used ys = none := by
  rw [goF_iff] at h ⊢
  obtain ⟨h1, h2, h3⟩ := h
  refine ⟨fun x hx => h1 x (p.mem_iff.mpr hx), fun x hx => h2 x (p.mem_iff.mpr hx), ?_⟩
  have e : ∀ (l : List PV), (∀ x ∈ l, isW x = true) → (l.Pairwise (fun a b => pvEq a b = false) ↔ l.Pairwise (fun a b => a ≠ b)) := fun l hl => by
    refine List.Pairwise.iff_of_mem fun {a b} ha hb => ?_
    obtain ⟨z, rfl⟩ := isW_str (hl a ha)
    obtain ⟨w, rfl⟩ := isW_str (hl b hb)
    simp [pvEq]
  rw [e _ fun x hx => h1 x (p.mem_iff.mpr hx)]
  rw [e _ h1] at h3
  exact (p.pairwise_iff (fun {a b} h => Ne.symm h)).mp h3
theorem goF_sub {xs ys used : List PV} (h : goF used (xs ++ ys) = none) : goF used ys = none := by
  rw [goF_iff] at h ⊢
  obtain ⟨h1, h2, h3⟩ := h
  exact ⟨fun x hx => h1 x (by simp [hx]), fun x hx => h2 x (by simp [hx]), (List.pairwise_append.mp h3).2.1⟩

theorem sForm_i {K : PySem.W.Frag} {zs : List Str} {o l : BV.Slot} {xo xl : PV} {us vs : List PV} {c : List PV} {rt : TV → List PV → Prop} {ex : Ex → List PV → Prop} (ho : rdA o = some xo ∧ itA xo = some us) (hl : rdA l = some xl ∧ itA xl = some vs)
    (hb : (∀ z ∈ zs, Ent (.str z)) ∧ (∀ x ∈ us, Ent x) ∧ (∀ x ∈ vs, Ent x) ∧ zs.length + us.length + vs.length ≤ 20) (hg : goF (zs.map PV.str) (us ++ vs) = none) (u2 : us.length ≤ 2) (v2 : vs.length ≤ 2) (h : rt (.fresh (formP K zs us vs)) c) : sForm K [.val (tabP K zs), o, l] c rt ex := by
  refine ⟨zs, o, l, xo, xl, us, vs, rfl, ho, hl, hb, ?_⟩
  unfold frmK
  rw [hg]
  dsimp only
  rw [if_neg (by omega), if_neg (by omega)]
  exact h
theorem sFeq_f {K : PySem.W.Frag} {zs ws : List Str} {us vs us' vs' : List PV} {a p : BV.Slot} {c : List PV} {rt : TV → List PV → Prop} {ex : Ex → List PV → Prop} (ha : rdA a = some (formP K zs us vs)) (hp : rdA p = some (formP K ws us' vs')) (e1 : (∀ x ∈ us, Ent x) ∧ (∀ x ∈ vs, Ent x)) (e2 : (∀ x ∈ us', Ent x) ∧ (∀ x ∈ vs', Ent x))
    (h : rt (.val (.bl (decide (zs = ws) && (pvEqs us us' && pvEqs vs vs')))) c) : sFeq K [a, p] c rt ex := ⟨zs, us, vs, a, p, _, rfl, ha, e1, .inl ⟨ws, us', vs', hp, e2, rfl⟩, h⟩
theorem sFeq_t {K : PySem.W.Frag} {zs ws : List Str} {us vs : List PV} {a p : BV.Slot} {c : List PV} {rt : TV → List PV → Prop} {ex : Ex → List PV → Prop} (ha : rdA a = some (formP K zs us vs)) (hp : rdA p = some (tabP K ws)) (e1 : (∀ x ∈ us, Ent x) ∧ (∀ x ∈ vs, Ent x)) (h : rt (.val (.bl false)) c) : sFeq K [a, p] c rt ex := ⟨zs, us, vs, a, p, _, rfl, ha, e1, .inr (.inl ⟨ws, hp, rfl⟩), h⟩
theorem sFeq_d {K : PySem.W.Frag} {zs : List Str} {us vs xs : List PV} {a p : BV.Slot} {c : List PV} {rt : TV → List PV → Prop} {ex : Ex → List PV → Prop} (ha : rdA a = some (formP K zs us vs)) (hp : rdA p = some (.tup xs)) (e1 : (∀ x ∈ us, Ent x) ∧ (∀ x ∈ vs, Ent x)) (h : rt (.val (.bl false)) c) : sFeq K [a, p] c rt ex := ⟨zs, us, vs, a, p, _, rfl, ha, e1, .inr (.inr ⟨xs, hp, rfl⟩), h⟩
section
variable {K : PySem.W.Frag} {c : List PV} {E : En} {n : Nat} {s0 s1 s5 s6 s7 s8 s9 s10 s13 s14 s15 s16 : BV.Slot} {zs : List Str} {us vs : List PV}
theorem eqs_nil (us : List PV) : pvEqs us [] = decide (us = []) := by
  cases us with
  | nil => simp [pvEqs]
  | cons x r => simp [pvEqs]
theorem law_2 (hz : (∀ z ∈ zs, Ent (.str z)) ∧ (∀ x ∈ us, Ent x) ∧ (∀ x ∈ vs, Ent x) ∧ zs.length + us.length + vs.length ≤ 20) (hg : goF (zs.map PV.str) (us ++ vs) = none) (u2 : us.length ≤ 2) (v2 : vs.length ≤ 2)
    (hk : E.nx ⟨[s0, s1, .val (.cel n), .val (.lst (zs.map PV.str)), .val (tabP K zs), s5, s6, s7, s8, s9, s10, .val (.lst us), .val (.lst vs), s13, s14, .own (formP K zs us vs), s16], c⟩) : t_law_2 K sBag sOf (sTab K) sWords sSpoilt sDue (sTold K) sTake (sForm K) (sIsF K) (sFeq K) ⟨[s0, s1, .val (.cel n), .val (.lst (zs.map PV.str)), .val (tabP K zs), s5, s6, s7, s8, s9, s10, .val (.lst us), .val (.lst vs), s13, s14, .own (formP K zs us vs), s16], c⟩ E := by
  obtain ⟨h1, h2, h3, h4⟩ := hz
  have dt : sFeq K [.bor (formP K zs us vs), .val (tabP K zs)] c = sFeq K [.bor (formP K zs us vs), .val (tabP K zs)] c := rfl
  unfold t_law_2
  simp [↓wVar_e, ↓wC_e, ↓wOp2_e, ↓wTest_e, ↓wAnd_e, ↓wOr_e, ↓wNot_e, ↓wAndV_e, ↓wOrV_e, ↓wNotV_e, ↓wIfE_e, ↓aNil_e, ↓aCons_e, ↓wLst_e, ↓wTup_e, ↓wCall_e, ↓wSet_e, ↓wSeq_e, ↓wSkip_e, ↓wIf_e, ↓wDrop_e, ↓wRet_e, ↓wRetN_e, ↓wBrk_e, ↓wCnt_e, ↓wNev_e, ↓gwName_e, ↓gwNil_e, ↓gwCons_e, ↓gwTup_e, ↓gwTupN_e, ↓wSrc_e, ↓wSrcZ_e, ↓wRng1_e, ↓wRng2_e, ↓wFor_e, ↓wLc_e, ↓wYes_e, ↓rsEq_e, ↓rsNe_e, ↓rsIn_e, ↓rsNotIn_e, ↓rsInt_e, ↓rsInt0_e, ↓rsAdd_e, ↓rsIsN_e, ↓rsNotN_e, ↓rsIx_e, ↓oNo_e, ↓oOf_e, ↓wSl_e, ↓wRev_e, ↓wNeg_e, ↓wCh_e, ↓wBlt_e, ↓rc1_e, ↓rc2_e, ↓wEn_e, ↓wChs_e, ↓wJoin_e, ↓wMut_e, ↓mfAppend_e, ↓mfPop_e, ↓mfReverse_e, ↓mfInsert_e, ↓mfExtend_e, ↓wSetIx_e, ↓wFmt_e, ↓wFmtR_e, ↓wFs_e, ↓wIsi_e, ↓wFld_e, ↓wSetF_e, ↓wSp1_e, ↓wEqO_e, ↓wInO_e, ↓wMeth_e, ↓wIxC_e, ↓rsIxS_e, ↓wSlS_e, ↓wLstC_e, ↓wTupC_e, ↓rsSub_e, ↓rsMulI_e, ↓rsFdiv_e, ↓rsMod_e, ↓rsPow_e, ↓rsLt_e, ↓rsLe_e, ↓rsGt_e, ↓rsGe_e, ↓rdK_val, ↓rdK_fresh, ↓rdK_bor, ↓rdK_slot, ↓kpK_val, ↓kpK_fresh, ↓kpK_slot, ↓retK_val, ↓retK_fresh, ↓retK_slot, ↓asgK_val, ↓asgK_bor, ↓asgK_fresh, ↓asgK_slot, ↓wrK_slot, ↓wrK_cel, ↓lstK_lst, ↓asInt_int, ↓intK_ii, ↓isBl_bl, ↓isBlT_bl, ↓strK_str, ↓itemsK_lst, ↓itemsK_tup, ↓stl_val, ↓stl_fresh, ↓stl_bor, ↓stl_slot, ↓srcK_val, ↓srcK_fresh, ↓srcK_bor, ↓srcK_slot, ↓rdAll_nil, ↓rdAll_cons, ↓kpAll_nil, ↓kpAll_cons, ↓argK_nil, ↓argK_val, ↓argK_bor, ↓argK_slot, ↓rcInt_int, ↓rcInt_bl, ↓rcLen_lst, ↓rcLen_tup, ↓rcLen_scr, ↓rcLen_str, ↓rcAbs_int, ↓rcMax2_ii, ↓rcMin2_ii, ↓rcListS_str, ↓rcListS_lst, ↓rcListS_tup, ↓rcTuple_lst, ↓rcTuple_tup, ↓rcAll_lst, ↓rcSum_lst, ↓rcStr_int, ↓rcStr_str, ↓rcRepr_int, ↓slK_lst, ↓slK_tup, ↓slK_str, ↓slSK_scr, ↓revK_lst, ↓inK_lst, ↓inK_tup, ↓inK_ss, ↓objK_e, ↓obK_obj, ↓obK_cel, ↓objW_obj, ↓wJs_nil, ↓wJs_cons, ↓fmtK_str, ↓fmtK_int, ↓fmtRK_str, ↓fmtRK_int, ↓joinK_lst, ↓joinK_tup, ↓noLent_nil, ↓noLent_cons, ↓wipeS_e, ↓wipeL_nil, ↓wipeL_cons, ↓pI_int, ↓pS_str, ↓pB_bl, ↓nfK_obj, ↓nfK_cel, ↓nfK_non, ↓nfK_bl, ↓nfK_int, ↓nfK_str, ↓nfK_tup, ↓nfK_lst, ↓nfK_dct, ↓slfK_e, ↓isNonT_non, ↓ofK_e, ↓derefK_lst, ↓derefK_tup, ↓derefK_str, ↓derefK_cel, ↓rcReprA_e, ↓wFmtRD_e, ↓aStar_e, ↓seqItK_lst, ↓seqItK_tup, ↓wFldC_e, ↓wMakeK_e, ↓wTryL_e, ↓wHds_nil, ↓wHds_cons, ↓revTK_tup, ↓wRevT_e, ↓rsRep_t, ↓rsRep_l, ↓wKp_e, ↓aConsF_e, ↓notSl_val, ↓notSl_fresh, ↓notSl_bor, ↓wParN_e, ↓asgN_nil, ↓asgN_cons, ↓rcMin1_lst, ↓wRaise_e, ↓wTry_e, ↓wExf_e, ↓wExI_e, ↓fldL1, ↓rcReprD_e, szLine, CPow, CMul, CDivN]
  refine sForm_i ⟨rfl, rfl⟩ ⟨rfl, rfl⟩ ⟨h1, by simp, h3, by simp; omega⟩ (by simpa using goF_sub hg) (by simp) v2 ?_
  simp [↓wVar_e, ↓wC_e, ↓wOp2_e, ↓wTest_e, ↓wAnd_e, ↓wOr_e, ↓wNot_e, ↓wAndV_e, ↓wOrV_e, ↓wNotV_e, ↓wIfE_e, ↓aNil_e, ↓aCons_e, ↓wLst_e, ↓wTup_e, ↓wCall_e, ↓wSet_e, ↓wSeq_e, ↓wSkip_e, ↓wIf_e, ↓wDrop_e, ↓wRet_e, ↓wRetN_e, ↓wBrk_e, ↓wCnt_e, ↓wNev_e, ↓gwName_e, ↓gwNil_e, ↓gwCons_e, ↓gwTup_e, ↓gwTupN_e, ↓wSrc_e, ↓wSrcZ_e, ↓wRng1_e, ↓wRng2_e, ↓wFor_e, ↓wLc_e, ↓wYes_e, ↓rsEq_e, ↓rsNe_e, ↓rsIn_e, ↓rsNotIn_e, ↓rsInt_e, ↓rsInt0_e, ↓rsAdd_e, ↓rsIsN_e, ↓rsNotN_e, ↓rsIx_e, ↓oNo_e, ↓oOf_e, ↓wSl_e, ↓wRev_e, ↓wNeg_e, ↓wCh_e, ↓wBlt_e, ↓rc1_e, ↓rc2_e, ↓wEn_e, ↓wChs_e, ↓wJoin_e, ↓wMut_e, ↓mfAppend_e, ↓mfPop_e, ↓mfReverse_e, ↓mfInsert_e, ↓mfExtend_e, ↓wSetIx_e, ↓wFmt_e, ↓wFmtR_e, ↓wFs_e, ↓wIsi_e, ↓wFld_e, ↓wSetF_e, ↓wSp1_e, ↓wEqO_e, ↓wInO_e, ↓wMeth_e, ↓wIxC_e, ↓rsIxS_e, ↓wSlS_e, ↓wLstC_e, ↓wTupC_e, ↓rsSub_e, ↓rsMulI_e, ↓rsFdiv_e, ↓rsMod_e, ↓rsPow_e, ↓rsLt_e, ↓rsLe_e, ↓rsGt_e, ↓rsGe_e, ↓rdK_val, ↓rdK_fresh, ↓rdK_bor, ↓rdK_slot, ↓kpK_val, ↓kpK_fresh, ↓kpK_slot, ↓retK_val, ↓retK_fresh, ↓retK_slot, ↓asgK_val, ↓asgK_bor, ↓asgK_fresh, ↓asgK_slot, ↓wrK_slot, ↓wrK_cel, ↓lstK_lst, ↓asInt_int, ↓intK_ii, ↓isBl_bl, ↓isBlT_bl, ↓strK_str, ↓itemsK_lst, ↓itemsK_tup, ↓stl_val, ↓stl_fresh, ↓stl_bor, ↓stl_slot, ↓srcK_val, ↓srcK_fresh, ↓srcK_bor, ↓srcK_slot, ↓rdAll_nil, ↓rdAll_cons, ↓kpAll_nil, ↓kpAll_cons, ↓argK_nil, ↓argK_val, ↓argK_bor, ↓argK_slot, ↓rcInt_int, ↓rcInt_bl, ↓rcLen_lst, ↓rcLen_tup, ↓rcLen_scr, ↓rcLen_str, ↓rcAbs_int, ↓rcMax2_ii, ↓rcMin2_ii, ↓rcListS_str, ↓rcListS_lst, ↓rcListS_tup, ↓rcTuple_lst, ↓rcTuple_tup, ↓rcAll_lst, ↓rcSum_lst, ↓rcStr_int, ↓rcStr_str, ↓rcRepr_int, ↓slK_lst, ↓slK_tup, ↓slK_str, ↓slSK_scr, ↓revK_lst, ↓inK_lst, ↓inK_tup, ↓inK_ss, ↓objK_e, ↓obK_obj, ↓obK_cel, ↓objW_obj, ↓wJs_nil, ↓wJs_cons, ↓fmtK_str, ↓fmtK_int, ↓fmtRK_str, ↓fmtRK_int, ↓joinK_lst, ↓joinK_tup, ↓noLent_nil, ↓noLent_cons, ↓wipeS_e, ↓wipeL_nil, ↓wipeL_cons, ↓pI_int, ↓pS_str, ↓pB_bl, ↓nfK_obj, ↓nfK_cel, ↓nfK_non, ↓nfK_bl, ↓nfK_int, ↓nfK_str, ↓nfK_tup, ↓nfK_lst, ↓nfK_dct, ↓slfK_e, ↓isNonT_non, ↓ofK_e, ↓derefK_lst, ↓derefK_tup, ↓derefK_str, ↓derefK_cel, ↓rcReprA_e, ↓wFmtRD_e, ↓aStar_e, ↓seqItK_lst, ↓seqItK_tup, ↓wFldC_e, ↓wMakeK_e, ↓wTryL_e, ↓wHds_nil, ↓wHds_cons, ↓revTK_tup, ↓wRevT_e, ↓rsRep_t, ↓rsRep_l, ↓wKp_e, ↓aConsF_e, ↓notSl_val, ↓notSl_fresh, ↓notSl_bor, ↓wParN_e, ↓asgN_nil, ↓asgN_cons, ↓rcMin1_lst, ↓wRaise_e, ↓wTry_e, ↓wExf_e, ↓wExI_e, ↓fldL1, ↓rcReprD_e, szLine, CPow, CMul, CDivN]
  refine sFeq_f rfl rfl ⟨h2, h3⟩ ⟨by simp, h3⟩ ?_
  rw [eqs_nil]
  have fin : sFeq K [.bor (formP K zs us vs), .val (tabP K zs)] c (fun r c' => r = .val (.bl false) ∧ c' = c) (fun _ _ => False) := sFeq_t rfl rfl ⟨h2, h3⟩ ⟨rfl, rfl⟩
  have rest : ∀ (rt : TV → List PV → Prop), rt (.val (.bl false)) c → sFeq K [.bor (formP K zs us vs), .val (tabP K zs)] c rt (fun _ _ => False) := fun rt h => sFeq_t rfl rfl ⟨h2, h3⟩ h
  have rest2 : ∀ (rt : TV → List PV → Prop), rt (.val (.bl false)) c → sFeq K [.bor (formP K zs us vs), .val (.tup us)] c rt (fun _ _ => False) := fun rt h => sFeq_d rfl rfl ⟨h2, h3⟩ h
  by_cases he : us = []
  · simp [↓wVar_e, ↓wC_e, ↓wOp2_e, ↓wTest_e, ↓wAnd_e, ↓wOr_e, ↓wNot_e, ↓wAndV_e, ↓wOrV_e, ↓wNotV_e, ↓wIfE_e, ↓aNil_e, ↓aCons_e, ↓wLst_e, ↓wTup_e, ↓wCall_e, ↓wSet_e, ↓wSeq_e, ↓wSkip_e, ↓wIf_e, ↓wDrop_e, ↓wRet_e, ↓wRetN_e, ↓wBrk_e, ↓wCnt_e, ↓wNev_e, ↓gwName_e, ↓gwNil_e, ↓gwCons_e, ↓gwTup_e, ↓gwTupN_e, ↓wSrc_e, ↓wSrcZ_e, ↓wRng1_e, ↓wRng2_e, ↓wFor_e, ↓wLc_e, ↓wYes_e, ↓rsEq_e, ↓rsNe_e, ↓rsIn_e, ↓rsNotIn_e, ↓rsInt_e, ↓rsInt0_e, ↓rsAdd_e, ↓rsIsN_e, ↓rsNotN_e, ↓rsIx_e, ↓oNo_e, ↓oOf_e, ↓wSl_e, ↓wRev_e, ↓wNeg_e, ↓wCh_e, ↓wBlt_e, ↓rc1_e, ↓rc2_e, ↓wEn_e, ↓wChs_e, ↓wJoin_e, ↓wMut_e, ↓mfAppend_e, ↓mfPop_e, ↓mfReverse_e, ↓mfInsert_e, ↓mfExtend_e, ↓wSetIx_e, ↓wFmt_e, ↓wFmtR_e, ↓wFs_e, ↓wIsi_e, ↓wFld_e, ↓wSetF_e, ↓wSp1_e, ↓wEqO_e, ↓wInO_e, ↓wMeth_e, ↓wIxC_e, ↓rsIxS_e, ↓wSlS_e, ↓wLstC_e, ↓wTupC_e, ↓rsSub_e, ↓rsMulI_e, ↓rsFdiv_e, ↓rsMod_e, ↓rsPow_e, ↓rsLt_e, ↓rsLe_e, ↓rsGt_e, ↓rsGe_e, ↓rdK_val, ↓rdK_fresh, ↓rdK_bor, ↓rdK_slot, ↓kpK_val, ↓kpK_fresh, ↓kpK_slot, ↓retK_val, ↓retK_fresh, ↓retK_slot, ↓asgK_val, ↓asgK_bor, ↓asgK_fresh, ↓asgK_slot, ↓wrK_slot, ↓wrK_cel, ↓lstK_lst, ↓asInt_int, ↓intK_ii, ↓isBl_bl, ↓isBlT_bl, ↓strK_str, ↓itemsK_lst, ↓itemsK_tup, ↓stl_val, ↓stl_fresh, ↓stl_bor, ↓stl_slot, ↓srcK_val, ↓srcK_fresh, ↓srcK_bor, ↓srcK_slot, ↓rdAll_nil, ↓rdAll_cons, ↓kpAll_nil, ↓kpAll_cons, ↓argK_nil, ↓argK_val, ↓argK_bor, ↓argK_slot, ↓rcInt_int, ↓rcInt_bl, ↓rcLen_lst, ↓rcLen_tup, ↓rcLen_scr, ↓rcLen_str, ↓rcAbs_int, ↓rcMax2_ii, ↓rcMin2_ii, ↓rcListS_str, ↓rcListS_lst, ↓rcListS_tup, ↓rcTuple_lst, ↓rcTuple_tup, ↓rcAll_lst, ↓rcSum_lst, ↓rcStr_int, ↓rcStr_str, ↓rcRepr_int, ↓slK_lst, ↓slK_tup, ↓slK_str, ↓slSK_scr, ↓revK_lst, ↓inK_lst, ↓inK_tup, ↓inK_ss, ↓objK_e, ↓obK_obj, ↓obK_cel, ↓objW_obj, ↓wJs_nil, ↓wJs_cons, ↓fmtK_str, ↓fmtK_int, ↓fmtRK_str, ↓fmtRK_int, ↓joinK_lst, ↓joinK_tup, ↓noLent_nil, ↓noLent_cons, ↓wipeS_e, ↓wipeL_nil, ↓wipeL_cons, ↓pI_int, ↓pS_str, ↓pB_bl, ↓nfK_obj, ↓nfK_cel, ↓nfK_non, ↓nfK_bl, ↓nfK_int, ↓nfK_str, ↓nfK_tup, ↓nfK_lst, ↓nfK_dct, ↓slfK_e, ↓isNonT_non, ↓ofK_e, ↓derefK_lst, ↓derefK_tup, ↓derefK_str, ↓derefK_cel, ↓rcReprA_e, ↓wFmtRD_e, ↓aStar_e, ↓seqItK_lst, ↓seqItK_tup, ↓wFldC_e, ↓wMakeK_e, ↓wTryL_e, ↓wHds_nil, ↓wHds_cons, ↓revTK_tup, ↓wRevT_e, ↓rsRep_t, ↓rsRep_l, ↓wKp_e, ↓aConsF_e, ↓notSl_val, ↓notSl_fresh, ↓notSl_bor, ↓wParN_e, ↓asgN_nil, ↓asgN_cons, ↓rcMin1_lst, ↓wRaise_e, ↓wTry_e, ↓wExf_e, ↓wExI_e, ↓fldL1, ↓rcReprD_e, szLine, CPow, CMul, CDivN, he, ent_refl h3]
    subst he
    refine rest _ ?_
    simp [↓wVar_e, ↓wC_e, ↓wOp2_e, ↓wTest_e, ↓wAnd_e, ↓wOr_e, ↓wNot_e, ↓wAndV_e, ↓wOrV_e, ↓wNotV_e, ↓wIfE_e, ↓aNil_e, ↓aCons_e, ↓wLst_e, ↓wTup_e, ↓wCall_e, ↓wSet_e, ↓wSeq_e, ↓wSkip_e, ↓wIf_e, ↓wDrop_e, ↓wRet_e, ↓wRetN_e, ↓wBrk_e, ↓wCnt_e, ↓wNev_e, ↓gwName_e, ↓gwNil_e, ↓gwCons_e, ↓gwTup_e, ↓gwTupN_e, ↓wSrc_e, ↓wSrcZ_e, ↓wRng1_e, ↓wRng2_e, ↓wFor_e, ↓wLc_e, ↓wYes_e, ↓rsEq_e, ↓rsNe_e, ↓rsIn_e, ↓rsNotIn_e, ↓rsInt_e, ↓rsInt0_e, ↓rsAdd_e, ↓rsIsN_e, ↓rsNotN_e, ↓rsIx_e, ↓oNo_e, ↓oOf_e, ↓wSl_e, ↓wRev_e, ↓wNeg_e, ↓wCh_e, ↓wBlt_e, ↓rc1_e, ↓rc2_e, ↓wEn_e, ↓wChs_e, ↓wJoin_e, ↓wMut_e, ↓mfAppend_e, ↓mfPop_e, ↓mfReverse_e, ↓mfInsert_e, ↓mfExtend_e, ↓wSetIx_e, ↓wFmt_e, ↓wFmtR_e, ↓wFs_e, ↓wIsi_e, ↓wFld_e, ↓wSetF_e, ↓wSp1_e, ↓wEqO_e, ↓wInO_e, ↓wMeth_e, ↓wIxC_e, ↓rsIxS_e, ↓wSlS_e, ↓wLstC_e, ↓wTupC_e, ↓rsSub_e, ↓rsMulI_e, ↓rsFdiv_e, ↓rsMod_e, ↓rsPow_e, ↓rsLt_e, ↓rsLe_e, ↓rsGt_e, ↓rsGe_e, ↓rdK_val, ↓rdK_fresh, ↓rdK_bor, ↓rdK_slot, ↓kpK_val, ↓kpK_fresh, ↓kpK_slot, ↓retK_val, ↓retK_fresh, ↓retK_slot, ↓asgK_val, ↓asgK_bor, ↓asgK_fresh, ↓asgK_slot, ↓wrK_slot, ↓wrK_cel, ↓lstK_lst, ↓asInt_int, ↓intK_ii, ↓isBl_bl, ↓isBlT_bl, ↓strK_str, ↓itemsK_lst, ↓itemsK_tup, ↓stl_val, ↓stl_fresh, ↓stl_bor, ↓stl_slot, ↓srcK_val, ↓srcK_fresh, ↓srcK_bor, ↓srcK_slot, ↓rdAll_nil, ↓rdAll_cons, ↓kpAll_nil, ↓kpAll_cons, ↓argK_nil, ↓argK_val, ↓argK_bor, ↓argK_slot, ↓rcInt_int, ↓rcInt_bl, ↓rcLen_lst, ↓rcLen_tup, ↓rcLen_scr, ↓rcLen_str, ↓rcAbs_int, ↓rcMax2_ii, ↓rcMin2_ii, ↓rcListS_str, ↓rcListS_lst, ↓rcListS_tup, ↓rcTuple_lst, ↓rcTuple_tup, ↓rcAll_lst, ↓rcSum_lst, ↓rcStr_int, ↓rcStr_str, ↓rcRepr_int, ↓slK_lst, ↓slK_tup, ↓slK_str, ↓slSK_scr, ↓revK_lst, ↓inK_lst, ↓inK_tup, ↓inK_ss, ↓objK_e, ↓obK_obj, ↓obK_cel, ↓objW_obj, ↓wJs_nil, ↓wJs_cons, ↓fmtK_str, ↓fmtK_int, ↓fmtRK_str, ↓fmtRK_int, ↓joinK_lst, ↓joinK_tup, ↓noLent_nil, ↓noLent_cons, ↓wipeS_e, ↓wipeL_nil, ↓wipeL_cons, ↓pI_int, ↓pS_str, ↓pB_bl, ↓nfK_obj, ↓nfK_cel, ↓nfK_non, ↓nfK_bl, ↓nfK_int, ↓nfK_str, ↓nfK_tup, ↓nfK_lst, ↓nfK_dct, ↓slfK_e, ↓isNonT_non, ↓ofK_e, ↓derefK_lst, ↓derefK_tup, ↓derefK_str, ↓derefK_cel, ↓rcReprA_e, ↓wFmtRD_e, ↓aStar_e, ↓seqItK_lst, ↓seqItK_tup, ↓wFldC_e, ↓wMakeK_e, ↓wTryL_e, ↓wHds_nil, ↓wHds_cons, ↓revTK_tup, ↓wRevT_e, ↓rsRep_t, ↓rsRep_l, ↓wKp_e, ↓aConsF_e, ↓notSl_val, ↓notSl_fresh, ↓notSl_bor, ↓wParN_e, ↓asgN_nil, ↓asgN_cons, ↓rcMin1_lst, ↓wRaise_e, ↓wTry_e, ↓wExf_e, ↓wExI_e, ↓fldL1, ↓rcReprD_e, szLine, CPow, CMul, CDivN]
    refine rest2 _ ?_
    simp [↓wVar_e, ↓wC_e, ↓wOp2_e, ↓wTest_e, ↓wAnd_e, ↓wOr_e, ↓wNot_e, ↓wAndV_e, ↓wOrV_e, ↓wNotV_e, ↓wIfE_e, ↓aNil_e, ↓aCons_e, ↓wLst_e, ↓wTup_e, ↓wCall_e, ↓wSet_e, ↓wSeq_e, ↓wSkip_e, ↓wIf_e, ↓wDrop_e, ↓wRet_e, ↓wRetN_e, ↓wBrk_e, ↓wCnt_e, ↓wNev_e, ↓gwName_e, ↓gwNil_e, ↓gwCons_e, ↓gwTup_e, ↓gwTupN_e, ↓wSrc_e, ↓wSrcZ_e, ↓wRng1_e, ↓wRng2_e, ↓wFor_e, ↓wLc_e, ↓wYes_e, ↓rsEq_e, ↓rsNe_e, ↓rsIn_e, ↓rsNotIn_e, ↓rsInt_e, ↓rsInt0_e, ↓rsAdd_e, ↓rsIsN_e, ↓rsNotN_e, ↓rsIx_e, ↓oNo_e, ↓oOf_e, ↓wSl_e, ↓wRev_e, ↓wNeg_e, ↓wCh_e, ↓wBlt_e, ↓rc1_e, ↓rc2_e, ↓wEn_e, ↓wChs_e, ↓wJoin_e, ↓wMut_e, ↓mfAppend_e, ↓mfPop_e, ↓mfReverse_e, ↓mfInsert_e, ↓mfExtend_e, ↓wSetIx_e, ↓wFmt_e, ↓wFmtR_e, ↓wFs_e, ↓wIsi_e, ↓wFld_e, ↓wSetF_e, ↓wSp1_e, ↓wEqO_e, ↓wInO_e, ↓wMeth_e, ↓wIxC_e, ↓rsIxS_e, ↓wSlS_e, ↓wLstC_e, ↓wTupC_e, ↓rsSub_e, ↓rsMulI_e, ↓rsFdiv_e, ↓rsMod_e, ↓rsPow_e, ↓rsLt_e, ↓rsLe_e, ↓rsGt_e, ↓rsGe_e, ↓rdK_val, ↓rdK_fresh, ↓rdK_bor, ↓rdK_slot, ↓kpK_val, ↓kpK_fresh, ↓kpK_slot, ↓retK_val, ↓retK_fresh, ↓retK_slot, ↓asgK_val, ↓asgK_bor, ↓asgK_fresh, ↓asgK_slot, ↓wrK_slot, ↓wrK_cel, ↓lstK_lst, ↓asInt_int, ↓intK_ii, ↓isBl_bl, ↓isBlT_bl, ↓strK_str, ↓itemsK_lst, ↓itemsK_tup, ↓stl_val, ↓stl_fresh, ↓stl_bor, ↓stl_slot, ↓srcK_val, ↓srcK_fresh, ↓srcK_bor, ↓srcK_slot, ↓rdAll_nil, ↓rdAll_cons, ↓kpAll_nil, ↓kpAll_cons, ↓argK_nil, ↓argK_val, ↓argK_bor, ↓argK_slot, ↓rcInt_int, ↓rcInt_bl, ↓rcLen_lst, ↓rcLen_tup, ↓rcLen_scr, ↓rcLen_str, ↓rcAbs_int, ↓rcMax2_ii, ↓rcMin2_ii, ↓rcListS_str, ↓rcListS_lst, ↓rcListS_tup, ↓rcTuple_lst, ↓rcTuple_tup, ↓rcAll_lst, ↓rcSum_lst, ↓rcStr_int, ↓rcStr_str, ↓rcRepr_int, ↓slK_lst, ↓slK_tup, ↓slK_str, ↓slSK_scr, ↓revK_lst, ↓inK_lst, ↓inK_tup, ↓inK_ss, ↓objK_e, ↓obK_obj, ↓obK_cel, ↓objW_obj, ↓wJs_nil, ↓wJs_cons, ↓fmtK_str, ↓fmtK_int, ↓fmtRK_str, ↓fmtRK_int, ↓joinK_lst, ↓joinK_tup, ↓noLent_nil, ↓noLent_cons, ↓wipeS_e, ↓wipeL_nil, ↓wipeL_cons, ↓pI_int, ↓pS_str, ↓pB_bl, ↓nfK_obj, ↓nfK_cel, ↓nfK_non, ↓nfK_bl, ↓nfK_int, ↓nfK_str, ↓nfK_tup, ↓nfK_lst, ↓nfK_dct, ↓slfK_e, ↓isNonT_non, ↓ofK_e, ↓derefK_lst, ↓derefK_tup, ↓derefK_str, ↓derefK_cel, ↓rcReprA_e, ↓wFmtRD_e, ↓aStar_e, ↓seqItK_lst, ↓seqItK_tup, ↓wFldC_e, ↓wMakeK_e, ↓wTryL_e, ↓wHds_nil, ↓wHds_cons, ↓revTK_tup, ↓wRevT_e, ↓rsRep_t, ↓rsRep_l, ↓wKp_e, ↓aConsF_e, ↓notSl_val, ↓notSl_fresh, ↓notSl_bor, ↓wParN_e, ↓asgN_nil, ↓asgN_cons, ↓rcMin1_lst, ↓wRaise_e, ↓wTry_e, ↓wExf_e, ↓wExI_e, ↓fldL1, ↓rcReprD_e, szLine, CPow, CMul, CDivN]
    exact hk
  · simp [↓wVar_e, ↓wC_e, ↓wOp2_e, ↓wTest_e, ↓wAnd_e, ↓wOr_e, ↓wNot_e, ↓wAndV_e, ↓wOrV_e, ↓wNotV_e, ↓wIfE_e, ↓aNil_e, ↓aCons_e, ↓wLst_e, ↓wTup_e, ↓wCall_e, ↓wSet_e, ↓wSeq_e, ↓wSkip_e, ↓wIf_e, ↓wDrop_e, ↓wRet_e, ↓wRetN_e, ↓wBrk_e, ↓wCnt_e, ↓wNev_e, ↓gwName_e, ↓gwNil_e, ↓gwCons_e, ↓gwTup_e, ↓gwTupN_e, ↓wSrc_e, ↓wSrcZ_e, ↓wRng1_e, ↓wRng2_e, ↓wFor_e, ↓wLc_e, ↓wYes_e, ↓rsEq_e, ↓rsNe_e, ↓rsIn_e, ↓rsNotIn_e, ↓rsInt_e, ↓rsInt0_e, ↓rsAdd_e, ↓rsIsN_e, ↓rsNotN_e, ↓rsIx_e, ↓oNo_e, ↓oOf_e, ↓wSl_e, ↓wRev_e, ↓wNeg_e, ↓wCh_e, ↓wBlt_e, ↓rc1_e, ↓rc2_e, ↓wEn_e, ↓wChs_e, ↓wJoin_e, ↓wMut_e, ↓mfAppend_e, ↓mfPop_e, ↓mfReverse_e, ↓mfInsert_e, ↓mfExtend_e, ↓wSetIx_e, ↓wFmt_e, ↓wFmtR_e, ↓wFs_e, ↓wIsi_e, ↓wFld_e, ↓wSetF_e, ↓wSp1_e, ↓wEqO_e, ↓wInO_e, ↓wMeth_e, ↓wIxC_e, ↓rsIxS_e, ↓wSlS_e, ↓wLstC_e, ↓wTupC_e, ↓rsSub_e, ↓rsMulI_e, ↓rsFdiv_e, ↓rsMod_e, ↓rsPow_e, ↓rsLt_e, ↓rsLe_e, ↓rsGt_e, ↓rsGe_e, ↓rdK_val, ↓rdK_fresh, ↓rdK_bor, ↓rdK_slot, ↓kpK_val, ↓kpK_fresh, ↓kpK_slot, ↓retK_val, ↓retK_fresh, ↓retK_slot, ↓asgK_val, ↓asgK_bor, ↓asgK_fresh, ↓asgK_slot, ↓wrK_slot, ↓wrK_cel, ↓lstK_lst, ↓asInt_int, ↓intK_ii, ↓isBl_bl, ↓isBlT_bl, ↓strK_str, ↓itemsK_lst, ↓itemsK_tup, ↓stl_val, ↓stl_fresh, ↓stl_bor, ↓stl_slot, ↓srcK_val, ↓srcK_fresh, ↓srcK_bor, ↓srcK_slot, ↓rdAll_nil, ↓rdAll_cons, ↓kpAll_nil, ↓kpAll_cons, ↓argK_nil, ↓argK_val, ↓argK_bor, ↓argK_slot, ↓rcInt_int, ↓rcInt_bl, ↓rcLen_lst, ↓rcLen_tup, ↓rcLen_scr, ↓rcLen_str, ↓rcAbs_int, ↓rcMax2_ii, ↓rcMin2_ii, ↓rcListS_str, ↓rcListS_lst, ↓rcListS_tup, ↓rcTuple_lst, ↓rcTuple_tup, ↓rcAll_lst, ↓rcSum_lst, ↓rcStr_int, ↓rcStr_str, ↓rcRepr_int, ↓slK_lst, ↓slK_tup, ↓slK_str, ↓slSK_scr, ↓revK_lst, ↓inK_lst, ↓inK_tup, ↓inK_ss, ↓objK_e, ↓obK_obj, ↓obK_cel, ↓objW_obj, ↓wJs_nil, ↓wJs_cons, ↓fmtK_str, ↓fmtK_int, ↓fmtRK_str, ↓fmtRK_int, ↓joinK_lst, ↓joinK_tup, ↓noLent_nil, ↓noLent_cons, ↓wipeS_e, ↓wipeL_nil, ↓wipeL_cons, ↓pI_int, ↓pS_str, ↓pB_bl, ↓nfK_obj, ↓nfK_cel, ↓nfK_non, ↓nfK_bl, ↓nfK_int, ↓nfK_str, ↓nfK_tup, ↓nfK_lst, ↓nfK_dct, ↓slfK_e, ↓isNonT_non, ↓ofK_e, ↓derefK_lst, ↓derefK_tup, ↓derefK_str, ↓derefK_cel, ↓rcReprA_e, ↓wFmtRD_e, ↓aStar_e, ↓seqItK_lst, ↓seqItK_tup, ↓wFldC_e, ↓wMakeK_e, ↓wTryL_e, ↓wHds_nil, ↓wHds_cons, ↓revTK_tup, ↓wRevT_e, ↓rsRep_t, ↓rsRep_l, ↓wKp_e, ↓aConsF_e, ↓notSl_val, ↓notSl_fresh, ↓notSl_bor, ↓wParN_e, ↓asgN_nil, ↓asgN_cons, ↓rcMin1_lst, ↓wRaise_e, ↓wTry_e, ↓wExf_e, ↓wExI_e, ↓fldL1, ↓rcReprD_e, szLine, CPow, CMul, CDivN, he]
    refine rest _ ?_
    simp [↓wVar_e, ↓wC_e, ↓wOp2_e, ↓wTest_e, ↓wAnd_e, ↓wOr_e, ↓wNot_e, ↓wAndV_e, ↓wOrV_e, ↓wNotV_e, ↓wIfE_e, ↓aNil_e, ↓aCons_e, ↓wLst_e, ↓wTup_e, ↓wCall_e, ↓wSet_e, ↓wSeq_e, ↓wSkip_e, ↓wIf_e, ↓wDrop_e, ↓wRet_e, ↓wRetN_e, ↓wBrk_e, ↓wCnt_e, ↓wNev_e, ↓gwName_e, ↓gwNil_e, ↓gwCons_e, ↓gwTup_e, ↓gwTupN_e, ↓wSrc_e, ↓wSrcZ_e, ↓wRng1_e, ↓wRng2_e, ↓wFor_e, ↓wLc_e, ↓wYes_e, ↓rsEq_e, ↓rsNe_e, ↓rsIn_e, ↓rsNotIn_e, ↓rsInt_e, ↓rsInt0_e, ↓rsAdd_e, ↓rsIsN_e, ↓rsNotN_e, ↓rsIx_e, ↓oNo_e, ↓oOf_e, ↓wSl_e, ↓wRev_e, ↓wNeg_e, ↓wCh_e, ↓wBlt_e, ↓rc1_e, ↓rc2_e, ↓wEn_e, ↓wChs_e, ↓wJoin_e, ↓wMut_e, ↓mfAppend_e, ↓mfPop_e, ↓mfReverse_e, ↓mfInsert_e, ↓mfExtend_e, ↓wSetIx_e, ↓wFmt_e, ↓wFmtR_e, ↓wFs_e, ↓wIsi_e, ↓wFld_e, ↓wSetF_e, ↓wSp1_e, ↓wEqO_e, ↓wInO_e, ↓wMeth_e, ↓wIxC_e, ↓rsIxS_e, ↓wSlS_e, ↓wLstC_e, ↓wTupC_e, ↓rsSub_e, ↓rsMulI_e, ↓rsFdiv_e, ↓rsMod_e, ↓rsPow_e, ↓rsLt_e, ↓rsLe_e, ↓rsGt_e, ↓rsGe_e, ↓rdK_val, ↓rdK_fresh, ↓rdK_bor, ↓rdK_slot, ↓kpK_val, ↓kpK_fresh, ↓kpK_slot, ↓retK_val, ↓retK_fresh, ↓retK_slot, ↓asgK_val, ↓asgK_bor, ↓asgK_fresh, ↓asgK_slot, ↓wrK_slot, ↓wrK_cel, ↓lstK_lst, ↓asInt_int, ↓intK_ii, ↓isBl_bl, ↓isBlT_bl, ↓strK_str, ↓itemsK_lst, ↓itemsK_tup, ↓stl_val, ↓stl_fresh, ↓stl_bor, ↓stl_slot, ↓srcK_val, ↓srcK_fresh, ↓srcK_bor, ↓srcK_slot, ↓rdAll_nil, ↓rdAll_cons, ↓kpAll_nil, ↓kpAll_cons, ↓argK_nil, ↓argK_val, ↓argK_bor, ↓argK_slot, ↓rcInt_int, ↓rcInt_bl, ↓rcLen_lst, ↓rcLen_tup, ↓rcLen_scr, ↓rcLen_str, ↓rcAbs_int, ↓rcMax2_ii, ↓rcMin2_ii, ↓rcListS_str, ↓rcListS_lst, ↓rcListS_tup, ↓rcTuple_lst, ↓rcTuple_tup, ↓rcAll_lst, ↓rcSum_lst, ↓rcStr_int, ↓rcStr_str, ↓rcRepr_int, ↓slK_lst, ↓slK_tup, ↓slK_str, ↓slSK_scr, ↓revK_lst, ↓inK_lst, ↓inK_tup, ↓inK_ss, ↓objK_e, ↓obK_obj, ↓obK_cel, ↓objW_obj, ↓wJs_nil, ↓wJs_cons, ↓fmtK_str, ↓fmtK_int, ↓fmtRK_str, ↓fmtRK_int, ↓joinK_lst, ↓joinK_tup, ↓noLent_nil, ↓noLent_cons, ↓wipeS_e, ↓wipeL_nil, ↓wipeL_cons, ↓pI_int, ↓pS_str, ↓pB_bl, ↓nfK_obj, ↓nfK_cel, ↓nfK_non, ↓nfK_bl, ↓nfK_int, ↓nfK_str, ↓nfK_tup, ↓nfK_lst, ↓nfK_dct, ↓slfK_e, ↓isNonT_non, ↓ofK_e, ↓derefK_lst, ↓derefK_tup, ↓derefK_str, ↓derefK_cel, ↓rcReprA_e, ↓wFmtRD_e, ↓aStar_e, ↓seqItK_lst, ↓seqItK_tup, ↓wFldC_e, ↓wMakeK_e, ↓wTryL_e, ↓wHds_nil, ↓wHds_cons, ↓revTK_tup, ↓wRevT_e, ↓rsRep_t, ↓rsRep_l, ↓wKp_e, ↓aConsF_e, ↓notSl_val, ↓notSl_fresh, ↓notSl_bor, ↓wParN_e, ↓asgN_nil, ↓asgN_cons, ↓rcMin1_lst, ↓wRaise_e, ↓wTry_e, ↓wExf_e, ↓wExI_e, ↓fldL1, ↓rcReprD_e, szLine, CPow, CMul, CDivN]
    refine rest2 _ ?_
    simp [↓wVar_e, ↓wC_e, ↓wOp2_e, ↓wTest_e, ↓wAnd_e, ↓wOr_e, ↓wNot_e, ↓wAndV_e, ↓wOrV_e, ↓wNotV_e, ↓wIfE_e, ↓aNil_e, ↓aCons_e, ↓wLst_e, ↓wTup_e, ↓wCall_e, ↓wSet_e, ↓wSeq_e, ↓wSkip_e, ↓wIf_e, ↓wDrop_e, ↓wRet_e, ↓wRetN_e, ↓wBrk_e, ↓wCnt_e, ↓wNev_e, ↓gwName_e, ↓gwNil_e, ↓gwCons_e, ↓gwTup_e, ↓gwTupN_e, ↓wSrc_e, ↓wSrcZ_e, ↓wRng1_e, ↓wRng2_e, ↓wFor_e, ↓wLc_e, ↓wYes_e, ↓rsEq_e, ↓rsNe_e, ↓rsIn_e, ↓rsNotIn_e, ↓rsInt_e, ↓rsInt0_e, ↓rsAdd_e, ↓rsIsN_e, ↓rsNotN_e, ↓rsIx_e, ↓oNo_e, ↓oOf_e, ↓wSl_e, ↓wRev_e, ↓wNeg_e, ↓wCh_e, ↓wBlt_e, ↓rc1_e, ↓rc2_e, ↓wEn_e, ↓wChs_e, ↓wJoin_e, ↓wMut_e, ↓mfAppend_e, ↓mfPop_e, ↓mfReverse_e, ↓mfInsert_e, ↓mfExtend_e, ↓wSetIx_e, ↓wFmt_e, ↓wFmtR_e, ↓wFs_e, ↓wIsi_e, ↓wFld_e, ↓wSetF_e, ↓wSp1_e, ↓wEqO_e, ↓wInO_e, ↓wMeth_e, ↓wIxC_e, ↓rsIxS_e, ↓wSlS_e, ↓wLstC_e, ↓wTupC_e, ↓rsSub_e, ↓rsMulI_e, ↓rsFdiv_e, ↓rsMod_e, ↓rsPow_e, ↓rsLt_e, ↓rsLe_e, ↓rsGt_e, ↓rsGe_e, ↓rdK_val, ↓rdK_fresh, ↓rdK_bor, ↓rdK_slot, ↓kpK_val, ↓kpK_fresh, ↓kpK_slot, ↓retK_val, ↓retK_fresh, ↓retK_slot, ↓asgK_val, ↓asgK_bor, ↓asgK_fresh, ↓asgK_slot, ↓wrK_slot, ↓wrK_cel, ↓lstK_lst, ↓asInt_int, ↓intK_ii, ↓isBl_bl, ↓isBlT_bl, ↓strK_str, ↓itemsK_lst, ↓itemsK_tup, ↓stl_val, ↓stl_fresh, ↓stl_bor, ↓stl_slot, ↓srcK_val, ↓srcK_fresh, ↓srcK_bor, ↓srcK_slot, ↓rdAll_nil, ↓rdAll_cons, ↓kpAll_nil, ↓kpAll_cons, ↓argK_nil, ↓argK_val, ↓argK_bor, ↓argK_slot, ↓rcInt_int, ↓rcInt_bl, ↓rcLen_lst, ↓rcLen_tup, ↓rcLen_scr, ↓rcLen_str, ↓rcAbs_int, ↓rcMax2_ii, ↓rcMin2_ii, ↓rcListS_str, ↓rcListS_lst, ↓rcListS_tup, ↓rcTuple_lst, ↓rcTuple_tup, ↓rcAll_lst, ↓rcSum_lst, ↓rcStr_int, ↓rcStr_str, ↓rcRepr_int, ↓slK_lst, ↓slK_tup, ↓slK_str, ↓slSK_scr, ↓revK_lst, ↓inK_lst, ↓inK_tup, ↓inK_ss, ↓objK_e, ↓obK_obj, ↓obK_cel, ↓objW_obj, ↓wJs_nil, ↓wJs_cons, ↓fmtK_str, ↓fmtK_int, ↓fmtRK_str, ↓fmtRK_int, ↓joinK_lst, ↓joinK_tup, ↓noLent_nil, ↓noLent_cons, ↓wipeS_e, ↓wipeL_nil, ↓wipeL_cons, ↓pI_int, ↓pS_str, ↓pB_bl, ↓nfK_obj, ↓nfK_cel, ↓nfK_non, ↓nfK_bl, ↓nfK_int, ↓nfK_str, ↓nfK_tup, ↓nfK_lst, ↓nfK_dct, ↓slfK_e, ↓isNonT_non, ↓ofK_e, ↓derefK_lst, ↓derefK_tup, ↓derefK_str, ↓derefK_cel, ↓rcReprA_e, ↓wFmtRD_e, ↓aStar_e, ↓seqItK_lst, ↓seqItK_tup, ↓wFldC_e, ↓wMakeK_e, ↓wTryL_e, ↓wHds_nil, ↓wHds_cons, ↓revTK_tup, ↓wRevT_e, ↓rsRep_t, ↓rsRep_l, ↓wKp_e, ↓aConsF_e, ↓notSl_val, ↓notSl_fresh, ↓notSl_bor, ↓wParN_e, ↓asgN_nil, ↓asgN_cons, ↓rcMin1_lst, ↓wRaise_e, ↓wTry_e, ↓wExf_e, ↓wExI_e, ↓fldL1, ↓rcReprD_e, szLine, CPow, CMul, CDivN]
    exact hk
theorem law_3 (hz : (∀ z ∈ zs, Ent (.str z)) ∧ (∀ x ∈ us, Ent x) ∧ (∀ x ∈ vs, Ent x) ∧ zs.length + us.length + vs.length ≤ 20) (hg : goF (zs.map PV.str) (us ++ vs) = none) (u2 : us.length ≤ 2) (v2 : vs.length ≤ 2)
    (hk : E.nx ⟨[s0, s1, .val (.cel n), .val (.lst (zs.map PV.str)), .val (tabP K zs), s5, s6, s7, s8, s9, s10, .val (.lst us), .val (.lst vs), s13, s14, .own (formP K zs us vs), .own (formP K zs us.reverse vs.reverse)], c⟩) : t_law_3 K sBag sOf (sTab K) sWords sSpoilt sDue (sTold K) sTake (sForm K) (sIsF K) (sFeq K) ⟨[s0, s1, .val (.cel n), .val (.lst (zs.map PV.str)), .val (tabP K zs), s5, s6, s7, s8, s9, s10, .val (.lst us), .val (.lst vs), s13, s14, .own (formP K zs us vs), .own (formP K zs us.reverse vs.reverse)], c⟩ E := by
  obtain ⟨h1, h2, h3, h4⟩ := id hz
  have r2 : ∀ x ∈ us.reverse, Ent x := fun x h => h2 x (List.mem_reverse.mp h)
  have r3 : ∀ x ∈ vs.reverse, Ent x := fun x h => h3 x (List.mem_reverse.mp h)
  have d2 := ent_d h2
  have d3 := ent_d h3
  have d4 := ent_d r2
  have d5 := ent_d r3
  unfold t_law_3
  simp [↓wVar_e, ↓wC_e, ↓wOp2_e, ↓wTest_e, ↓wAnd_e, ↓wOr_e, ↓wNot_e, ↓wAndV_e, ↓wOrV_e, ↓wNotV_e, ↓wIfE_e, ↓aNil_e, ↓aCons_e, ↓wLst_e, ↓wTup_e, ↓wCall_e, ↓wSet_e, ↓wSeq_e, ↓wSkip_e, ↓wIf_e, ↓wDrop_e, ↓wRet_e, ↓wRetN_e, ↓wBrk_e, ↓wCnt_e, ↓wNev_e, ↓gwName_e, ↓gwNil_e, ↓gwCons_e, ↓gwTup_e, ↓gwTupN_e, ↓wSrc_e, ↓wSrcZ_e, ↓wRng1_e, ↓wRng2_e, ↓wFor_e, ↓wLc_e, ↓wYes_e, ↓rsEq_e, ↓rsNe_e, ↓rsIn_e, ↓rsNotIn_e, ↓rsInt_e, ↓rsInt0_e, ↓rsAdd_e, ↓rsIsN_e, ↓rsNotN_e, ↓rsIx_e, ↓oNo_e, ↓oOf_e, ↓wSl_e, ↓wRev_e, ↓wNeg_e, ↓wCh_e, ↓wBlt_e, ↓rc1_e, ↓rc2_e, ↓wEn_e, ↓wChs_e, ↓wJoin_e, ↓wMut_e, ↓mfAppend_e, ↓mfPop_e, ↓mfReverse_e, ↓mfInsert_e, ↓mfExtend_e, ↓wSetIx_e, ↓wFmt_e, ↓wFmtR_e, ↓wFs_e, ↓wIsi_e, ↓wFld_e, ↓wSetF_e, ↓wSp1_e, ↓wEqO_e, ↓wInO_e, ↓wMeth_e, ↓wIxC_e, ↓rsIxS_e, ↓wSlS_e, ↓wLstC_e, ↓wTupC_e, ↓rsSub_e, ↓rsMulI_e, ↓rsFdiv_e, ↓rsMod_e, ↓rsPow_e, ↓rsLt_e, ↓rsLe_e, ↓rsGt_e, ↓rsGe_e, ↓rdK_val, ↓rdK_fresh, ↓rdK_bor, ↓rdK_slot, ↓kpK_val, ↓kpK_fresh, ↓kpK_slot, ↓retK_val, ↓retK_fresh, ↓retK_slot, ↓asgK_val, ↓asgK_bor, ↓asgK_fresh, ↓asgK_slot, ↓wrK_slot, ↓wrK_cel, ↓lstK_lst, ↓asInt_int, ↓intK_ii, ↓isBl_bl, ↓isBlT_bl, ↓strK_str, ↓itemsK_lst, ↓itemsK_tup, ↓stl_val, ↓stl_fresh, ↓stl_bor, ↓stl_slot, ↓srcK_val, ↓srcK_fresh, ↓srcK_bor, ↓srcK_slot, ↓rdAll_nil, ↓rdAll_cons, ↓kpAll_nil, ↓kpAll_cons, ↓argK_nil, ↓argK_val, ↓argK_bor, ↓argK_slot, ↓rcInt_int, ↓rcInt_bl, ↓rcLen_lst, ↓rcLen_tup, ↓rcLen_scr, ↓rcLen_str, ↓rcAbs_int, ↓rcMax2_ii, ↓rcMin2_ii, ↓rcListS_str, ↓rcListS_lst, ↓rcListS_tup, ↓rcTuple_lst, ↓rcTuple_tup, ↓rcAll_lst, ↓rcSum_lst, ↓rcStr_int, ↓rcStr_str, ↓rcRepr_int, ↓slK_lst, ↓slK_tup, ↓slK_str, ↓slSK_scr, ↓revK_lst, ↓inK_lst, ↓inK_tup, ↓inK_ss, ↓objK_e, ↓obK_obj, ↓obK_cel, ↓objW_obj, ↓wJs_nil, ↓wJs_cons, ↓fmtK_str, ↓fmtK_int, ↓fmtRK_str, ↓fmtRK_int, ↓joinK_lst, ↓joinK_tup, ↓noLent_nil, ↓noLent_cons, ↓wipeS_e, ↓wipeL_nil, ↓wipeL_cons, ↓pI_int, ↓pS_str, ↓pB_bl, ↓nfK_obj, ↓nfK_cel, ↓nfK_non, ↓nfK_bl, ↓nfK_int, ↓nfK_str, ↓nfK_tup, ↓nfK_lst, ↓nfK_dct, ↓slfK_e, ↓isNonT_non, ↓ofK_e, ↓derefK_lst, ↓derefK_tup, ↓derefK_str, ↓derefK_cel, ↓rcReprA_e, ↓wFmtRD_e, ↓aStar_e, ↓seqItK_lst, ↓seqItK_tup, ↓wFldC_e, ↓wMakeK_e, ↓wTryL_e, ↓wHds_nil, ↓wHds_cons, ↓revTK_tup, ↓wRevT_e, ↓rsRep_t, ↓rsRep_l, ↓wKp_e, ↓aConsF_e, ↓notSl_val, ↓notSl_fresh, ↓notSl_bor, ↓wParN_e, ↓asgN_nil, ↓asgN_cons, ↓rcMin1_lst, ↓wRaise_e, ↓wTry_e, ↓wExf_e, ↓wExI_e, ↓fldL1, ↓rcReprD_e, szLine, CPow, CMul, CDivN]
  refine sFeq_f rfl rfl ⟨h2, h3⟩ ⟨r2, r3⟩ ?_
  simp [↓wVar_e, ↓wC_e, ↓wOp2_e, ↓wTest_e, ↓wAnd_e, ↓wOr_e, ↓wNot_e, ↓wAndV_e, ↓wOrV_e, ↓wNotV_e, ↓wIfE_e, ↓aNil_e, ↓aCons_e, ↓wLst_e, ↓wTup_e, ↓wCall_e, ↓wSet_e, ↓wSeq_e, ↓wSkip_e, ↓wIf_e, ↓wDrop_e, ↓wRet_e, ↓wRetN_e, ↓wBrk_e, ↓wCnt_e, ↓wNev_e, ↓gwName_e, ↓gwNil_e, ↓gwCons_e, ↓gwTup_e, ↓gwTupN_e, ↓wSrc_e, ↓wSrcZ_e, ↓wRng1_e, ↓wRng2_e, ↓wFor_e, ↓wLc_e, ↓wYes_e, ↓rsEq_e, ↓rsNe_e, ↓rsIn_e, ↓rsNotIn_e, ↓rsInt_e, ↓rsInt0_e, ↓rsAdd_e, ↓rsIsN_e, ↓rsNotN_e, ↓rsIx_e, ↓oNo_e, ↓oOf_e, ↓wSl_e, ↓wRev_e, ↓wNeg_e, ↓wCh_e, ↓wBlt_e, ↓rc1_e, ↓rc2_e, ↓wEn_e, ↓wChs_e, ↓wJoin_e, ↓wMut_e, ↓mfAppend_e, ↓mfPop_e, ↓mfReverse_e, ↓mfInsert_e, ↓mfExtend_e, ↓wSetIx_e, ↓wFmt_e, ↓wFmtR_e, ↓wFs_e, ↓wIsi_e, ↓wFld_e, ↓wSetF_e, ↓wSp1_e, ↓wEqO_e, ↓wInO_e, ↓wMeth_e, ↓wIxC_e, ↓rsIxS_e, ↓wSlS_e, ↓wLstC_e, ↓wTupC_e, ↓rsSub_e, ↓rsMulI_e, ↓rsFdiv_e, ↓rsMod_e, ↓rsPow_e, ↓rsLt_e, ↓rsLe_e, ↓rsGt_e, ↓rsGe_e, ↓rdK_val, ↓rdK_fresh, ↓rdK_bor, ↓rdK_slot, ↓kpK_val, ↓kpK_fresh, ↓kpK_slot, ↓retK_val, ↓retK_fresh, ↓retK_slot, ↓asgK_val, ↓asgK_bor, ↓asgK_fresh, ↓asgK_slot, ↓wrK_slot, ↓wrK_cel, ↓lstK_lst, ↓asInt_int, ↓intK_ii, ↓isBl_bl, ↓isBlT_bl, ↓strK_str, ↓itemsK_lst, ↓itemsK_tup, ↓stl_val, ↓stl_fresh, ↓stl_bor, ↓stl_slot, ↓srcK_val, ↓srcK_fresh, ↓srcK_bor, ↓srcK_slot, ↓rdAll_nil, ↓rdAll_cons, ↓kpAll_nil, ↓kpAll_cons, ↓argK_nil, ↓argK_val, ↓argK_bor, ↓argK_slot, ↓rcInt_int, ↓rcInt_bl, ↓rcLen_lst, ↓rcLen_tup, ↓rcLen_scr, ↓rcLen_str, ↓rcAbs_int, ↓rcMax2_ii, ↓rcMin2_ii, ↓rcListS_str, ↓rcListS_lst, ↓rcListS_tup, ↓rcTuple_lst, ↓rcTuple_tup, ↓rcAll_lst, ↓rcSum_lst, ↓rcStr_int, ↓rcStr_str, ↓rcRepr_int, ↓slK_lst, ↓slK_tup, ↓slK_str, ↓slSK_scr, ↓revK_lst, ↓inK_lst, ↓inK_tup, ↓inK_ss, ↓objK_e, ↓obK_obj, ↓obK_cel, ↓objW_obj, ↓wJs_nil, ↓wJs_cons, ↓fmtK_str, ↓fmtK_int, ↓fmtRK_str, ↓fmtRK_int, ↓joinK_lst, ↓joinK_tup, ↓noLent_nil, ↓noLent_cons, ↓wipeS_e, ↓wipeL_nil, ↓wipeL_cons, ↓pI_int, ↓pS_str, ↓pB_bl, ↓nfK_obj, ↓nfK_cel, ↓nfK_non, ↓nfK_bl, ↓nfK_int, ↓nfK_str, ↓nfK_tup, ↓nfK_lst, ↓nfK_dct, ↓slfK_e, ↓isNonT_non, ↓ofK_e, ↓derefK_lst, ↓derefK_tup, ↓derefK_str, ↓derefK_cel, ↓rcReprA_e, ↓wFmtRD_e, ↓aStar_e, ↓seqItK_lst, ↓seqItK_tup, ↓wFldC_e, ↓wMakeK_e, ↓wTryL_e, ↓wHds_nil, ↓wHds_cons, ↓revTK_tup, ↓wRevT_e, ↓rsRep_t, ↓rsRep_l, ↓wKp_e, ↓aConsF_e, ↓notSl_val, ↓notSl_fresh, ↓notSl_bor, ↓wParN_e, ↓asgN_nil, ↓asgN_cons, ↓rcMin1_lst, ↓wRaise_e, ↓wTry_e, ↓wExf_e, ↓wExI_e, ↓fldL1, ↓rcReprD_e, szLine, CPow, CMul, CDivN]
  refine ⟨d2, fun e => ⟨d3, ?_⟩, fun e => ?_⟩
  · rw [e]
    simp
    exact law_2 hz hg u2 v2 hk
  · rw [e]
    simp
    exact law_2 hz hg u2 v2 hk
theorem law_4 (hzr : Row zs) (z1 : 1 ≤ zs.length) (l16 : s16.isL = false) (hz : (∀ z ∈ zs, Ent (.str z)) ∧ (∀ x ∈ us, Ent x) ∧ (∀ x ∈ vs, Ent x) ∧ zs.length + us.length + vs.length ≤ 20) (hg : goF (zs.map PV.str) (us ++ vs) = none) (u2 : us.length ≤ 2) (v2 : vs.length ≤ 2)
    (hk : ∀ s16 : BV.Slot, s16.isL = false → E.nx ⟨[s0, s1, .val (.cel n), .val (.lst (zs.map PV.str)), .val (tabP K zs), s5, s6, s7, s8, s9, s10, .val (.lst us), .val (.lst vs), s13, s14, .own (formP K zs us vs), s16], c⟩) : t_law_4 K sBag sOf (sTab K) sWords sSpoilt sDue (sTold K) sTake (sForm K) (sIsF K) (sFeq K) ⟨[s0, s1, .val (.cel n), .val (.lst (zs.map PV.str)), .val (tabP K zs), s5, s6, s7, s8, s9, s10, .val (.lst us), .val (.lst vs), s13, s14, .own (formP K zs us vs), s16], c⟩ E := by
  obtain ⟨h1, h2, h3, h4⟩ := id hz
  have r2 : ∀ x ∈ us.reverse, Ent x := fun x h => h2 x (List.mem_reverse.mp h)
  have r3 : ∀ x ∈ vs.reverse, Ent x := fun x h => h3 x (List.mem_reverse.mp h)
  unfold t_law_4
  simp [↓wVar_e, ↓wC_e, ↓wOp2_e, ↓wTest_e, ↓wAnd_e, ↓wOr_e, ↓wNot_e, ↓wAndV_e, ↓wOrV_e, ↓wNotV_e, ↓wIfE_e, ↓aNil_e, ↓aCons_e, ↓wLst_e, ↓wTup_e, ↓wCall_e, ↓wSet_e, ↓wSeq_e, ↓wSkip_e, ↓wIf_e, ↓wDrop_e, ↓wRet_e, ↓wRetN_e, ↓wBrk_e, ↓wCnt_e, ↓wNev_e, ↓gwName_e, ↓gwNil_e, ↓gwCons_e, ↓gwTup_e, ↓gwTupN_e, ↓wSrc_e, ↓wSrcZ_e, ↓wRng1_e, ↓wRng2_e, ↓wFor_e, ↓wLc_e, ↓wYes_e, ↓rsEq_e, ↓rsNe_e, ↓rsIn_e, ↓rsNotIn_e, ↓rsInt_e, ↓rsInt0_e, ↓rsAdd_e, ↓rsIsN_e, ↓rsNotN_e, ↓rsIx_e, ↓oNo_e, ↓oOf_e, ↓wSl_e, ↓wRev_e, ↓wNeg_e, ↓wCh_e, ↓wBlt_e, ↓rc1_e, ↓rc2_e, ↓wEn_e, ↓wChs_e, ↓wJoin_e, ↓wMut_e, ↓mfAppend_e, ↓mfPop_e, ↓mfReverse_e, ↓mfInsert_e, ↓mfExtend_e, ↓wSetIx_e, ↓wFmt_e, ↓wFmtR_e, ↓wFs_e, ↓wIsi_e, ↓wFld_e, ↓wSetF_e, ↓wSp1_e, ↓wEqO_e, ↓wInO_e, ↓wMeth_e, ↓wIxC_e, ↓rsIxS_e, ↓wSlS_e, ↓wLstC_e, ↓wTupC_e, ↓rsSub_e, ↓rsMulI_e, ↓rsFdiv_e, ↓rsMod_e, ↓rsPow_e, ↓rsLt_e, ↓rsLe_e, ↓rsGt_e, ↓rsGe_e, ↓rdK_val, ↓rdK_fresh, ↓rdK_bor, ↓rdK_slot, ↓kpK_val, ↓kpK_fresh, ↓kpK_slot, ↓retK_val, ↓retK_fresh, ↓retK_slot, ↓asgK_val, ↓asgK_bor, ↓asgK_fresh, ↓asgK_slot, ↓wrK_slot, ↓wrK_cel, ↓lstK_lst, ↓asInt_int, ↓intK_ii, ↓isBl_bl, ↓isBlT_bl, ↓strK_str, ↓itemsK_lst, ↓itemsK_tup, ↓stl_val, ↓stl_fresh, ↓stl_bor, ↓stl_slot, ↓srcK_val, ↓srcK_fresh, ↓srcK_bor, ↓srcK_slot, ↓rdAll_nil, ↓rdAll_cons, ↓kpAll_nil, ↓kpAll_cons, ↓argK_nil, ↓argK_val, ↓argK_bor, ↓argK_slot, ↓rcInt_int, ↓rcInt_bl, ↓rcLen_lst, ↓rcLen_tup, ↓rcLen_scr, ↓rcLen_str, ↓rcAbs_int, ↓rcMax2_ii, ↓rcMin2_ii, ↓rcListS_str, ↓rcListS_lst, ↓rcListS_tup, ↓rcTuple_lst, ↓rcTuple_tup, ↓rcAll_lst, ↓rcSum_lst, ↓rcStr_int, ↓rcStr_str, ↓rcRepr_int, ↓slK_lst, ↓slK_tup, ↓slK_str, ↓slSK_scr, ↓revK_lst, ↓inK_lst, ↓inK_tup, ↓inK_ss, ↓objK_e, ↓obK_obj, ↓obK_cel, ↓objW_obj, ↓wJs_nil, ↓wJs_cons, ↓fmtK_str, ↓fmtK_int, ↓fmtRK_str, ↓fmtRK_int, ↓joinK_lst, ↓joinK_tup, ↓noLent_nil, ↓noLent_cons, ↓wipeS_e, ↓wipeL_nil, ↓wipeL_cons, ↓pI_int, ↓pS_str, ↓pB_bl, ↓nfK_obj, ↓nfK_cel, ↓nfK_non, ↓nfK_bl, ↓nfK_int, ↓nfK_str, ↓nfK_tup, ↓nfK_lst, ↓nfK_dct, ↓slfK_e, ↓isNonT_non, ↓ofK_e, ↓derefK_lst, ↓derefK_tup, ↓derefK_str, ↓derefK_cel, ↓rcReprA_e, ↓wFmtRD_e, ↓aStar_e, ↓seqItK_lst, ↓seqItK_tup, ↓wFldC_e, ↓wMakeK_e, ↓wTryL_e, ↓wHds_nil, ↓wHds_cons, ↓revTK_tup, ↓wRevT_e, ↓rsRep_t, ↓rsRep_l, ↓wKp_e, ↓aConsF_e, ↓notSl_val, ↓notSl_fresh, ↓notSl_bor, ↓wParN_e, ↓asgN_nil, ↓asgN_cons, ↓rcMin1_lst, ↓wRaise_e, ↓wTry_e, ↓wExf_e, ↓wExI_e, ↓fldL1, ↓rcReprD_e, szLine, CPow, CMul, CDivN, l16, ↓sTab_vl, hzr, z1]
  refine sForm_i ⟨rfl, rfl⟩ ⟨rfl, rfl⟩ ⟨h1, r2, r3, by simp; omega⟩ (goF_perm (List.Perm.append (List.reverse_perm us).symm (List.reverse_perm vs).symm) hg) (by simp; omega) (by simp; omega) ?_
  simp [↓wVar_e, ↓wC_e, ↓wOp2_e, ↓wTest_e, ↓wAnd_e, ↓wOr_e, ↓wNot_e, ↓wAndV_e, ↓wOrV_e, ↓wNotV_e, ↓wIfE_e, ↓aNil_e, ↓aCons_e, ↓wLst_e, ↓wTup_e, ↓wCall_e, ↓wSet_e, ↓wSeq_e, ↓wSkip_e, ↓wIf_e, ↓wDrop_e, ↓wRet_e, ↓wRetN_e, ↓wBrk_e, ↓wCnt_e, ↓wNev_e, ↓gwName_e, ↓gwNil_e, ↓gwCons_e, ↓gwTup_e, ↓gwTupN_e, ↓wSrc_e, ↓wSrcZ_e, ↓wRng1_e, ↓wRng2_e, ↓wFor_e, ↓wLc_e, ↓wYes_e, ↓rsEq_e, ↓rsNe_e, ↓rsIn_e, ↓rsNotIn_e, ↓rsInt_e, ↓rsInt0_e, ↓rsAdd_e, ↓rsIsN_e, ↓rsNotN_e, ↓rsIx_e, ↓oNo_e, ↓oOf_e, ↓wSl_e, ↓wRev_e, ↓wNeg_e, ↓wCh_e, ↓wBlt_e, ↓rc1_e, ↓rc2_e, ↓wEn_e, ↓wChs_e, ↓wJoin_e, ↓wMut_e, ↓mfAppend_e, ↓mfPop_e, ↓mfReverse_e, ↓mfInsert_e, ↓mfExtend_e, ↓wSetIx_e, ↓wFmt_e, ↓wFmtR_e, ↓wFs_e, ↓wIsi_e, ↓wFld_e, ↓wSetF_e, ↓wSp1_e, ↓wEqO_e, ↓wInO_e, ↓wMeth_e, ↓wIxC_e, ↓rsIxS_e, ↓wSlS_e, ↓wLstC_e, ↓wTupC_e, ↓rsSub_e, ↓rsMulI_e, ↓rsFdiv_e, ↓rsMod_e, ↓rsPow_e, ↓rsLt_e, ↓rsLe_e, ↓rsGt_e, ↓rsGe_e, ↓rdK_val, ↓rdK_fresh, ↓rdK_bor, ↓rdK_slot, ↓kpK_val, ↓kpK_fresh, ↓kpK_slot, ↓retK_val, ↓retK_fresh, ↓retK_slot, ↓asgK_val, ↓asgK_bor, ↓asgK_fresh, ↓asgK_slot, ↓wrK_slot, ↓wrK_cel, ↓lstK_lst, ↓asInt_int, ↓intK_ii, ↓isBl_bl, ↓isBlT_bl, ↓strK_str, ↓itemsK_lst, ↓itemsK_tup, ↓stl_val, ↓stl_fresh, ↓stl_bor, ↓stl_slot, ↓srcK_val, ↓srcK_fresh, ↓srcK_bor, ↓srcK_slot, ↓rdAll_nil, ↓rdAll_cons, ↓kpAll_nil, ↓kpAll_cons, ↓argK_nil, ↓argK_val, ↓argK_bor, ↓argK_slot, ↓rcInt_int, ↓rcInt_bl, ↓rcLen_lst, ↓rcLen_tup, ↓rcLen_scr, ↓rcLen_str, ↓rcAbs_int, ↓rcMax2_ii, ↓rcMin2_ii, ↓rcListS_str, ↓rcListS_lst, ↓rcListS_tup, ↓rcTuple_lst, ↓rcTuple_tup, ↓rcAll_lst, ↓rcSum_lst, ↓rcStr_int, ↓rcStr_str, ↓rcRepr_int, ↓slK_lst, ↓slK_tup, ↓slK_str, ↓slSK_scr, ↓revK_lst, ↓inK_lst, ↓inK_tup, ↓inK_ss, ↓objK_e, ↓obK_obj, ↓obK_cel, ↓objW_obj, ↓wJs_nil, ↓wJs_cons, ↓fmtK_str, ↓fmtK_int, ↓fmtRK_str, ↓fmtRK_int, ↓joinK_lst, ↓joinK_tup, ↓noLent_nil, ↓noLent_cons, ↓wipeS_e, ↓wipeL_nil, ↓wipeL_cons, ↓pI_int, ↓pS_str, ↓pB_bl, ↓nfK_obj, ↓nfK_cel, ↓nfK_non, ↓nfK_bl, ↓nfK_int, ↓nfK_str, ↓nfK_tup, ↓nfK_lst, ↓nfK_dct, ↓slfK_e, ↓isNonT_non, ↓ofK_e, ↓derefK_lst, ↓derefK_tup, ↓derefK_str, ↓derefK_cel, ↓rcReprA_e, ↓wFmtRD_e, ↓aStar_e, ↓seqItK_lst, ↓seqItK_tup, ↓wFldC_e, ↓wMakeK_e, ↓wTryL_e, ↓wHds_nil, ↓wHds_cons, ↓revTK_tup, ↓wRevT_e, ↓rsRep_t, ↓rsRep_l, ↓wKp_e, ↓aConsF_e, ↓notSl_val, ↓notSl_fresh, ↓notSl_bor, ↓wParN_e, ↓asgN_nil, ↓asgN_cons, ↓rcMin1_lst, ↓wRaise_e, ↓wTry_e, ↓wExf_e, ↓wExI_e, ↓fldL1, ↓rcReprD_e, szLine, CPow, CMul, CDivN, l16]
  exact law_3 hz hg u2 v2 (hk _ rfl)
theorem law_5 (hzr : Row zs) (z1 : 1 ≤ zs.length) (l16 : s16.isL = false) (hz : (∀ z ∈ zs, Ent (.str z)) ∧ (∀ x ∈ us, Ent x) ∧ (∀ x ∈ vs, Ent x) ∧ zs.length + us.length + vs.length ≤ 20) (hg : goF (zs.map PV.str) (us ++ vs) = none) (u2 : us.length ≤ 2) (v2 : vs.length ≤ 2)
    (hk : ∀ s16 : BV.Slot, s16.isL = false → E.nx ⟨[s0, s1, .val (.cel n), .val (.lst (zs.map PV.str)), .val (tabP K zs), s5, s6, s7, s8, s9, s10, .val (.lst us), .val (.lst vs), s13, s14, .own (formP K zs us vs), s16], c⟩) : t_law_5 K sBag sOf (sTab K) sWords sSpoilt sDue (sTold K) sTake (sForm K) (sIsF K) (sFeq K) ⟨[s0, s1, .val (.cel n), .val (.lst (zs.map PV.str)), .val (tabP K zs), s5, s6, s7, s8, s9, s10, .val (.lst us), .val (.lst vs), s13, s14, .own (formP K zs us vs), s16], c⟩ E := by
  obtain ⟨h1, h2, h3, h4⟩ := id hz
  unfold t_law_5
  simp [↓wVar_e, ↓wC_e, ↓wOp2_e, ↓wTest_e, ↓wAnd_e, ↓wOr_e, ↓wNot_e, ↓wAndV_e, ↓wOrV_e, ↓wNotV_e, ↓wIfE_e, ↓aNil_e, ↓aCons_e, ↓wLst_e, ↓wTup_e, ↓wCall_e, ↓wSet_e, ↓wSeq_e, ↓wSkip_e, ↓wIf_e, ↓wDrop_e, ↓wRet_e, ↓wRetN_e, ↓wBrk_e, ↓wCnt_e, ↓wNev_e, ↓gwName_e, ↓gwNil_e, ↓gwCons_e, ↓gwTup_e, ↓gwTupN_e, ↓wSrc_e, ↓wSrcZ_e, ↓wRng1_e, ↓wRng2_e, ↓wFor_e, ↓wLc_e, ↓wYes_e, ↓rsEq_e, ↓rsNe_e, ↓rsIn_e, ↓rsNotIn_e, ↓rsInt_e, ↓rsInt0_e, ↓rsAdd_e, ↓rsIsN_e, ↓rsNotN_e, ↓rsIx_e, ↓oNo_e, ↓oOf_e, ↓wSl_e, ↓wRev_e, ↓wNeg_e, ↓wCh_e, ↓wBlt_e, ↓rc1_e, ↓rc2_e, ↓wEn_e, ↓wChs_e, ↓wJoin_e, ↓wMut_e, ↓mfAppend_e, ↓mfPop_e, ↓mfReverse_e, ↓mfInsert_e, ↓mfExtend_e, ↓wSetIx_e, ↓wFmt_e, ↓wFmtR_e, ↓wFs_e, ↓wIsi_e, ↓wFld_e, ↓wSetF_e, ↓wSp1_e, ↓wEqO_e, ↓wInO_e, ↓wMeth_e, ↓wIxC_e, ↓rsIxS_e, ↓wSlS_e, ↓wLstC_e, ↓wTupC_e, ↓rsSub_e, ↓rsMulI_e, ↓rsFdiv_e, ↓rsMod_e, ↓rsPow_e, ↓rsLt_e, ↓rsLe_e, ↓rsGt_e, ↓rsGe_e, ↓rdK_val, ↓rdK_fresh, ↓rdK_bor, ↓rdK_slot, ↓kpK_val, ↓kpK_fresh, ↓kpK_slot, ↓retK_val, ↓retK_fresh, ↓retK_slot, ↓asgK_val, ↓asgK_bor, ↓asgK_fresh, ↓asgK_slot, ↓wrK_slot, ↓wrK_cel, ↓lstK_lst, ↓asInt_int, ↓intK_ii, ↓isBl_bl, ↓isBlT_bl, ↓strK_str, ↓itemsK_lst, ↓itemsK_tup, ↓stl_val, ↓stl_fresh, ↓stl_bor, ↓stl_slot, ↓srcK_val, ↓srcK_fresh, ↓srcK_bor, ↓srcK_slot, ↓rdAll_nil, ↓rdAll_cons, ↓kpAll_nil, ↓kpAll_cons, ↓argK_nil, ↓argK_val, ↓argK_bor, ↓argK_slot, ↓rcInt_int, ↓rcInt_bl, ↓rcLen_lst, ↓rcLen_tup, ↓rcLen_scr, ↓rcLen_str, ↓rcAbs_int, ↓rcMax2_ii, ↓rcMin2_ii, ↓rcListS_str, ↓rcListS_lst, ↓rcListS_tup, ↓rcTuple_lst, ↓rcTuple_tup, ↓rcAll_lst, ↓rcSum_lst, ↓rcStr_int, ↓rcStr_str, ↓rcRepr_int, ↓slK_lst, ↓slK_tup, ↓slK_str, ↓slSK_scr, ↓revK_lst, ↓inK_lst, ↓inK_tup, ↓inK_ss, ↓objK_e, ↓obK_obj, ↓obK_cel, ↓objW_obj, ↓wJs_nil, ↓wJs_cons, ↓fmtK_str, ↓fmtK_int, ↓fmtRK_str, ↓fmtRK_int, ↓joinK_lst, ↓joinK_tup, ↓noLent_nil, ↓noLent_cons, ↓wipeS_e, ↓wipeL_nil, ↓wipeL_cons, ↓pI_int, ↓pS_str, ↓pB_bl, ↓nfK_obj, ↓nfK_cel, ↓nfK_non, ↓nfK_bl, ↓nfK_int, ↓nfK_str, ↓nfK_tup, ↓nfK_lst, ↓nfK_dct, ↓slfK_e, ↓isNonT_non, ↓ofK_e, ↓derefK_lst, ↓derefK_tup, ↓derefK_str, ↓derefK_cel, ↓rcReprA_e, ↓wFmtRD_e, ↓aStar_e, ↓seqItK_lst, ↓seqItK_tup, ↓wFldC_e, ↓wMakeK_e, ↓wTryL_e, ↓wHds_nil, ↓wHds_cons, ↓revTK_tup, ↓wRevT_e, ↓rsRep_t, ↓rsRep_l, ↓wKp_e, ↓aConsF_e, ↓notSl_val, ↓notSl_fresh, ↓notSl_bor, ↓wParN_e, ↓asgN_nil, ↓asgN_cons, ↓rcMin1_lst, ↓wRaise_e, ↓wTry_e, ↓wExf_e, ↓wExI_e, ↓fldL1, ↓rcReprD_e, szLine, CPow, CMul, CDivN]
  refine ⟨zs, _, _, _, us, vs, rfl, rfl, rfl, rfl, ⟨hzr, z1, h2, h3⟩, ?_⟩
  simp [↓wVar_e, ↓wC_e, ↓wOp2_e, ↓wTest_e, ↓wAnd_e, ↓wOr_e, ↓wNot_e, ↓wAndV_e, ↓wOrV_e, ↓wNotV_e, ↓wIfE_e, ↓aNil_e, ↓aCons_e, ↓wLst_e, ↓wTup_e, ↓wCall_e, ↓wSet_e, ↓wSeq_e, ↓wSkip_e, ↓wIf_e, ↓wDrop_e, ↓wRet_e, ↓wRetN_e, ↓wBrk_e, ↓wCnt_e, ↓wNev_e, ↓gwName_e, ↓gwNil_e, ↓gwCons_e, ↓gwTup_e, ↓gwTupN_e, ↓wSrc_e, ↓wSrcZ_e, ↓wRng1_e, ↓wRng2_e, ↓wFor_e, ↓wLc_e, ↓wYes_e, ↓rsEq_e, ↓rsNe_e, ↓rsIn_e, ↓rsNotIn_e, ↓rsInt_e, ↓rsInt0_e, ↓rsAdd_e, ↓rsIsN_e, ↓rsNotN_e, ↓rsIx_e, ↓oNo_e, ↓oOf_e, ↓wSl_e, ↓wRev_e, ↓wNeg_e, ↓wCh_e, ↓wBlt_e, ↓rc1_e, ↓rc2_e, ↓wEn_e, ↓wChs_e, ↓wJoin_e, ↓wMut_e, ↓mfAppend_e, ↓mfPop_e, ↓mfReverse_e, ↓mfInsert_e, ↓mfExtend_e, ↓wSetIx_e, ↓wFmt_e, ↓wFmtR_e, ↓wFs_e, ↓wIsi_e, ↓wFld_e, ↓wSetF_e, ↓wSp1_e, ↓wEqO_e, ↓wInO_e, ↓wMeth_e, ↓wIxC_e, ↓rsIxS_e, ↓wSlS_e, ↓wLstC_e, ↓wTupC_e, ↓rsSub_e, ↓rsMulI_e, ↓rsFdiv_e, ↓rsMod_e, ↓rsPow_e, ↓rsLt_e, ↓rsLe_e, ↓rsGt_e, ↓rsGe_e, ↓rdK_val, ↓rdK_fresh, ↓rdK_bor, ↓rdK_slot, ↓kpK_val, ↓kpK_fresh, ↓kpK_slot, ↓retK_val, ↓retK_fresh, ↓retK_slot, ↓asgK_val, ↓asgK_bor, ↓asgK_fresh, ↓asgK_slot, ↓wrK_slot, ↓wrK_cel, ↓lstK_lst, ↓asInt_int, ↓intK_ii, ↓isBl_bl, ↓isBlT_bl, ↓strK_str, ↓itemsK_lst, ↓itemsK_tup, ↓stl_val, ↓stl_fresh, ↓stl_bor, ↓stl_slot, ↓srcK_val, ↓srcK_fresh, ↓srcK_bor, ↓srcK_slot, ↓rdAll_nil, ↓rdAll_cons, ↓kpAll_nil, ↓kpAll_cons, ↓argK_nil, ↓argK_val, ↓argK_bor, ↓argK_slot, ↓rcInt_int, ↓rcInt_bl, ↓rcLen_lst, ↓rcLen_tup, ↓rcLen_scr, ↓rcLen_str, ↓rcAbs_int, ↓rcMax2_ii, ↓rcMin2_ii, ↓rcListS_str, ↓rcListS_lst, ↓rcListS_tup, ↓rcTuple_lst, ↓rcTuple_tup, ↓rcAll_lst, ↓rcSum_lst, ↓rcStr_int, ↓rcStr_str, ↓rcRepr_int, ↓slK_lst, ↓slK_tup, ↓slK_str, ↓slSK_scr, ↓revK_lst, ↓inK_lst, ↓inK_tup, ↓inK_ss, ↓objK_e, ↓obK_obj, ↓obK_cel, ↓objW_obj, ↓wJs_nil, ↓wJs_cons, ↓fmtK_str, ↓fmtK_int, ↓fmtRK_str, ↓fmtRK_int, ↓joinK_lst, ↓joinK_tup, ↓noLent_nil, ↓noLent_cons, ↓wipeS_e, ↓wipeL_nil, ↓wipeL_cons, ↓pI_int, ↓pS_str, ↓pB_bl, ↓nfK_obj, ↓nfK_cel, ↓nfK_non, ↓nfK_bl, ↓nfK_int, ↓nfK_str, ↓nfK_tup, ↓nfK_lst, ↓nfK_dct, ↓slfK_e, ↓isNonT_non, ↓ofK_e, ↓derefK_lst, ↓derefK_tup, ↓derefK_str, ↓derefK_cel, ↓rcReprA_e, ↓wFmtRD_e, ↓aStar_e, ↓seqItK_lst, ↓seqItK_tup, ↓wFldC_e, ↓wMakeK_e, ↓wTryL_e, ↓wHds_nil, ↓wHds_cons, ↓revTK_tup, ↓wRevT_e, ↓rsRep_t, ↓rsRep_l, ↓wKp_e, ↓aConsF_e, ↓notSl_val, ↓notSl_fresh, ↓notSl_bor, ↓wParN_e, ↓asgN_nil, ↓asgN_cons, ↓rcMin1_lst, ↓wRaise_e, ↓wTry_e, ↓wExf_e, ↓wExI_e, ↓fldL1, ↓rcReprD_e, szLine, CPow, CMul, CDivN]
  exact law_4 hzr z1 l16 hz hg u2 v2 hk
theorem isN_due (zs us vs : List PV) : isNonP (dueV zs us vs) = true → goF zs (us ++ vs) = none ∧ us.length ≤ 2 ∧ vs.length ≤ 2 := by
  unfold dueV
  cases h : goF zs (us ++ vs) with
  | some x => intro h; cases h
  | none =>
    dsimp only
    by_cases g1 : 2 < us.length
    · rw [if_pos g1]; intro h; cases h
    · rw [if_neg g1]
      by_cases g2 : 2 < vs.length
      · rw [if_pos g2]; intro h; cases h
      · exact fun _ => ⟨rfl, by omega, by omega⟩
theorem law_7 (hzr : Row zs) (z1 : 1 ≤ zs.length) (l15 : s15.isL = false) (l16 : s16.isL = false) (hz : (∀ z ∈ zs, Ent (.str z)) ∧ (∀ x ∈ us, Ent x) ∧ (∀ x ∈ vs, Ent x) ∧ zs.length + us.length + vs.length ≤ 20)
    (hk : ∀ s13 s15 s16 : BV.Slot, s13.isL = false → s15.isL = false → s16.isL = false → E.nx ⟨[s0, s1, .val (.cel n), .val (.lst (zs.map PV.str)), .val (tabP K zs), s5, s6, s7, s8, s9, s10, .val (.lst us), .val (.lst vs), s13, .val (dueV (zs.map PV.str) us vs), s15, s16], c⟩) : t_law_7 K sBag sOf (sTab K) sWords sSpoilt sDue (sTold K) sTake (sForm K) (sIsF K) (sFeq K) ⟨[s0, s1, .val (.cel n), .val (.lst (zs.map PV.str)), .val (tabP K zs), s5, s6, s7, s8, s9, s10, .val (.lst us), .val (.lst vs), .own (.lst us), .val (dueV (zs.map PV.str) us vs), s15, s16], c⟩ E := by
  obtain ⟨h1, h2, h3, h4⟩ := id hz
  unfold t_law_7
  simp [↓wVar_e, ↓wC_e, ↓wOp2_e, ↓wTest_e, ↓wAnd_e, ↓wOr_e, ↓wNot_e, ↓wAndV_e, ↓wOrV_e, ↓wNotV_e, ↓wIfE_e, ↓aNil_e, ↓aCons_e, ↓wLst_e, ↓wTup_e, ↓wCall_e, ↓wSet_e, ↓wSeq_e, ↓wSkip_e, ↓wIf_e, ↓wDrop_e, ↓wRet_e, ↓wRetN_e, ↓wBrk_e, ↓wCnt_e, ↓wNev_e, ↓gwName_e, ↓gwNil_e, ↓gwCons_e, ↓gwTup_e, ↓gwTupN_e, ↓wSrc_e, ↓wSrcZ_e, ↓wRng1_e, ↓wRng2_e, ↓wFor_e, ↓wLc_e, ↓wYes_e, ↓rsEq_e, ↓rsNe_e, ↓rsIn_e, ↓rsNotIn_e, ↓rsInt_e, ↓rsInt0_e, ↓rsAdd_e, ↓rsIsN_e, ↓rsNotN_e, ↓rsIx_e, ↓oNo_e, ↓oOf_e, ↓wSl_e, ↓wRev_e, ↓wNeg_e, ↓wCh_e, ↓wBlt_e, ↓rc1_e, ↓rc2_e, ↓wEn_e, ↓wChs_e, ↓wJoin_e, ↓wMut_e, ↓mfAppend_e, ↓mfPop_e, ↓mfReverse_e, ↓mfInsert_e, ↓mfExtend_e, ↓wSetIx_e, ↓wFmt_e, ↓wFmtR_e, ↓wFs_e, ↓wIsi_e, ↓wFld_e, ↓wSetF_e, ↓wSp1_e, ↓wEqO_e, ↓wInO_e, ↓wMeth_e, ↓wIxC_e, ↓rsIxS_e, ↓wSlS_e, ↓wLstC_e, ↓wTupC_e, ↓rsSub_e, ↓rsMulI_e, ↓rsFdiv_e, ↓rsMod_e, ↓rsPow_e, ↓rsLt_e, ↓rsLe_e, ↓rsGt_e, ↓rsGe_e, ↓rdK_val, ↓rdK_fresh, ↓rdK_bor, ↓rdK_slot, ↓kpK_val, ↓kpK_fresh, ↓kpK_slot, ↓retK_val, ↓retK_fresh, ↓retK_slot, ↓asgK_val, ↓asgK_bor, ↓asgK_fresh, ↓asgK_slot, ↓wrK_slot, ↓wrK_cel, ↓lstK_lst, ↓asInt_int, ↓intK_ii, ↓isBl_bl, ↓isBlT_bl, ↓strK_str, ↓itemsK_lst, ↓itemsK_tup, ↓stl_val, ↓stl_fresh, ↓stl_bor, ↓stl_slot, ↓srcK_val, ↓srcK_fresh, ↓srcK_bor, ↓srcK_slot, ↓rdAll_nil, ↓rdAll_cons, ↓kpAll_nil, ↓kpAll_cons, ↓argK_nil, ↓argK_val, ↓argK_bor, ↓argK_slot, ↓rcInt_int, ↓rcInt_bl, ↓rcLen_lst, ↓rcLen_tup, ↓rcLen_scr, ↓rcLen_str, ↓rcAbs_int, ↓rcMax2_ii, ↓rcMin2_ii, ↓rcListS_str, ↓rcListS_lst, ↓rcListS_tup, ↓rcTuple_lst, ↓rcTuple_tup, ↓rcAll_lst, ↓rcSum_lst, ↓rcStr_int, ↓rcStr_str, ↓rcRepr_int, ↓slK_lst, ↓slK_tup, ↓slK_str, ↓slSK_scr, ↓revK_lst, ↓inK_lst, ↓inK_tup, ↓inK_ss, ↓objK_e, ↓obK_obj, ↓obK_cel, ↓objW_obj, ↓wJs_nil, ↓wJs_cons, ↓fmtK_str, ↓fmtK_int, ↓fmtRK_str, ↓fmtRK_int, ↓joinK_lst, ↓joinK_tup, ↓noLent_nil, ↓noLent_cons, ↓wipeS_e, ↓wipeL_nil, ↓wipeL_cons, ↓pI_int, ↓pS_str, ↓pB_bl, ↓nfK_obj, ↓nfK_cel, ↓nfK_non, ↓nfK_bl, ↓nfK_int, ↓nfK_str, ↓nfK_tup, ↓nfK_lst, ↓nfK_dct, ↓slfK_e, ↓isNonT_non, ↓ofK_e, ↓derefK_lst, ↓derefK_tup, ↓derefK_str, ↓derefK_cel, ↓rcReprA_e, ↓wFmtRD_e, ↓aStar_e, ↓seqItK_lst, ↓seqItK_tup, ↓wFldC_e, ↓wMakeK_e, ↓wTryL_e, ↓wHds_nil, ↓wHds_cons, ↓revTK_tup, ↓wRevT_e, ↓rsRep_t, ↓rsRep_l, ↓wKp_e, ↓aConsF_e, ↓notSl_val, ↓notSl_fresh, ↓notSl_bor, ↓wParN_e, ↓asgN_nil, ↓asgN_cons, ↓rcMin1_lst, ↓wRaise_e, ↓wTry_e, ↓wExf_e, ↓wExI_e, ↓fldL1, ↓rcReprD_e, szLine, CPow, CMul, CDivN, l15]
  refine ⟨fun h => ?_, fun h => hk _ _ _ rfl l15 l16⟩
  obtain ⟨hg, u2, v2⟩ := isN_due _ _ _ h
  refine sForm_i ⟨rfl, rfl⟩ ⟨rfl, rfl⟩ hz hg u2 v2 ?_
  simp [↓wVar_e, ↓wC_e, ↓wOp2_e, ↓wTest_e, ↓wAnd_e, ↓wOr_e, ↓wNot_e, ↓wAndV_e, ↓wOrV_e, ↓wNotV_e, ↓wIfE_e, ↓aNil_e, ↓aCons_e, ↓wLst_e, ↓wTup_e, ↓wCall_e, ↓wSet_e, ↓wSeq_e, ↓wSkip_e, ↓wIf_e, ↓wDrop_e, ↓wRet_e, ↓wRetN_e, ↓wBrk_e, ↓wCnt_e, ↓wNev_e, ↓gwName_e, ↓gwNil_e, ↓gwCons_e, ↓gwTup_e, ↓gwTupN_e, ↓wSrc_e, ↓wSrcZ_e, ↓wRng1_e, ↓wRng2_e, ↓wFor_e, ↓wLc_e, ↓wYes_e, ↓rsEq_e, ↓rsNe_e, ↓rsIn_e, ↓rsNotIn_e, ↓rsInt_e, ↓rsInt0_e, ↓rsAdd_e, ↓rsIsN_e, ↓rsNotN_e, ↓rsIx_e, ↓oNo_e, ↓oOf_e, ↓wSl_e, ↓wRev_e, ↓wNeg_e, ↓wCh_e, ↓wBlt_e, ↓rc1_e, ↓rc2_e, ↓wEn_e, ↓wChs_e, ↓wJoin_e, ↓wMut_e, ↓mfAppend_e, ↓mfPop_e, ↓mfReverse_e, ↓mfInsert_e, ↓mfExtend_e, ↓wSetIx_e, ↓wFmt_e, ↓wFmtR_e, ↓wFs_e, ↓wIsi_e, ↓wFld_e, ↓wSetF_e, ↓wSp1_e, ↓wEqO_e, ↓wInO_e, ↓wMeth_e, ↓wIxC_e, ↓rsIxS_e, ↓wSlS_e, ↓wLstC_e, ↓wTupC_e, ↓rsSub_e, ↓rsMulI_e, ↓rsFdiv_e, ↓rsMod_e, ↓rsPow_e, ↓rsLt_e, ↓rsLe_e, ↓rsGt_e, ↓rsGe_e, ↓rdK_val, ↓rdK_fresh, ↓rdK_bor, ↓rdK_slot, ↓kpK_val, ↓kpK_fresh, ↓kpK_slot, ↓retK_val, ↓retK_fresh, ↓retK_slot, ↓asgK_val, ↓asgK_bor, ↓asgK_fresh, ↓asgK_slot, ↓wrK_slot, ↓wrK_cel, ↓lstK_lst, ↓asInt_int, ↓intK_ii, ↓isBl_bl, ↓isBlT_bl, ↓strK_str, ↓itemsK_lst, ↓itemsK_tup, ↓stl_val, ↓stl_fresh, ↓stl_bor, ↓stl_slot, ↓srcK_val, ↓srcK_fresh, ↓srcK_bor, ↓srcK_slot, ↓rdAll_nil, ↓rdAll_cons, ↓kpAll_nil, ↓kpAll_cons, ↓argK_nil, ↓argK_val, ↓argK_bor, ↓argK_slot, ↓rcInt_int, ↓rcInt_bl, ↓rcLen_lst, ↓rcLen_tup, ↓rcLen_scr, ↓rcLen_str, ↓rcAbs_int, ↓rcMax2_ii, ↓rcMin2_ii, ↓rcListS_str, ↓rcListS_lst, ↓rcListS_tup, ↓rcTuple_lst, ↓rcTuple_tup, ↓rcAll_lst, ↓rcSum_lst, ↓rcStr_int, ↓rcStr_str, ↓rcRepr_int, ↓slK_lst, ↓slK_tup, ↓slK_str, ↓slSK_scr, ↓revK_lst, ↓inK_lst, ↓inK_tup, ↓inK_ss, ↓objK_e, ↓obK_obj, ↓obK_cel, ↓objW_obj, ↓wJs_nil, ↓wJs_cons, ↓fmtK_str, ↓fmtK_int, ↓fmtRK_str, ↓fmtRK_int, ↓joinK_lst, ↓joinK_tup, ↓noLent_nil, ↓noLent_cons, ↓wipeS_e, ↓wipeL_nil, ↓wipeL_cons, ↓pI_int, ↓pS_str, ↓pB_bl, ↓nfK_obj, ↓nfK_cel, ↓nfK_non, ↓nfK_bl, ↓nfK_int, ↓nfK_str, ↓nfK_tup, ↓nfK_lst, ↓nfK_dct, ↓slfK_e, ↓isNonT_non, ↓ofK_e, ↓derefK_lst, ↓derefK_tup, ↓derefK_str, ↓derefK_cel, ↓rcReprA_e, ↓wFmtRD_e, ↓aStar_e, ↓seqItK_lst, ↓seqItK_tup, ↓wFldC_e, ↓wMakeK_e, ↓wTryL_e, ↓wHds_nil, ↓wHds_cons, ↓revTK_tup, ↓wRevT_e, ↓rsRep_t, ↓rsRep_l, ↓wKp_e, ↓aConsF_e, ↓notSl_val, ↓notSl_fresh, ↓notSl_bor, ↓wParN_e, ↓asgN_nil, ↓asgN_cons, ↓rcMin1_lst, ↓wRaise_e, ↓wTry_e, ↓wExf_e, ↓wExI_e, ↓fldL1, ↓rcReprD_e, szLine, CPow, CMul, CDivN, l15]
  unfold t_law_6
  simp [↓wVar_e, ↓wC_e, ↓wOp2_e, ↓wTest_e, ↓wAnd_e, ↓wOr_e, ↓wNot_e, ↓wAndV_e, ↓wOrV_e, ↓wNotV_e, ↓wIfE_e, ↓aNil_e, ↓aCons_e, ↓wLst_e, ↓wTup_e, ↓wCall_e, ↓wSet_e, ↓wSeq_e, ↓wSkip_e, ↓wIf_e, ↓wDrop_e, ↓wRet_e, ↓wRetN_e, ↓wBrk_e, ↓wCnt_e, ↓wNev_e, ↓gwName_e, ↓gwNil_e, ↓gwCons_e, ↓gwTup_e, ↓gwTupN_e, ↓wSrc_e, ↓wSrcZ_e, ↓wRng1_e, ↓wRng2_e, ↓wFor_e, ↓wLc_e, ↓wYes_e, ↓rsEq_e, ↓rsNe_e, ↓rsIn_e, ↓rsNotIn_e, ↓rsInt_e, ↓rsInt0_e, ↓rsAdd_e, ↓rsIsN_e, ↓rsNotN_e, ↓rsIx_e, ↓oNo_e, ↓oOf_e, ↓wSl_e, ↓wRev_e, ↓wNeg_e, ↓wCh_e, ↓wBlt_e, ↓rc1_e, ↓rc2_e, ↓wEn_e, ↓wChs_e, ↓wJoin_e, ↓wMut_e, ↓mfAppend_e, ↓mfPop_e, ↓mfReverse_e, ↓mfInsert_e, ↓mfExtend_e, ↓wSetIx_e, ↓wFmt_e, ↓wFmtR_e, ↓wFs_e, ↓wIsi_e, ↓wFld_e, ↓wSetF_e, ↓wSp1_e, ↓wEqO_e, ↓wInO_e, ↓wMeth_e, ↓wIxC_e, ↓rsIxS_e, ↓wSlS_e, ↓wLstC_e, ↓wTupC_e, ↓rsSub_e, ↓rsMulI_e, ↓rsFdiv_e, ↓rsMod_e, ↓rsPow_e, ↓rsLt_e, ↓rsLe_e, ↓rsGt_e, ↓rsGe_e, ↓rdK_val, ↓rdK_fresh, ↓rdK_bor, ↓rdK_slot, ↓kpK_val, ↓kpK_fresh, ↓kpK_slot, ↓retK_val, ↓retK_fresh, ↓retK_slot, ↓asgK_val, ↓asgK_bor, ↓asgK_fresh, ↓asgK_slot, ↓wrK_slot, ↓wrK_cel, ↓lstK_lst, ↓asInt_int, ↓intK_ii, ↓isBl_bl, ↓isBlT_bl, ↓strK_str, ↓itemsK_lst, ↓itemsK_tup, ↓stl_val, ↓stl_fresh, ↓stl_bor, ↓stl_slot, ↓srcK_val, ↓srcK_fresh, ↓srcK_bor, ↓srcK_slot, ↓rdAll_nil, ↓rdAll_cons, ↓kpAll_nil, ↓kpAll_cons, ↓argK_nil, ↓argK_val, ↓argK_bor, ↓argK_slot, ↓rcInt_int, ↓rcInt_bl, ↓rcLen_lst, ↓rcLen_tup, ↓rcLen_scr, ↓rcLen_str, ↓rcAbs_int, ↓rcMax2_ii, ↓rcMin2_ii, ↓rcListS_str, ↓rcListS_lst, ↓rcListS_tup, ↓rcTuple_lst, ↓rcTuple_tup, ↓rcAll_lst, ↓rcSum_lst, ↓rcStr_int, ↓rcStr_str, ↓rcRepr_int, ↓slK_lst, ↓slK_tup, ↓slK_str, ↓slSK_scr, ↓revK_lst, ↓inK_lst, ↓inK_tup, ↓inK_ss, ↓objK_e, ↓obK_obj, ↓obK_cel, ↓objW_obj, ↓wJs_nil, ↓wJs_cons, ↓fmtK_str, ↓fmtK_int, ↓fmtRK_str, ↓fmtRK_int, ↓joinK_lst, ↓joinK_tup, ↓noLent_nil, ↓noLent_cons, ↓wipeS_e, ↓wipeL_nil, ↓wipeL_cons, ↓pI_int, ↓pS_str, ↓pB_bl, ↓nfK_obj, ↓nfK_cel, ↓nfK_non, ↓nfK_bl, ↓nfK_int, ↓nfK_str, ↓nfK_tup, ↓nfK_lst, ↓nfK_dct, ↓slfK_e, ↓isNonT_non, ↓ofK_e, ↓derefK_lst, ↓derefK_tup, ↓derefK_str, ↓derefK_cel, ↓rcReprA_e, ↓wFmtRD_e, ↓aStar_e, ↓seqItK_lst, ↓seqItK_tup, ↓wFldC_e, ↓wMakeK_e, ↓wTryL_e, ↓wHds_nil, ↓wHds_cons, ↓revTK_tup, ↓wRevT_e, ↓rsRep_t, ↓rsRep_l, ↓wKp_e, ↓aConsF_e, ↓notSl_val, ↓notSl_fresh, ↓notSl_bor, ↓wParN_e, ↓asgN_nil, ↓asgN_cons, ↓rcMin1_lst, ↓wRaise_e, ↓wTry_e, ↓wExf_e, ↓wExI_e, ↓fldL1, ↓rcReprD_e, szLine, CPow, CMul, CDivN]
  exact ⟨by omega, law_5 hzr z1 l16 hz hg u2 v2 fun s16 l => hk _ _ _ rfl rfl l⟩
theorem law_8 (hzr : Row zs) (z1 : 1 ≤ zs.length) (l15 : s15.isL = false) (l16 : s16.isL = false) (hz : (∀ z ∈ zs, Ent (.str z)) ∧ (∀ x ∈ us, Ent x) ∧ (∀ x ∈ vs, Ent x) ∧ zs.length + us.length + vs.length ≤ 20)
    (hk : ∀ s13 s15 s16 : BV.Slot, s13.isL = false → s15.isL = false → s16.isL = false → E.nx ⟨[s0, s1, .val (.cel n), .val (.lst (zs.map PV.str)), .val (tabP K zs), s5, .val (.lst (us ++ vs)), s7, .val (dueV (zs.map PV.str) us vs), s9, s10, .val (.lst us), .val (.lst vs), s13, .val (dueV (zs.map PV.str) us vs), s15, s16], c⟩) :
    t_law_8 K sBag sOf (sTab K) sWords sSpoilt sDue (sTold K) sTake (sForm K) (sIsF K) (sFeq K) ⟨[s0, s1, .val (.cel n), .val (.lst (zs.map PV.str)), .val (tabP K zs), s5, .val (.lst (us ++ vs)), s7, .val (dueV (zs.map PV.str) us vs), s9, s10, .val (.lst us), .val (.lst vs), .own (.lst us), .val (dueV (zs.map PV.str) us vs), s15, s16], c⟩ E := by
  obtain ⟨h1, h2, h3, h4⟩ := id hz
  have hx : ∀ x ∈ us ++ vs, Ent x := fun x h => (List.mem_append.mp h).elim (h2 x) (h3 x)
  unfold t_law_8
  simp [↓wVar_e, ↓wC_e, ↓wOp2_e, ↓wTest_e, ↓wAnd_e, ↓wOr_e, ↓wNot_e, ↓wAndV_e, ↓wOrV_e, ↓wNotV_e, ↓wIfE_e, ↓aNil_e, ↓aCons_e, ↓wLst_e, ↓wTup_e, ↓wCall_e, ↓wSet_e, ↓wSeq_e, ↓wSkip_e, ↓wIf_e, ↓wDrop_e, ↓wRet_e, ↓wRetN_e, ↓wBrk_e, ↓wCnt_e, ↓wNev_e, ↓gwName_e, ↓gwNil_e, ↓gwCons_e, ↓gwTup_e, ↓gwTupN_e, ↓wSrc_e, ↓wSrcZ_e, ↓wRng1_e, ↓wRng2_e, ↓wFor_e, ↓wLc_e, ↓wYes_e, ↓rsEq_e, ↓rsNe_e, ↓rsIn_e, ↓rsNotIn_e, ↓rsInt_e, ↓rsInt0_e, ↓rsAdd_e, ↓rsIsN_e, ↓rsNotN_e, ↓rsIx_e, ↓oNo_e, ↓oOf_e, ↓wSl_e, ↓wRev_e, ↓wNeg_e, ↓wCh_e, ↓wBlt_e, ↓rc1_e, ↓rc2_e, ↓wEn_e, ↓wChs_e, ↓wJoin_e, ↓wMut_e, ↓mfAppend_e, ↓mfPop_e, ↓mfReverse_e, ↓mfInsert_e, ↓mfExtend_e, ↓wSetIx_e, ↓wFmt_e, ↓wFmtR_e, ↓wFs_e, ↓wIsi_e, ↓wFld_e, ↓wSetF_e, ↓wSp1_e, ↓wEqO_e, ↓wInO_e, ↓wMeth_e, ↓wIxC_e, ↓rsIxS_e, ↓wSlS_e, ↓wLstC_e, ↓wTupC_e, ↓rsSub_e, ↓rsMulI_e, ↓rsFdiv_e, ↓rsMod_e, ↓rsPow_e, ↓rsLt_e, ↓rsLe_e, ↓rsGt_e, ↓rsGe_e, ↓rdK_val, ↓rdK_fresh, ↓rdK_bor, ↓rdK_slot, ↓kpK_val, ↓kpK_fresh, ↓kpK_slot, ↓retK_val, ↓retK_fresh, ↓retK_slot, ↓asgK_val, ↓asgK_bor, ↓asgK_fresh, ↓asgK_slot, ↓wrK_slot, ↓wrK_cel, ↓lstK_lst, ↓asInt_int, ↓intK_ii, ↓isBl_bl, ↓isBlT_bl, ↓strK_str, ↓itemsK_lst, ↓itemsK_tup, ↓stl_val, ↓stl_fresh, ↓stl_bor, ↓stl_slot, ↓srcK_val, ↓srcK_fresh, ↓srcK_bor, ↓srcK_slot, ↓rdAll_nil, ↓rdAll_cons, ↓kpAll_nil, ↓kpAll_cons, ↓argK_nil, ↓argK_val, ↓argK_bor, ↓argK_slot, ↓rcInt_int, ↓rcInt_bl, ↓rcLen_lst, ↓rcLen_tup, ↓rcLen_scr, ↓rcLen_str, ↓rcAbs_int, ↓rcMax2_ii, ↓rcMin2_ii, ↓rcListS_str, ↓rcListS_lst, ↓rcListS_tup, ↓rcTuple_lst, ↓rcTuple_tup, ↓rcAll_lst, ↓rcSum_lst, ↓rcStr_int, ↓rcStr_str, ↓rcRepr_int, ↓slK_lst, ↓slK_tup, ↓slK_str, ↓slSK_scr, ↓revK_lst, ↓inK_lst, ↓inK_tup, ↓inK_ss, ↓objK_e, ↓obK_obj, ↓obK_cel, ↓objW_obj, ↓wJs_nil, ↓wJs_cons, ↓fmtK_str, ↓fmtK_int, ↓fmtRK_str, ↓fmtRK_int, ↓joinK_lst, ↓joinK_tup, ↓noLent_nil, ↓noLent_cons, ↓wipeS_e, ↓wipeL_nil, ↓wipeL_cons, ↓pI_int, ↓pS_str, ↓pB_bl, ↓nfK_obj, ↓nfK_cel, ↓nfK_non, ↓nfK_bl, ↓nfK_int, ↓nfK_str, ↓nfK_tup, ↓nfK_lst, ↓nfK_dct, ↓slfK_e, ↓isNonT_non, ↓ofK_e, ↓derefK_lst, ↓derefK_tup, ↓derefK_str, ↓derefK_cel, ↓rcReprA_e, ↓wFmtRD_e, ↓aStar_e, ↓seqItK_lst, ↓seqItK_tup, ↓wFldC_e, ↓wMakeK_e, ↓wTryL_e, ↓wHds_nil, ↓wHds_cons, ↓revTK_tup, ↓wRevT_e, ↓rsRep_t, ↓rsRep_l, ↓wKp_e, ↓aConsF_e, ↓notSl_val, ↓notSl_fresh, ↓notSl_bor, ↓wParN_e, ↓asgN_nil, ↓asgN_cons, ↓rcMin1_lst, ↓wRaise_e, ↓wTry_e, ↓wExf_e, ↓wExI_e, ↓fldL1, ↓rcReprD_e, szLine, CPow, CMul, CDivN]
  refine shK_due hx (shK_due hx ?_)
  simp [↓wVar_e, ↓wC_e, ↓wOp2_e, ↓wTest_e, ↓wAnd_e, ↓wOr_e, ↓wNot_e, ↓wAndV_e, ↓wOrV_e, ↓wNotV_e, ↓wIfE_e, ↓aNil_e, ↓aCons_e, ↓wLst_e, ↓wTup_e, ↓wCall_e, ↓wSet_e, ↓wSeq_e, ↓wSkip_e, ↓wIf_e, ↓wDrop_e, ↓wRet_e, ↓wRetN_e, ↓wBrk_e, ↓wCnt_e, ↓wNev_e, ↓gwName_e, ↓gwNil_e, ↓gwCons_e, ↓gwTup_e, ↓gwTupN_e, ↓wSrc_e, ↓wSrcZ_e, ↓wRng1_e, ↓wRng2_e, ↓wFor_e, ↓wLc_e, ↓wYes_e, ↓rsEq_e, ↓rsNe_e, ↓rsIn_e, ↓rsNotIn_e, ↓rsInt_e, ↓rsInt0_e, ↓rsAdd_e, ↓rsIsN_e, ↓rsNotN_e, ↓rsIx_e, ↓oNo_e, ↓oOf_e, ↓wSl_e, ↓wRev_e, ↓wNeg_e, ↓wCh_e, ↓wBlt_e, ↓rc1_e, ↓rc2_e, ↓wEn_e, ↓wChs_e, ↓wJoin_e, ↓wMut_e, ↓mfAppend_e, ↓mfPop_e, ↓mfReverse_e, ↓mfInsert_e, ↓mfExtend_e, ↓wSetIx_e, ↓wFmt_e, ↓wFmtR_e, ↓wFs_e, ↓wIsi_e, ↓wFld_e, ↓wSetF_e, ↓wSp1_e, ↓wEqO_e, ↓wInO_e, ↓wMeth_e, ↓wIxC_e, ↓rsIxS_e, ↓wSlS_e, ↓wLstC_e, ↓wTupC_e, ↓rsSub_e, ↓rsMulI_e, ↓rsFdiv_e, ↓rsMod_e, ↓rsPow_e, ↓rsLt_e, ↓rsLe_e, ↓rsGt_e, ↓rsGe_e, ↓rdK_val, ↓rdK_fresh, ↓rdK_bor, ↓rdK_slot, ↓kpK_val, ↓kpK_fresh, ↓kpK_slot, ↓retK_val, ↓retK_fresh, ↓retK_slot, ↓asgK_val, ↓asgK_bor, ↓asgK_fresh, ↓asgK_slot, ↓wrK_slot, ↓wrK_cel, ↓lstK_lst, ↓asInt_int, ↓intK_ii, ↓isBl_bl, ↓isBlT_bl, ↓strK_str, ↓itemsK_lst, ↓itemsK_tup, ↓stl_val, ↓stl_fresh, ↓stl_bor, ↓stl_slot, ↓srcK_val, ↓srcK_fresh, ↓srcK_bor, ↓srcK_slot, ↓rdAll_nil, ↓rdAll_cons, ↓kpAll_nil, ↓kpAll_cons, ↓argK_nil, ↓argK_val, ↓argK_bor, ↓argK_slot, ↓rcInt_int, ↓rcInt_bl, ↓rcLen_lst, ↓rcLen_tup, ↓rcLen_scr, ↓rcLen_str, ↓rcAbs_int, ↓rcMax2_ii, ↓rcMin2_ii, ↓rcListS_str, ↓rcListS_lst, ↓rcListS_tup, ↓rcTuple_lst, ↓rcTuple_tup, ↓rcAll_lst, ↓rcSum_lst, ↓rcStr_int, ↓rcStr_str, ↓rcRepr_int, ↓slK_lst, ↓slK_tup, ↓slK_str, ↓slSK_scr, ↓revK_lst, ↓inK_lst, ↓inK_tup, ↓inK_ss, ↓objK_e, ↓obK_obj, ↓obK_cel, ↓objW_obj, ↓wJs_nil, ↓wJs_cons, ↓fmtK_str, ↓fmtK_int, ↓fmtRK_str, ↓fmtRK_int, ↓joinK_lst, ↓joinK_tup, ↓noLent_nil, ↓noLent_cons, ↓wipeS_e, ↓wipeL_nil, ↓wipeL_cons, ↓pI_int, ↓pS_str, ↓pB_bl, ↓nfK_obj, ↓nfK_cel, ↓nfK_non, ↓nfK_bl, ↓nfK_int, ↓nfK_str, ↓nfK_tup, ↓nfK_lst, ↓nfK_dct, ↓slfK_e, ↓isNonT_non, ↓ofK_e, ↓derefK_lst, ↓derefK_tup, ↓derefK_str, ↓derefK_cel, ↓rcReprA_e, ↓wFmtRD_e, ↓aStar_e, ↓seqItK_lst, ↓seqItK_tup, ↓wFldC_e, ↓wMakeK_e, ↓wTryL_e, ↓wHds_nil, ↓wHds_cons, ↓revTK_tup, ↓wRevT_e, ↓rsRep_t, ↓rsRep_l, ↓wKp_e, ↓aConsF_e, ↓notSl_val, ↓notSl_fresh, ↓notSl_bor, ↓wParN_e, ↓asgN_nil, ↓asgN_cons, ↓rcMin1_lst, ↓wRaise_e, ↓wTry_e, ↓wExf_e, ↓wExI_e, ↓fldL1, ↓rcReprD_e, szLine, CPow, CMul, CDivN]
  refine ⟨by omega, shK_lst hx (by simp; omega) (shK_lst hx (by simp; omega) ?_)⟩
  simp [↓wVar_e, ↓wC_e, ↓wOp2_e, ↓wTest_e, ↓wAnd_e, ↓wOr_e, ↓wNot_e, ↓wAndV_e, ↓wOrV_e, ↓wNotV_e, ↓wIfE_e, ↓aNil_e, ↓aCons_e, ↓wLst_e, ↓wTup_e, ↓wCall_e, ↓wSet_e, ↓wSeq_e, ↓wSkip_e, ↓wIf_e, ↓wDrop_e, ↓wRet_e, ↓wRetN_e, ↓wBrk_e, ↓wCnt_e, ↓wNev_e, ↓gwName_e, ↓gwNil_e, ↓gwCons_e, ↓gwTup_e, ↓gwTupN_e, ↓wSrc_e, ↓wSrcZ_e, ↓wRng1_e, ↓wRng2_e, ↓wFor_e, ↓wLc_e, ↓wYes_e, ↓rsEq_e, ↓rsNe_e, ↓rsIn_e, ↓rsNotIn_e, ↓rsInt_e, ↓rsInt0_e, ↓rsAdd_e, ↓rsIsN_e, ↓rsNotN_e, ↓rsIx_e, ↓oNo_e, ↓oOf_e, ↓wSl_e, ↓wRev_e, ↓wNeg_e, ↓wCh_e, ↓wBlt_e, ↓rc1_e, ↓rc2_e, ↓wEn_e, ↓wChs_e, ↓wJoin_e, ↓wMut_e, ↓mfAppend_e, ↓mfPop_e, ↓mfReverse_e, ↓mfInsert_e, ↓mfExtend_e, ↓wSetIx_e, ↓wFmt_e, ↓wFmtR_e, ↓wFs_e, ↓wIsi_e, ↓wFld_e, ↓wSetF_e, ↓wSp1_e, ↓wEqO_e, ↓wInO_e, ↓wMeth_e, ↓wIxC_e, ↓rsIxS_e, ↓wSlS_e, ↓wLstC_e, ↓wTupC_e, ↓rsSub_e, ↓rsMulI_e, ↓rsFdiv_e, ↓rsMod_e, ↓rsPow_e, ↓rsLt_e, ↓rsLe_e, ↓rsGt_e, ↓rsGe_e, ↓rdK_val, ↓rdK_fresh, ↓rdK_bor, ↓rdK_slot, ↓kpK_val, ↓kpK_fresh, ↓kpK_slot, ↓retK_val, ↓retK_fresh, ↓retK_slot, ↓asgK_val, ↓asgK_bor, ↓asgK_fresh, ↓asgK_slot, ↓wrK_slot, ↓wrK_cel, ↓lstK_lst, ↓asInt_int, ↓intK_ii, ↓isBl_bl, ↓isBlT_bl, ↓strK_str, ↓itemsK_lst, ↓itemsK_tup, ↓stl_val, ↓stl_fresh, ↓stl_bor, ↓stl_slot, ↓srcK_val, ↓srcK_fresh, ↓srcK_bor, ↓srcK_slot, ↓rdAll_nil, ↓rdAll_cons, ↓kpAll_nil, ↓kpAll_cons, ↓argK_nil, ↓argK_val, ↓argK_bor, ↓argK_slot, ↓rcInt_int, ↓rcInt_bl, ↓rcLen_lst, ↓rcLen_tup, ↓rcLen_scr, ↓rcLen_str, ↓rcAbs_int, ↓rcMax2_ii, ↓rcMin2_ii, ↓rcListS_str, ↓rcListS_lst, ↓rcListS_tup, ↓rcTuple_lst, ↓rcTuple_tup, ↓rcAll_lst, ↓rcSum_lst, ↓rcStr_int, ↓rcStr_str, ↓rcRepr_int, ↓slK_lst, ↓slK_tup, ↓slK_str, ↓slSK_scr, ↓revK_lst, ↓inK_lst, ↓inK_tup, ↓inK_ss, ↓objK_e, ↓obK_obj, ↓obK_cel, ↓objW_obj, ↓wJs_nil, ↓wJs_cons, ↓fmtK_str, ↓fmtK_int, ↓fmtRK_str, ↓fmtRK_int, ↓joinK_lst, ↓joinK_tup, ↓noLent_nil, ↓noLent_cons, ↓wipeS_e, ↓wipeL_nil, ↓wipeL_cons, ↓pI_int, ↓pS_str, ↓pB_bl, ↓nfK_obj, ↓nfK_cel, ↓nfK_non, ↓nfK_bl, ↓nfK_int, ↓nfK_str, ↓nfK_tup, ↓nfK_lst, ↓nfK_dct, ↓slfK_e, ↓isNonT_non, ↓ofK_e, ↓derefK_lst, ↓derefK_tup, ↓derefK_str, ↓derefK_cel, ↓rcReprA_e, ↓wFmtRD_e, ↓aStar_e, ↓seqItK_lst, ↓seqItK_tup, ↓wFldC_e, ↓wMakeK_e, ↓wTryL_e, ↓wHds_nil, ↓wHds_cons, ↓revTK_tup, ↓wRevT_e, ↓rsRep_t, ↓rsRep_l, ↓wKp_e, ↓aConsF_e, ↓notSl_val, ↓notSl_fresh, ↓notSl_bor, ↓wParN_e, ↓asgN_nil, ↓asgN_cons, ↓rcMin1_lst, ↓wRaise_e, ↓wTry_e, ↓wExf_e, ↓wExI_e, ↓fldL1, ↓rcReprD_e, szLine, CPow, CMul, CDivN]
  exact law_7 hzr z1 l15 l16 hz hk
theorem law_10 (hb : c[n]? = some .bag) (e6 : s6 = .val (.lst (us ++ vs))) (hzr : Row zs) (z1 : 1 ≤ zs.length) (l8 : s8.isL = false) (l13 : s13.isL = false) (l14 : s14.isL = false) (l15 : s15.isL = false) (l16 : s16.isL = false) (hz : (∀ z ∈ zs, Ent (.str z)) ∧ (∀ x ∈ us, Ent x) ∧ (∀ x ∈ vs, Ent x) ∧ zs.length + us.length + vs.length ≤ 20)
    (hk : ∀ s8 s13 s14 s15 s16 : BV.Slot, s8.isL = false → s13.isL = false → s14.isL = false → s15.isL = false → s16.isL = false → E.nx ⟨[s0, s1, .val (.cel n), .val (.lst (zs.map PV.str)), .val (tabP K zs), s5, s6, s7, s8, s9, s10, .val (.lst us), .val (.lst vs), s13, s14, s15, s16], c⟩) : t_law_10 K sBag sOf (sTab K) sWords sSpoilt sDue (sTold K) sTake (sForm K) (sIsF K) (sFeq K) ⟨[s0, s1, .val (.cel n), .val (.lst (zs.map PV.str)), .val (tabP K zs), s5, s6, s7, s8, s9, s10, .val (.lst us), .val (.lst vs), s13, s14, s15, s16], c⟩ E := by
  obtain ⟨h1, h2, h3, h4⟩ := id hz
  have hzm : ∀ x ∈ zs.map PV.str, Ent x := fun x h => by
    obtain ⟨z, hz, rfl⟩ := List.mem_map.mp h
    exact h1 z hz
  have hx : ∀ x ∈ us ++ vs, Ent x := fun x h => (List.mem_append.mp h).elim (h2 x) (h3 x)
  subst e6
  unfold t_law_10
  simp [↓wVar_e, ↓wC_e, ↓wOp2_e, ↓wTest_e, ↓wAnd_e, ↓wOr_e, ↓wNot_e, ↓wAndV_e, ↓wOrV_e, ↓wNotV_e, ↓wIfE_e, ↓aNil_e, ↓aCons_e, ↓wLst_e, ↓wTup_e, ↓wCall_e, ↓wSet_e, ↓wSeq_e, ↓wSkip_e, ↓wIf_e, ↓wDrop_e, ↓wRet_e, ↓wRetN_e, ↓wBrk_e, ↓wCnt_e, ↓wNev_e, ↓gwName_e, ↓gwNil_e, ↓gwCons_e, ↓gwTup_e, ↓gwTupN_e, ↓wSrc_e, ↓wSrcZ_e, ↓wRng1_e, ↓wRng2_e, ↓wFor_e, ↓wLc_e, ↓wYes_e, ↓rsEq_e, ↓rsNe_e, ↓rsIn_e, ↓rsNotIn_e, ↓rsInt_e, ↓rsInt0_e, ↓rsAdd_e, ↓rsIsN_e, ↓rsNotN_e, ↓rsIx_e, ↓oNo_e, ↓oOf_e, ↓wSl_e, ↓wRev_e, ↓wNeg_e, ↓wCh_e, ↓wBlt_e, ↓rc1_e, ↓rc2_e, ↓wEn_e, ↓wChs_e, ↓wJoin_e, ↓wMut_e, ↓mfAppend_e, ↓mfPop_e, ↓mfReverse_e, ↓mfInsert_e, ↓mfExtend_e, ↓wSetIx_e, ↓wFmt_e, ↓wFmtR_e, ↓wFs_e, ↓wIsi_e, ↓wFld_e, ↓wSetF_e, ↓wSp1_e, ↓wEqO_e, ↓wInO_e, ↓wMeth_e, ↓wIxC_e, ↓rsIxS_e, ↓wSlS_e, ↓wLstC_e, ↓wTupC_e, ↓rsSub_e, ↓rsMulI_e, ↓rsFdiv_e, ↓rsMod_e, ↓rsPow_e, ↓rsLt_e, ↓rsLe_e, ↓rsGt_e, ↓rsGe_e, ↓rdK_val, ↓rdK_fresh, ↓rdK_bor, ↓rdK_slot, ↓kpK_val, ↓kpK_fresh, ↓kpK_slot, ↓retK_val, ↓retK_fresh, ↓retK_slot, ↓asgK_val, ↓asgK_bor, ↓asgK_fresh, ↓asgK_slot, ↓wrK_slot, ↓wrK_cel, ↓lstK_lst, ↓asInt_int, ↓intK_ii, ↓isBl_bl, ↓isBlT_bl, ↓strK_str, ↓itemsK_lst, ↓itemsK_tup, ↓stl_val, ↓stl_fresh, ↓stl_bor, ↓stl_slot, ↓srcK_val, ↓srcK_fresh, ↓srcK_bor, ↓srcK_slot, ↓rdAll_nil, ↓rdAll_cons, ↓kpAll_nil, ↓kpAll_cons, ↓argK_nil, ↓argK_val, ↓argK_bor, ↓argK_slot, ↓rcInt_int, ↓rcInt_bl, ↓rcLen_lst, ↓rcLen_tup, ↓rcLen_scr, ↓rcLen_str, ↓rcAbs_int, ↓rcMax2_ii, ↓rcMin2_ii, ↓rcListS_str, ↓rcListS_lst, ↓rcListS_tup, ↓rcTuple_lst, ↓rcTuple_tup, ↓rcAll_lst, ↓rcSum_lst, ↓rcStr_int, ↓rcStr_str, ↓rcRepr_int, ↓slK_lst, ↓slK_tup, ↓slK_str, ↓slSK_scr, ↓revK_lst, ↓inK_lst, ↓inK_tup, ↓inK_ss, ↓objK_e, ↓obK_obj, ↓obK_cel, ↓objW_obj, ↓wJs_nil, ↓wJs_cons, ↓fmtK_str, ↓fmtK_int, ↓fmtRK_str, ↓fmtRK_int, ↓joinK_lst, ↓joinK_tup, ↓noLent_nil, ↓noLent_cons, ↓wipeS_e, ↓wipeL_nil, ↓wipeL_cons, ↓pI_int, ↓pS_str, ↓pB_bl, ↓nfK_obj, ↓nfK_cel, ↓nfK_non, ↓nfK_bl, ↓nfK_int, ↓nfK_str, ↓nfK_tup, ↓nfK_lst, ↓nfK_dct, ↓slfK_e, ↓isNonT_non, ↓ofK_e, ↓derefK_lst, ↓derefK_tup, ↓derefK_str, ↓derefK_cel, ↓rcReprA_e, ↓wFmtRD_e, ↓aStar_e, ↓seqItK_lst, ↓seqItK_tup, ↓wFldC_e, ↓wMakeK_e, ↓wTryL_e, ↓wHds_nil, ↓wHds_cons, ↓revTK_tup, ↓wRevT_e, ↓rsRep_t, ↓rsRep_l, ↓wKp_e, ↓aConsF_e, ↓notSl_val, ↓notSl_fresh, ↓notSl_bor, ↓wParN_e, ↓asgN_nil, ↓asgN_cons, ↓rcMin1_lst, ↓wRaise_e, ↓wTry_e, ↓wExf_e, ↓wExI_e, ↓fldL1, ↓rcReprD_e, szLine, CPow, CMul, CDivN, l13, l14, ↓sDue_v]
  refine ⟨⟨h1, h2, h3, h4⟩, ?_⟩
  unfold t_law_9
  simp [↓wVar_e, ↓wC_e, ↓wOp2_e, ↓wTest_e, ↓wAnd_e, ↓wOr_e, ↓wNot_e, ↓wAndV_e, ↓wOrV_e, ↓wNotV_e, ↓wIfE_e, ↓aNil_e, ↓aCons_e, ↓wLst_e, ↓wTup_e, ↓wCall_e, ↓wSet_e, ↓wSeq_e, ↓wSkip_e, ↓wIf_e, ↓wDrop_e, ↓wRet_e, ↓wRetN_e, ↓wBrk_e, ↓wCnt_e, ↓wNev_e, ↓gwName_e, ↓gwNil_e, ↓gwCons_e, ↓gwTup_e, ↓gwTupN_e, ↓wSrc_e, ↓wSrcZ_e, ↓wRng1_e, ↓wRng2_e, ↓wFor_e, ↓wLc_e, ↓wYes_e, ↓rsEq_e, ↓rsNe_e, ↓rsIn_e, ↓rsNotIn_e, ↓rsInt_e, ↓rsInt0_e, ↓rsAdd_e, ↓rsIsN_e, ↓rsNotN_e, ↓rsIx_e, ↓oNo_e, ↓oOf_e, ↓wSl_e, ↓wRev_e, ↓wNeg_e, ↓wCh_e, ↓wBlt_e, ↓rc1_e, ↓rc2_e, ↓wEn_e, ↓wChs_e, ↓wJoin_e, ↓wMut_e, ↓mfAppend_e, ↓mfPop_e, ↓mfReverse_e, ↓mfInsert_e, ↓mfExtend_e, ↓wSetIx_e, ↓wFmt_e, ↓wFmtR_e, ↓wFs_e, ↓wIsi_e, ↓wFld_e, ↓wSetF_e, ↓wSp1_e, ↓wEqO_e, ↓wInO_e, ↓wMeth_e, ↓wIxC_e, ↓rsIxS_e, ↓wSlS_e, ↓wLstC_e, ↓wTupC_e, ↓rsSub_e, ↓rsMulI_e, ↓rsFdiv_e, ↓rsMod_e, ↓rsPow_e, ↓rsLt_e, ↓rsLe_e, ↓rsGt_e, ↓rsGe_e, ↓rdK_val, ↓rdK_fresh, ↓rdK_bor, ↓rdK_slot, ↓kpK_val, ↓kpK_fresh, ↓kpK_slot, ↓retK_val, ↓retK_fresh, ↓retK_slot, ↓asgK_val, ↓asgK_bor, ↓asgK_fresh, ↓asgK_slot, ↓wrK_slot, ↓wrK_cel, ↓lstK_lst, ↓asInt_int, ↓intK_ii, ↓isBl_bl, ↓isBlT_bl, ↓strK_str, ↓itemsK_lst, ↓itemsK_tup, ↓stl_val, ↓stl_fresh, ↓stl_bor, ↓stl_slot, ↓srcK_val, ↓srcK_fresh, ↓srcK_bor, ↓srcK_slot, ↓rdAll_nil, ↓rdAll_cons, ↓kpAll_nil, ↓kpAll_cons, ↓argK_nil, ↓argK_val, ↓argK_bor, ↓argK_slot, ↓rcInt_int, ↓rcInt_bl, ↓rcLen_lst, ↓rcLen_tup, ↓rcLen_scr, ↓rcLen_str, ↓rcAbs_int, ↓rcMax2_ii, ↓rcMin2_ii, ↓rcListS_str, ↓rcListS_lst, ↓rcListS_tup, ↓rcTuple_lst, ↓rcTuple_tup, ↓rcAll_lst, ↓rcSum_lst, ↓rcStr_int, ↓rcStr_str, ↓rcRepr_int, ↓slK_lst, ↓slK_tup, ↓slK_str, ↓slSK_scr, ↓revK_lst, ↓inK_lst, ↓inK_tup, ↓inK_ss, ↓objK_e, ↓obK_obj, ↓obK_cel, ↓objW_obj, ↓wJs_nil, ↓wJs_cons, ↓fmtK_str, ↓fmtK_int, ↓fmtRK_str, ↓fmtRK_int, ↓joinK_lst, ↓joinK_tup, ↓noLent_nil, ↓noLent_cons, ↓wipeS_e, ↓wipeL_nil, ↓wipeL_cons, ↓pI_int, ↓pS_str, ↓pB_bl, ↓nfK_obj, ↓nfK_cel, ↓nfK_non, ↓nfK_bl, ↓nfK_int, ↓nfK_str, ↓nfK_tup, ↓nfK_lst, ↓nfK_dct, ↓slfK_e, ↓isNonT_non, ↓ofK_e, ↓derefK_lst, ↓derefK_tup, ↓derefK_str, ↓derefK_cel, ↓rcReprA_e, ↓wFmtRD_e, ↓aStar_e, ↓seqItK_lst, ↓seqItK_tup, ↓wFldC_e, ↓wMakeK_e, ↓wTryL_e, ↓wHds_nil, ↓wHds_cons, ↓revTK_tup, ↓wRevT_e, ↓rsRep_t, ↓rsRep_l, ↓wKp_e, ↓aConsF_e, ↓notSl_val, ↓notSl_fresh, ↓notSl_bor, ↓wParN_e, ↓asgN_nil, ↓asgN_cons, ↓rcMin1_lst, ↓wRaise_e, ↓wTry_e, ↓wExf_e, ↓wExI_e, ↓fldL1, ↓rcReprD_e, szLine, CPow, CMul, CDivN, l8, sTake, hb]
  refine fun d _ _ => ⟨fun _ => ?_, fun _ => ?_⟩
  · refine ⟨zs, _, us, vs, rfl, .inl rfl, hz, ?_⟩
    simp [↓wVar_e, ↓wC_e, ↓wOp2_e, ↓wTest_e, ↓wAnd_e, ↓wOr_e, ↓wNot_e, ↓wAndV_e, ↓wOrV_e, ↓wNotV_e, ↓wIfE_e, ↓aNil_e, ↓aCons_e, ↓wLst_e, ↓wTup_e, ↓wCall_e, ↓wSet_e, ↓wSeq_e, ↓wSkip_e, ↓wIf_e, ↓wDrop_e, ↓wRet_e, ↓wRetN_e, ↓wBrk_e, ↓wCnt_e, ↓wNev_e, ↓gwName_e, ↓gwNil_e, ↓gwCons_e, ↓gwTup_e, ↓gwTupN_e, ↓wSrc_e, ↓wSrcZ_e, ↓wRng1_e, ↓wRng2_e, ↓wFor_e, ↓wLc_e, ↓wYes_e, ↓rsEq_e, ↓rsNe_e, ↓rsIn_e, ↓rsNotIn_e, ↓rsInt_e, ↓rsInt0_e, ↓rsAdd_e, ↓rsIsN_e, ↓rsNotN_e, ↓rsIx_e, ↓oNo_e, ↓oOf_e, ↓wSl_e, ↓wRev_e, ↓wNeg_e, ↓wCh_e, ↓wBlt_e, ↓rc1_e, ↓rc2_e, ↓wEn_e, ↓wChs_e, ↓wJoin_e, ↓wMut_e, ↓mfAppend_e, ↓mfPop_e, ↓mfReverse_e, ↓mfInsert_e, ↓mfExtend_e, ↓wSetIx_e, ↓wFmt_e, ↓wFmtR_e, ↓wFs_e, ↓wIsi_e, ↓wFld_e, ↓wSetF_e, ↓wSp1_e, ↓wEqO_e, ↓wInO_e, ↓wMeth_e, ↓wIxC_e, ↓rsIxS_e, ↓wSlS_e, ↓wLstC_e, ↓wTupC_e, ↓rsSub_e, ↓rsMulI_e, ↓rsFdiv_e, ↓rsMod_e, ↓rsPow_e, ↓rsLt_e, ↓rsLe_e, ↓rsGt_e, ↓rsGe_e, ↓rdK_val, ↓rdK_fresh, ↓rdK_bor, ↓rdK_slot, ↓kpK_val, ↓kpK_fresh, ↓kpK_slot, ↓retK_val, ↓retK_fresh, ↓retK_slot, ↓asgK_val, ↓asgK_bor, ↓asgK_fresh, ↓asgK_slot, ↓wrK_slot, ↓wrK_cel, ↓lstK_lst, ↓asInt_int, ↓intK_ii, ↓isBl_bl, ↓isBlT_bl, ↓strK_str, ↓itemsK_lst, ↓itemsK_tup, ↓stl_val, ↓stl_fresh, ↓stl_bor, ↓stl_slot, ↓srcK_val, ↓srcK_fresh, ↓srcK_bor, ↓srcK_slot, ↓rdAll_nil, ↓rdAll_cons, ↓kpAll_nil, ↓kpAll_cons, ↓argK_nil, ↓argK_val, ↓argK_bor, ↓argK_slot, ↓rcInt_int, ↓rcInt_bl, ↓rcLen_lst, ↓rcLen_tup, ↓rcLen_scr, ↓rcLen_str, ↓rcAbs_int, ↓rcMax2_ii, ↓rcMin2_ii, ↓rcListS_str, ↓rcListS_lst, ↓rcListS_tup, ↓rcTuple_lst, ↓rcTuple_tup, ↓rcAll_lst, ↓rcSum_lst, ↓rcStr_int, ↓rcStr_str, ↓rcRepr_int, ↓slK_lst, ↓slK_tup, ↓slK_str, ↓slSK_scr, ↓revK_lst, ↓inK_lst, ↓inK_tup, ↓inK_ss, ↓objK_e, ↓obK_obj, ↓obK_cel, ↓objW_obj, ↓wJs_nil, ↓wJs_cons, ↓fmtK_str, ↓fmtK_int, ↓fmtRK_str, ↓fmtRK_int, ↓joinK_lst, ↓joinK_tup, ↓noLent_nil, ↓noLent_cons, ↓wipeS_e, ↓wipeL_nil, ↓wipeL_cons, ↓pI_int, ↓pS_str, ↓pB_bl, ↓nfK_obj, ↓nfK_cel, ↓nfK_non, ↓nfK_bl, ↓nfK_int, ↓nfK_str, ↓nfK_tup, ↓nfK_lst, ↓nfK_dct, ↓slfK_e, ↓isNonT_non, ↓ofK_e, ↓derefK_lst, ↓derefK_tup, ↓derefK_str, ↓derefK_cel, ↓rcReprA_e, ↓wFmtRD_e, ↓aStar_e, ↓seqItK_lst, ↓seqItK_tup, ↓wFldC_e, ↓wMakeK_e, ↓wTryL_e, ↓wHds_nil, ↓wHds_cons, ↓revTK_tup, ↓wRevT_e, ↓rsRep_t, ↓rsRep_l, ↓wKp_e, ↓aConsF_e, ↓notSl_val, ↓notSl_fresh, ↓notSl_bor, ↓wParN_e, ↓asgN_nil, ↓asgN_cons, ↓rcMin1_lst, ↓wRaise_e, ↓wTry_e, ↓wExf_e, ↓wExI_e, ↓fldL1, ↓rcReprD_e, szLine, CPow, CMul, CDivN, l8]
    exact law_8 hzr z1 l15 l16 hz fun s13 s15 s16 l13 l15 l16 => hk _ _ _ _ _ (by rfl) l13 (by rfl) l15 l16
  · refine ⟨zs, _, us, vs, rfl, .inr rfl, hz, ?_⟩
    simp [↓wVar_e, ↓wC_e, ↓wOp2_e, ↓wTest_e, ↓wAnd_e, ↓wOr_e, ↓wNot_e, ↓wAndV_e, ↓wOrV_e, ↓wNotV_e, ↓wIfE_e, ↓aNil_e, ↓aCons_e, ↓wLst_e, ↓wTup_e, ↓wCall_e, ↓wSet_e, ↓wSeq_e, ↓wSkip_e, ↓wIf_e, ↓wDrop_e, ↓wRet_e, ↓wRetN_e, ↓wBrk_e, ↓wCnt_e, ↓wNev_e, ↓gwName_e, ↓gwNil_e, ↓gwCons_e, ↓gwTup_e, ↓gwTupN_e, ↓wSrc_e, ↓wSrcZ_e, ↓wRng1_e, ↓wRng2_e, ↓wFor_e, ↓wLc_e, ↓wYes_e, ↓rsEq_e, ↓rsNe_e, ↓rsIn_e, ↓rsNotIn_e, ↓rsInt_e, ↓rsInt0_e, ↓rsAdd_e, ↓rsIsN_e, ↓rsNotN_e, ↓rsIx_e, ↓oNo_e, ↓oOf_e, ↓wSl_e, ↓wRev_e, ↓wNeg_e, ↓wCh_e, ↓wBlt_e, ↓rc1_e, ↓rc2_e, ↓wEn_e, ↓wChs_e, ↓wJoin_e, ↓wMut_e, ↓mfAppend_e, ↓mfPop_e, ↓mfReverse_e, ↓mfInsert_e, ↓mfExtend_e, ↓wSetIx_e, ↓wFmt_e, ↓wFmtR_e, ↓wFs_e, ↓wIsi_e, ↓wFld_e, ↓wSetF_e, ↓wSp1_e, ↓wEqO_e, ↓wInO_e, ↓wMeth_e, ↓wIxC_e, ↓rsIxS_e, ↓wSlS_e, ↓wLstC_e, ↓wTupC_e, ↓rsSub_e, ↓rsMulI_e, ↓rsFdiv_e, ↓rsMod_e, ↓rsPow_e, ↓rsLt_e, ↓rsLe_e, ↓rsGt_e, ↓rsGe_e, ↓rdK_val, ↓rdK_fresh, ↓rdK_bor, ↓rdK_slot, ↓kpK_val, ↓kpK_fresh, ↓kpK_slot, ↓retK_val, ↓retK_fresh, ↓retK_slot, ↓asgK_val, ↓asgK_bor, ↓asgK_fresh, ↓asgK_slot, ↓wrK_slot, ↓wrK_cel, ↓lstK_lst, ↓asInt_int, ↓intK_ii, ↓isBl_bl, ↓isBlT_bl, ↓strK_str, ↓itemsK_lst, ↓itemsK_tup, ↓stl_val, ↓stl_fresh, ↓stl_bor, ↓stl_slot, ↓srcK_val, ↓srcK_fresh, ↓srcK_bor, ↓srcK_slot, ↓rdAll_nil, ↓rdAll_cons, ↓kpAll_nil, ↓kpAll_cons, ↓argK_nil, ↓argK_val, ↓argK_bor, ↓argK_slot, ↓rcInt_int, ↓rcInt_bl, ↓rcLen_lst, ↓rcLen_tup, ↓rcLen_scr, ↓rcLen_str, ↓rcAbs_int, ↓rcMax2_ii, ↓rcMin2_ii, ↓rcListS_str, ↓rcListS_lst, ↓rcListS_tup, ↓rcTuple_lst, ↓rcTuple_tup, ↓rcAll_lst, ↓rcSum_lst, ↓rcStr_int, ↓rcStr_str, ↓rcRepr_int, ↓slK_lst, ↓slK_tup, ↓slK_str, ↓slSK_scr, ↓revK_lst, ↓inK_lst, ↓inK_tup, ↓inK_ss, ↓objK_e, ↓obK_obj, ↓obK_cel, ↓objW_obj, ↓wJs_nil, ↓wJs_cons, ↓fmtK_str, ↓fmtK_int, ↓fmtRK_str, ↓fmtRK_int, ↓joinK_lst, ↓joinK_tup, ↓noLent_nil, ↓noLent_cons, ↓wipeS_e, ↓wipeL_nil, ↓wipeL_cons, ↓pI_int, ↓pS_str, ↓pB_bl, ↓nfK_obj, ↓nfK_cel, ↓nfK_non, ↓nfK_bl, ↓nfK_int, ↓nfK_str, ↓nfK_tup, ↓nfK_lst, ↓nfK_dct, ↓slfK_e, ↓isNonT_non, ↓ofK_e, ↓derefK_lst, ↓derefK_tup, ↓derefK_str, ↓derefK_cel, ↓rcReprA_e, ↓wFmtRD_e, ↓aStar_e, ↓seqItK_lst, ↓seqItK_tup, ↓wFldC_e, ↓wMakeK_e, ↓wTryL_e, ↓wHds_nil, ↓wHds_cons, ↓revTK_tup, ↓wRevT_e, ↓rsRep_t, ↓rsRep_l, ↓wKp_e, ↓aConsF_e, ↓notSl_val, ↓notSl_fresh, ↓notSl_bor, ↓wParN_e, ↓asgN_nil, ↓asgN_cons, ↓rcMin1_lst, ↓wRaise_e, ↓wTry_e, ↓wExf_e, ↓wExI_e, ↓fldL1, ↓rcReprD_e, szLine, CPow, CMul, CDivN, l8]
    exact law_8 hzr z1 l15 l16 hz fun s13 s15 s16 l13 l15 l16 => hk _ _ _ _ _ (by rfl) l13 (by rfl) l15 l16
/-- the slots that a turn may leave -/
def stS (K : PySem.W.Frag) (s0 s1 : BV.Slot) (n : Nat) (zs : List Str) (f : List BV.Slot) (c : List PV) : MS := ⟨s0 :: s1 :: .val (.cel n) :: .val (.lst (zs.map PV.str)) :: .val (tabP K zs) :: f, c⟩
theorem law_15 (hb : c[n]? = some .bag) (hzr : Row zs) (z1 : 1 ≤ zs.length) (hze : ∀ z ∈ zs, Ent (.str z)) (zl : zs.length ≤ 3) {s11 s12 : BV.Slot} (l6 : s6.isL = false) (l7 : s7.isL = false) (l8 : s8.isL = false) (l9 : s9.isL = false) (l10 : s10.isL = false) (l11 : s11.isL = false) (l12 : s12.isL = false) (l13 : s13.isL = false) (l14 : s14.isL = false) (l15 : s15.isL = false) (l16 : s16.isL = false)
    (hk : ∀ s6 s7 s8 s9 s10 s11 s12 s13 s14 s15 s16 : BV.Slot, s6.isL = false → s7.isL = false → s8.isL = false → s9.isL = false → s10.isL = false → s11.isL = false → s12.isL = false → s13.isL = false → s14.isL = false → s15.isL = false → s16.isL = false →
      E.nx ⟨[s0, s1, .val (.cel n), .val (.lst (zs.map PV.str)), .val (tabP K zs), s5, s6, s7, s8, s9, s10, s11, s12, s13, s14, s15, s16], c⟩) :
    b_law_15 K sBag sOf (sTab K) sWords sSpoilt sDue (sTold K) sTake (sForm K) (sIsF K) (sFeq K) ⟨[s0, s1, .val (.cel n), .val (.lst (zs.map PV.str)), .val (tabP K zs), s5, s6, s7, s8, s9, s10, s11, s12, s13, s14, s15, s16], c⟩ E := by
  have hzm : ∀ x ∈ zs.map PV.str, Ent x := fun x h => by
    obtain ⟨z, hz, rfl⟩ := List.mem_map.mp h
    exact hze z hz
  unfold b_law_15
  simp [↓wVar_e, ↓wC_e, ↓wOp2_e, ↓wTest_e, ↓wAnd_e, ↓wOr_e, ↓wNot_e, ↓wAndV_e, ↓wOrV_e, ↓wNotV_e, ↓wIfE_e, ↓aNil_e, ↓aCons_e, ↓wLst_e, ↓wTup_e, ↓wCall_e, ↓wSet_e, ↓wSeq_e, ↓wSkip_e, ↓wIf_e, ↓wDrop_e, ↓wRet_e, ↓wRetN_e, ↓wBrk_e, ↓wCnt_e, ↓wNev_e, ↓gwName_e, ↓gwNil_e, ↓gwCons_e, ↓gwTup_e, ↓gwTupN_e, ↓wSrc_e, ↓wSrcZ_e, ↓wRng1_e, ↓wRng2_e, ↓wFor_e, ↓wLc_e, ↓wYes_e, ↓rsEq_e, ↓rsNe_e, ↓rsIn_e, ↓rsNotIn_e, ↓rsInt_e, ↓rsInt0_e, ↓rsAdd_e, ↓rsIsN_e, ↓rsNotN_e, ↓rsIx_e, ↓oNo_e, ↓oOf_e, ↓wSl_e, ↓wRev_e, ↓wNeg_e, ↓wCh_e, ↓wBlt_e, ↓rc1_e, ↓rc2_e, ↓wEn_e, ↓wChs_e, ↓wJoin_e, ↓wMut_e, ↓mfAppend_e, ↓mfPop_e, ↓mfReverse_e, ↓mfInsert_e, ↓mfExtend_e, ↓wSetIx_e, ↓wFmt_e, ↓wFmtR_e, ↓wFs_e, ↓wIsi_e, ↓wFld_e, ↓wSetF_e, ↓wSp1_e, ↓wEqO_e, ↓wInO_e, ↓wMeth_e, ↓wIxC_e, ↓rsIxS_e, ↓wSlS_e, ↓wLstC_e, ↓wTupC_e, ↓rsSub_e, ↓rsMulI_e, ↓rsFdiv_e, ↓rsMod_e, ↓rsPow_e, ↓rsLt_e, ↓rsLe_e, ↓rsGt_e, ↓rsGe_e, ↓rdK_val, ↓rdK_fresh, ↓rdK_bor, ↓rdK_slot, ↓kpK_val, ↓kpK_fresh, ↓kpK_slot, ↓retK_val, ↓retK_fresh, ↓retK_slot, ↓asgK_val, ↓asgK_bor, ↓asgK_fresh, ↓asgK_slot, ↓wrK_slot, ↓wrK_cel, ↓lstK_lst, ↓asInt_int, ↓intK_ii, ↓isBl_bl, ↓isBlT_bl, ↓strK_str, ↓itemsK_lst, ↓itemsK_tup, ↓stl_val, ↓stl_fresh, ↓stl_bor, ↓stl_slot, ↓srcK_val, ↓srcK_fresh, ↓srcK_bor, ↓srcK_slot, ↓rdAll_nil, ↓rdAll_cons, ↓kpAll_nil, ↓kpAll_cons, ↓argK_nil, ↓argK_val, ↓argK_bor, ↓argK_slot, ↓rcInt_int, ↓rcInt_bl, ↓rcLen_lst, ↓rcLen_tup, ↓rcLen_scr, ↓rcLen_str, ↓rcAbs_int, ↓rcMax2_ii, ↓rcMin2_ii, ↓rcListS_str, ↓rcListS_lst, ↓rcListS_tup, ↓rcTuple_lst, ↓rcTuple_tup, ↓rcAll_lst, ↓rcSum_lst, ↓rcStr_int, ↓rcStr_str, ↓rcRepr_int, ↓slK_lst, ↓slK_tup, ↓slK_str, ↓slSK_scr, ↓revK_lst, ↓inK_lst, ↓inK_tup, ↓inK_ss, ↓objK_e, ↓obK_obj, ↓obK_cel, ↓objW_obj, ↓wJs_nil, ↓wJs_cons, ↓fmtK_str, ↓fmtK_int, ↓fmtRK_str, ↓fmtRK_int, ↓joinK_lst, ↓joinK_tup, ↓noLent_nil, ↓noLent_cons, ↓wipeS_e, ↓wipeL_nil, ↓wipeL_cons, ↓pI_int, ↓pS_str, ↓pB_bl, ↓nfK_obj, ↓nfK_cel, ↓nfK_non, ↓nfK_bl, ↓nfK_int, ↓nfK_str, ↓nfK_tup, ↓nfK_lst, ↓nfK_dct, ↓slfK_e, ↓isNonT_non, ↓ofK_e, ↓derefK_lst, ↓derefK_tup, ↓derefK_str, ↓derefK_cel, ↓rcReprA_e, ↓wFmtRD_e, ↓aStar_e, ↓seqItK_lst, ↓seqItK_tup, ↓wFldC_e, ↓wMakeK_e, ↓wTryL_e, ↓wHds_nil, ↓wHds_cons, ↓revTK_tup, ↓wRevT_e, ↓rsRep_t, ↓rsRep_l, ↓wKp_e, ↓aConsF_e, ↓notSl_val, ↓notSl_fresh, ↓notSl_bor, ↓wParN_e, ↓asgN_nil, ↓asgN_cons, ↓rcMin1_lst, ↓wRaise_e, ↓wTry_e, ↓wExf_e, ↓wExI_e, ↓fldL1, ↓rcReprD_e, szLine, CPow, CMul, CDivN, l6, ↓sWords_v, hb]
  intro xs hx hxl
  unfold t_law_14
  simp [↓wVar_e, ↓wC_e, ↓wOp2_e, ↓wTest_e, ↓wAnd_e, ↓wOr_e, ↓wNot_e, ↓wAndV_e, ↓wOrV_e, ↓wNotV_e, ↓wIfE_e, ↓aNil_e, ↓aCons_e, ↓wLst_e, ↓wTup_e, ↓wCall_e, ↓wSet_e, ↓wSeq_e, ↓wSkip_e, ↓wIf_e, ↓wDrop_e, ↓wRet_e, ↓wRetN_e, ↓wBrk_e, ↓wCnt_e, ↓wNev_e, ↓gwName_e, ↓gwNil_e, ↓gwCons_e, ↓gwTup_e, ↓gwTupN_e, ↓wSrc_e, ↓wSrcZ_e, ↓wRng1_e, ↓wRng2_e, ↓wFor_e, ↓wLc_e, ↓wYes_e, ↓rsEq_e, ↓rsNe_e, ↓rsIn_e, ↓rsNotIn_e, ↓rsInt_e, ↓rsInt0_e, ↓rsAdd_e, ↓rsIsN_e, ↓rsNotN_e, ↓rsIx_e, ↓oNo_e, ↓oOf_e, ↓wSl_e, ↓wRev_e, ↓wNeg_e, ↓wCh_e, ↓wBlt_e, ↓rc1_e, ↓rc2_e, ↓wEn_e, ↓wChs_e, ↓wJoin_e, ↓wMut_e, ↓mfAppend_e, ↓mfPop_e, ↓mfReverse_e, ↓mfInsert_e, ↓mfExtend_e, ↓wSetIx_e, ↓wFmt_e, ↓wFmtR_e, ↓wFs_e, ↓wIsi_e, ↓wFld_e, ↓wSetF_e, ↓wSp1_e, ↓wEqO_e, ↓wInO_e, ↓wMeth_e, ↓wIxC_e, ↓rsIxS_e, ↓wSlS_e, ↓wLstC_e, ↓wTupC_e, ↓rsSub_e, ↓rsMulI_e, ↓rsFdiv_e, ↓rsMod_e, ↓rsPow_e, ↓rsLt_e, ↓rsLe_e, ↓rsGt_e, ↓rsGe_e, ↓rdK_val, ↓rdK_fresh, ↓rdK_bor, ↓rdK_slot, ↓kpK_val, ↓kpK_fresh, ↓kpK_slot, ↓retK_val, ↓retK_fresh, ↓retK_slot, ↓asgK_val, ↓asgK_bor, ↓asgK_fresh, ↓asgK_slot, ↓wrK_slot, ↓wrK_cel, ↓lstK_lst, ↓asInt_int, ↓intK_ii, ↓isBl_bl, ↓isBlT_bl, ↓strK_str, ↓itemsK_lst, ↓itemsK_tup, ↓stl_val, ↓stl_fresh, ↓stl_bor, ↓stl_slot, ↓srcK_val, ↓srcK_fresh, ↓srcK_bor, ↓srcK_slot, ↓rdAll_nil, ↓rdAll_cons, ↓kpAll_nil, ↓kpAll_cons, ↓argK_nil, ↓argK_val, ↓argK_bor, ↓argK_slot, ↓rcInt_int, ↓rcInt_bl, ↓rcLen_lst, ↓rcLen_tup, ↓rcLen_scr, ↓rcLen_str, ↓rcAbs_int, ↓rcMax2_ii, ↓rcMin2_ii, ↓rcListS_str, ↓rcListS_lst, ↓rcListS_tup, ↓rcTuple_lst, ↓rcTuple_tup, ↓rcAll_lst, ↓rcSum_lst, ↓rcStr_int, ↓rcStr_str, ↓rcRepr_int, ↓slK_lst, ↓slK_tup, ↓slK_str, ↓slSK_scr, ↓revK_lst, ↓inK_lst, ↓inK_tup, ↓inK_ss, ↓objK_e, ↓obK_obj, ↓obK_cel, ↓objW_obj, ↓wJs_nil, ↓wJs_cons, ↓fmtK_str, ↓fmtK_int, ↓fmtRK_str, ↓fmtRK_int, ↓joinK_lst, ↓joinK_tup, ↓noLent_nil, ↓noLent_cons, ↓wipeS_e, ↓wipeL_nil, ↓wipeL_cons, ↓pI_int, ↓pS_str, ↓pB_bl, ↓nfK_obj, ↓nfK_cel, ↓nfK_non, ↓nfK_bl, ↓nfK_int, ↓nfK_str, ↓nfK_tup, ↓nfK_lst, ↓nfK_dct, ↓slfK_e, ↓isNonT_non, ↓ofK_e, ↓derefK_lst, ↓derefK_tup, ↓derefK_str, ↓derefK_cel, ↓rcReprA_e, ↓wFmtRD_e, ↓aStar_e, ↓seqItK_lst, ↓seqItK_tup, ↓wFldC_e, ↓wMakeK_e, ↓wTryL_e, ↓wHds_nil, ↓wHds_cons, ↓revTK_tup, ↓wRevT_e, ↓rsRep_t, ↓rsRep_l, ↓wKp_e, ↓aConsF_e, ↓notSl_val, ↓notSl_fresh, ↓notSl_bor, ↓wParN_e, ↓asgN_nil, ↓asgN_cons, ↓rcMin1_lst, ↓wRaise_e, ↓wTry_e, ↓wExf_e, ↓wExI_e, ↓fldL1, ↓rcReprD_e, szLine, CPow, CMul, CDivN, l9, l10, sOf, ofK, hb]
  have go : ∀ a b : Nat, a ≤ 4 → b ≤ 4 → t_law_13 K sBag sOf (sTab K) sWords sSpoilt sDue (sTold K) sTake (sForm K) (sIsF K) (sFeq K) ⟨[s0, s1, .val (.cel n), .val (.lst (zs.map PV.str)), .val (tabP K zs), s5, .val (.lst xs), s7, s8, .val (.int a), .val (.int b), s11, s12, s13, s14, s15, s16], c⟩ E := by
    intro a b ha hb'
    have cut : cutP xs none (some ((a : Int) + (b : Int))) = xs.take (a + b) := by rw [cutP_to _ (by omega)]; congr 1
    have hy : ∀ y ∈ xs.take (a + b), Ent y := fun y h => hx y (List.mem_of_mem_take h)
    have hyl : (xs.take (a + b)).length = a + b := by rw [List.length_take]; omega
    unfold t_law_13
    simp [↓wVar_e, ↓wC_e, ↓wOp2_e, ↓wTest_e, ↓wAnd_e, ↓wOr_e, ↓wNot_e, ↓wAndV_e, ↓wOrV_e, ↓wNotV_e, ↓wIfE_e, ↓aNil_e, ↓aCons_e, ↓wLst_e, ↓wTup_e, ↓wCall_e, ↓wSet_e, ↓wSeq_e, ↓wSkip_e, ↓wIf_e, ↓wDrop_e, ↓wRet_e, ↓wRetN_e, ↓wBrk_e, ↓wCnt_e, ↓wNev_e, ↓gwName_e, ↓gwNil_e, ↓gwCons_e, ↓gwTup_e, ↓gwTupN_e, ↓wSrc_e, ↓wSrcZ_e, ↓wRng1_e, ↓wRng2_e, ↓wFor_e, ↓wLc_e, ↓wYes_e, ↓rsEq_e, ↓rsNe_e, ↓rsIn_e, ↓rsNotIn_e, ↓rsInt_e, ↓rsInt0_e, ↓rsAdd_e, ↓rsIsN_e, ↓rsNotN_e, ↓rsIx_e, ↓oNo_e, ↓oOf_e, ↓wSl_e, ↓wRev_e, ↓wNeg_e, ↓wCh_e, ↓wBlt_e, ↓rc1_e, ↓rc2_e, ↓wEn_e, ↓wChs_e, ↓wJoin_e, ↓wMut_e, ↓mfAppend_e, ↓mfPop_e, ↓mfReverse_e, ↓mfInsert_e, ↓mfExtend_e, ↓wSetIx_e, ↓wFmt_e, ↓wFmtR_e, ↓wFs_e, ↓wIsi_e, ↓wFld_e, ↓wSetF_e, ↓wSp1_e, ↓wEqO_e, ↓wInO_e, ↓wMeth_e, ↓wIxC_e, ↓rsIxS_e, ↓wSlS_e, ↓wLstC_e, ↓wTupC_e, ↓rsSub_e, ↓rsMulI_e, ↓rsFdiv_e, ↓rsMod_e, ↓rsPow_e, ↓rsLt_e, ↓rsLe_e, ↓rsGt_e, ↓rsGe_e, ↓rdK_val, ↓rdK_fresh, ↓rdK_bor, ↓rdK_slot, ↓kpK_val, ↓kpK_fresh, ↓kpK_slot, ↓retK_val, ↓retK_fresh, ↓retK_slot, ↓asgK_val, ↓asgK_bor, ↓asgK_fresh, ↓asgK_slot, ↓wrK_slot, ↓wrK_cel, ↓lstK_lst, ↓asInt_int, ↓intK_ii, ↓isBl_bl, ↓isBlT_bl, ↓strK_str, ↓itemsK_lst, ↓itemsK_tup, ↓stl_val, ↓stl_fresh, ↓stl_bor, ↓stl_slot, ↓srcK_val, ↓srcK_fresh, ↓srcK_bor, ↓srcK_slot, ↓rdAll_nil, ↓rdAll_cons, ↓kpAll_nil, ↓kpAll_cons, ↓argK_nil, ↓argK_val, ↓argK_bor, ↓argK_slot, ↓rcInt_int, ↓rcInt_bl, ↓rcLen_lst, ↓rcLen_tup, ↓rcLen_scr, ↓rcLen_str, ↓rcAbs_int, ↓rcMax2_ii, ↓rcMin2_ii, ↓rcListS_str, ↓rcListS_lst, ↓rcListS_tup, ↓rcTuple_lst, ↓rcTuple_tup, ↓rcAll_lst, ↓rcSum_lst, ↓rcStr_int, ↓rcStr_str, ↓rcRepr_int, ↓slK_lst, ↓slK_tup, ↓slK_str, ↓slSK_scr, ↓revK_lst, ↓inK_lst, ↓inK_tup, ↓inK_ss, ↓objK_e, ↓obK_obj, ↓obK_cel, ↓objW_obj, ↓wJs_nil, ↓wJs_cons, ↓fmtK_str, ↓fmtK_int, ↓fmtRK_str, ↓fmtRK_int, ↓joinK_lst, ↓joinK_tup, ↓noLent_nil, ↓noLent_cons, ↓wipeS_e, ↓wipeL_nil, ↓wipeL_cons, ↓pI_int, ↓pS_str, ↓pB_bl, ↓nfK_obj, ↓nfK_cel, ↓nfK_non, ↓nfK_bl, ↓nfK_int, ↓nfK_str, ↓nfK_tup, ↓nfK_lst, ↓nfK_dct, ↓slfK_e, ↓isNonT_non, ↓ofK_e, ↓derefK_lst, ↓derefK_tup, ↓derefK_str, ↓derefK_cel, ↓rcReprA_e, ↓wFmtRD_e, ↓aStar_e, ↓seqItK_lst, ↓seqItK_tup, ↓wFldC_e, ↓wMakeK_e, ↓wTryL_e, ↓wHds_nil, ↓wHds_cons, ↓revTK_tup, ↓wRevT_e, ↓rsRep_t, ↓rsRep_l, ↓wKp_e, ↓aConsF_e, ↓notSl_val, ↓notSl_fresh, ↓notSl_bor, ↓wParN_e, ↓asgN_nil, ↓asgN_cons, ↓rcMin1_lst, ↓wRaise_e, ↓wTry_e, ↓wExf_e, ↓wExI_e, ↓fldL1, ↓rcReprD_e, szLine, CPow, CMul, CDivN, cut]
    generalize xs.take (a + b) = ys at hy hyl
    unfold t_law_12
    have end_ : ∀ (ys : List PV) (s7 : BV.Slot), s7.isL = false → (∀ y ∈ ys, Ent y) → ys.length = a + b → t_law_11 K sBag sOf (sTab K) sWords sSpoilt sDue (sTold K) sTake (sForm K) (sIsF K) (sFeq K) ⟨[s0, s1, .val (.cel n), .val (.lst (zs.map PV.str)), .val (tabP K zs), s5, .val (.lst ys), s7, s8, .val (.int a), .val (.int b), s11, s12, s13, s14, s15, s16], c⟩ E := by
      intro ys s7 l7 hy hyl
      have c1 : cutP ys none (some (a : Int)) = ys.take a := by rw [cutP_to _ (by omega), Int.toNat_natCast]
      have c2 : cutP ys (some (a : Int)) none = ys.drop a := by rw [cutP_from _ (by omega), Int.toNat_natCast]
      unfold t_law_11
      simp [↓wVar_e, ↓wC_e, ↓wOp2_e, ↓wTest_e, ↓wAnd_e, ↓wOr_e, ↓wNot_e, ↓wAndV_e, ↓wOrV_e, ↓wNotV_e, ↓wIfE_e, ↓aNil_e, ↓aCons_e, ↓wLst_e, ↓wTup_e, ↓wCall_e, ↓wSet_e, ↓wSeq_e, ↓wSkip_e, ↓wIf_e, ↓wDrop_e, ↓wRet_e, ↓wRetN_e, ↓wBrk_e, ↓wCnt_e, ↓wNev_e, ↓gwName_e, ↓gwNil_e, ↓gwCons_e, ↓gwTup_e, ↓gwTupN_e, ↓wSrc_e, ↓wSrcZ_e, ↓wRng1_e, ↓wRng2_e, ↓wFor_e, ↓wLc_e, ↓wYes_e, ↓rsEq_e, ↓rsNe_e, ↓rsIn_e, ↓rsNotIn_e, ↓rsInt_e, ↓rsInt0_e, ↓rsAdd_e, ↓rsIsN_e, ↓rsNotN_e, ↓rsIx_e, ↓oNo_e, ↓oOf_e, ↓wSl_e, ↓wRev_e, ↓wNeg_e, ↓wCh_e, ↓wBlt_e, ↓rc1_e, ↓rc2_e, ↓wEn_e, ↓wChs_e, ↓wJoin_e, ↓wMut_e, ↓mfAppend_e, ↓mfPop_e, ↓mfReverse_e, ↓mfInsert_e, ↓mfExtend_e, ↓wSetIx_e, ↓wFmt_e, ↓wFmtR_e, ↓wFs_e, ↓wIsi_e, ↓wFld_e, ↓wSetF_e, ↓wSp1_e, ↓wEqO_e, ↓wInO_e, ↓wMeth_e, ↓wIxC_e, ↓rsIxS_e, ↓wSlS_e, ↓wLstC_e, ↓wTupC_e, ↓rsSub_e, ↓rsMulI_e, ↓rsFdiv_e, ↓rsMod_e, ↓rsPow_e, ↓rsLt_e, ↓rsLe_e, ↓rsGt_e, ↓rsGe_e, ↓rdK_val, ↓rdK_fresh, ↓rdK_bor, ↓rdK_slot, ↓kpK_val, ↓kpK_fresh, ↓kpK_slot, ↓retK_val, ↓retK_fresh, ↓retK_slot, ↓asgK_val, ↓asgK_bor, ↓asgK_fresh, ↓asgK_slot, ↓wrK_slot, ↓wrK_cel, ↓lstK_lst, ↓asInt_int, ↓intK_ii, ↓isBl_bl, ↓isBlT_bl, ↓strK_str, ↓itemsK_lst, ↓itemsK_tup, ↓stl_val, ↓stl_fresh, ↓stl_bor, ↓stl_slot, ↓srcK_val, ↓srcK_fresh, ↓srcK_bor, ↓srcK_slot, ↓rdAll_nil, ↓rdAll_cons, ↓kpAll_nil, ↓kpAll_cons, ↓argK_nil, ↓argK_val, ↓argK_bor, ↓argK_slot, ↓rcInt_int, ↓rcInt_bl, ↓rcLen_lst, ↓rcLen_tup, ↓rcLen_scr, ↓rcLen_str, ↓rcAbs_int, ↓rcMax2_ii, ↓rcMin2_ii, ↓rcListS_str, ↓rcListS_lst, ↓rcListS_tup, ↓rcTuple_lst, ↓rcTuple_tup, ↓rcAll_lst, ↓rcSum_lst, ↓rcStr_int, ↓rcStr_str, ↓rcRepr_int, ↓slK_lst, ↓slK_tup, ↓slK_str, ↓slSK_scr, ↓revK_lst, ↓inK_lst, ↓inK_tup, ↓inK_ss, ↓objK_e, ↓obK_obj, ↓obK_cel, ↓objW_obj, ↓wJs_nil, ↓wJs_cons, ↓fmtK_str, ↓fmtK_int, ↓fmtRK_str, ↓fmtRK_int, ↓joinK_lst, ↓joinK_tup, ↓noLent_nil, ↓noLent_cons, ↓wipeS_e, ↓wipeL_nil, ↓wipeL_cons, ↓pI_int, ↓pS_str, ↓pB_bl, ↓nfK_obj, ↓nfK_cel, ↓nfK_non, ↓nfK_bl, ↓nfK_int, ↓nfK_str, ↓nfK_tup, ↓nfK_lst, ↓nfK_dct, ↓slfK_e, ↓isNonT_non, ↓ofK_e, ↓derefK_lst, ↓derefK_tup, ↓derefK_str, ↓derefK_cel, ↓rcReprA_e, ↓wFmtRD_e, ↓aStar_e, ↓seqItK_lst, ↓seqItK_tup, ↓wFldC_e, ↓wMakeK_e, ↓wTryL_e, ↓wHds_nil, ↓wHds_cons, ↓revTK_tup, ↓wRevT_e, ↓rsRep_t, ↓rsRep_l, ↓wKp_e, ↓aConsF_e, ↓notSl_val, ↓notSl_fresh, ↓notSl_bor, ↓wParN_e, ↓asgN_nil, ↓asgN_cons, ↓rcMin1_lst, ↓wRaise_e, ↓wTry_e, ↓wExf_e, ↓wExI_e, ↓fldL1, ↓rcReprD_e, szLine, CPow, CMul, CDivN, c1, c2, l11, l12]
      exact law_10 hb (by rw [List.take_append_drop]) hzr z1 l8 l13 l14 l15 l16 ⟨hze, fun x h => hy x (List.mem_of_mem_take h), fun x h => hy x (List.mem_of_mem_drop h), by rw [List.length_take, List.length_drop]; omega⟩
        fun s8 s13 s14 s15 s16 l8 l13 l14 l15 l16 => hk _ _ _ _ _ _ _ _ _ _ _ rfl l7 l8 rfl rfl rfl rfl l13 l14 l15 l16
    have loop : ∀ d : Nat, (d ≠ 0 → ys ≠ []) → wForL (gwName 7) (b_law_1 K sBag sOf (sTab K) sWords sSpoilt sDue (sTold K) sTake (sForm K) (sIsF K) (sFeq K)) id (rgP 0 d) ⟨[s0, s1, .val (.cel n), .val (.lst (zs.map PV.str)), .val (tabP K zs), s5, .val (.lst ys), s7, s8, .val (.int a), .val (.int b), s11, s12, s13, s14, s15, s16], c⟩ { E with nx := fun S1 => t_law_11 K sBag sOf (sTab K) sWords sSpoilt sDue (sTold K) sTake (sForm K) (sIsF K) (sFeq K) S1 E } := by
      intro d hd
      refine for_inv (fun i S => ∃ (ws : List PV) (s7 : BV.Slot), S = ⟨[s0, s1, .val (.cel n), .val (.lst (zs.map PV.str)), .val (tabP K zs), s5, .val (.lst ws), s7, s8, .val (.int a), .val (.int b), s11, s12, s13, s14, s15, s16], c⟩ ∧ s7.isL = false ∧ (∀ y ∈ ws, Ent y) ∧ ws.length = a + b) ⟨_, _, rfl, l7, hy, hyl⟩ ?_ ?_
      · rintro i x S k hx' ⟨ws, s7, rfl, l7, hw, hwl⟩ hk
        obtain ⟨rfl, hi⟩ := rgP_at hx'
        have hne := hd (by omega)
        have pos : 1 ≤ ys.length := by
          cases ys with
          | nil => exact absurd rfl hne
          | cons _ _ => simp
        unfold b_law_1
        simp [↓wVar_e, ↓wC_e, ↓wOp2_e, ↓wTest_e, ↓wAnd_e, ↓wOr_e, ↓wNot_e, ↓wAndV_e, ↓wOrV_e, ↓wNotV_e, ↓wIfE_e, ↓aNil_e, ↓aCons_e, ↓wLst_e, ↓wTup_e, ↓wCall_e, ↓wSet_e, ↓wSeq_e, ↓wSkip_e, ↓wIf_e, ↓wDrop_e, ↓wRet_e, ↓wRetN_e, ↓wBrk_e, ↓wCnt_e, ↓wNev_e, ↓gwName_e, ↓gwNil_e, ↓gwCons_e, ↓gwTup_e, ↓gwTupN_e, ↓wSrc_e, ↓wSrcZ_e, ↓wRng1_e, ↓wRng2_e, ↓wFor_e, ↓wLc_e, ↓wYes_e, ↓rsEq_e, ↓rsNe_e, ↓rsIn_e, ↓rsNotIn_e, ↓rsInt_e, ↓rsInt0_e, ↓rsAdd_e, ↓rsIsN_e, ↓rsNotN_e, ↓rsIx_e, ↓oNo_e, ↓oOf_e, ↓wSl_e, ↓wRev_e, ↓wNeg_e, ↓wCh_e, ↓wBlt_e, ↓rc1_e, ↓rc2_e, ↓wEn_e, ↓wChs_e, ↓wJoin_e, ↓wMut_e, ↓mfAppend_e, ↓mfPop_e, ↓mfReverse_e, ↓mfInsert_e, ↓mfExtend_e, ↓wSetIx_e, ↓wFmt_e, ↓wFmtR_e, ↓wFs_e, ↓wIsi_e, ↓wFld_e, ↓wSetF_e, ↓wSp1_e, ↓wEqO_e, ↓wInO_e, ↓wMeth_e, ↓wIxC_e, ↓rsIxS_e, ↓wSlS_e, ↓wLstC_e, ↓wTupC_e, ↓rsSub_e, ↓rsMulI_e, ↓rsFdiv_e, ↓rsMod_e, ↓rsPow_e, ↓rsLt_e, ↓rsLe_e, ↓rsGt_e, ↓rsGe_e, ↓rdK_val, ↓rdK_fresh, ↓rdK_bor, ↓rdK_slot, ↓kpK_val, ↓kpK_fresh, ↓kpK_slot, ↓retK_val, ↓retK_fresh, ↓retK_slot, ↓asgK_val, ↓asgK_bor, ↓asgK_fresh, ↓asgK_slot, ↓wrK_slot, ↓wrK_cel, ↓lstK_lst, ↓asInt_int, ↓intK_ii, ↓isBl_bl, ↓isBlT_bl, ↓strK_str, ↓itemsK_lst, ↓itemsK_tup, ↓stl_val, ↓stl_fresh, ↓stl_bor, ↓stl_slot, ↓srcK_val, ↓srcK_fresh, ↓srcK_bor, ↓srcK_slot, ↓rdAll_nil, ↓rdAll_cons, ↓kpAll_nil, ↓kpAll_cons, ↓argK_nil, ↓argK_val, ↓argK_bor, ↓argK_slot, ↓rcInt_int, ↓rcInt_bl, ↓rcLen_lst, ↓rcLen_tup, ↓rcLen_scr, ↓rcLen_str, ↓rcAbs_int, ↓rcMax2_ii, ↓rcMin2_ii, ↓rcListS_str, ↓rcListS_lst, ↓rcListS_tup, ↓rcTuple_lst, ↓rcTuple_tup, ↓rcAll_lst, ↓rcSum_lst, ↓rcStr_int, ↓rcStr_str, ↓rcRepr_int, ↓slK_lst, ↓slK_tup, ↓slK_str, ↓slSK_scr, ↓revK_lst, ↓inK_lst, ↓inK_tup, ↓inK_ss, ↓objK_e, ↓obK_obj, ↓obK_cel, ↓objW_obj, ↓wJs_nil, ↓wJs_cons, ↓fmtK_str, ↓fmtK_int, ↓fmtRK_str, ↓fmtRK_int, ↓joinK_lst, ↓joinK_tup, ↓noLent_nil, ↓noLent_cons, ↓wipeS_e, ↓wipeL_nil, ↓wipeL_cons, ↓pI_int, ↓pS_str, ↓pB_bl, ↓nfK_obj, ↓nfK_cel, ↓nfK_non, ↓nfK_bl, ↓nfK_int, ↓nfK_str, ↓nfK_tup, ↓nfK_lst, ↓nfK_dct, ↓slfK_e, ↓isNonT_non, ↓ofK_e, ↓derefK_lst, ↓derefK_tup, ↓derefK_str, ↓derefK_cel, ↓rcReprA_e, ↓wFmtRD_e, ↓aStar_e, ↓seqItK_lst, ↓seqItK_tup, ↓wFldC_e, ↓wMakeK_e, ↓wTryL_e, ↓wHds_nil, ↓wHds_cons, ↓revTK_tup, ↓wRevT_e, ↓rsRep_t, ↓rsRep_l, ↓wKp_e, ↓aConsF_e, ↓notSl_val, ↓notSl_fresh, ↓notSl_bor, ↓wParN_e, ↓asgN_nil, ↓asgN_cons, ↓rcMin1_lst, ↓wRaise_e, ↓wTry_e, ↓wExf_e, ↓wExI_e, ↓fldL1, ↓rcReprD_e, szLine, CPow, CMul, CDivN, l7, ↓sSpoilt_v, hb]
        refine ⟨⟨hw, hze, by omega, by omega, by omega, by omega⟩, fun vs hv hvl => hk _ ⟨vs, .val (.int i), rfl, rfl, hv, by omega⟩⟩
      · rintro S ⟨ws, s7, rfl, l7, hw, hwl⟩
        exact end_ ws s7 l7 hw hwl
    simp [↓wVar_e, ↓wC_e, ↓wOp2_e, ↓wTest_e, ↓wAnd_e, ↓wOr_e, ↓wNot_e, ↓wAndV_e, ↓wOrV_e, ↓wNotV_e, ↓wIfE_e, ↓aNil_e, ↓aCons_e, ↓wLst_e, ↓wTup_e, ↓wCall_e, ↓wSet_e, ↓wSeq_e, ↓wSkip_e, ↓wIf_e, ↓wDrop_e, ↓wRet_e, ↓wRetN_e, ↓wBrk_e, ↓wCnt_e, ↓wNev_e, ↓gwName_e, ↓gwNil_e, ↓gwCons_e, ↓gwTup_e, ↓gwTupN_e, ↓wSrc_e, ↓wSrcZ_e, ↓wRng1_e, ↓wRng2_e, ↓wFor_e, ↓wLc_e, ↓wYes_e, ↓rsEq_e, ↓rsNe_e, ↓rsIn_e, ↓rsNotIn_e, ↓rsInt_e, ↓rsInt0_e, ↓rsAdd_e, ↓rsIsN_e, ↓rsNotN_e, ↓rsIx_e, ↓oNo_e, ↓oOf_e, ↓wSl_e, ↓wRev_e, ↓wNeg_e, ↓wCh_e, ↓wBlt_e, ↓rc1_e, ↓rc2_e, ↓wEn_e, ↓wChs_e, ↓wJoin_e, ↓wMut_e, ↓mfAppend_e, ↓mfPop_e, ↓mfReverse_e, ↓mfInsert_e, ↓mfExtend_e, ↓wSetIx_e, ↓wFmt_e, ↓wFmtR_e, ↓wFs_e, ↓wIsi_e, ↓wFld_e, ↓wSetF_e, ↓wSp1_e, ↓wEqO_e, ↓wInO_e, ↓wMeth_e, ↓wIxC_e, ↓rsIxS_e, ↓wSlS_e, ↓wLstC_e, ↓wTupC_e, ↓rsSub_e, ↓rsMulI_e, ↓rsFdiv_e, ↓rsMod_e, ↓rsPow_e, ↓rsLt_e, ↓rsLe_e, ↓rsGt_e, ↓rsGe_e, ↓rdK_val, ↓rdK_fresh, ↓rdK_bor, ↓rdK_slot, ↓kpK_val, ↓kpK_fresh, ↓kpK_slot, ↓retK_val, ↓retK_fresh, ↓retK_slot, ↓asgK_val, ↓asgK_bor, ↓asgK_fresh, ↓asgK_slot, ↓wrK_slot, ↓wrK_cel, ↓lstK_lst, ↓asInt_int, ↓intK_ii, ↓isBl_bl, ↓isBlT_bl, ↓strK_str, ↓itemsK_lst, ↓itemsK_tup, ↓stl_val, ↓stl_fresh, ↓stl_bor, ↓stl_slot, ↓srcK_val, ↓srcK_fresh, ↓srcK_bor, ↓srcK_slot, ↓rdAll_nil, ↓rdAll_cons, ↓kpAll_nil, ↓kpAll_cons, ↓argK_nil, ↓argK_val, ↓argK_bor, ↓argK_slot, ↓rcInt_int, ↓rcInt_bl, ↓rcLen_lst, ↓rcLen_tup, ↓rcLen_scr, ↓rcLen_str, ↓rcAbs_int, ↓rcMax2_ii, ↓rcMin2_ii, ↓rcListS_str, ↓rcListS_lst, ↓rcListS_tup, ↓rcTuple_lst, ↓rcTuple_tup, ↓rcAll_lst, ↓rcSum_lst, ↓rcStr_int, ↓rcStr_str, ↓rcRepr_int, ↓slK_lst, ↓slK_tup, ↓slK_str, ↓slSK_scr, ↓revK_lst, ↓inK_lst, ↓inK_tup, ↓inK_ss, ↓objK_e, ↓obK_obj, ↓obK_cel, ↓objW_obj, ↓wJs_nil, ↓wJs_cons, ↓fmtK_str, ↓fmtK_int, ↓fmtRK_str, ↓fmtRK_int, ↓joinK_lst, ↓joinK_tup, ↓noLent_nil, ↓noLent_cons, ↓wipeS_e, ↓wipeL_nil, ↓wipeL_cons, ↓pI_int, ↓pS_str, ↓pB_bl, ↓nfK_obj, ↓nfK_cel, ↓nfK_non, ↓nfK_bl, ↓nfK_int, ↓nfK_str, ↓nfK_tup, ↓nfK_lst, ↓nfK_dct, ↓slfK_e, ↓isNonT_non, ↓ofK_e, ↓derefK_lst, ↓derefK_tup, ↓derefK_str, ↓derefK_cel, ↓rcReprA_e, ↓wFmtRD_e, ↓aStar_e, ↓seqItK_lst, ↓seqItK_tup, ↓wFldC_e, ↓wMakeK_e, ↓wTryL_e, ↓wHds_nil, ↓wHds_cons, ↓revTK_tup, ↓wRevT_e, ↓rsRep_t, ↓rsRep_l, ↓wKp_e, ↓aConsF_e, ↓notSl_val, ↓notSl_fresh, ↓notSl_bor, ↓wParN_e, ↓asgN_nil, ↓asgN_cons, ↓rcMin1_lst, ↓wRaise_e, ↓wTry_e, ↓wExf_e, ↓wExI_e, ↓fldL1, ↓rcReprD_e, szLine, CPow, CMul, CDivN, eqs_nil, sOf, ofK, hb]
    exact ⟨fun y h => (hy y h).dat 39 (by omega), fun h => ⟨loop 0 (by simp), loop 1 fun _ => h, loop 2 fun _ => h⟩, fun h => loop 0 (by simp)⟩
  exact ⟨⟨go 0 0 (by omega) (by omega), go 0 1 (by omega) (by omega), go 0 2 (by omega) (by omega), go 0 3 (by omega) (by omega), go 0 4 (by omega) (by omega)⟩, ⟨go 1 0 (by omega) (by omega), go 1 1 (by omega) (by omega), go 1 2 (by omega) (by omega), go 1 3 (by omega) (by omega), go 1 4 (by omega) (by omega)⟩, ⟨go 2 0 (by omega) (by omega), go 2 1 (by omega) (by omega), go 2 2 (by omega) (by omega), go 2 3 (by omega) (by omega), go 2 4 (by omega) (by omega)⟩, ⟨go 3 0 (by omega) (by omega), go 3 1 (by omega) (by omega), go 3 2 (by omega) (by omega), go 3 3 (by omega) (by omega), go 3 4 (by omega) (by omega)⟩, ⟨go 4 0 (by omega) (by omega), go 4 1 (by omega) (by omega), go 4 2 (by omega) (by omega), go 4 3 (by omega) (by omega), go 4 4 (by omega) (by omega)⟩⟩
end
end Lk26

namespace Lk26
open PySem L2 BV
theorem gOf {z : Str} (h : isWs z = true) : Good z := by
  unfold isWs at h
  rw [Bool.and_eq_true, Bool.and_eq_true, Bool.and_eq_true] at h
  obtain ⟨a, b, c, d⟩ := h
  exact ⟨of_decide_eq_true a, of_decide_eq_true b, fun ch hc => of_decide_eq_true (List.all_eq_true.mp d ch hc), by simpa using c⟩
/-- what is known of the columns -/
structure Col (zs : List Str) : Prop where
  r : Row zs
  l1 : 1 ≤ zs.length
  nx : zs ≠ [Str.ofString "x"]
theorem Col.ent {zs : List Str} (h : Col zs) : ∀ z ∈ zs, Ent (.str z) := fun z hz => ent_word (h.r.g z hz).lo (by have := (h.r.g z hz).l2; omega)
theorem rowX : Row [Str.ofString "x"] := ⟨by decide, fun z hz => by
  rw [List.mem_singleton.mp hz]; exact gOf (by decide +kernel), by decide +kernel⟩
theorem col1 : Col [Str.ofString "id"] := ⟨⟨by decide, fun z hz => by simp at hz; subst hz; exact gOf (by decide +kernel), by decide +kernel⟩, by decide, by decide +kernel⟩
theorem col2 : Col [Str.ofString "id", Str.ofString "owner"] := ⟨⟨by decide, fun z hz => by simp at hz; rcases hz with rfl | rfl <;> exact gOf (by decide +kernel), by decide +kernel⟩, by decide, by decide +kernel⟩
theorem col3 : Col [Str.ofString "owner", Str.ofString "id", Str.ofString "size"] := ⟨⟨by decide, fun z hz => by simp at hz; rcases hz with rfl | rfl | rfl <;> exact gOf (by decide +kernel), by decide +kernel⟩, by decide, by decide +kernel⟩
section
variable {K : PySem.W.Frag} {c : List PV} {E : En} {n : Nat} {s0 s1 s3 s4 s5 s6 s7 s8 s9 s10 s11 s12 s13 s14 s15 s16 : BV.Slot} {zs : List Str}
theorem goF0 (used : List PV) : goF used [] = none := rfl
theorem law_16 (hz : Col zs) (hk : E.nx ⟨[s0, s1, .val (.cel n), .val (.lst (zs.map PV.str)), .val (tabP K zs), s5, s6, s7, s8, s9, s10, s11, s12, s13, s14, s15, s16], c⟩) : t_law_16 K sBag sOf (sTab K) sWords sSpoilt sDue (sTold K) sTake (sForm K) (sIsF K) (sFeq K) ⟨[s0, s1, .val (.cel n), .val (.lst (zs.map PV.str)), .val (tabP K zs), s5, s6, s7, s8, s9, s10, s11, s12, s13, s14, s15, s16], c⟩ E := by
  have h3 := hz.r.l3
  unfold t_law_16
  simp [↓wVar_e, ↓wC_e, ↓wOp2_e, ↓wTest_e, ↓wAnd_e, ↓wOr_e, ↓wNot_e, ↓wAndV_e, ↓wOrV_e, ↓wNotV_e, ↓wIfE_e, ↓aNil_e, ↓aCons_e, ↓wLst_e, ↓wTup_e, ↓wCall_e, ↓wSet_e, ↓wSeq_e, ↓wSkip_e, ↓wIf_e, ↓wDrop_e, ↓wRet_e, ↓wRetN_e, ↓wBrk_e, ↓wCnt_e, ↓wNev_e, ↓gwName_e, ↓gwNil_e, ↓gwCons_e, ↓gwTup_e, ↓gwTupN_e, ↓wSrc_e, ↓wSrcZ_e, ↓wRng1_e, ↓wRng2_e, ↓wFor_e, ↓wLc_e, ↓wYes_e, ↓rsEq_e, ↓rsNe_e, ↓rsIn_e, ↓rsNotIn_e, ↓rsInt_e, ↓rsInt0_e, ↓rsAdd_e, ↓rsIsN_e, ↓rsNotN_e, ↓rsIx_e, ↓oNo_e, ↓oOf_e, ↓wSl_e, ↓wRev_e, ↓wNeg_e, ↓wCh_e, ↓wBlt_e, ↓rc1_e, ↓rc2_e, ↓wEn_e, ↓wChs_e, ↓wJoin_e, ↓wMut_e, ↓mfAppend_e, ↓mfPop_e, ↓mfReverse_e, ↓mfInsert_e, ↓mfExtend_e, ↓wSetIx_e, ↓wFmt_e, ↓wFmtR_e, ↓wFs_e, ↓wIsi_e, ↓wFld_e, ↓wSetF_e, ↓wSp1_e, ↓wEqO_e, ↓wInO_e, ↓wMeth_e, ↓wIxC_e, ↓rsIxS_e, ↓wSlS_e, ↓wLstC_e, ↓wTupC_e, ↓rsSub_e, ↓rsMulI_e, ↓rsFdiv_e, ↓rsMod_e, ↓rsPow_e, ↓rsLt_e, ↓rsLe_e, ↓rsGt_e, ↓rsGe_e, ↓rdK_val, ↓rdK_fresh, ↓rdK_bor, ↓rdK_slot, ↓kpK_val, ↓kpK_fresh, ↓kpK_slot, ↓retK_val, ↓retK_fresh, ↓retK_slot, ↓asgK_val, ↓asgK_bor, ↓asgK_fresh, ↓asgK_slot, ↓wrK_slot, ↓wrK_cel, ↓lstK_lst, ↓asInt_int, ↓intK_ii, ↓isBl_bl, ↓isBlT_bl, ↓strK_str, ↓itemsK_lst, ↓itemsK_tup, ↓stl_val, ↓stl_fresh, ↓stl_bor, ↓stl_slot, ↓srcK_val, ↓srcK_fresh, ↓srcK_bor, ↓srcK_slot, ↓rdAll_nil, ↓rdAll_cons, ↓kpAll_nil, ↓kpAll_cons, ↓argK_nil, ↓argK_val, ↓argK_bor, ↓argK_slot, ↓rcInt_int, ↓rcInt_bl, ↓rcLen_lst, ↓rcLen_tup, ↓rcLen_scr, ↓rcLen_str, ↓rcAbs_int, ↓rcMax2_ii, ↓rcMin2_ii, ↓rcListS_str, ↓rcListS_lst, ↓rcListS_tup, ↓rcTuple_lst, ↓rcTuple_tup, ↓rcAll_lst, ↓rcSum_lst, ↓rcStr_int, ↓rcStr_str, ↓rcRepr_int, ↓slK_lst, ↓slK_tup, ↓slK_str, ↓slSK_scr, ↓revK_lst, ↓inK_lst, ↓inK_tup, ↓inK_ss, ↓objK_e, ↓obK_obj, ↓obK_cel, ↓objW_obj, ↓wJs_nil, ↓wJs_cons, ↓fmtK_str, ↓fmtK_int, ↓fmtRK_str, ↓fmtRK_int, ↓joinK_lst, ↓joinK_tup, ↓noLent_nil, ↓noLent_cons, ↓wipeS_e, ↓wipeL_nil, ↓wipeL_cons, ↓pI_int, ↓pS_str, ↓pB_bl, ↓nfK_obj, ↓nfK_cel, ↓nfK_non, ↓nfK_bl, ↓nfK_int, ↓nfK_str, ↓nfK_tup, ↓nfK_lst, ↓nfK_dct, ↓slfK_e, ↓isNonT_non, ↓ofK_e, ↓derefK_lst, ↓derefK_tup, ↓derefK_str, ↓derefK_cel, ↓rcReprA_e, ↓wFmtRD_e, ↓aStar_e, ↓seqItK_lst, ↓seqItK_tup, ↓wFldC_e, ↓wMakeK_e, ↓wTryL_e, ↓wHds_nil, ↓wHds_cons, ↓revTK_tup, ↓wRevT_e, ↓rsRep_t, ↓rsRep_l, ↓wKp_e, ↓aConsF_e, ↓notSl_val, ↓notSl_fresh, ↓notSl_bor, ↓wParN_e, ↓asgN_nil, ↓asgN_cons, ↓rcMin1_lst, ↓wRaise_e, ↓wTry_e, ↓wExf_e, ↓wExI_e, ↓fldL1, ↓rcReprD_e, szLine, CPow, CMul, CDivN]
  refine sForm_i (us := []) (vs := []) ⟨rfl, rfl⟩ ⟨rfl, rfl⟩ ⟨hz.ent, by simp, by simp, by simp; omega⟩ rfl (by simp) (by simp) ?_
  simp [↓wVar_e, ↓wC_e, ↓wOp2_e, ↓wTest_e, ↓wAnd_e, ↓wOr_e, ↓wNot_e, ↓wAndV_e, ↓wOrV_e, ↓wNotV_e, ↓wIfE_e, ↓aNil_e, ↓aCons_e, ↓wLst_e, ↓wTup_e, ↓wCall_e, ↓wSet_e, ↓wSeq_e, ↓wSkip_e, ↓wIf_e, ↓wDrop_e, ↓wRet_e, ↓wRetN_e, ↓wBrk_e, ↓wCnt_e, ↓wNev_e, ↓gwName_e, ↓gwNil_e, ↓gwCons_e, ↓gwTup_e, ↓gwTupN_e, ↓wSrc_e, ↓wSrcZ_e, ↓wRng1_e, ↓wRng2_e, ↓wFor_e, ↓wLc_e, ↓wYes_e, ↓rsEq_e, ↓rsNe_e, ↓rsIn_e, ↓rsNotIn_e, ↓rsInt_e, ↓rsInt0_e, ↓rsAdd_e, ↓rsIsN_e, ↓rsNotN_e, ↓rsIx_e, ↓oNo_e, ↓oOf_e, ↓wSl_e, ↓wRev_e, ↓wNeg_e, ↓wCh_e, ↓wBlt_e, ↓rc1_e, ↓rc2_e, ↓wEn_e, ↓wChs_e, ↓wJoin_e, ↓wMut_e, ↓mfAppend_e, ↓mfPop_e, ↓mfReverse_e, ↓mfInsert_e, ↓mfExtend_e, ↓wSetIx_e, ↓wFmt_e, ↓wFmtR_e, ↓wFs_e, ↓wIsi_e, ↓wFld_e, ↓wSetF_e, ↓wSp1_e, ↓wEqO_e, ↓wInO_e, ↓wMeth_e, ↓wIxC_e, ↓rsIxS_e, ↓wSlS_e, ↓wLstC_e, ↓wTupC_e, ↓rsSub_e, ↓rsMulI_e, ↓rsFdiv_e, ↓rsMod_e, ↓rsPow_e, ↓rsLt_e, ↓rsLe_e, ↓rsGt_e, ↓rsGe_e, ↓rdK_val, ↓rdK_fresh, ↓rdK_bor, ↓rdK_slot, ↓kpK_val, ↓kpK_fresh, ↓kpK_slot, ↓retK_val, ↓retK_fresh, ↓retK_slot, ↓asgK_val, ↓asgK_bor, ↓asgK_fresh, ↓asgK_slot, ↓wrK_slot, ↓wrK_cel, ↓lstK_lst, ↓asInt_int, ↓intK_ii, ↓isBl_bl, ↓isBlT_bl, ↓strK_str, ↓itemsK_lst, ↓itemsK_tup, ↓stl_val, ↓stl_fresh, ↓stl_bor, ↓stl_slot, ↓srcK_val, ↓srcK_fresh, ↓srcK_bor, ↓srcK_slot, ↓rdAll_nil, ↓rdAll_cons, ↓kpAll_nil, ↓kpAll_cons, ↓argK_nil, ↓argK_val, ↓argK_bor, ↓argK_slot, ↓rcInt_int, ↓rcInt_bl, ↓rcLen_lst, ↓rcLen_tup, ↓rcLen_scr, ↓rcLen_str, ↓rcAbs_int, ↓rcMax2_ii, ↓rcMin2_ii, ↓rcListS_str, ↓rcListS_lst, ↓rcListS_tup, ↓rcTuple_lst, ↓rcTuple_tup, ↓rcAll_lst, ↓rcSum_lst, ↓rcStr_int, ↓rcStr_str, ↓rcRepr_int, ↓slK_lst, ↓slK_tup, ↓slK_str, ↓slSK_scr, ↓revK_lst, ↓inK_lst, ↓inK_tup, ↓inK_ss, ↓objK_e, ↓obK_obj, ↓obK_cel, ↓objW_obj, ↓wJs_nil, ↓wJs_cons, ↓fmtK_str, ↓fmtK_int, ↓fmtRK_str, ↓fmtRK_int, ↓joinK_lst, ↓joinK_tup, ↓noLent_nil, ↓noLent_cons, ↓wipeS_e, ↓wipeL_nil, ↓wipeL_cons, ↓pI_int, ↓pS_str, ↓pB_bl, ↓nfK_obj, ↓nfK_cel, ↓nfK_non, ↓nfK_bl, ↓nfK_int, ↓nfK_str, ↓nfK_tup, ↓nfK_lst, ↓nfK_dct, ↓slfK_e, ↓isNonT_non, ↓ofK_e, ↓derefK_lst, ↓derefK_tup, ↓derefK_str, ↓derefK_cel, ↓rcReprA_e, ↓wFmtRD_e, ↓aStar_e, ↓seqItK_lst, ↓seqItK_tup, ↓wFldC_e, ↓wMakeK_e, ↓wTryL_e, ↓wHds_nil, ↓wHds_cons, ↓revTK_tup, ↓wRevT_e, ↓rsRep_t, ↓rsRep_l, ↓wKp_e, ↓aConsF_e, ↓notSl_val, ↓notSl_fresh, ↓notSl_bor, ↓wParN_e, ↓asgN_nil, ↓asgN_cons, ↓rcMin1_lst, ↓wRaise_e, ↓wTry_e, ↓wExf_e, ↓wExI_e, ↓fldL1, ↓rcReprD_e, szLine, CPow, CMul, CDivN]
  refine ⟨zs, _, _, _, [], [], rfl, rfl, rfl, rfl, ⟨hz.r, hz.l1, by simp, by simp⟩, ?_⟩
  simp [↓wVar_e, ↓wC_e, ↓wOp2_e, ↓wTest_e, ↓wAnd_e, ↓wOr_e, ↓wNot_e, ↓wAndV_e, ↓wOrV_e, ↓wNotV_e, ↓wIfE_e, ↓aNil_e, ↓aCons_e, ↓wLst_e, ↓wTup_e, ↓wCall_e, ↓wSet_e, ↓wSeq_e, ↓wSkip_e, ↓wIf_e, ↓wDrop_e, ↓wRet_e, ↓wRetN_e, ↓wBrk_e, ↓wCnt_e, ↓wNev_e, ↓gwName_e, ↓gwNil_e, ↓gwCons_e, ↓gwTup_e, ↓gwTupN_e, ↓wSrc_e, ↓wSrcZ_e, ↓wRng1_e, ↓wRng2_e, ↓wFor_e, ↓wLc_e, ↓wYes_e, ↓rsEq_e, ↓rsNe_e, ↓rsIn_e, ↓rsNotIn_e, ↓rsInt_e, ↓rsInt0_e, ↓rsAdd_e, ↓rsIsN_e, ↓rsNotN_e, ↓rsIx_e, ↓oNo_e, ↓oOf_e, ↓wSl_e, ↓wRev_e, ↓wNeg_e, ↓wCh_e, ↓wBlt_e, ↓rc1_e, ↓rc2_e, ↓wEn_e, ↓wChs_e, ↓wJoin_e, ↓wMut_e, ↓mfAppend_e, ↓mfPop_e, ↓mfReverse_e, ↓mfInsert_e, ↓mfExtend_e, ↓wSetIx_e, ↓wFmt_e, ↓wFmtR_e, ↓wFs_e, ↓wIsi_e, ↓wFld_e, ↓wSetF_e, ↓wSp1_e, ↓wEqO_e, ↓wInO_e, ↓wMeth_e, ↓wIxC_e, ↓rsIxS_e, ↓wSlS_e, ↓wLstC_e, ↓wTupC_e, ↓rsSub_e, ↓rsMulI_e, ↓rsFdiv_e, ↓rsMod_e, ↓rsPow_e, ↓rsLt_e, ↓rsLe_e, ↓rsGt_e, ↓rsGe_e, ↓rdK_val, ↓rdK_fresh, ↓rdK_bor, ↓rdK_slot, ↓kpK_val, ↓kpK_fresh, ↓kpK_slot, ↓retK_val, ↓retK_fresh, ↓retK_slot, ↓asgK_val, ↓asgK_bor, ↓asgK_fresh, ↓asgK_slot, ↓wrK_slot, ↓wrK_cel, ↓lstK_lst, ↓asInt_int, ↓intK_ii, ↓isBl_bl, ↓isBlT_bl, ↓strK_str, ↓itemsK_lst, ↓itemsK_tup, ↓stl_val, ↓stl_fresh, ↓stl_bor, ↓stl_slot, ↓srcK_val, ↓srcK_fresh, ↓srcK_bor, ↓srcK_slot, ↓rdAll_nil, ↓rdAll_cons, ↓kpAll_nil, ↓kpAll_cons, ↓argK_nil, ↓argK_val, ↓argK_bor, ↓argK_slot, ↓rcInt_int, ↓rcInt_bl, ↓rcLen_lst, ↓rcLen_tup, ↓rcLen_scr, ↓rcLen_str, ↓rcAbs_int, ↓rcMax2_ii, ↓rcMin2_ii, ↓rcListS_str, ↓rcListS_lst, ↓rcListS_tup, ↓rcTuple_lst, ↓rcTuple_tup, ↓rcAll_lst, ↓rcSum_lst, ↓rcStr_int, ↓rcStr_str, ↓rcRepr_int, ↓slK_lst, ↓slK_tup, ↓slK_str, ↓slSK_scr, ↓revK_lst, ↓inK_lst, ↓inK_tup, ↓inK_ss, ↓objK_e, ↓obK_obj, ↓obK_cel, ↓objW_obj, ↓wJs_nil, ↓wJs_cons, ↓fmtK_str, ↓fmtK_int, ↓fmtRK_str, ↓fmtRK_int, ↓joinK_lst, ↓joinK_tup, ↓noLent_nil, ↓noLent_cons, ↓wipeS_e, ↓wipeL_nil, ↓wipeL_cons, ↓pI_int, ↓pS_str, ↓pB_bl, ↓nfK_obj, ↓nfK_cel, ↓nfK_non, ↓nfK_bl, ↓nfK_int, ↓nfK_str, ↓nfK_tup, ↓nfK_lst, ↓nfK_dct, ↓slfK_e, ↓isNonT_non, ↓ofK_e, ↓derefK_lst, ↓derefK_tup, ↓derefK_str, ↓derefK_cel, ↓rcReprA_e, ↓wFmtRD_e, ↓aStar_e, ↓seqItK_lst, ↓seqItK_tup, ↓wFldC_e, ↓wMakeK_e, ↓wTryL_e, ↓wHds_nil, ↓wHds_cons, ↓revTK_tup, ↓wRevT_e, ↓rsRep_t, ↓rsRep_l, ↓wKp_e, ↓aConsF_e, ↓notSl_val, ↓notSl_fresh, ↓notSl_bor, ↓wParN_e, ↓asgN_nil, ↓asgN_cons, ↓rcMin1_lst, ↓wRaise_e, ↓wTry_e, ↓wExf_e, ↓wExI_e, ↓fldL1, ↓rcReprD_e, szLine, CPow, CMul, CDivN]
  exact hk
theorem law_17 (hz : Col zs) (hk : E.nx ⟨[s0, s1, .val (.cel n), .val (.lst (zs.map PV.str)), .val (tabP K zs), s5, s6, s7, s8, s9, s10, s11, s12, s13, s14, s15, s16], c⟩) : t_law_17 K sBag sOf (sTab K) sWords sSpoilt sDue (sTold K) sTake (sForm K) (sIsF K) (sFeq K) ⟨[s0, s1, .val (.cel n), .val (.lst (zs.map PV.str)), .val (tabP K zs), s5, s6, s7, s8, s9, s10, s11, s12, s13, s14, s15, s16], c⟩ E := by
  have h3 := hz.r.l3
  have ex : ∀ z ∈ [Str.ofString "x"], Ent (.str z) := fun z h => ent_word (rowX.g z h).lo (by have := (rowX.g z h).l2; omega)
  have hX : ∀ rt ex, rt (.fresh (tabP K [Str.ofString "x"])) c → sTab K [.val (.lst [.str (Str.ofString "x")])] c rt ex := fun rt ex h => by
    have := sTab_vl (K := K) (zs := [Str.ofString "x"]) (c := c) (rt := rt) (ex := ex)
    exact this.mpr ⟨rowX, by decide, h⟩
  unfold t_law_17
  simp [↓wVar_e, ↓wC_e, ↓wOp2_e, ↓wTest_e, ↓wAnd_e, ↓wOr_e, ↓wNot_e, ↓wAndV_e, ↓wOrV_e, ↓wNotV_e, ↓wIfE_e, ↓aNil_e, ↓aCons_e, ↓wLst_e, ↓wTup_e, ↓wCall_e, ↓wSet_e, ↓wSeq_e, ↓wSkip_e, ↓wIf_e, ↓wDrop_e, ↓wRet_e, ↓wRetN_e, ↓wBrk_e, ↓wCnt_e, ↓wNev_e, ↓gwName_e, ↓gwNil_e, ↓gwCons_e, ↓gwTup_e, ↓gwTupN_e, ↓wSrc_e, ↓wSrcZ_e, ↓wRng1_e, ↓wRng2_e, ↓wFor_e, ↓wLc_e, ↓wYes_e, ↓rsEq_e, ↓rsNe_e, ↓rsIn_e, ↓rsNotIn_e, ↓rsInt_e, ↓rsInt0_e, ↓rsAdd_e, ↓rsIsN_e, ↓rsNotN_e, ↓rsIx_e, ↓oNo_e, ↓oOf_e, ↓wSl_e, ↓wRev_e, ↓wNeg_e, ↓wCh_e, ↓wBlt_e, ↓rc1_e, ↓rc2_e, ↓wEn_e, ↓wChs_e, ↓wJoin_e, ↓wMut_e, ↓mfAppend_e, ↓mfPop_e, ↓mfReverse_e, ↓mfInsert_e, ↓mfExtend_e, ↓wSetIx_e, ↓wFmt_e, ↓wFmtR_e, ↓wFs_e, ↓wIsi_e, ↓wFld_e, ↓wSetF_e, ↓wSp1_e, ↓wEqO_e, ↓wInO_e, ↓wMeth_e, ↓wIxC_e, ↓rsIxS_e, ↓wSlS_e, ↓wLstC_e, ↓wTupC_e, ↓rsSub_e, ↓rsMulI_e, ↓rsFdiv_e, ↓rsMod_e, ↓rsPow_e, ↓rsLt_e, ↓rsLe_e, ↓rsGt_e, ↓rsGe_e, ↓rdK_val, ↓rdK_fresh, ↓rdK_bor, ↓rdK_slot, ↓kpK_val, ↓kpK_fresh, ↓kpK_slot, ↓retK_val, ↓retK_fresh, ↓retK_slot, ↓asgK_val, ↓asgK_bor, ↓asgK_fresh, ↓asgK_slot, ↓wrK_slot, ↓wrK_cel, ↓lstK_lst, ↓asInt_int, ↓intK_ii, ↓isBl_bl, ↓isBlT_bl, ↓strK_str, ↓itemsK_lst, ↓itemsK_tup, ↓stl_val, ↓stl_fresh, ↓stl_bor, ↓stl_slot, ↓srcK_val, ↓srcK_fresh, ↓srcK_bor, ↓srcK_slot, ↓rdAll_nil, ↓rdAll_cons, ↓kpAll_nil, ↓kpAll_cons, ↓argK_nil, ↓argK_val, ↓argK_bor, ↓argK_slot, ↓rcInt_int, ↓rcInt_bl, ↓rcLen_lst, ↓rcLen_tup, ↓rcLen_scr, ↓rcLen_str, ↓rcAbs_int, ↓rcMax2_ii, ↓rcMin2_ii, ↓rcListS_str, ↓rcListS_lst, ↓rcListS_tup, ↓rcTuple_lst, ↓rcTuple_tup, ↓rcAll_lst, ↓rcSum_lst, ↓rcStr_int, ↓rcStr_str, ↓rcRepr_int, ↓slK_lst, ↓slK_tup, ↓slK_str, ↓slSK_scr, ↓revK_lst, ↓inK_lst, ↓inK_tup, ↓inK_ss, ↓objK_e, ↓obK_obj, ↓obK_cel, ↓objW_obj, ↓wJs_nil, ↓wJs_cons, ↓fmtK_str, ↓fmtK_int, ↓fmtRK_str, ↓fmtRK_int, ↓joinK_lst, ↓joinK_tup, ↓noLent_nil, ↓noLent_cons, ↓wipeS_e, ↓wipeL_nil, ↓wipeL_cons, ↓pI_int, ↓pS_str, ↓pB_bl, ↓nfK_obj, ↓nfK_cel, ↓nfK_non, ↓nfK_bl, ↓nfK_int, ↓nfK_str, ↓nfK_tup, ↓nfK_lst, ↓nfK_dct, ↓slfK_e, ↓isNonT_non, ↓ofK_e, ↓derefK_lst, ↓derefK_tup, ↓derefK_str, ↓derefK_cel, ↓rcReprA_e, ↓wFmtRD_e, ↓aStar_e, ↓seqItK_lst, ↓seqItK_tup, ↓wFldC_e, ↓wMakeK_e, ↓wTryL_e, ↓wHds_nil, ↓wHds_cons, ↓revTK_tup, ↓wRevT_e, ↓rsRep_t, ↓rsRep_l, ↓wKp_e, ↓aConsF_e, ↓notSl_val, ↓notSl_fresh, ↓notSl_bor, ↓wParN_e, ↓asgN_nil, ↓asgN_cons, ↓rcMin1_lst, ↓wRaise_e, ↓wTry_e, ↓wExf_e, ↓wExI_e, ↓fldL1, ↓rcReprD_e, szLine, CPow, CMul, CDivN]
  refine sForm_i (us := []) (vs := []) ⟨rfl, rfl⟩ ⟨rfl, rfl⟩ ⟨hz.ent, by simp, by simp, by simp; omega⟩ rfl (by simp) (by simp) ?_
  simp [↓wVar_e, ↓wC_e, ↓wOp2_e, ↓wTest_e, ↓wAnd_e, ↓wOr_e, ↓wNot_e, ↓wAndV_e, ↓wOrV_e, ↓wNotV_e, ↓wIfE_e, ↓aNil_e, ↓aCons_e, ↓wLst_e, ↓wTup_e, ↓wCall_e, ↓wSet_e, ↓wSeq_e, ↓wSkip_e, ↓wIf_e, ↓wDrop_e, ↓wRet_e, ↓wRetN_e, ↓wBrk_e, ↓wCnt_e, ↓wNev_e, ↓gwName_e, ↓gwNil_e, ↓gwCons_e, ↓gwTup_e, ↓gwTupN_e, ↓wSrc_e, ↓wSrcZ_e, ↓wRng1_e, ↓wRng2_e, ↓wFor_e, ↓wLc_e, ↓wYes_e, ↓rsEq_e, ↓rsNe_e, ↓rsIn_e, ↓rsNotIn_e, ↓rsInt_e, ↓rsInt0_e, ↓rsAdd_e, ↓rsIsN_e, ↓rsNotN_e, ↓rsIx_e, ↓oNo_e, ↓oOf_e, ↓wSl_e, ↓wRev_e, ↓wNeg_e, ↓wCh_e, ↓wBlt_e, ↓rc1_e, ↓rc2_e, ↓wEn_e, ↓wChs_e, ↓wJoin_e, ↓wMut_e, ↓mfAppend_e, ↓mfPop_e, ↓mfReverse_e, ↓mfInsert_e, ↓mfExtend_e, ↓wSetIx_e, ↓wFmt_e, ↓wFmtR_e, ↓wFs_e, ↓wIsi_e, ↓wFld_e, ↓wSetF_e, ↓wSp1_e, ↓wEqO_e, ↓wInO_e, ↓wMeth_e, ↓wIxC_e, ↓rsIxS_e, ↓wSlS_e, ↓wLstC_e, ↓wTupC_e, ↓rsSub_e, ↓rsMulI_e, ↓rsFdiv_e, ↓rsMod_e, ↓rsPow_e, ↓rsLt_e, ↓rsLe_e, ↓rsGt_e, ↓rsGe_e, ↓rdK_val, ↓rdK_fresh, ↓rdK_bor, ↓rdK_slot, ↓kpK_val, ↓kpK_fresh, ↓kpK_slot, ↓retK_val, ↓retK_fresh, ↓retK_slot, ↓asgK_val, ↓asgK_bor, ↓asgK_fresh, ↓asgK_slot, ↓wrK_slot, ↓wrK_cel, ↓lstK_lst, ↓asInt_int, ↓intK_ii, ↓isBl_bl, ↓isBlT_bl, ↓strK_str, ↓itemsK_lst, ↓itemsK_tup, ↓stl_val, ↓stl_fresh, ↓stl_bor, ↓stl_slot, ↓srcK_val, ↓srcK_fresh, ↓srcK_bor, ↓srcK_slot, ↓rdAll_nil, ↓rdAll_cons, ↓kpAll_nil, ↓kpAll_cons, ↓argK_nil, ↓argK_val, ↓argK_bor, ↓argK_slot, ↓rcInt_int, ↓rcInt_bl, ↓rcLen_lst, ↓rcLen_tup, ↓rcLen_scr, ↓rcLen_str, ↓rcAbs_int, ↓rcMax2_ii, ↓rcMin2_ii, ↓rcListS_str, ↓rcListS_lst, ↓rcListS_tup, ↓rcTuple_lst, ↓rcTuple_tup, ↓rcAll_lst, ↓rcSum_lst, ↓rcStr_int, ↓rcStr_str, ↓rcRepr_int, ↓slK_lst, ↓slK_tup, ↓slK_str, ↓slSK_scr, ↓revK_lst, ↓inK_lst, ↓inK_tup, ↓inK_ss, ↓objK_e, ↓obK_obj, ↓obK_cel, ↓objW_obj, ↓wJs_nil, ↓wJs_cons, ↓fmtK_str, ↓fmtK_int, ↓fmtRK_str, ↓fmtRK_int, ↓joinK_lst, ↓joinK_tup, ↓noLent_nil, ↓noLent_cons, ↓wipeS_e, ↓wipeL_nil, ↓wipeL_cons, ↓pI_int, ↓pS_str, ↓pB_bl, ↓nfK_obj, ↓nfK_cel, ↓nfK_non, ↓nfK_bl, ↓nfK_int, ↓nfK_str, ↓nfK_tup, ↓nfK_lst, ↓nfK_dct, ↓slfK_e, ↓isNonT_non, ↓ofK_e, ↓derefK_lst, ↓derefK_tup, ↓derefK_str, ↓derefK_cel, ↓rcReprA_e, ↓wFmtRD_e, ↓aStar_e, ↓seqItK_lst, ↓seqItK_tup, ↓wFldC_e, ↓wMakeK_e, ↓wTryL_e, ↓wHds_nil, ↓wHds_cons, ↓revTK_tup, ↓wRevT_e, ↓rsRep_t, ↓rsRep_l, ↓wKp_e, ↓aConsF_e, ↓notSl_val, ↓notSl_fresh, ↓notSl_bor, ↓wParN_e, ↓asgN_nil, ↓asgN_cons, ↓rcMin1_lst, ↓wRaise_e, ↓wTry_e, ↓wExf_e, ↓wExI_e, ↓fldL1, ↓rcReprD_e, szLine, CPow, CMul, CDivN]
  refine hX _ _ ?_
  simp [↓wVar_e, ↓wC_e, ↓wOp2_e, ↓wTest_e, ↓wAnd_e, ↓wOr_e, ↓wNot_e, ↓wAndV_e, ↓wOrV_e, ↓wNotV_e, ↓wIfE_e, ↓aNil_e, ↓aCons_e, ↓wLst_e, ↓wTup_e, ↓wCall_e, ↓wSet_e, ↓wSeq_e, ↓wSkip_e, ↓wIf_e, ↓wDrop_e, ↓wRet_e, ↓wRetN_e, ↓wBrk_e, ↓wCnt_e, ↓wNev_e, ↓gwName_e, ↓gwNil_e, ↓gwCons_e, ↓gwTup_e, ↓gwTupN_e, ↓wSrc_e, ↓wSrcZ_e, ↓wRng1_e, ↓wRng2_e, ↓wFor_e, ↓wLc_e, ↓wYes_e, ↓rsEq_e, ↓rsNe_e, ↓rsIn_e, ↓rsNotIn_e, ↓rsInt_e, ↓rsInt0_e, ↓rsAdd_e, ↓rsIsN_e, ↓rsNotN_e, ↓rsIx_e, ↓oNo_e, ↓oOf_e, ↓wSl_e, ↓wRev_e, ↓wNeg_e, ↓wCh_e, ↓wBlt_e, ↓rc1_e, ↓rc2_e, ↓wEn_e, ↓wChs_e, ↓wJoin_e, ↓wMut_e, ↓mfAppend_e, ↓mfPop_e, ↓mfReverse_e, ↓mfInsert_e, ↓mfExtend_e, ↓wSetIx_e, ↓wFmt_e, ↓wFmtR_e, ↓wFs_e, ↓wIsi_e, ↓wFld_e, ↓wSetF_e, ↓wSp1_e, ↓wEqO_e, ↓wInO_e, ↓wMeth_e, ↓wIxC_e, ↓rsIxS_e, ↓wSlS_e, ↓wLstC_e, ↓wTupC_e, ↓rsSub_e, ↓rsMulI_e, ↓rsFdiv_e, ↓rsMod_e, ↓rsPow_e, ↓rsLt_e, ↓rsLe_e, ↓rsGt_e, ↓rsGe_e, ↓rdK_val, ↓rdK_fresh, ↓rdK_bor, ↓rdK_slot, ↓kpK_val, ↓kpK_fresh, ↓kpK_slot, ↓retK_val, ↓retK_fresh, ↓retK_slot, ↓asgK_val, ↓asgK_bor, ↓asgK_fresh, ↓asgK_slot, ↓wrK_slot, ↓wrK_cel, ↓lstK_lst, ↓asInt_int, ↓intK_ii, ↓isBl_bl, ↓isBlT_bl, ↓strK_str, ↓itemsK_lst, ↓itemsK_tup, ↓stl_val, ↓stl_fresh, ↓stl_bor, ↓stl_slot, ↓srcK_val, ↓srcK_fresh, ↓srcK_bor, ↓srcK_slot, ↓rdAll_nil, ↓rdAll_cons, ↓kpAll_nil, ↓kpAll_cons, ↓argK_nil, ↓argK_val, ↓argK_bor, ↓argK_slot, ↓rcInt_int, ↓rcInt_bl, ↓rcLen_lst, ↓rcLen_tup, ↓rcLen_scr, ↓rcLen_str, ↓rcAbs_int, ↓rcMax2_ii, ↓rcMin2_ii, ↓rcListS_str, ↓rcListS_lst, ↓rcListS_tup, ↓rcTuple_lst, ↓rcTuple_tup, ↓rcAll_lst, ↓rcSum_lst, ↓rcStr_int, ↓rcStr_str, ↓rcRepr_int, ↓slK_lst, ↓slK_tup, ↓slK_str, ↓slSK_scr, ↓revK_lst, ↓inK_lst, ↓inK_tup, ↓inK_ss, ↓objK_e, ↓obK_obj, ↓obK_cel, ↓objW_obj, ↓wJs_nil, ↓wJs_cons, ↓fmtK_str, ↓fmtK_int, ↓fmtRK_str, ↓fmtRK_int, ↓joinK_lst, ↓joinK_tup, ↓noLent_nil, ↓noLent_cons, ↓wipeS_e, ↓wipeL_nil, ↓wipeL_cons, ↓pI_int, ↓pS_str, ↓pB_bl, ↓nfK_obj, ↓nfK_cel, ↓nfK_non, ↓nfK_bl, ↓nfK_int, ↓nfK_str, ↓nfK_tup, ↓nfK_lst, ↓nfK_dct, ↓slfK_e, ↓isNonT_non, ↓ofK_e, ↓derefK_lst, ↓derefK_tup, ↓derefK_str, ↓derefK_cel, ↓rcReprA_e, ↓wFmtRD_e, ↓aStar_e, ↓seqItK_lst, ↓seqItK_tup, ↓wFldC_e, ↓wMakeK_e, ↓wTryL_e, ↓wHds_nil, ↓wHds_cons, ↓revTK_tup, ↓wRevT_e, ↓rsRep_t, ↓rsRep_l, ↓wKp_e, ↓aConsF_e, ↓notSl_val, ↓notSl_fresh, ↓notSl_bor, ↓wParN_e, ↓asgN_nil, ↓asgN_cons, ↓rcMin1_lst, ↓wRaise_e, ↓wTry_e, ↓wExf_e, ↓wExI_e, ↓fldL1, ↓rcReprD_e, szLine, CPow, CMul, CDivN]
  refine sForm_i (us := []) (vs := []) ⟨rfl, rfl⟩ ⟨rfl, rfl⟩ ⟨ex, by simp, by simp, by simp⟩ rfl (by simp) (by simp) ?_
  simp [↓wVar_e, ↓wC_e, ↓wOp2_e, ↓wTest_e, ↓wAnd_e, ↓wOr_e, ↓wNot_e, ↓wAndV_e, ↓wOrV_e, ↓wNotV_e, ↓wIfE_e, ↓aNil_e, ↓aCons_e, ↓wLst_e, ↓wTup_e, ↓wCall_e, ↓wSet_e, ↓wSeq_e, ↓wSkip_e, ↓wIf_e, ↓wDrop_e, ↓wRet_e, ↓wRetN_e, ↓wBrk_e, ↓wCnt_e, ↓wNev_e, ↓gwName_e, ↓gwNil_e, ↓gwCons_e, ↓gwTup_e, ↓gwTupN_e, ↓wSrc_e, ↓wSrcZ_e, ↓wRng1_e, ↓wRng2_e, ↓wFor_e, ↓wLc_e, ↓wYes_e, ↓rsEq_e, ↓rsNe_e, ↓rsIn_e, ↓rsNotIn_e, ↓rsInt_e, ↓rsInt0_e, ↓rsAdd_e, ↓rsIsN_e, ↓rsNotN_e, ↓rsIx_e, ↓oNo_e, ↓oOf_e, ↓wSl_e, ↓wRev_e, ↓wNeg_e, ↓wCh_e, ↓wBlt_e, ↓rc1_e, ↓rc2_e, ↓wEn_e, ↓wChs_e, ↓wJoin_e, ↓wMut_e, ↓mfAppend_e, ↓mfPop_e, ↓mfReverse_e, ↓mfInsert_e, ↓mfExtend_e, ↓wSetIx_e, ↓wFmt_e, ↓wFmtR_e, ↓wFs_e, ↓wIsi_e, ↓wFld_e, ↓wSetF_e, ↓wSp1_e, ↓wEqO_e, ↓wInO_e, ↓wMeth_e, ↓wIxC_e, ↓rsIxS_e, ↓wSlS_e, ↓wLstC_e, ↓wTupC_e, ↓rsSub_e, ↓rsMulI_e, ↓rsFdiv_e, ↓rsMod_e, ↓rsPow_e, ↓rsLt_e, ↓rsLe_e, ↓rsGt_e, ↓rsGe_e, ↓rdK_val, ↓rdK_fresh, ↓rdK_bor, ↓rdK_slot, ↓kpK_val, ↓kpK_fresh, ↓kpK_slot, ↓retK_val, ↓retK_fresh, ↓retK_slot, ↓asgK_val, ↓asgK_bor, ↓asgK_fresh, ↓asgK_slot, ↓wrK_slot, ↓wrK_cel, ↓lstK_lst, ↓asInt_int, ↓intK_ii, ↓isBl_bl, ↓isBlT_bl, ↓strK_str, ↓itemsK_lst, ↓itemsK_tup, ↓stl_val, ↓stl_fresh, ↓stl_bor, ↓stl_slot, ↓srcK_val, ↓srcK_fresh, ↓srcK_bor, ↓srcK_slot, ↓rdAll_nil, ↓rdAll_cons, ↓kpAll_nil, ↓kpAll_cons, ↓argK_nil, ↓argK_val, ↓argK_bor, ↓argK_slot, ↓rcInt_int, ↓rcInt_bl, ↓rcLen_lst, ↓rcLen_tup, ↓rcLen_scr, ↓rcLen_str, ↓rcAbs_int, ↓rcMax2_ii, ↓rcMin2_ii, ↓rcListS_str, ↓rcListS_lst, ↓rcListS_tup, ↓rcTuple_lst, ↓rcTuple_tup, ↓rcAll_lst, ↓rcSum_lst, ↓rcStr_int, ↓rcStr_str, ↓rcRepr_int, ↓slK_lst, ↓slK_tup, ↓slK_str, ↓slSK_scr, ↓revK_lst, ↓inK_lst, ↓inK_tup, ↓inK_ss, ↓objK_e, ↓obK_obj, ↓obK_cel, ↓objW_obj, ↓wJs_nil, ↓wJs_cons, ↓fmtK_str, ↓fmtK_int, ↓fmtRK_str, ↓fmtRK_int, ↓joinK_lst, ↓joinK_tup, ↓noLent_nil, ↓noLent_cons, ↓wipeS_e, ↓wipeL_nil, ↓wipeL_cons, ↓pI_int, ↓pS_str, ↓pB_bl, ↓nfK_obj, ↓nfK_cel, ↓nfK_non, ↓nfK_bl, ↓nfK_int, ↓nfK_str, ↓nfK_tup, ↓nfK_lst, ↓nfK_dct, ↓slfK_e, ↓isNonT_non, ↓ofK_e, ↓derefK_lst, ↓derefK_tup, ↓derefK_str, ↓derefK_cel, ↓rcReprA_e, ↓wFmtRD_e, ↓aStar_e, ↓seqItK_lst, ↓seqItK_tup, ↓wFldC_e, ↓wMakeK_e, ↓wTryL_e, ↓wHds_nil, ↓wHds_cons, ↓revTK_tup, ↓wRevT_e, ↓rsRep_t, ↓rsRep_l, ↓wKp_e, ↓aConsF_e, ↓notSl_val, ↓notSl_fresh, ↓notSl_bor, ↓wParN_e, ↓asgN_nil, ↓asgN_cons, ↓rcMin1_lst, ↓wRaise_e, ↓wTry_e, ↓wExf_e, ↓wExI_e, ↓fldL1, ↓rcReprD_e, szLine, CPow, CMul, CDivN]
  refine sFeq_f rfl rfl ⟨by simp, by simp⟩ ⟨by simp, by simp⟩ ?_
  simp [↓wVar_e, ↓wC_e, ↓wOp2_e, ↓wTest_e, ↓wAnd_e, ↓wOr_e, ↓wNot_e, ↓wAndV_e, ↓wOrV_e, ↓wNotV_e, ↓wIfE_e, ↓aNil_e, ↓aCons_e, ↓wLst_e, ↓wTup_e, ↓wCall_e, ↓wSet_e, ↓wSeq_e, ↓wSkip_e, ↓wIf_e, ↓wDrop_e, ↓wRet_e, ↓wRetN_e, ↓wBrk_e, ↓wCnt_e, ↓wNev_e, ↓gwName_e, ↓gwNil_e, ↓gwCons_e, ↓gwTup_e, ↓gwTupN_e, ↓wSrc_e, ↓wSrcZ_e, ↓wRng1_e, ↓wRng2_e, ↓wFor_e, ↓wLc_e, ↓wYes_e, ↓rsEq_e, ↓rsNe_e, ↓rsIn_e, ↓rsNotIn_e, ↓rsInt_e, ↓rsInt0_e, ↓rsAdd_e, ↓rsIsN_e, ↓rsNotN_e, ↓rsIx_e, ↓oNo_e, ↓oOf_e, ↓wSl_e, ↓wRev_e, ↓wNeg_e, ↓wCh_e, ↓wBlt_e, ↓rc1_e, ↓rc2_e, ↓wEn_e, ↓wChs_e, ↓wJoin_e, ↓wMut_e, ↓mfAppend_e, ↓mfPop_e, ↓mfReverse_e, ↓mfInsert_e, ↓mfExtend_e, ↓wSetIx_e, ↓wFmt_e, ↓wFmtR_e, ↓wFs_e, ↓wIsi_e, ↓wFld_e, ↓wSetF_e, ↓wSp1_e, ↓wEqO_e, ↓wInO_e, ↓wMeth_e, ↓wIxC_e, ↓rsIxS_e, ↓wSlS_e, ↓wLstC_e, ↓wTupC_e, ↓rsSub_e, ↓rsMulI_e, ↓rsFdiv_e, ↓rsMod_e, ↓rsPow_e, ↓rsLt_e, ↓rsLe_e, ↓rsGt_e, ↓rsGe_e, ↓rdK_val, ↓rdK_fresh, ↓rdK_bor, ↓rdK_slot, ↓kpK_val, ↓kpK_fresh, ↓kpK_slot, ↓retK_val, ↓retK_fresh, ↓retK_slot, ↓asgK_val, ↓asgK_bor, ↓asgK_fresh, ↓asgK_slot, ↓wrK_slot, ↓wrK_cel, ↓lstK_lst, ↓asInt_int, ↓intK_ii, ↓isBl_bl, ↓isBlT_bl, ↓strK_str, ↓itemsK_lst, ↓itemsK_tup, ↓stl_val, ↓stl_fresh, ↓stl_bor, ↓stl_slot, ↓srcK_val, ↓srcK_fresh, ↓srcK_bor, ↓srcK_slot, ↓rdAll_nil, ↓rdAll_cons, ↓kpAll_nil, ↓kpAll_cons, ↓argK_nil, ↓argK_val, ↓argK_bor, ↓argK_slot, ↓rcInt_int, ↓rcInt_bl, ↓rcLen_lst, ↓rcLen_tup, ↓rcLen_scr, ↓rcLen_str, ↓rcAbs_int, ↓rcMax2_ii, ↓rcMin2_ii, ↓rcListS_str, ↓rcListS_lst, ↓rcListS_tup, ↓rcTuple_lst, ↓rcTuple_tup, ↓rcAll_lst, ↓rcSum_lst, ↓rcStr_int, ↓rcStr_str, ↓rcRepr_int, ↓slK_lst, ↓slK_tup, ↓slK_str, ↓slSK_scr, ↓revK_lst, ↓inK_lst, ↓inK_tup, ↓inK_ss, ↓objK_e, ↓obK_obj, ↓obK_cel, ↓objW_obj, ↓wJs_nil, ↓wJs_cons, ↓fmtK_str, ↓fmtK_int, ↓fmtRK_str, ↓fmtRK_int, ↓joinK_lst, ↓joinK_tup, ↓noLent_nil, ↓noLent_cons, ↓wipeS_e, ↓wipeL_nil, ↓wipeL_cons, ↓pI_int, ↓pS_str, ↓pB_bl, ↓nfK_obj, ↓nfK_cel, ↓nfK_non, ↓nfK_bl, ↓nfK_int, ↓nfK_str, ↓nfK_tup, ↓nfK_lst, ↓nfK_dct, ↓slfK_e, ↓isNonT_non, ↓ofK_e, ↓derefK_lst, ↓derefK_tup, ↓derefK_str, ↓derefK_cel, ↓rcReprA_e, ↓wFmtRD_e, ↓aStar_e, ↓seqItK_lst, ↓seqItK_tup, ↓wFldC_e, ↓wMakeK_e, ↓wTryL_e, ↓wHds_nil, ↓wHds_cons, ↓revTK_tup, ↓wRevT_e, ↓rsRep_t, ↓rsRep_l, ↓wKp_e, ↓aConsF_e, ↓notSl_val, ↓notSl_fresh, ↓notSl_bor, ↓wParN_e, ↓asgN_nil, ↓asgN_cons, ↓rcMin1_lst, ↓wRaise_e, ↓wTry_e, ↓wExf_e, ↓wExI_e, ↓fldL1, ↓rcReprD_e, szLine, CPow, CMul, CDivN, hz.nx]
  refine sForm_i (us := []) (vs := []) ⟨rfl, rfl⟩ ⟨rfl, rfl⟩ ⟨hz.ent, by simp, by simp, by simp; omega⟩ rfl (by simp) (by simp) ?_
  simp [↓wVar_e, ↓wC_e, ↓wOp2_e, ↓wTest_e, ↓wAnd_e, ↓wOr_e, ↓wNot_e, ↓wAndV_e, ↓wOrV_e, ↓wNotV_e, ↓wIfE_e, ↓aNil_e, ↓aCons_e, ↓wLst_e, ↓wTup_e, ↓wCall_e, ↓wSet_e, ↓wSeq_e, ↓wSkip_e, ↓wIf_e, ↓wDrop_e, ↓wRet_e, ↓wRetN_e, ↓wBrk_e, ↓wCnt_e, ↓wNev_e, ↓gwName_e, ↓gwNil_e, ↓gwCons_e, ↓gwTup_e, ↓gwTupN_e, ↓wSrc_e, ↓wSrcZ_e, ↓wRng1_e, ↓wRng2_e, ↓wFor_e, ↓wLc_e, ↓wYes_e, ↓rsEq_e, ↓rsNe_e, ↓rsIn_e, ↓rsNotIn_e, ↓rsInt_e, ↓rsInt0_e, ↓rsAdd_e, ↓rsIsN_e, ↓rsNotN_e, ↓rsIx_e, ↓oNo_e, ↓oOf_e, ↓wSl_e, ↓wRev_e, ↓wNeg_e, ↓wCh_e, ↓wBlt_e, ↓rc1_e, ↓rc2_e, ↓wEn_e, ↓wChs_e, ↓wJoin_e, ↓wMut_e, ↓mfAppend_e, ↓mfPop_e, ↓mfReverse_e, ↓mfInsert_e, ↓mfExtend_e, ↓wSetIx_e, ↓wFmt_e, ↓wFmtR_e, ↓wFs_e, ↓wIsi_e, ↓wFld_e, ↓wSetF_e, ↓wSp1_e, ↓wEqO_e, ↓wInO_e, ↓wMeth_e, ↓wIxC_e, ↓rsIxS_e, ↓wSlS_e, ↓wLstC_e, ↓wTupC_e, ↓rsSub_e, ↓rsMulI_e, ↓rsFdiv_e, ↓rsMod_e, ↓rsPow_e, ↓rsLt_e, ↓rsLe_e, ↓rsGt_e, ↓rsGe_e, ↓rdK_val, ↓rdK_fresh, ↓rdK_bor, ↓rdK_slot, ↓kpK_val, ↓kpK_fresh, ↓kpK_slot, ↓retK_val, ↓retK_fresh, ↓retK_slot, ↓asgK_val, ↓asgK_bor, ↓asgK_fresh, ↓asgK_slot, ↓wrK_slot, ↓wrK_cel, ↓lstK_lst, ↓asInt_int, ↓intK_ii, ↓isBl_bl, ↓isBlT_bl, ↓strK_str, ↓itemsK_lst, ↓itemsK_tup, ↓stl_val, ↓stl_fresh, ↓stl_bor, ↓stl_slot, ↓srcK_val, ↓srcK_fresh, ↓srcK_bor, ↓srcK_slot, ↓rdAll_nil, ↓rdAll_cons, ↓kpAll_nil, ↓kpAll_cons, ↓argK_nil, ↓argK_val, ↓argK_bor, ↓argK_slot, ↓rcInt_int, ↓rcInt_bl, ↓rcLen_lst, ↓rcLen_tup, ↓rcLen_scr, ↓rcLen_str, ↓rcAbs_int, ↓rcMax2_ii, ↓rcMin2_ii, ↓rcListS_str, ↓rcListS_lst, ↓rcListS_tup, ↓rcTuple_lst, ↓rcTuple_tup, ↓rcAll_lst, ↓rcSum_lst, ↓rcStr_int, ↓rcStr_str, ↓rcRepr_int, ↓slK_lst, ↓slK_tup, ↓slK_str, ↓slSK_scr, ↓revK_lst, ↓inK_lst, ↓inK_tup, ↓inK_ss, ↓objK_e, ↓obK_obj, ↓obK_cel, ↓objW_obj, ↓wJs_nil, ↓wJs_cons, ↓fmtK_str, ↓fmtK_int, ↓fmtRK_str, ↓fmtRK_int, ↓joinK_lst, ↓joinK_tup, ↓noLent_nil, ↓noLent_cons, ↓wipeS_e, ↓wipeL_nil, ↓wipeL_cons, ↓pI_int, ↓pS_str, ↓pB_bl, ↓nfK_obj, ↓nfK_cel, ↓nfK_non, ↓nfK_bl, ↓nfK_int, ↓nfK_str, ↓nfK_tup, ↓nfK_lst, ↓nfK_dct, ↓slfK_e, ↓isNonT_non, ↓ofK_e, ↓derefK_lst, ↓derefK_tup, ↓derefK_str, ↓derefK_cel, ↓rcReprA_e, ↓wFmtRD_e, ↓aStar_e, ↓seqItK_lst, ↓seqItK_tup, ↓wFldC_e, ↓wMakeK_e, ↓wTryL_e, ↓wHds_nil, ↓wHds_cons, ↓revTK_tup, ↓wRevT_e, ↓rsRep_t, ↓rsRep_l, ↓wKp_e, ↓aConsF_e, ↓notSl_val, ↓notSl_fresh, ↓notSl_bor, ↓wParN_e, ↓asgN_nil, ↓asgN_cons, ↓rcMin1_lst, ↓wRaise_e, ↓wTry_e, ↓wExf_e, ↓wExI_e, ↓fldL1, ↓rcReprD_e, szLine, CPow, CMul, CDivN, ↓sTab_vl, hz.r, hz.l1]
  refine sForm_i (us := []) (vs := []) ⟨rfl, rfl⟩ ⟨rfl, rfl⟩ ⟨hz.ent, by simp, by simp, by simp; omega⟩ rfl (by simp) (by simp) ?_
  simp [↓wVar_e, ↓wC_e, ↓wOp2_e, ↓wTest_e, ↓wAnd_e, ↓wOr_e, ↓wNot_e, ↓wAndV_e, ↓wOrV_e, ↓wNotV_e, ↓wIfE_e, ↓aNil_e, ↓aCons_e, ↓wLst_e, ↓wTup_e, ↓wCall_e, ↓wSet_e, ↓wSeq_e, ↓wSkip_e, ↓wIf_e, ↓wDrop_e, ↓wRet_e, ↓wRetN_e, ↓wBrk_e, ↓wCnt_e, ↓wNev_e, ↓gwName_e, ↓gwNil_e, ↓gwCons_e, ↓gwTup_e, ↓gwTupN_e, ↓wSrc_e, ↓wSrcZ_e, ↓wRng1_e, ↓wRng2_e, ↓wFor_e, ↓wLc_e, ↓wYes_e, ↓rsEq_e, ↓rsNe_e, ↓rsIn_e, ↓rsNotIn_e, ↓rsInt_e, ↓rsInt0_e, ↓rsAdd_e, ↓rsIsN_e, ↓rsNotN_e, ↓rsIx_e, ↓oNo_e, ↓oOf_e, ↓wSl_e, ↓wRev_e, ↓wNeg_e, ↓wCh_e, ↓wBlt_e, ↓rc1_e, ↓rc2_e, ↓wEn_e, ↓wChs_e, ↓wJoin_e, ↓wMut_e, ↓mfAppend_e, ↓mfPop_e, ↓mfReverse_e, ↓mfInsert_e, ↓mfExtend_e, ↓wSetIx_e, ↓wFmt_e, ↓wFmtR_e, ↓wFs_e, ↓wIsi_e, ↓wFld_e, ↓wSetF_e, ↓wSp1_e, ↓wEqO_e, ↓wInO_e, ↓wMeth_e, ↓wIxC_e, ↓rsIxS_e, ↓wSlS_e, ↓wLstC_e, ↓wTupC_e, ↓rsSub_e, ↓rsMulI_e, ↓rsFdiv_e, ↓rsMod_e, ↓rsPow_e, ↓rsLt_e, ↓rsLe_e, ↓rsGt_e, ↓rsGe_e, ↓rdK_val, ↓rdK_fresh, ↓rdK_bor, ↓rdK_slot, ↓kpK_val, ↓kpK_fresh, ↓kpK_slot, ↓retK_val, ↓retK_fresh, ↓retK_slot, ↓asgK_val, ↓asgK_bor, ↓asgK_fresh, ↓asgK_slot, ↓wrK_slot, ↓wrK_cel, ↓lstK_lst, ↓asInt_int, ↓intK_ii, ↓isBl_bl, ↓isBlT_bl, ↓strK_str, ↓itemsK_lst, ↓itemsK_tup, ↓stl_val, ↓stl_fresh, ↓stl_bor, ↓stl_slot, ↓srcK_val, ↓srcK_fresh, ↓srcK_bor, ↓srcK_slot, ↓rdAll_nil, ↓rdAll_cons, ↓kpAll_nil, ↓kpAll_cons, ↓argK_nil, ↓argK_val, ↓argK_bor, ↓argK_slot, ↓rcInt_int, ↓rcInt_bl, ↓rcLen_lst, ↓rcLen_tup, ↓rcLen_scr, ↓rcLen_str, ↓rcAbs_int, ↓rcMax2_ii, ↓rcMin2_ii, ↓rcListS_str, ↓rcListS_lst, ↓rcListS_tup, ↓rcTuple_lst, ↓rcTuple_tup, ↓rcAll_lst, ↓rcSum_lst, ↓rcStr_int, ↓rcStr_str, ↓rcRepr_int, ↓slK_lst, ↓slK_tup, ↓slK_str, ↓slSK_scr, ↓revK_lst, ↓inK_lst, ↓inK_tup, ↓inK_ss, ↓objK_e, ↓obK_obj, ↓obK_cel, ↓objW_obj, ↓wJs_nil, ↓wJs_cons, ↓fmtK_str, ↓fmtK_int, ↓fmtRK_str, ↓fmtRK_int, ↓joinK_lst, ↓joinK_tup, ↓noLent_nil, ↓noLent_cons, ↓wipeS_e, ↓wipeL_nil, ↓wipeL_cons, ↓pI_int, ↓pS_str, ↓pB_bl, ↓nfK_obj, ↓nfK_cel, ↓nfK_non, ↓nfK_bl, ↓nfK_int, ↓nfK_str, ↓nfK_tup, ↓nfK_lst, ↓nfK_dct, ↓slfK_e, ↓isNonT_non, ↓ofK_e, ↓derefK_lst, ↓derefK_tup, ↓derefK_str, ↓derefK_cel, ↓rcReprA_e, ↓wFmtRD_e, ↓aStar_e, ↓seqItK_lst, ↓seqItK_tup, ↓wFldC_e, ↓wMakeK_e, ↓wTryL_e, ↓wHds_nil, ↓wHds_cons, ↓revTK_tup, ↓wRevT_e, ↓rsRep_t, ↓rsRep_l, ↓wKp_e, ↓aConsF_e, ↓notSl_val, ↓notSl_fresh, ↓notSl_bor, ↓wParN_e, ↓asgN_nil, ↓asgN_cons, ↓rcMin1_lst, ↓wRaise_e, ↓wTry_e, ↓wExf_e, ↓wExI_e, ↓fldL1, ↓rcReprD_e, szLine, CPow, CMul, CDivN]
  refine sFeq_f rfl rfl ⟨by simp, by simp⟩ ⟨by simp, by simp⟩ ?_
  simp [↓wVar_e, ↓wC_e, ↓wOp2_e, ↓wTest_e, ↓wAnd_e, ↓wOr_e, ↓wNot_e, ↓wAndV_e, ↓wOrV_e, ↓wNotV_e, ↓wIfE_e, ↓aNil_e, ↓aCons_e, ↓wLst_e, ↓wTup_e, ↓wCall_e, ↓wSet_e, ↓wSeq_e, ↓wSkip_e, ↓wIf_e, ↓wDrop_e, ↓wRet_e, ↓wRetN_e, ↓wBrk_e, ↓wCnt_e, ↓wNev_e, ↓gwName_e, ↓gwNil_e, ↓gwCons_e, ↓gwTup_e, ↓gwTupN_e, ↓wSrc_e, ↓wSrcZ_e, ↓wRng1_e, ↓wRng2_e, ↓wFor_e, ↓wLc_e, ↓wYes_e, ↓rsEq_e, ↓rsNe_e, ↓rsIn_e, ↓rsNotIn_e, ↓rsInt_e, ↓rsInt0_e, ↓rsAdd_e, ↓rsIsN_e, ↓rsNotN_e, ↓rsIx_e, ↓oNo_e, ↓oOf_e, ↓wSl_e, ↓wRev_e, ↓wNeg_e, ↓wCh_e, ↓wBlt_e, ↓rc1_e, ↓rc2_e, ↓wEn_e, ↓wChs_e, ↓wJoin_e, ↓wMut_e, ↓mfAppend_e, ↓mfPop_e, ↓mfReverse_e, ↓mfInsert_e, ↓mfExtend_e, ↓wSetIx_e, ↓wFmt_e, ↓wFmtR_e, ↓wFs_e, ↓wIsi_e, ↓wFld_e, ↓wSetF_e, ↓wSp1_e, ↓wEqO_e, ↓wInO_e, ↓wMeth_e, ↓wIxC_e, ↓rsIxS_e, ↓wSlS_e, ↓wLstC_e, ↓wTupC_e, ↓rsSub_e, ↓rsMulI_e, ↓rsFdiv_e, ↓rsMod_e, ↓rsPow_e, ↓rsLt_e, ↓rsLe_e, ↓rsGt_e, ↓rsGe_e, ↓rdK_val, ↓rdK_fresh, ↓rdK_bor, ↓rdK_slot, ↓kpK_val, ↓kpK_fresh, ↓kpK_slot, ↓retK_val, ↓retK_fresh, ↓retK_slot, ↓asgK_val, ↓asgK_bor, ↓asgK_fresh, ↓asgK_slot, ↓wrK_slot, ↓wrK_cel, ↓lstK_lst, ↓asInt_int, ↓intK_ii, ↓isBl_bl, ↓isBlT_bl, ↓strK_str, ↓itemsK_lst, ↓itemsK_tup, ↓stl_val, ↓stl_fresh, ↓stl_bor, ↓stl_slot, ↓srcK_val, ↓srcK_fresh, ↓srcK_bor, ↓srcK_slot, ↓rdAll_nil, ↓rdAll_cons, ↓kpAll_nil, ↓kpAll_cons, ↓argK_nil, ↓argK_val, ↓argK_bor, ↓argK_slot, ↓rcInt_int, ↓rcInt_bl, ↓rcLen_lst, ↓rcLen_tup, ↓rcLen_scr, ↓rcLen_str, ↓rcAbs_int, ↓rcMax2_ii, ↓rcMin2_ii, ↓rcListS_str, ↓rcListS_lst, ↓rcListS_tup, ↓rcTuple_lst, ↓rcTuple_tup, ↓rcAll_lst, ↓rcSum_lst, ↓rcStr_int, ↓rcStr_str, ↓rcRepr_int, ↓slK_lst, ↓slK_tup, ↓slK_str, ↓slSK_scr, ↓revK_lst, ↓inK_lst, ↓inK_tup, ↓inK_ss, ↓objK_e, ↓obK_obj, ↓obK_cel, ↓objW_obj, ↓wJs_nil, ↓wJs_cons, ↓fmtK_str, ↓fmtK_int, ↓fmtRK_str, ↓fmtRK_int, ↓joinK_lst, ↓joinK_tup, ↓noLent_nil, ↓noLent_cons, ↓wipeS_e, ↓wipeL_nil, ↓wipeL_cons, ↓pI_int, ↓pS_str, ↓pB_bl, ↓nfK_obj, ↓nfK_cel, ↓nfK_non, ↓nfK_bl, ↓nfK_int, ↓nfK_str, ↓nfK_tup, ↓nfK_lst, ↓nfK_dct, ↓slfK_e, ↓isNonT_non, ↓ofK_e, ↓derefK_lst, ↓derefK_tup, ↓derefK_str, ↓derefK_cel, ↓rcReprA_e, ↓wFmtRD_e, ↓aStar_e, ↓seqItK_lst, ↓seqItK_tup, ↓wFldC_e, ↓wMakeK_e, ↓wTryL_e, ↓wHds_nil, ↓wHds_cons, ↓revTK_tup, ↓wRevT_e, ↓rsRep_t, ↓rsRep_l, ↓wKp_e, ↓aConsF_e, ↓notSl_val, ↓notSl_fresh, ↓notSl_bor, ↓wParN_e, ↓asgN_nil, ↓asgN_cons, ↓rcMin1_lst, ↓wRaise_e, ↓wTry_e, ↓wExf_e, ↓wExI_e, ↓fldL1, ↓rcReprD_e, szLine, CPow, CMul, CDivN]
  exact law_16 hz hk
theorem law_19 (hb : c[n]? = some .bag) (hz : Col zs) (l4 : s4.isL = false) (l5 : s5.isL = false) (l6 : s6.isL = false) (l7 : s7.isL = false) (l8 : s8.isL = false) (l9 : s9.isL = false) (l10 : s10.isL = false) (l11 : s11.isL = false) (l12 : s12.isL = false) (l13 : s13.isL = false) (l14 : s14.isL = false) (l15 : s15.isL = false) (l16 : s16.isL = false)
    (hk : ∀ s5 s6 s7 s8 s9 s10 s11 s12 s13 s14 s15 s16 : BV.Slot, s5.isL = false → s6.isL = false → s7.isL = false → s8.isL = false → s9.isL = false → s10.isL = false → s11.isL = false → s12.isL = false → s13.isL = false → s14.isL = false → s15.isL = false → s16.isL = false → E.nx ⟨[s0, s1, .val (.cel n), .val (.lst (zs.map PV.str)), .val (tabP K zs), s5, s6, s7, s8, s9, s10, s11, s12, s13, s14, s15, s16], c⟩) :
    t_law_19 K sBag sOf (sTab K) sWords sSpoilt sDue (sTold K) sTake (sForm K) (sIsF K) (sFeq K) ⟨[s0, s1, .val (.cel n), .val (.lst (zs.map PV.str)), s4, s5, s6, s7, s8, s9, s10, s11, s12, s13, s14, s15, s16], c⟩ E := by
  unfold t_law_19
  simp [↓wVar_e, ↓wC_e, ↓wOp2_e, ↓wTest_e, ↓wAnd_e, ↓wOr_e, ↓wNot_e, ↓wAndV_e, ↓wOrV_e, ↓wNotV_e, ↓wIfE_e, ↓aNil_e, ↓aCons_e, ↓wLst_e, ↓wTup_e, ↓wCall_e, ↓wSet_e, ↓wSeq_e, ↓wSkip_e, ↓wIf_e, ↓wDrop_e, ↓wRet_e, ↓wRetN_e, ↓wBrk_e, ↓wCnt_e, ↓wNev_e, ↓gwName_e, ↓gwNil_e, ↓gwCons_e, ↓gwTup_e, ↓gwTupN_e, ↓wSrc_e, ↓wSrcZ_e, ↓wRng1_e, ↓wRng2_e, ↓wFor_e, ↓wLc_e, ↓wYes_e, ↓rsEq_e, ↓rsNe_e, ↓rsIn_e, ↓rsNotIn_e, ↓rsInt_e, ↓rsInt0_e, ↓rsAdd_e, ↓rsIsN_e, ↓rsNotN_e, ↓rsIx_e, ↓oNo_e, ↓oOf_e, ↓wSl_e, ↓wRev_e, ↓wNeg_e, ↓wCh_e, ↓wBlt_e, ↓rc1_e, ↓rc2_e, ↓wEn_e, ↓wChs_e, ↓wJoin_e, ↓wMut_e, ↓mfAppend_e, ↓mfPop_e, ↓mfReverse_e, ↓mfInsert_e, ↓mfExtend_e, ↓wSetIx_e, ↓wFmt_e, ↓wFmtR_e, ↓wFs_e, ↓wIsi_e, ↓wFld_e, ↓wSetF_e, ↓wSp1_e, ↓wEqO_e, ↓wInO_e, ↓wMeth_e, ↓wIxC_e, ↓rsIxS_e, ↓wSlS_e, ↓wLstC_e, ↓wTupC_e, ↓rsSub_e, ↓rsMulI_e, ↓rsFdiv_e, ↓rsMod_e, ↓rsPow_e, ↓rsLt_e, ↓rsLe_e, ↓rsGt_e, ↓rsGe_e, ↓rdK_val, ↓rdK_fresh, ↓rdK_bor, ↓rdK_slot, ↓kpK_val, ↓kpK_fresh, ↓kpK_slot, ↓retK_val, ↓retK_fresh, ↓retK_slot, ↓asgK_val, ↓asgK_bor, ↓asgK_fresh, ↓asgK_slot, ↓wrK_slot, ↓wrK_cel, ↓lstK_lst, ↓asInt_int, ↓intK_ii, ↓isBl_bl, ↓isBlT_bl, ↓strK_str, ↓itemsK_lst, ↓itemsK_tup, ↓stl_val, ↓stl_fresh, ↓stl_bor, ↓stl_slot, ↓srcK_val, ↓srcK_fresh, ↓srcK_bor, ↓srcK_slot, ↓rdAll_nil, ↓rdAll_cons, ↓kpAll_nil, ↓kpAll_cons, ↓argK_nil, ↓argK_val, ↓argK_bor, ↓argK_slot, ↓rcInt_int, ↓rcInt_bl, ↓rcLen_lst, ↓rcLen_tup, ↓rcLen_scr, ↓rcLen_str, ↓rcAbs_int, ↓rcMax2_ii, ↓rcMin2_ii, ↓rcListS_str, ↓rcListS_lst, ↓rcListS_tup, ↓rcTuple_lst, ↓rcTuple_tup, ↓rcAll_lst, ↓rcSum_lst, ↓rcStr_int, ↓rcStr_str, ↓rcRepr_int, ↓slK_lst, ↓slK_tup, ↓slK_str, ↓slSK_scr, ↓revK_lst, ↓inK_lst, ↓inK_tup, ↓inK_ss, ↓objK_e, ↓obK_obj, ↓obK_cel, ↓objW_obj, ↓wJs_nil, ↓wJs_cons, ↓fmtK_str, ↓fmtK_int, ↓fmtRK_str, ↓fmtRK_int, ↓joinK_lst, ↓joinK_tup, ↓noLent_nil, ↓noLent_cons, ↓wipeS_e, ↓wipeL_nil, ↓wipeL_cons, ↓pI_int, ↓pS_str, ↓pB_bl, ↓nfK_obj, ↓nfK_cel, ↓nfK_non, ↓nfK_bl, ↓nfK_int, ↓nfK_str, ↓nfK_tup, ↓nfK_lst, ↓nfK_dct, ↓slfK_e, ↓isNonT_non, ↓ofK_e, ↓derefK_lst, ↓derefK_tup, ↓derefK_str, ↓derefK_cel, ↓rcReprA_e, ↓wFmtRD_e, ↓aStar_e, ↓seqItK_lst, ↓seqItK_tup, ↓wFldC_e, ↓wMakeK_e, ↓wTryL_e, ↓wHds_nil, ↓wHds_cons, ↓revTK_tup, ↓wRevT_e, ↓rsRep_t, ↓rsRep_l, ↓wKp_e, ↓aConsF_e, ↓notSl_val, ↓notSl_fresh, ↓notSl_bor, ↓wParN_e, ↓asgN_nil, ↓asgN_cons, ↓rcMin1_lst, ↓wRaise_e, ↓wTry_e, ↓wExf_e, ↓wExI_e, ↓fldL1, ↓rcReprD_e, szLine, CPow, CMul, CDivN, ↓sTab_vl, hz.r, hz.l1, l4]
  unfold t_law_18
  simp [↓wVar_e, ↓wC_e, ↓wOp2_e, ↓wTest_e, ↓wAnd_e, ↓wOr_e, ↓wNot_e, ↓wAndV_e, ↓wOrV_e, ↓wNotV_e, ↓wIfE_e, ↓aNil_e, ↓aCons_e, ↓wLst_e, ↓wTup_e, ↓wCall_e, ↓wSet_e, ↓wSeq_e, ↓wSkip_e, ↓wIf_e, ↓wDrop_e, ↓wRet_e, ↓wRetN_e, ↓wBrk_e, ↓wCnt_e, ↓wNev_e, ↓gwName_e, ↓gwNil_e, ↓gwCons_e, ↓gwTup_e, ↓gwTupN_e, ↓wSrc_e, ↓wSrcZ_e, ↓wRng1_e, ↓wRng2_e, ↓wFor_e, ↓wLc_e, ↓wYes_e, ↓rsEq_e, ↓rsNe_e, ↓rsIn_e, ↓rsNotIn_e, ↓rsInt_e, ↓rsInt0_e, ↓rsAdd_e, ↓rsIsN_e, ↓rsNotN_e, ↓rsIx_e, ↓oNo_e, ↓oOf_e, ↓wSl_e, ↓wRev_e, ↓wNeg_e, ↓wCh_e, ↓wBlt_e, ↓rc1_e, ↓rc2_e, ↓wEn_e, ↓wChs_e, ↓wJoin_e, ↓wMut_e, ↓mfAppend_e, ↓mfPop_e, ↓mfReverse_e, ↓mfInsert_e, ↓mfExtend_e, ↓wSetIx_e, ↓wFmt_e, ↓wFmtR_e, ↓wFs_e, ↓wIsi_e, ↓wFld_e, ↓wSetF_e, ↓wSp1_e, ↓wEqO_e, ↓wInO_e, ↓wMeth_e, ↓wIxC_e, ↓rsIxS_e, ↓wSlS_e, ↓wLstC_e, ↓wTupC_e, ↓rsSub_e, ↓rsMulI_e, ↓rsFdiv_e, ↓rsMod_e, ↓rsPow_e, ↓rsLt_e, ↓rsLe_e, ↓rsGt_e, ↓rsGe_e, ↓rdK_val, ↓rdK_fresh, ↓rdK_bor, ↓rdK_slot, ↓kpK_val, ↓kpK_fresh, ↓kpK_slot, ↓retK_val, ↓retK_fresh, ↓retK_slot, ↓asgK_val, ↓asgK_bor, ↓asgK_fresh, ↓asgK_slot, ↓wrK_slot, ↓wrK_cel, ↓lstK_lst, ↓asInt_int, ↓intK_ii, ↓isBl_bl, ↓isBlT_bl, ↓strK_str, ↓itemsK_lst, ↓itemsK_tup, ↓stl_val, ↓stl_fresh, ↓stl_bor, ↓stl_slot, ↓srcK_val, ↓srcK_fresh, ↓srcK_bor, ↓srcK_slot, ↓rdAll_nil, ↓rdAll_cons, ↓kpAll_nil, ↓kpAll_cons, ↓argK_nil, ↓argK_val, ↓argK_bor, ↓argK_slot, ↓rcInt_int, ↓rcInt_bl, ↓rcLen_lst, ↓rcLen_tup, ↓rcLen_scr, ↓rcLen_str, ↓rcAbs_int, ↓rcMax2_ii, ↓rcMin2_ii, ↓rcListS_str, ↓rcListS_lst, ↓rcListS_tup, ↓rcTuple_lst, ↓rcTuple_tup, ↓rcAll_lst, ↓rcSum_lst, ↓rcStr_int, ↓rcStr_str, ↓rcRepr_int, ↓slK_lst, ↓slK_tup, ↓slK_str, ↓slSK_scr, ↓revK_lst, ↓inK_lst, ↓inK_tup, ↓inK_ss, ↓objK_e, ↓obK_obj, ↓obK_cel, ↓objW_obj, ↓wJs_nil, ↓wJs_cons, ↓fmtK_str, ↓fmtK_int, ↓fmtRK_str, ↓fmtRK_int, ↓joinK_lst, ↓joinK_tup, ↓noLent_nil, ↓noLent_cons, ↓wipeS_e, ↓wipeL_nil, ↓wipeL_cons, ↓pI_int, ↓pS_str, ↓pB_bl, ↓nfK_obj, ↓nfK_cel, ↓nfK_non, ↓nfK_bl, ↓nfK_int, ↓nfK_str, ↓nfK_tup, ↓nfK_lst, ↓nfK_dct, ↓slfK_e, ↓isNonT_non, ↓ofK_e, ↓derefK_lst, ↓derefK_tup, ↓derefK_str, ↓derefK_cel, ↓rcReprA_e, ↓wFmtRD_e, ↓aStar_e, ↓seqItK_lst, ↓seqItK_tup, ↓wFldC_e, ↓wMakeK_e, ↓wTryL_e, ↓wHds_nil, ↓wHds_cons, ↓revTK_tup, ↓wRevT_e, ↓rsRep_t, ↓rsRep_l, ↓wKp_e, ↓aConsF_e, ↓notSl_val, ↓notSl_fresh, ↓notSl_bor, ↓wParN_e, ↓asgN_nil, ↓asgN_cons, ↓rcMin1_lst, ↓wRaise_e, ↓wTry_e, ↓wExf_e, ↓wExI_e, ↓fldL1, ↓rcReprD_e, szLine, CPow, CMul, CDivN]
  refine for_inv (fun i S => ∃ s5 s6 s7 s8 s9 s10 s11 s12 s13 s14 s15 s16 : BV.Slot, S = ⟨[s0, s1, .val (.cel n), .val (.lst (zs.map PV.str)), .val (tabP K zs), s5, s6, s7, s8, s9, s10, s11, s12, s13, s14, s15, s16], c⟩ ∧ s5.isL = false ∧ s6.isL = false ∧ s7.isL = false ∧ s8.isL = false ∧ s9.isL = false ∧ s10.isL = false ∧ s11.isL = false ∧ s12.isL = false ∧ s13.isL = false ∧ s14.isL = false ∧ s15.isL = false ∧ s16.isL = false) ⟨_, _, _, _, _, _, _, _, _, _, _, _, rfl, l5, l6, l7, l8, l9, l10, l11, l12, l13, l14, l15, l16⟩ ?_ ?_
  · rintro i x S k hx ⟨s5, s6, s7, s8, s9, s10, s11, s12, s13, s14, s15, s16, rfl, l5, l6, l7, l8, l9, l10, l11, l12, l13, l14, l15, l16⟩ hk
    obtain ⟨rfl, hi⟩ := rgP_at hx
    simp [↓wVar_e, ↓wC_e, ↓wOp2_e, ↓wTest_e, ↓wAnd_e, ↓wOr_e, ↓wNot_e, ↓wAndV_e, ↓wOrV_e, ↓wNotV_e, ↓wIfE_e, ↓aNil_e, ↓aCons_e, ↓wLst_e, ↓wTup_e, ↓wCall_e, ↓wSet_e, ↓wSeq_e, ↓wSkip_e, ↓wIf_e, ↓wDrop_e, ↓wRet_e, ↓wRetN_e, ↓wBrk_e, ↓wCnt_e, ↓wNev_e, ↓gwName_e, ↓gwNil_e, ↓gwCons_e, ↓gwTup_e, ↓gwTupN_e, ↓wSrc_e, ↓wSrcZ_e, ↓wRng1_e, ↓wRng2_e, ↓wFor_e, ↓wLc_e, ↓wYes_e, ↓rsEq_e, ↓rsNe_e, ↓rsIn_e, ↓rsNotIn_e, ↓rsInt_e, ↓rsInt0_e, ↓rsAdd_e, ↓rsIsN_e, ↓rsNotN_e, ↓rsIx_e, ↓oNo_e, ↓oOf_e, ↓wSl_e, ↓wRev_e, ↓wNeg_e, ↓wCh_e, ↓wBlt_e, ↓rc1_e, ↓rc2_e, ↓wEn_e, ↓wChs_e, ↓wJoin_e, ↓wMut_e, ↓mfAppend_e, ↓mfPop_e, ↓mfReverse_e, ↓mfInsert_e, ↓mfExtend_e, ↓wSetIx_e, ↓wFmt_e, ↓wFmtR_e, ↓wFs_e, ↓wIsi_e, ↓wFld_e, ↓wSetF_e, ↓wSp1_e, ↓wEqO_e, ↓wInO_e, ↓wMeth_e, ↓wIxC_e, ↓rsIxS_e, ↓wSlS_e, ↓wLstC_e, ↓wTupC_e, ↓rsSub_e, ↓rsMulI_e, ↓rsFdiv_e, ↓rsMod_e, ↓rsPow_e, ↓rsLt_e, ↓rsLe_e, ↓rsGt_e, ↓rsGe_e, ↓rdK_val, ↓rdK_fresh, ↓rdK_bor, ↓rdK_slot, ↓kpK_val, ↓kpK_fresh, ↓kpK_slot, ↓retK_val, ↓retK_fresh, ↓retK_slot, ↓asgK_val, ↓asgK_bor, ↓asgK_fresh, ↓asgK_slot, ↓wrK_slot, ↓wrK_cel, ↓lstK_lst, ↓asInt_int, ↓intK_ii, ↓isBl_bl, ↓isBlT_bl, ↓strK_str, ↓itemsK_lst, ↓itemsK_tup, ↓stl_val, ↓stl_fresh, ↓stl_bor, ↓stl_slot, ↓srcK_val, ↓srcK_fresh, ↓srcK_bor, ↓srcK_slot, ↓rdAll_nil, ↓rdAll_cons, ↓kpAll_nil, ↓kpAll_cons, ↓argK_nil, ↓argK_val, ↓argK_bor, ↓argK_slot, ↓rcInt_int, ↓rcInt_bl, ↓rcLen_lst, ↓rcLen_tup, ↓rcLen_scr, ↓rcLen_str, ↓rcAbs_int, ↓rcMax2_ii, ↓rcMin2_ii, ↓rcListS_str, ↓rcListS_lst, ↓rcListS_tup, ↓rcTuple_lst, ↓rcTuple_tup, ↓rcAll_lst, ↓rcSum_lst, ↓rcStr_int, ↓rcStr_str, ↓rcRepr_int, ↓slK_lst, ↓slK_tup, ↓slK_str, ↓slSK_scr, ↓revK_lst, ↓inK_lst, ↓inK_tup, ↓inK_ss, ↓objK_e, ↓obK_obj, ↓obK_cel, ↓objW_obj, ↓wJs_nil, ↓wJs_cons, ↓fmtK_str, ↓fmtK_int, ↓fmtRK_str, ↓fmtRK_int, ↓joinK_lst, ↓joinK_tup, ↓noLent_nil, ↓noLent_cons, ↓wipeS_e, ↓wipeL_nil, ↓wipeL_cons, ↓pI_int, ↓pS_str, ↓pB_bl, ↓nfK_obj, ↓nfK_cel, ↓nfK_non, ↓nfK_bl, ↓nfK_int, ↓nfK_str, ↓nfK_tup, ↓nfK_lst, ↓nfK_dct, ↓slfK_e, ↓isNonT_non, ↓ofK_e, ↓derefK_lst, ↓derefK_tup, ↓derefK_str, ↓derefK_cel, ↓rcReprA_e, ↓wFmtRD_e, ↓aStar_e, ↓seqItK_lst, ↓seqItK_tup, ↓wFldC_e, ↓wMakeK_e, ↓wTryL_e, ↓wHds_nil, ↓wHds_cons, ↓revTK_tup, ↓wRevT_e, ↓rsRep_t, ↓rsRep_l, ↓wKp_e, ↓aConsF_e, ↓notSl_val, ↓notSl_fresh, ↓notSl_bor, ↓wParN_e, ↓asgN_nil, ↓asgN_cons, ↓rcMin1_lst, ↓wRaise_e, ↓wTry_e, ↓wExf_e, ↓wExI_e, ↓fldL1, ↓rcReprD_e, szLine, CPow, CMul, CDivN, l5]
    exact law_15 hb hz.r hz.l1 hz.ent hz.r.l3 l6 l7 l8 l9 l10 l11 l12 l13 l14 l15 l16 fun s6 s7 s8 s9 s10 s11 s12 s13 s14 s15 s16 l6 l7 l8 l9 l10 l11 l12 l13 l14 l15 l16 => hk _ ⟨_, s6, s7, s8, s9, s10, s11, s12, s13, s14, s15, s16, rfl, rfl, l6, l7, l8, l9, l10, l11, l12, l13, l14, l15, l16⟩
  · rintro S ⟨s5, s6, s7, s8, s9, s10, s11, s12, s13, s14, s15, s16, rfl, l5, l6, l7, l8, l9, l10, l11, l12, l13, l14, l15, l16⟩
    exact law_17 hz (hk _ _ _ _ _ _ _ _ _ _ _ _ l5 l6 l7 l8 l9 l10 l11 l12 l13 l14 l15 l16)
end
theorem law_plain (K : PySem.W.Frag) (ns : List Int) (hn : ns.length ≤ 63) : fwOf 17 1 (w_law K sBag sOf (sTab K) sWords sSpoilt sDue (sTold K) sTake (sForm K) (sIsF K) (sFeq K)) [.val (.scr ns)] [] (fun r _ => r = .val (.bl true)) (fun _ _ => False) := by
  refine fwOf_i rfl fun E _ hrt _ => ?_
  unfold w_law
  simp [↓wVar_e, ↓wC_e, ↓wOp2_e, ↓wTest_e, ↓wAnd_e, ↓wOr_e, ↓wNot_e, ↓wAndV_e, ↓wOrV_e, ↓wNotV_e, ↓wIfE_e, ↓aNil_e, ↓aCons_e, ↓wLst_e, ↓wTup_e, ↓wCall_e, ↓wSet_e, ↓wSeq_e, ↓wSkip_e, ↓wIf_e, ↓wDrop_e, ↓wRet_e, ↓wRetN_e, ↓wBrk_e, ↓wCnt_e, ↓wNev_e, ↓gwName_e, ↓gwNil_e, ↓gwCons_e, ↓gwTup_e, ↓gwTupN_e, ↓wSrc_e, ↓wSrcZ_e, ↓wRng1_e, ↓wRng2_e, ↓wFor_e, ↓wLc_e, ↓wYes_e, ↓rsEq_e, ↓rsNe_e, ↓rsIn_e, ↓rsNotIn_e, ↓rsInt_e, ↓rsInt0_e, ↓rsAdd_e, ↓rsIsN_e, ↓rsNotN_e, ↓rsIx_e, ↓oNo_e, ↓oOf_e, ↓wSl_e, ↓wRev_e, ↓wNeg_e, ↓wCh_e, ↓wBlt_e, ↓rc1_e, ↓rc2_e, ↓wEn_e, ↓wChs_e, ↓wJoin_e, ↓wMut_e, ↓mfAppend_e, ↓mfPop_e, ↓mfReverse_e, ↓mfInsert_e, ↓mfExtend_e, ↓wSetIx_e, ↓wFmt_e, ↓wFmtR_e, ↓wFs_e, ↓wIsi_e, ↓wFld_e, ↓wSetF_e, ↓wSp1_e, ↓wEqO_e, ↓wInO_e, ↓wMeth_e, ↓wIxC_e, ↓rsIxS_e, ↓wSlS_e, ↓wLstC_e, ↓wTupC_e, ↓rsSub_e, ↓rsMulI_e, ↓rsFdiv_e, ↓rsMod_e, ↓rsPow_e, ↓rsLt_e, ↓rsLe_e, ↓rsGt_e, ↓rsGe_e, ↓rdK_val, ↓rdK_fresh, ↓rdK_bor, ↓rdK_slot, ↓kpK_val, ↓kpK_fresh, ↓kpK_slot, ↓retK_val, ↓retK_fresh, ↓retK_slot, ↓asgK_val, ↓asgK_bor, ↓asgK_fresh, ↓asgK_slot, ↓wrK_slot, ↓wrK_cel, ↓lstK_lst, ↓asInt_int, ↓intK_ii, ↓isBl_bl, ↓isBlT_bl, ↓strK_str, ↓itemsK_lst, ↓itemsK_tup, ↓stl_val, ↓stl_fresh, ↓stl_bor, ↓stl_slot, ↓srcK_val, ↓srcK_fresh, ↓srcK_bor, ↓srcK_slot, ↓rdAll_nil, ↓rdAll_cons, ↓kpAll_nil, ↓kpAll_cons, ↓argK_nil, ↓argK_val, ↓argK_bor, ↓argK_slot, ↓rcInt_int, ↓rcInt_bl, ↓rcLen_lst, ↓rcLen_tup, ↓rcLen_scr, ↓rcLen_str, ↓rcAbs_int, ↓rcMax2_ii, ↓rcMin2_ii, ↓rcListS_str, ↓rcListS_lst, ↓rcListS_tup, ↓rcTuple_lst, ↓rcTuple_tup, ↓rcAll_lst, ↓rcSum_lst, ↓rcStr_int, ↓rcStr_str, ↓rcRepr_int, ↓slK_lst, ↓slK_tup, ↓slK_str, ↓slSK_scr, ↓revK_lst, ↓inK_lst, ↓inK_tup, ↓inK_ss, ↓objK_e, ↓obK_obj, ↓obK_cel, ↓objW_obj, ↓wJs_nil, ↓wJs_cons, ↓fmtK_str, ↓fmtK_int, ↓fmtRK_str, ↓fmtRK_int, ↓joinK_lst, ↓joinK_tup, ↓noLent_nil, ↓noLent_cons, ↓wipeS_e, ↓wipeL_nil, ↓wipeL_cons, ↓pI_int, ↓pS_str, ↓pB_bl, ↓nfK_obj, ↓nfK_cel, ↓nfK_non, ↓nfK_bl, ↓nfK_int, ↓nfK_str, ↓nfK_tup, ↓nfK_lst, ↓nfK_dct, ↓slfK_e, ↓isNonT_non, ↓ofK_e, ↓derefK_lst, ↓derefK_tup, ↓derefK_str, ↓derefK_cel, ↓rcReprA_e, ↓wFmtRD_e, ↓aStar_e, ↓seqItK_lst, ↓seqItK_tup, ↓wFldC_e, ↓wMakeK_e, ↓wTryL_e, ↓wHds_nil, ↓wHds_cons, ↓revTK_tup, ↓wRevT_e, ↓rsRep_t, ↓rsRep_l, ↓wKp_e, ↓aConsF_e, ↓notSl_val, ↓notSl_fresh, ↓notSl_bor, ↓wParN_e, ↓asgN_nil, ↓asgN_cons, ↓rcMin1_lst, ↓wRaise_e, ↓wTry_e, ↓wExf_e, ↓wExI_e, ↓fldL1, ↓rcReprD_e, szLine, CPow, CMul, CDivN]
  refine ⟨by split <;> split <;> omega, ?_⟩
  refine for_inv (fun i S => ∃ s1 s2 s3 s4 s5 s6 s7 s8 s9 s10 s11 s12 s13 s14 s15 s16 c, S = ⟨[.val (.scr ns), s1, s2, s3, s4, s5, s6, s7, s8, s9, s10, s11, s12, s13, s14, s15, s16], c⟩ ∧ s1.isL = false ∧ s2.isL = false ∧ s3.isL = false ∧ s4.isL = false ∧ s5.isL = false ∧ s6.isL = false ∧ s7.isL = false ∧ s8.isL = false ∧ s9.isL = false ∧ s10.isL = false ∧ s11.isL = false ∧ s12.isL = false ∧ s13.isL = false ∧ s14.isL = false ∧ s15.isL = false ∧ s16.isL = false) ⟨_, _, _, _, _, _, _, _, _, _, _, _, _, _, _, _, _, rfl, rfl, rfl, rfl, rfl, rfl, rfl, rfl, rfl, rfl, rfl, rfl, rfl, rfl, rfl, rfl, rfl⟩ ?_ ?_
  · rintro i x S k hx ⟨s1, s2, s3, s4, s5, s6, s7, s8, s9, s10, s11, s12, s13, s14, s15, s16, c, rfl, l1, l2, l3, l4, l5, l6, l7, l8, l9, l10, l11, l12, l13, l14, l15, l16⟩ hk
    obtain ⟨rfl, hi⟩ := rgP_at hx
    have hi6 : (i : Int) < 6 := by
      have : (i : Int) < 6 ∨ ¬ (i : Int) < 6 := by omega
      rcases this with h | h
      · exact h
      · exfalso
        have : (6 : Int) ≤ i := by omega
        revert hi
        split <;> split <;> omega
    unfold b_law_21
    simp [↓wVar_e, ↓wC_e, ↓wOp2_e, ↓wTest_e, ↓wAnd_e, ↓wOr_e, ↓wNot_e, ↓wAndV_e, ↓wOrV_e, ↓wNotV_e, ↓wIfE_e, ↓aNil_e, ↓aCons_e, ↓wLst_e, ↓wTup_e, ↓wCall_e, ↓wSet_e, ↓wSeq_e, ↓wSkip_e, ↓wIf_e, ↓wDrop_e, ↓wRet_e, ↓wRetN_e, ↓wBrk_e, ↓wCnt_e, ↓wNev_e, ↓gwName_e, ↓gwNil_e, ↓gwCons_e, ↓gwTup_e, ↓gwTupN_e, ↓wSrc_e, ↓wSrcZ_e, ↓wRng1_e, ↓wRng2_e, ↓wFor_e, ↓wLc_e, ↓wYes_e, ↓rsEq_e, ↓rsNe_e, ↓rsIn_e, ↓rsNotIn_e, ↓rsInt_e, ↓rsInt0_e, ↓rsAdd_e, ↓rsIsN_e, ↓rsNotN_e, ↓rsIx_e, ↓oNo_e, ↓oOf_e, ↓wSl_e, ↓wRev_e, ↓wNeg_e, ↓wCh_e, ↓wBlt_e, ↓rc1_e, ↓rc2_e, ↓wEn_e, ↓wChs_e, ↓wJoin_e, ↓wMut_e, ↓mfAppend_e, ↓mfPop_e, ↓mfReverse_e, ↓mfInsert_e, ↓mfExtend_e, ↓wSetIx_e, ↓wFmt_e, ↓wFmtR_e, ↓wFs_e, ↓wIsi_e, ↓wFld_e, ↓wSetF_e, ↓wSp1_e, ↓wEqO_e, ↓wInO_e, ↓wMeth_e, ↓wIxC_e, ↓rsIxS_e, ↓wSlS_e, ↓wLstC_e, ↓wTupC_e, ↓rsSub_e, ↓rsMulI_e, ↓rsFdiv_e, ↓rsMod_e, ↓rsPow_e, ↓rsLt_e, ↓rsLe_e, ↓rsGt_e, ↓rsGe_e, ↓rdK_val, ↓rdK_fresh, ↓rdK_bor, ↓rdK_slot, ↓kpK_val, ↓kpK_fresh, ↓kpK_slot, ↓retK_val, ↓retK_fresh, ↓retK_slot, ↓asgK_val, ↓asgK_bor, ↓asgK_fresh, ↓asgK_slot, ↓wrK_slot, ↓wrK_cel, ↓lstK_lst, ↓asInt_int, ↓intK_ii, ↓isBl_bl, ↓isBlT_bl, ↓strK_str, ↓itemsK_lst, ↓itemsK_tup, ↓stl_val, ↓stl_fresh, ↓stl_bor, ↓stl_slot, ↓srcK_val, ↓srcK_fresh, ↓srcK_bor, ↓srcK_slot, ↓rdAll_nil, ↓rdAll_cons, ↓kpAll_nil, ↓kpAll_cons, ↓argK_nil, ↓argK_val, ↓argK_bor, ↓argK_slot, ↓rcInt_int, ↓rcInt_bl, ↓rcLen_lst, ↓rcLen_tup, ↓rcLen_scr, ↓rcLen_str, ↓rcAbs_int, ↓rcMax2_ii, ↓rcMin2_ii, ↓rcListS_str, ↓rcListS_lst, ↓rcListS_tup, ↓rcTuple_lst, ↓rcTuple_tup, ↓rcAll_lst, ↓rcSum_lst, ↓rcStr_int, ↓rcStr_str, ↓rcRepr_int, ↓slK_lst, ↓slK_tup, ↓slK_str, ↓slSK_scr, ↓revK_lst, ↓inK_lst, ↓inK_tup, ↓inK_ss, ↓objK_e, ↓obK_obj, ↓obK_cel, ↓objW_obj, ↓wJs_nil, ↓wJs_cons, ↓fmtK_str, ↓fmtK_int, ↓fmtRK_str, ↓fmtRK_int, ↓joinK_lst, ↓joinK_tup, ↓noLent_nil, ↓noLent_cons, ↓wipeS_e, ↓wipeL_nil, ↓wipeL_cons, ↓pI_int, ↓pS_str, ↓pB_bl, ↓nfK_obj, ↓nfK_cel, ↓nfK_non, ↓nfK_bl, ↓nfK_int, ↓nfK_str, ↓nfK_tup, ↓nfK_lst, ↓nfK_dct, ↓slfK_e, ↓isNonT_non, ↓ofK_e, ↓derefK_lst, ↓derefK_tup, ↓derefK_str, ↓derefK_cel, ↓rcReprA_e, ↓wFmtRD_e, ↓aStar_e, ↓seqItK_lst, ↓seqItK_tup, ↓wFldC_e, ↓wMakeK_e, ↓wTryL_e, ↓wHds_nil, ↓wHds_cons, ↓revTK_tup, ↓wRevT_e, ↓rsRep_t, ↓rsRep_l, ↓wKp_e, ↓aConsF_e, ↓notSl_val, ↓notSl_fresh, ↓notSl_bor, ↓wParN_e, ↓asgN_nil, ↓asgN_cons, ↓rcMin1_lst, ↓wRaise_e, ↓wTry_e, ↓wExf_e, ↓wExI_e, ↓fldL1, ↓rcReprD_e, szLine, CPow, CMul, CDivN, l1, l2, sBag]
    refine ⟨by omega, ?_⟩
    have hbag : (c ++ [PV.bag])[c.length]? = some .bag := by simp
    generalize c ++ [PV.bag] = c1 at hbag ⊢
    generalize c.length = n at hbag ⊢
    unfold t_law_20
    simp [↓wVar_e, ↓wC_e, ↓wOp2_e, ↓wTest_e, ↓wAnd_e, ↓wOr_e, ↓wNot_e, ↓wAndV_e, ↓wOrV_e, ↓wNotV_e, ↓wIfE_e, ↓aNil_e, ↓aCons_e, ↓wLst_e, ↓wTup_e, ↓wCall_e, ↓wSet_e, ↓wSeq_e, ↓wSkip_e, ↓wIf_e, ↓wDrop_e, ↓wRet_e, ↓wRetN_e, ↓wBrk_e, ↓wCnt_e, ↓wNev_e, ↓gwName_e, ↓gwNil_e, ↓gwCons_e, ↓gwTup_e, ↓gwTupN_e, ↓wSrc_e, ↓wSrcZ_e, ↓wRng1_e, ↓wRng2_e, ↓wFor_e, ↓wLc_e, ↓wYes_e, ↓rsEq_e, ↓rsNe_e, ↓rsIn_e, ↓rsNotIn_e, ↓rsInt_e, ↓rsInt0_e, ↓rsAdd_e, ↓rsIsN_e, ↓rsNotN_e, ↓rsIx_e, ↓oNo_e, ↓oOf_e, ↓wSl_e, ↓wRev_e, ↓wNeg_e, ↓wCh_e, ↓wBlt_e, ↓rc1_e, ↓rc2_e, ↓wEn_e, ↓wChs_e, ↓wJoin_e, ↓wMut_e, ↓mfAppend_e, ↓mfPop_e, ↓mfReverse_e, ↓mfInsert_e, ↓mfExtend_e, ↓wSetIx_e, ↓wFmt_e, ↓wFmtR_e, ↓wFs_e, ↓wIsi_e, ↓wFld_e, ↓wSetF_e, ↓wSp1_e, ↓wEqO_e, ↓wInO_e, ↓wMeth_e, ↓wIxC_e, ↓rsIxS_e, ↓wSlS_e, ↓wLstC_e, ↓wTupC_e, ↓rsSub_e, ↓rsMulI_e, ↓rsFdiv_e, ↓rsMod_e, ↓rsPow_e, ↓rsLt_e, ↓rsLe_e, ↓rsGt_e, ↓rsGe_e, ↓rdK_val, ↓rdK_fresh, ↓rdK_bor, ↓rdK_slot, ↓kpK_val, ↓kpK_fresh, ↓kpK_slot, ↓retK_val, ↓retK_fresh, ↓retK_slot, ↓asgK_val, ↓asgK_bor, ↓asgK_fresh, ↓asgK_slot, ↓wrK_slot, ↓wrK_cel, ↓lstK_lst, ↓asInt_int, ↓intK_ii, ↓isBl_bl, ↓isBlT_bl, ↓strK_str, ↓itemsK_lst, ↓itemsK_tup, ↓stl_val, ↓stl_fresh, ↓stl_bor, ↓stl_slot, ↓srcK_val, ↓srcK_fresh, ↓srcK_bor, ↓srcK_slot, ↓rdAll_nil, ↓rdAll_cons, ↓kpAll_nil, ↓kpAll_cons, ↓argK_nil, ↓argK_val, ↓argK_bor, ↓argK_slot, ↓rcInt_int, ↓rcInt_bl, ↓rcLen_lst, ↓rcLen_tup, ↓rcLen_scr, ↓rcLen_str, ↓rcAbs_int, ↓rcMax2_ii, ↓rcMin2_ii, ↓rcListS_str, ↓rcListS_lst, ↓rcListS_tup, ↓rcTuple_lst, ↓rcTuple_tup, ↓rcAll_lst, ↓rcSum_lst, ↓rcStr_int, ↓rcStr_str, ↓rcRepr_int, ↓slK_lst, ↓slK_tup, ↓slK_str, ↓slSK_scr, ↓revK_lst, ↓inK_lst, ↓inK_tup, ↓inK_ss, ↓objK_e, ↓obK_obj, ↓obK_cel, ↓objW_obj, ↓wJs_nil, ↓wJs_cons, ↓fmtK_str, ↓fmtK_int, ↓fmtRK_str, ↓fmtRK_int, ↓joinK_lst, ↓joinK_tup, ↓noLent_nil, ↓noLent_cons, ↓wipeS_e, ↓wipeL_nil, ↓wipeL_cons, ↓pI_int, ↓pS_str, ↓pB_bl, ↓nfK_obj, ↓nfK_cel, ↓nfK_non, ↓nfK_bl, ↓nfK_int, ↓nfK_str, ↓nfK_tup, ↓nfK_lst, ↓nfK_dct, ↓slfK_e, ↓isNonT_non, ↓ofK_e, ↓derefK_lst, ↓derefK_tup, ↓derefK_str, ↓derefK_cel, ↓rcReprA_e, ↓wFmtRD_e, ↓aStar_e, ↓seqItK_lst, ↓seqItK_tup, ↓wFldC_e, ↓wMakeK_e, ↓wTryL_e, ↓wHds_nil, ↓wHds_cons, ↓revTK_tup, ↓wRevT_e, ↓rsRep_t, ↓rsRep_l, ↓wKp_e, ↓aConsF_e, ↓notSl_val, ↓notSl_fresh, ↓notSl_bor, ↓wParN_e, ↓asgN_nil, ↓asgN_cons, ↓rcMin1_lst, ↓wRaise_e, ↓wTry_e, ↓wExf_e, ↓wExI_e, ↓fldL1, ↓rcReprD_e, szLine, CPow, CMul, CDivN, l3, sOf, ofK, hbag]
    have go : ∀ zs, Col zs → t_law_19 K sBag sOf (sTab K) sWords sSpoilt sDue (sTold K) sTake (sForm K) (sIsF K) (sFeq K) ⟨[.val (.scr ns), .val (.int i), .val (.cel n), .val (.lst (zs.map PV.str)), s4, s5, s6, s7, s8, s9, s10, s11, s12, s13, s14, s15, s16], c1⟩ { nx := k, rt := E.rt, bk := fun S1 => t_law_22 K sBag sOf (sTab K) sWords sSpoilt sDue (sTold K) sTake (sForm K) (sIsF K) (sFeq K) S1 E, ct := k, ex := E.ex } := fun zs hz =>
      law_19 hbag hz l4 l5 l6 l7 l8 l9 l10 l11 l12 l13 l14 l15 l16 fun s5 s6 s7 s8 s9 s10 s11 s12 s13 s14 s15 s16 l5 l6 l7 l8 l9 l10 l11 l12 l13 l14 l15 l16 => hk _ ⟨_, _, _, _, s5, s6, s7, s8, s9, s10, s11, s12, s13, s14, s15, s16, c1, rfl, rfl, rfl, rfl, rfl, l5, l6, l7, l8, l9, l10, l11, l12, l13, l14, l15, l16⟩
    exact ⟨go _ col1, go _ col2, go _ col3⟩
  · rintro S ⟨s1, s2, s3, s4, s5, s6, s7, s8, s9, s10, s11, s12, s13, s14, s15, s16, c, rfl, l1, l2, l3, l4, l5, l6, l7, l8, l9, l10, l11, l12, l13, l14, l15, l16⟩
    unfold t_law_22
    simp [↓wVar_e, ↓wC_e, ↓wOp2_e, ↓wTest_e, ↓wAnd_e, ↓wOr_e, ↓wNot_e, ↓wAndV_e, ↓wOrV_e, ↓wNotV_e, ↓wIfE_e, ↓aNil_e, ↓aCons_e, ↓wLst_e, ↓wTup_e, ↓wCall_e, ↓wSet_e, ↓wSeq_e, ↓wSkip_e, ↓wIf_e, ↓wDrop_e, ↓wRet_e, ↓wRetN_e, ↓wBrk_e, ↓wCnt_e, ↓wNev_e, ↓gwName_e, ↓gwNil_e, ↓gwCons_e, ↓gwTup_e, ↓gwTupN_e, ↓wSrc_e, ↓wSrcZ_e, ↓wRng1_e, ↓wRng2_e, ↓wFor_e, ↓wLc_e, ↓wYes_e, ↓rsEq_e, ↓rsNe_e, ↓rsIn_e, ↓rsNotIn_e, ↓rsInt_e, ↓rsInt0_e, ↓rsAdd_e, ↓rsIsN_e, ↓rsNotN_e, ↓rsIx_e, ↓oNo_e, ↓oOf_e, ↓wSl_e, ↓wRev_e, ↓wNeg_e, ↓wCh_e, ↓wBlt_e, ↓rc1_e, ↓rc2_e, ↓wEn_e, ↓wChs_e, ↓wJoin_e, ↓wMut_e, ↓mfAppend_e, ↓mfPop_e, ↓mfReverse_e, ↓mfInsert_e, ↓mfExtend_e, ↓wSetIx_e, ↓wFmt_e, ↓wFmtR_e, ↓wFs_e, ↓wIsi_e, ↓wFld_e, ↓wSetF_e, ↓wSp1_e, ↓wEqO_e, ↓wInO_e, ↓wMeth_e, ↓wIxC_e, ↓rsIxS_e, ↓wSlS_e, ↓wLstC_e, ↓wTupC_e, ↓rsSub_e, ↓rsMulI_e, ↓rsFdiv_e, ↓rsMod_e, ↓rsPow_e, ↓rsLt_e, ↓rsLe_e, ↓rsGt_e, ↓rsGe_e, ↓rdK_val, ↓rdK_fresh, ↓rdK_bor, ↓rdK_slot, ↓kpK_val, ↓kpK_fresh, ↓kpK_slot, ↓retK_val, ↓retK_fresh, ↓retK_slot, ↓asgK_val, ↓asgK_bor, ↓asgK_fresh, ↓asgK_slot, ↓wrK_slot, ↓wrK_cel, ↓lstK_lst, ↓asInt_int, ↓intK_ii, ↓isBl_bl, ↓isBlT_bl, ↓strK_str, ↓itemsK_lst, ↓itemsK_tup, ↓stl_val, ↓stl_fresh, ↓stl_bor, ↓stl_slot, ↓srcK_val, ↓srcK_fresh, ↓srcK_bor, ↓srcK_slot, ↓rdAll_nil, ↓rdAll_cons, ↓kpAll_nil, ↓kpAll_cons, ↓argK_nil, ↓argK_val, ↓argK_bor, ↓argK_slot, ↓rcInt_int, ↓rcInt_bl, ↓rcLen_lst, ↓rcLen_tup, ↓rcLen_scr, ↓rcLen_str, ↓rcAbs_int, ↓rcMax2_ii, ↓rcMin2_ii, ↓rcListS_str, ↓rcListS_lst, ↓rcListS_tup, ↓rcTuple_lst, ↓rcTuple_tup, ↓rcAll_lst, ↓rcSum_lst, ↓rcStr_int, ↓rcStr_str, ↓rcRepr_int, ↓slK_lst, ↓slK_tup, ↓slK_str, ↓slSK_scr, ↓revK_lst, ↓inK_lst, ↓inK_tup, ↓inK_ss, ↓objK_e, ↓obK_obj, ↓obK_cel, ↓objW_obj, ↓wJs_nil, ↓wJs_cons, ↓fmtK_str, ↓fmtK_int, ↓fmtRK_str, ↓fmtRK_int, ↓joinK_lst, ↓joinK_tup, ↓noLent_nil, ↓noLent_cons, ↓wipeS_e, ↓wipeL_nil, ↓wipeL_cons, ↓pI_int, ↓pS_str, ↓pB_bl, ↓nfK_obj, ↓nfK_cel, ↓nfK_non, ↓nfK_bl, ↓nfK_int, ↓nfK_str, ↓nfK_tup, ↓nfK_lst, ↓nfK_dct, ↓slfK_e, ↓isNonT_non, ↓ofK_e, ↓derefK_lst, ↓derefK_tup, ↓derefK_str, ↓derefK_cel, ↓rcReprA_e, ↓wFmtRD_e, ↓aStar_e, ↓seqItK_lst, ↓seqItK_tup, ↓wFldC_e, ↓wMakeK_e, ↓wTryL_e, ↓wHds_nil, ↓wHds_cons, ↓revTK_tup, ↓wRevT_e, ↓rsRep_t, ↓rsRep_l, ↓wKp_e, ↓aConsF_e, ↓notSl_val, ↓notSl_fresh, ↓notSl_bor, ↓wParN_e, ↓asgN_nil, ↓asgN_cons, ↓rcMin1_lst, ↓wRaise_e, ↓wTry_e, ↓wExf_e, ↓wExI_e, ↓fldL1, ↓rcReprD_e, szLine, CPow, CMul, CDivN, hrt]
section
variable {P : Program} {w : World} {K : PySem.W.Frag} {mg : Str → Option Value} {fd : FuncData}
theorem law_fin (T : Tx w K mg) (F : FunD K "law" "law" (defArgs s_law) (defBody s_law) (defScope s_law) [] [] (He.ga K "law") fd) (hP : PH P) (base : Heap) : FnG P w K mg base (L2.CX P w) 6 (He.ga K "law") fd ["_law_script"] (spLaw K) :=
  law_end F sc_law (fun base => by
    have hTake := (m__law_take (P := P) (base := base) T).unbag.imp (take_ok K)
    have hBag := (m__law_bag (P := P) (base := base) T).bag.imp (bag_ok K)
    have hOf := (m__law_of T hTake).imp (of_ok K)
    have hKept := (m__law_kept (P := P) (base := base) T).imp (kept_ok K)
    have hWords := (m__law_words T hOf).imp (words_ok K)
    have hSpoilt := (m__law_spoilt T hTake hOf hKept).imp (spoilt_ok K)
    have hIs := (m_is_word (P := P) (base := base) T).imp (is_word_ok K)
    have hLis := (m__law_is_word T hKept).imp (lis_word_ok K)
    have hDue := (m__law_due T hLis).imp (due_ok K)
    have hX1 := mx_BadForm (P := P) (base := base) T hP
    have hX2 := mx_TooMany (P := P) (base := base) T hP
    have hTab := (m_Table___init__ T hIs).imp (tab_ok K)
    have hForm := (m_Form___init__ T hX1 hX2 hIs).imp (form_ok K)
    have hTold := (m__law_told T hForm).imp (told_ok K (exmB_ok (exm_BadForm_BadForm T)) (exmNB_ok (exn_TooMany_BadForm T)) (exmB_ok (exm_TooMany_TooMany T)))
    have hEq := (m_Table___eq__ (P := P) (base := base) T).imp (eq_ok K)
    have hIsF := (m__law_is_form T hTab hEq).imp (isf_ok K)
    have hFeq := (m_Form___eq__ T hEq).imp (feq_ok K (of_decide_eq_true (nea_Form_Table T)))
    exact body_law T hBag hOf hTab hWords hSpoilt hDue hTold hTake hForm hIsF hFeq) (fun ns hn => law_plain K ns hn) base
end
end Lk26

namespace Lk26
open PySem L2 BV
abbrev R : PySem.W.OpenRow := PySem.W.OpenLaw.row PySem.Challenge.rw_emptyfilters_k26_forms_made_and_refused
abbrev hk : PySem.W.Hook := hookY 5 fa fn fc exb
def ob (s : PySem.W.SharedT) : AlY := obsY 5 fa fn fc exb (HandSHeadRun.getT s)
theorem ob_eq (s : PySem.W.SharedT) : ob s = hk.obs s.abs := obsY_eq (HandSHeadRun.getT_eq s)
def loose : List Str := ["_wall", "EmptyfiltersError", "BadTable", "BadColumn", "TooManyRows", "BadForm", "TooMany", "LETTERS", "MOST_LETTERS", "KEPT", "is_word", "is_integer", "Form", "MOST_COLUMNS", "is_row", "Table", "_law_bag", "_law_take", "_law_of", "_law_kept", "_law_is_word", "_law_words", "_law_spoilt", "_law_due", "_law_told", "_law_is_form"]
theorem run (w : World) : HandSHeadRun.RunEq R (PySem.W.view R.prog [31]) hk ob 3000 loose w := by
  intro os
  kernel_rfl
end Lk26
open PySem PySem.W PySem.Calls PyProof.Rows
set_option maxHeartbeats 0 in
theorem PySem.Challenge.cw_emptyfilters_k26_forms_made_and_refused_holds : PySem.Challenge.rw_emptyfilters_k26_forms_made_and_refused.Holds := by
  w_on; o_law
  refine HandSHeadRun.head_any (r := OpenLaw.row PySem.Challenge.rw_emptyfilters_k26_forms_made_and_refused) (q := view (OpenLaw.row PySem.Challenge.rw_emptyfilters_k26_forms_made_and_refused).prog [31]) (H := Lk26.hk) (ob := Lk26.ob) (M := 3000) (loose := Lk26.loose) (d := HandSHeadRun.topDef (OpenLaw.row PySem.Challenge.rw_emptyfilters_k26_forms_made_and_refused).prog 31) (kwd := []) Lk26.ob_eq
    (by kernel_rfl) (fun s => by kernel_rfl) Lk26.run (by kernel_rfl) (by kernel_rfl) (by kernel_rfl) (by rfl) (by first | assumption | decide +kernel) (by decide +kernel) ⟨rfl, rfl, rfl, rfl, rfl, by decide +kernel⟩ ?hw ?hc
  case hw => w_witness2
  case hc =>
    refine BV.walk_by (l := PySem.Challenge.rw_emptyfilters_k26_forms_made_and_refused) (n := 63) (k := 6) (x := "_law_script") (CX := fun w => L2.CX (PySem.Challenge.rw_emptyfilters_k26_forms_made_and_refused).prog w) rfl (by decide) (by kernel_rfl) ⟨rfl, by decide, by decide⟩ ?F (fun w H s e s' z => BV.noEsc H s e s' z)
    intro w mg fa h Y G hmg0
    obtain ⟨K, KX, c⟩ := Y
    have hmg : mg ("law" : PySem.Str) = some (.ref fa) := by
      have e : (HandSHeadRun.topDef (OpenLaw.row PySem.Challenge.rw_emptyfilters_k26_forms_made_and_refused).prog 31).name = ("law" : PySem.Str) := by kernel_rfl
      rw [← e]
      exact hmg0
    have T : Lk26.Tx w K mg := ⟨h, KX, G, c⟩
    have ef := hmg.symm.trans (Lk26.glo_law T)
    cases ef
    obtain ⟨fd, F⟩ := Lk26.fun_law T
    have b := L2.FunD.bindsA (ps := ["_law_script"]) F fun _ _ _ _ _ _ us hl => match us, hl with | [_], _ => rfl
    exact ⟨K, fd, BV.spLaw K, KX, fun s v => b s [v] rfl, fun H a ns hl _ hS => ⟨a, ns, rfl, hS, hl, fun _ => rfl⟩, fun base _ _ => Lk26.law_fin T F ⟨by kernel_rfl, by kernel_rfl⟩ base⟩
