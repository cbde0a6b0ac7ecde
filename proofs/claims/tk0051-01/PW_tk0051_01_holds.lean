import PyProof.Rows.All
import Wide.All
import OpenK.AllK
import Wide.FinOn
import Lean
import PySem.Challenge.RW_tk0051_01
open PySem PySem.W PyProof.Rows
set_option Elab.async false
set_option compiler.extract_closed false
set_option maxRecDepth 100000
set_option linter.unusedVariables false
set_option linter.unusedSimpArgs false

namespace Mine
open PySem PySem.Calls
/-- the text without the rows that give its name -/
def vw : Program := PySem.W.view PySem.Challenge.pw_tk0051_01 [1, 2, 3, 4, 5, 6, 7, 8, 9, 10, 11, 12, 13, 14, 16, 17, 18, 19, 20, 21, 22, 23, 24, 25, 27, 28, 30, 31, 32, 33, 34, 35, 37, 38, 39, 40, 41, 42, 43, 45, 46, 47, 48, 49, 50, 51]
/-- the top of the text, run once -/
theorem vw_left : LeftO PySem.Challenge.rw_tk0051_01.row.prog vw [] (fun s => xlAt vw [] s && recOk (RowW.records PySem.Challenge.rw_tk0051_01.row.toRowW) s) (Hook.obs Hook.none) (Hook.val Hook.none) 4658 := fun w => by kernel_rfl
theorem vw_said : PySem.Challenge.rw_tk0051_01.wellSaid = true := by kernel_rfl
theorem vw_well : (chainsOk vw && opensWell PySem.Challenge.rw_tk0051_01.row.prog && (frees PySem.Challenge.rw_tk0051_01.row.toRowW && PySem.Challenge.rw_tk0051_01.row.within.isEmpty)) = true := by decide +kernel
end Mine
namespace Mine
set_option linter.unusedVariables false
-- rows of sums of whole numbers, weighed together: a short proof in place of omega's
abbrev NE := Nat.Internal.Linear.Expr
noncomputable def NL (c : Lean.RArray Nat) (L R : NE) (cs : List (Nat × NE × NE)) : Prop := List.rec (L.denote c ≤ R.denote c) (fun x _ h => x.2.1.denote c ≤ x.2.2.denote c → h) cs
noncomputable def nok (g : Nat) (L R : NE) (cs : List (Nat × NE × NE)) : NE → NE → Bool := List.rec (fun X Y => (Nat.Internal.Linear.ExprCnstr.mk false (.add (.mulL g L) (.add Y (.num 1))) (.add (.mulL g (.add R (.num 1))) X)).toNormPoly.isValid) (fun x _ h X Y => h (.add X (.mulL x.1 x.2.1)) (.add Y (.mulL x.1 x.2.2))) cs
theorem nl (c : Lean.RArray Nat) (cs : List (Nat × NE × NE)) (g : Nat) (L R : NE) (h : nok g L R cs (.num 0) (.num 0) = true) : NL c L R cs := by
  have H : ∀ X Y, nok g L R cs X Y = true → X.denote c ≤ Y.denote c → NL c L R cs := by
    clear h; induction cs with
    | nil => exact fun X Y h hXY => Nat.le_of_not_lt fun hn => Nat.lt_irrefl _ (Nat.lt_of_lt_of_le (of_eq_true (Nat.Internal.Linear.ExprCnstr.eq_true_of_isValid c _ h)) (Nat.add_le_add (Nat.mul_le_mul_left g hn) hXY))
    | cons x cs ih => exact fun X Y h hXY hh => ih _ _ h (Nat.add_le_add hXY (Nat.mul_le_mul_left x.1 hh))
  exact H _ _ h (Nat.le_refl _)
theorem nsa (a b : Nat) : a ≤ a - b + b := Nat.le_add_of_sub_le (Nat.le_refl _)
theorem nsb {a b : Nat} (h : b ≤ a) : a - b + b ≤ a := Nat.le_of_eq (Nat.sub_add_cancel h)
theorem nge {a b : Nat} (h : a = b) : b ≤ a := Nat.le_of_eq h.symm
theorem nsc {a b : Nat} (h : 0 < a - b) : a - b + b ≤ a := nsb (Nat.le_of_lt (Nat.lt_of_sub_pos h))
end Mine
namespace Mine
open PySem PySem.Calls

theorem hideG {G : Prop} (h : ∀ g : Prop, (G → g) → g) : G := h G id
theorem el_5_7 {α0 : Type} {α1 : Type} {α2 : Type} {α3 : Type} {α4 : Type} {P0 : α0 → α1 → α2 → α3 → α4 → Prop} {P1 : α0 → α1 → α2 → α3 → α4 → Prop} {P2 : α0 → α1 → α2 → α3 → α4 → Prop} {P3 : α0 → α1 → α2 → α3 → α4 → Prop} {P4 : α0 → α1 → α2 → α3 → α4 → Prop} {P5 : α0 → α1 → α2 → α3 → α4 → Prop} {P6 : α0 → α1 → α2 → α3 → α4 → Prop} {G : Prop} (h : ∃ x0 x1 x2 x3 x4, P0 x0 x1 x2 x3 x4 ∧ P1 x0 x1 x2 x3 x4 ∧ P2 x0 x1 x2 x3 x4 ∧ P3 x0 x1 x2 x3 x4 ∧ P4 x0 x1 x2 x3 x4 ∧ P5 x0 x1 x2 x3 x4 ∧ P6 x0 x1 x2 x3 x4) (k : ∀ x0 x1 x2 x3 x4, P0 x0 x1 x2 x3 x4 → P1 x0 x1 x2 x3 x4 → P2 x0 x1 x2 x3 x4 → P3 x0 x1 x2 x3 x4 → P4 x0 x1 x2 x3 x4 → P5 x0 x1 x2 x3 x4 → P6 x0 x1 x2 x3 x4 → G) : G := by
  obtain ⟨x0, x1, x2, x3, x4, h0, h1, h2, h3, h4, h5, h6⟩ := h
  exact k x0 x1 x2 x3 x4 h0 h1 h2 h3 h4 h5 h6
theorem el_7_11 {α0 : Type} {α1 : Type} {α2 : Type} {α3 : Type} {α4 : Type} {α5 : Type} {α6 : Type} {P0 : α0 → α1 → α2 → α3 → α4 → α5 → α6 → Prop} {P1 : α0 → α1 → α2 → α3 → α4 → α5 → α6 → Prop} {P2 : α0 → α1 → α2 → α3 → α4 → α5 → α6 → Prop} {P3 : α0 → α1 → α2 → α3 → α4 → α5 → α6 → Prop} {P4 : α0 → α1 → α2 → α3 → α4 → α5 → α6 → Prop} {P5 : α0 → α1 → α2 → α3 → α4 → α5 → α6 → Prop} {P6 : α0 → α1 → α2 → α3 → α4 → α5 → α6 → Prop} {P7 : α0 → α1 → α2 → α3 → α4 → α5 → α6 → Prop} {P8 : α0 → α1 → α2 → α3 → α4 → α5 → α6 → Prop} {P9 : α0 → α1 → α2 → α3 → α4 → α5 → α6 → Prop} {P10 : α0 → α1 → α2 → α3 → α4 → α5 → α6 → Prop} {G : Prop} (h : ∃ x0 x1 x2 x3 x4 x5 x6, P0 x0 x1 x2 x3 x4 x5 x6 ∧ P1 x0 x1 x2 x3 x4 x5 x6 ∧ P2 x0 x1 x2 x3 x4 x5 x6 ∧ P3 x0 x1 x2 x3 x4 x5 x6 ∧ P4 x0 x1 x2 x3 x4 x5 x6 ∧ P5 x0 x1 x2 x3 x4 x5 x6 ∧ P6 x0 x1 x2 x3 x4 x5 x6 ∧ P7 x0 x1 x2 x3 x4 x5 x6 ∧ P8 x0 x1 x2 x3 x4 x5 x6 ∧ P9 x0 x1 x2 x3 x4 x5 x6 ∧ P10 x0 x1 x2 x3 x4 x5 x6) (k : ∀ x0 x1 x2 x3 x4 x5 x6, P0 x0 x1 x2 x3 x4 x5 x6 → P1 x0 x1 x2 x3 x4 x5 x6 → P2 x0 x1 x2 x3 x4 x5 x6 → P3 x0 x1 x2 x3 x4 x5 x6 → P4 x0 x1 x2 x3 x4 x5 x6 → P5 x0 x1 x2 x3 x4 x5 x6 → P6 x0 x1 x2 x3 x4 x5 x6 → P7 x0 x1 x2 x3 x4 x5 x6 → P8 x0 x1 x2 x3 x4 x5 x6 → P9 x0 x1 x2 x3 x4 x5 x6 → P10 x0 x1 x2 x3 x4 x5 x6 → G) : G := by
  obtain ⟨x0, x1, x2, x3, x4, x5, x6, h0, h1, h2, h3, h4, h5, h6, h7, h8, h9, h10⟩ := h
  exact k x0 x1 x2 x3 x4 x5 x6 h0 h1 h2 h3 h4 h5 h6 h7 h8 h9 h10
theorem el_8_10 {α0 : Type} {α1 : Type} {α2 : Type} {α3 : Type} {α4 : Type} {α5 : Type} {α6 : Type} {α7 : Type} {P0 : α0 → α1 → α2 → α3 → α4 → α5 → α6 → α7 → Prop} {P1 : α0 → α1 → α2 → α3 → α4 → α5 → α6 → α7 → Prop} {P2 : α0 → α1 → α2 → α3 → α4 → α5 → α6 → α7 → Prop} {P3 : α0 → α1 → α2 → α3 → α4 → α5 → α6 → α7 → Prop} {P4 : α0 → α1 → α2 → α3 → α4 → α5 → α6 → α7 → Prop} {P5 : α0 → α1 → α2 → α3 → α4 → α5 → α6 → α7 → Prop} {P6 : α0 → α1 → α2 → α3 → α4 → α5 → α6 → α7 → Prop} {P7 : α0 → α1 → α2 → α3 → α4 → α5 → α6 → α7 → Prop} {P8 : α0 → α1 → α2 → α3 → α4 → α5 → α6 → α7 → Prop} {P9 : α0 → α1 → α2 → α3 → α4 → α5 → α6 → α7 → Prop} {G : Prop} (h : ∃ x0 x1 x2 x3 x4 x5 x6 x7, P0 x0 x1 x2 x3 x4 x5 x6 x7 ∧ P1 x0 x1 x2 x3 x4 x5 x6 x7 ∧ P2 x0 x1 x2 x3 x4 x5 x6 x7 ∧ P3 x0 x1 x2 x3 x4 x5 x6 x7 ∧ P4 x0 x1 x2 x3 x4 x5 x6 x7 ∧ P5 x0 x1 x2 x3 x4 x5 x6 x7 ∧ P6 x0 x1 x2 x3 x4 x5 x6 x7 ∧ P7 x0 x1 x2 x3 x4 x5 x6 x7 ∧ P8 x0 x1 x2 x3 x4 x5 x6 x7 ∧ P9 x0 x1 x2 x3 x4 x5 x6 x7) (k : ∀ x0 x1 x2 x3 x4 x5 x6 x7, P0 x0 x1 x2 x3 x4 x5 x6 x7 → P1 x0 x1 x2 x3 x4 x5 x6 x7 → P2 x0 x1 x2 x3 x4 x5 x6 x7 → P3 x0 x1 x2 x3 x4 x5 x6 x7 → P4 x0 x1 x2 x3 x4 x5 x6 x7 → P5 x0 x1 x2 x3 x4 x5 x6 x7 → P6 x0 x1 x2 x3 x4 x5 x6 x7 → P7 x0 x1 x2 x3 x4 x5 x6 x7 → P8 x0 x1 x2 x3 x4 x5 x6 x7 → P9 x0 x1 x2 x3 x4 x5 x6 x7 → G) : G := by
  obtain ⟨x0, x1, x2, x3, x4, x5, x6, x7, h0, h1, h2, h3, h4, h5, h6, h7, h8, h9⟩ := h
  exact k x0 x1 x2 x3 x4 x5 x6 x7 h0 h1 h2 h3 h4 h5 h6 h7 h8 h9
abbrev PH := Addr → Option Obj
def Le (z z' : PH) : Prop := ∀ b o, z b = some o → z' b = some o
theorem Le.refl (z : PH) : Le z z := fun _ _ e => e
theorem Le.trans {a b c : PH} (x : Le a b) (y : Le b c) : Le a c := fun p o e => y p o (x p o e)

abbrev listO (vs : List Value) (n : Nat) : Obj := { cls := .type "list", data := .seq vs.toArray n }
abbrev tupO (vs : List Value) (n : Nat) : Obj := { cls := .type "tuple", data := .seq vs.toArray n }

inductive V where
  | none
  | bool (b : Bool)
  | int (i : Int)
  | fn (n : Str)
  | list (xs : List V)
  | tup (xs : List V)

section
variable (mg : Str → Option Value)
mutual
inductive Holds (z : PH) : Value → V → Prop
  | none : Holds z .none .none
  | bool (b : Bool) : Holds z (.bool b) (.bool b)
  | int (i : Int) (t : Tok) : Holds z (.int i t) (.int i)
  | fn {n : Str} {v : Value} : mg n = some v → Holds z v (.fn n)
  | list {a : Addr} {vs : List Value} {n : Nat} {xs : List V} : z a = some (listO vs n) → HoldsL z vs xs → Holds z (.ref a) (.list xs)
  | tup {a : Addr} {vs : List Value} {n : Nat} {xs : List V} : z a = some (tupO vs n) → HoldsL z vs xs → Holds z (.ref a) (.tup xs)
inductive HoldsL (z : PH) : List Value → List V → Prop
  | nil : HoldsL z [] []
  | cons {v : Value} {vs : List Value} {x : V} {xs : List V} : Holds z v x → HoldsL z vs xs → HoldsL z (v :: vs) (x :: xs)
end
end

section
variable {mg : Str → Option Value} {z z' : PH}
mutual
theorem Holds.mono (hz : Le z z') : ∀ {v : Value} {x : V}, Holds mg z v x → Holds mg z' v x
  | _, _, .none => .none
  | _, _, .bool b => .bool b
  | _, _, .int i t => .int i t
  | _, _, .fn h => .fn h
  | _, _, .list h r => .list (hz _ _ h) (HoldsL.mono hz r)
  | _, _, .tup h r => .tup (hz _ _ h) (HoldsL.mono hz r)
theorem HoldsL.mono (hz : Le z z') : ∀ {v : List Value} {x : List V}, HoldsL mg z v x → HoldsL mg z' v x
  | _, _, .nil => .nil
  | _, _, .cons h r => .cons (Holds.mono hz h) (HoldsL.mono hz r)
end

theorem HoldsL.length : ∀ {vs : List Value} {xs : List V}, HoldsL mg z vs xs → vs.length = xs.length
  | _, _, .nil => rfl
  | _, _, .cons _ r => by simp [r.length]
theorem HoldsL.append : ∀ {vs ws : List Value} {xs ys : List V}, HoldsL mg z vs xs → HoldsL mg z ws ys → HoldsL mg z (vs ++ ws) (xs ++ ys)
  | _, _, _, _, .nil, k => k
  | _, _, _, _, .cons h r, k => .cons h (r.append k)
theorem HoldsL.get : ∀ {vs : List Value} {xs : List V} {i : Nat} {x : V}, HoldsL mg z vs xs → xs[i]? = some x → ∃ v, vs[i]? = some v ∧ Holds mg z v x
  | _, _, _, _, .nil, e => by simp at e
  | _, _, 0, _, .cons h _, e => by simp at e; subst e; exact ⟨_, rfl, h⟩
  | _, _, i + 1, _, .cons _ r, e => by simp at e; simpa using r.get e
theorem HoldsL.get' : ∀ {vs : List Value} {xs : List V} {i : Nat} {v : Value}, HoldsL mg z vs xs → vs[i]? = some v → ∃ x, xs[i]? = some x ∧ Holds mg z v x
  | _, _, _, _, .nil, e => by simp at e
  | _, _, 0, _, .cons h _, e => by simp at e; subst e; exact ⟨_, rfl, h⟩
  | _, _, i + 1, _, .cons _ r, e => by simp at e; simpa using r.get' e
theorem HoldsL.set : ∀ {vs : List Value} {xs : List V} {i : Nat} {x : V} {v : Value}, HoldsL mg z vs xs → Holds mg z v x → HoldsL mg z (vs.set i v) (xs.set i x)
  | _, _, _, _, _, .nil, _ => .nil
  | _, _, 0, _, _, .cons _ r, k => .cons k r
  | _, _, i + 1, _, _, .cons h r, k => .cons h (r.set k)
theorem HoldsL.take : ∀ {vs : List Value} {xs : List V} {i : Nat}, HoldsL mg z vs xs → HoldsL mg z (vs.take i) (xs.take i)
  | _, _, 0, _ => .nil
  | _, _, _ + 1, .nil => .nil
  | _, _, i + 1, .cons h r => .cons h r.take
theorem HoldsL.drop : ∀ {vs : List Value} {xs : List V} {i : Nat}, HoldsL mg z vs xs → HoldsL mg z (vs.drop i) (xs.drop i)
  | _, _, 0, h => h
  | _, _, _ + 1, .nil => .nil
  | _, _, i + 1, .cons _ r => r.drop
theorem HoldsL.reverse : ∀ {vs : List Value} {xs : List V}, HoldsL mg z vs xs → HoldsL mg z vs.reverse xs.reverse
  | _, _, .nil => .nil
  | _, _, .cons h r => by simp only [List.reverse_cons]; exact r.reverse.append (.cons h .nil)
theorem HoldsL.split : ∀ {vs : List Value} {xs ys : List V}, HoldsL mg z vs (xs ++ ys) → ∃ us ws, vs = us ++ ws ∧ HoldsL mg z us xs ∧ HoldsL mg z ws ys
  | vs, [], ys, h => ⟨[], vs, rfl, .nil, h⟩
  | _, x :: xs, ys, .cons h r => by
    refine hideG fun gHid hHid => ?_
    obtain ⟨us, ws, rfl, a, b⟩ := r.split
    refine hHid ?_; clear hHid gHid
    exact ⟨_ :: us, ws, rfl, .cons h a, b⟩
end

/-- what a name is bound to -/
inductive Bnd where
  | un
  | val (v : V)
  | own (a : Addr) (xs : List V)
  | mown (a : Addr) (xs : List V)
  | own2 (a : Addr) (rows : List (Addr × List V))
  | is (v : Value)

def Bnd.addrs : Bnd → List Addr
  | .own a _ => [a]
  | .mown a _ => [a]
  | .own2 a rows => a :: rows.map (·.1)
  | _ => []

abbrev Row := List (Str × Bnd)
def Row.addrs (ρ : Row) : List Addr := ρ.flatMap (·.2.addrs)

section
variable (mg : Str → Option Value)

def OwnAt (κ z : PH) (h : Heap) (a : Addr) (xs : List V) : Prop :=
  (∃ vs n, h.get? a = some (listO vs n) ∧ HoldsL mg z vs xs) ∧ κ a = none ∧ z a = none

def RelB (κ z : PH) (Φ : Addr → Prop) (h : Heap) (ov : Option Value) : Bnd → Prop
  | .un => True
  | .val x => ∃ v, ov = some v ∧ Holds mg z v x
  | .own a xs => ov = some (.ref a) ∧ OwnAt mg κ z h a xs ∧ ¬ Φ a
  | .mown a xs => ov = some (.ref a) ∧ OwnAt mg κ z h a xs
  | .own2 a rows => ov = some (.ref a) ∧ ((∃ n, h.get? a = some (listO (rows.map fun r => .ref r.1) n)) ∧ κ a = none ∧ z a = none) ∧ ¬ Φ a ∧ ∀ r ∈ rows, OwnAt mg κ z h r.1 r.2 ∧ ¬ Φ r.1
  | .is v => ov = some v

/-- where a name's value lies -/
def Bound (env : Env) (κ z : PH) (h : Heap) (m : Str → Option Value) (x : Str) (ov : Option Value) : Prop :=
  (env.kindOf x = some .local ∧ ov = m x) ∨
  ((env.kindOf x = some .cell ∨ env.kindOf x = some .free) ∧ ∃ c, env.cells.lookup x = some c ∧ h.IsCell c ov ∧ κ c = none ∧ z c = none)

structure St (g₀ : Heap) (env : Env) (κ : PH) (Φ : Addr → Prop) (ρ : Row) (z : PH) (h : Heap) : Prop where
  root : ∀ b o, g₀.get? b = some o → κ b = some o
  kept : Le κ h.get?
  zin : Le z h.get?
  zoff : ∀ b, Φ b → z b = none
  kL : κ env.locals = none
  zL : z env.locals = none
  frame : ∃ m, h.Ns env.locals m ∧ ∀ x B, (x, B) ∈ ρ → ∃ ov, Bound env κ z h m x ov ∧ RelB mg κ z Φ h ov B
  nodup : ρ.addrs.Nodup
  cinj : ∀ x y c, env.cells.lookup x = some c → env.cells.lookup y = some c → x = y
  keys : (ρ.map (·.1)).Nodup
  dbg : ∀ x ∈ ρ.map (·.1), (x == ("__debug__" : Str)) = false ∧ (x == ("__classdict__" : Str)) = false
  offIn : ∀ b, Φ b → ∃ o, h.get? b = some o
end

inductive Upd (x : Str) (B : Bnd) : Row → Row → Prop
  | here {C : Bnd} {r : Row} : Upd x B ((x, C) :: r) ((x, B) :: r)
  | there {p : Str × Bnd} {r r' : Row} : Upd x B r r' → Upd x B (p :: r) (p :: r')

theorem Upd.keys {x : Str} {B : Bnd} : ∀ {ρ ρ' : Row}, Upd x B ρ ρ' → ρ'.map (·.1) = ρ.map (·.1)
  | _, _, .here => rfl
  | _, _, .there u => by simp [u.keys]
theorem Upd.mem {x : Str} {B : Bnd} : ∀ {ρ ρ' : Row}, Upd x B ρ ρ' → (ρ.map (·.1)).Nodup → ∀ {y C}, (y, C) ∈ ρ' → (y = x ∧ C = B) ∨ (y ≠ x ∧ (y, C) ∈ ρ)
  | _, _, .here (r := r), hn, y, C, hm => by
    rcases List.mem_cons.mp hm with e | hm
    · cases e; exact .inl ⟨rfl, rfl⟩
    · refine .inr ⟨?_, List.mem_cons_of_mem _ (by assumption)⟩
      rintro rfl
      simp only [List.map_cons, List.nodup_cons] at hn
      exact hn.1 (List.mem_map.mpr ⟨(_, C), (by assumption), rfl⟩)
  | _, _, .there (p := p) u, hn, y, C, hm => by
    rcases List.mem_cons.mp hm with e | hm
    · subst e
      refine .inr ⟨?_, List.mem_cons_self⟩
      rintro rfl
      simp only [List.map_cons, List.nodup_cons] at hn
      refine hn.1 ?_
      clear hn hm
      induction u with
      | here => simp
      | there _ ih => exact List.mem_cons_of_mem _ ih
    · rcases u.mem (by simp only [List.map_cons, List.nodup_cons] at hn; exact hn.2) hm with h | ⟨a, b⟩
      · exact .inl h
      · exact .inr ⟨a, List.mem_cons_of_mem _ b⟩
theorem Upd.addrs {x : Str} {B : Bnd} : ∀ {ρ ρ' : Row}, Upd x B ρ ρ' → ∀ a ∈ ρ'.addrs, a ∈ B.addrs ∨ a ∈ ρ.addrs
  | _, _, .here, a, h => by
    simp only [Row.addrs, List.flatMap_cons, List.mem_append] at h ⊢
    rcases h with h | h
    · exact .inl h
    · exact .inr (.inr h)
  | _, _, .there u, a, h => by
    simp only [Row.addrs, List.flatMap_cons, List.mem_append] at h ⊢
    rcases h with h | h
    · exact .inr (.inl h)
    · rcases u.addrs a h with h | h
      · exact .inl h
      · exact .inr (.inr h)
theorem Upd.nodup {x : Str} {B : Bnd} : ∀ {ρ ρ' : Row}, Upd x B ρ ρ' → ρ.addrs.Nodup → B.addrs.Nodup → (∀ a ∈ B.addrs, a ∉ ρ.addrs) → ρ'.addrs.Nodup
  | _, _, .here, hn, hb, hd => by
    simp only [Row.addrs, List.flatMap_cons] at hn hd ⊢
    rw [List.nodup_append] at hn ⊢
    exact ⟨hb, hn.2.1, fun a ha b hb' e => hd a ha (List.mem_append.mpr (.inr (e ▸ hb')))⟩
  | _, _, .there u, hn, hb, hd => by
    simp only [Row.addrs, List.flatMap_cons] at hn hd ⊢
    rw [List.nodup_append] at hn ⊢
    refine ⟨hn.1, u.nodup hn.2.1 hb (fun a ha h => hd a ha (List.mem_append.mpr (.inr h))), fun a ha b hb' e => ?_⟩
    subst e
    rcases u.addrs a hb' with h | h
    · exact hd a h (List.mem_append.mpr (.inl ha))
    · exact hn.2.2 a ha a h rfl
/-- the name's binding is replaced by one with the same addresses -/
theorem Upd.addrs_same {x : Str} {B C : Bnd} (e : B.addrs = C.addrs) : ∀ {ρ ρ' : Row}, Upd x B ρ ρ' → (x, C) ∈ ρ → (ρ.map (·.1)).Nodup → ρ'.addrs = ρ.addrs
  | _, _, .here, hm, hn => by
    rcases List.mem_cons.mp hm with h | h
    · cases h; simp [Row.addrs, e]
    · simp only [List.map_cons, List.nodup_cons] at hn
      exact absurd (List.mem_map.mpr ⟨(x, C), h, rfl⟩) hn.1
  | _, _, .there (p := p) (r := r) u, hm, hn => by
    simp only [List.map_cons, List.nodup_cons] at hn
    have hm' : (x, C) ∈ r := by
      rcases List.mem_cons.mp hm with h | h
      · exfalso
        refine hn.1 ?_
        rw [← h]
        clear hm hn h
        induction u with
        | here => simp
        | there _ ih => exact List.mem_cons_of_mem _ ih
      · exact h
    have := u.addrs_same e hm' hn.2
    simp only [Row.addrs, List.flatMap_cons] at this ⊢
    rw [this]
theorem Row.addrs_mem {ρ : Row} {x : Str} {B : Bnd} (h : (x, B) ∈ ρ) {a : Addr} (ha : a ∈ B.addrs) : a ∈ ρ.addrs :=
  List.mem_flatMap.mpr ⟨_, h, ha⟩
/-- an address belongs to one name alone -/
theorem Row.addrs_one {ρ : Row} {x y : Str} {B C : Bnd} {a : Addr} (hn : ρ.addrs.Nodup) (h1 : (x, B) ∈ ρ) (h2 : (y, C) ∈ ρ) (ha : a ∈ B.addrs) (hb : a ∈ C.addrs) : (x, B) = (y, C) := by
  induction ρ with
  | nil => cases h1
  | cons p r ih =>
    simp only [Row.addrs, List.flatMap_cons] at hn
    rw [List.nodup_append] at hn
    rcases List.mem_cons.mp h1 with e1 | m1
    · rcases List.mem_cons.mp h2 with e2 | m2
      · rw [e1, e2]
      · subst e1
        exact absurd rfl (hn.2.2 a ha a (Row.addrs_mem m2 hb))
    · rcases List.mem_cons.mp h2 with e2 | m2
      · subst e2
        exact absurd rfl (hn.2.2 a hb a (Row.addrs_mem m1 ha))
      · exact ih hn.2.1 m1 m2
end Mine
namespace Mine
open PySem PySem.Calls

def Grow (h h' : Heap) : Prop := ∀ b o, h.get? b = some o → h'.get? b = some o
theorem Grow.refl (h : Heap) : Grow h h := fun _ _ e => e
theorem Grow.trans {a b c : Heap} (x : Grow a b) (y : Grow b c) : Grow a c := fun p o e => y p o (x p o e)
theorem Grow.push (h : Heap) (o : Obj) : Grow h (h.push o) := fun _ _ e => Heap.get?_push_of_some _ e

def PH.upd (z : PH) (a : Addr) (o : Obj) : PH := fun b => if b = a then some o else z b
theorem PH.upd_self (z : PH) (a : Addr) (o : Obj) : z.upd a o a = some o := by simp [PH.upd]
theorem PH.upd_ne (z : PH) {a b : Addr} (o : Obj) (h : b ≠ a) : z.upd a o b = z b := by simp [PH.upd, h]
theorem Le.upd {z : PH} {a : Addr} {o : Obj} (h : z a = none) : Le z (z.upd a o) := fun b o' e => by
  by_cases hb : b = a
  · subst hb; rw [h] at e; cases e
  · rw [PH.upd_ne _ _ hb]; exact e

section
variable {mg : Str → Option Value} {g₀ : Heap} {env : Env} {κ κ' z z' : PH} {Φ Φ' : Addr → Prop} {ρ ρ' : Row} {h h' : Heap}

theorem OwnAt.change {a : Addr} {xs : List V} (O : OwnAt mg κ z h a xs) (hh : ∀ o, h.get? a = some o → h'.get? a = some o) (hz : Le z z') (k1 : κ' a = none) (k2 : z' a = none) : OwnAt mg κ' z' h' a xs :=
  let ⟨⟨vs, n, e, r⟩, _, _⟩ := O; ⟨⟨vs, n, hh _ e, r.mono hz⟩, k1, k2⟩

theorem RelB.change {ov : Option Value} {B : Bnd} (R : RelB mg κ z Φ h ov B) (hh : ∀ a ∈ B.addrs, ∀ o, h.get? a = some o → h'.get? a = some o) (hz : Le z z')
    (k : ∀ a ∈ B.addrs, κ a = none → z a = none → κ' a = none ∧ z' a = none ∧ (¬ Φ a → ¬ Φ' a)) : RelB mg κ' z' Φ' h' ov B := by
  cases B with
  | is v => exact R
  | un => trivial
  | val x => obtain ⟨v, e, r⟩ := R; exact ⟨v, e, r.mono hz⟩
  | own a xs =>
    refine hideG fun gHid hHid => ?_
    obtain ⟨e, O, f⟩ := R
    refine hHid ?_; clear hHid gHid
    refine hideG fun gHid hHid => ?_
    obtain ⟨k1, k2, k3⟩ := k a (by simp [Bnd.addrs]) O.2.1 O.2.2
    refine hHid ?_; clear hHid gHid
    exact ⟨e, O.change (hh a (by simp [Bnd.addrs])) hz k1 k2, k3 f⟩
  | mown a xs =>
    refine hideG fun gHid hHid => ?_
    obtain ⟨e, O⟩ := R
    refine hHid ?_; clear hHid gHid
    refine hideG fun gHid hHid => ?_
    obtain ⟨k1, k2, k3⟩ := k a (by simp [Bnd.addrs]) O.2.1 O.2.2
    refine hHid ?_; clear hHid gHid
    exact ⟨e, O.change (hh a (by simp [Bnd.addrs])) hz k1 k2⟩
  | own2 a rows =>
    refine hideG fun gHid hHid => ?_
    obtain ⟨e, ⟨⟨n, g⟩, ka, za⟩, f, r⟩ := R
    refine hHid ?_; clear hHid gHid
    refine hideG fun gHid hHid => ?_
    obtain ⟨k1, k2, k3⟩ := k a (by simp [Bnd.addrs]) ka za
    refine hHid ?_; clear hHid gHid
    refine ⟨e, ⟨⟨n, hh a (by simp [Bnd.addrs]) _ g⟩, k1, k2⟩, k3 f, fun p hp => ?_⟩
    have hm : p.1 ∈ (Bnd.own2 a rows).addrs := by simp only [Bnd.addrs]; exact List.mem_cons_of_mem _ (List.mem_map.mpr ⟨p, hp, rfl⟩)
    refine hideG fun gHid hHid => ?_
    obtain ⟨O, f'⟩ := r p hp
    refine hHid ?_; clear hHid gHid
    refine hideG fun gHid hHid => ?_
    obtain ⟨k1, k2, k3⟩ := k p.1 hm O.2.1 O.2.2
    refine hHid ?_; clear hHid gHid
    exact ⟨O.change (hh _ hm) hz k1 k2, k3 f'⟩

/-- what a binding's addresses are: lists of the heap, in neither map -/
theorem RelB.at {ov : Option Value} {B : Bnd} (R : RelB mg κ z Φ h ov B) : ∀ a ∈ B.addrs, (∃ vs n, h.get? a = some (listO vs n)) ∧ κ a = none ∧ z a = none := by
  intro a ha
  cases B with
  | is v => simp [Bnd.addrs] at ha
  | un => simp [Bnd.addrs] at ha
  | val x => simp [Bnd.addrs] at ha
  | own b xs =>
    simp [Bnd.addrs] at ha; subst ha
    obtain ⟨_, ⟨⟨vs, n, e, _⟩, k⟩, _⟩ := R; exact ⟨⟨vs, n, e⟩, k⟩
  | mown b xs =>
    simp [Bnd.addrs] at ha; subst ha
    obtain ⟨_, ⟨vs, n, e, _⟩, k⟩ := R; exact ⟨⟨vs, n, e⟩, k⟩
  | own2 b rows =>
    refine hideG fun gHid hHid => ?_
    obtain ⟨_, ⟨⟨n, g⟩, k⟩, _, r⟩ := R
    refine hHid ?_; clear hHid gHid
    simp only [Bnd.addrs, List.mem_cons, List.mem_map] at ha
    rcases ha with rfl | ⟨p, hp, rfl⟩
    · exact ⟨⟨_, n, g⟩, k⟩
    · obtain ⟨⟨⟨vs, n, e, _⟩, k⟩, _⟩ := r p hp; exact ⟨⟨vs, n, e⟩, k⟩

theorem Bound.change {m m' : Str → Option Value} {x : Str} {ov : Option Value} (b : Bound env κ z h m x ov) (hm : m' x = m x)
    (hc : ∀ c, env.cells.lookup x = some c → h.IsCell c ov → κ c = none → z c = none → h'.IsCell c ov ∧ κ' c = none ∧ z' c = none) : Bound env κ' z' h' m' x ov := by
  rcases b with ⟨k, e⟩ | ⟨k, c, e, ic, k1, k2⟩
  · exact .inl ⟨k, e.trans hm.symm⟩
  · exact .inr ⟨k, c, e, hc c e ic k1 k2⟩

theorem St.addrs_at (S : St mg g₀ env κ Φ ρ z h) : ∀ a ∈ ρ.addrs, (∃ vs n, h.get? a = some (listO vs n)) ∧ κ a = none ∧ z a = none := by
  intro a ha
  refine hideG fun gHid hHid => ?_
  obtain ⟨⟨x, B⟩, hm, hb⟩ := List.mem_flatMap.mp ha
  refine hHid ?_; clear hHid gHid
  refine hideG fun gHid hHid => ?_
  obtain ⟨m, _, f⟩ := S.frame
  refine hHid ?_; clear hHid gHid
  refine hideG fun gHid hHid => ?_
  obtain ⟨ov, _, R⟩ := f x B hm
  refine hHid ?_; clear hHid gHid
  exact R.at a hb

structure Unused (env : Env) (κ : PH) (ρ : Row) (z : PH) (b : Addr) : Prop where
  nL : b ≠ env.locals
  nC : ∀ x c, x ∈ ρ.map (·.1) → env.cells.lookup x = some c → (env.kindOf x = some .cell ∨ env.kindOf x = some .free) → c ≠ b
  nA : b ∉ ρ.addrs
  nz : z b = none
  nk : κ b = none

theorem none_of_le {z z' : PH} {b : Addr} (l : Le z z') (e : z' b = none) : z b = none := by
  cases q : z b with
  | none => rfl
  | some o => rw [l _ _ q] at e; cases e

theorem fresh_size (h : Heap) : h.get? h.objs.size = none := by
  cases e : h.get? h.objs.size with
  | none => rfl
  | some o => exact absurd (Heap.lt_size e) (Nat.lt_irrefl _)
theorem fresh_ge {h : Heap} {b : Addr} (hb : h.objs.size ≤ b) : h.get? b = none := by
  cases e : h.get? b with
  | none => rfl
  | some o => exact absurd (Heap.lt_size e) (Nat.not_lt.mpr hb)
theorem Grow.size {h h' : Heap} (g : Grow h h') {b : Addr} (e : h'.get? b = none) : h.get? b = none := by
  cases q : h.get? b with
  | none => rfl
  | some o => rw [g _ _ q] at e; cases e

theorem St.unused (S : St mg g₀ env κ Φ ρ z h) {b : Addr} (hb : h.get? b = none) : Unused env κ ρ z b := by
  refine hideG fun gHid hHid => ?_
  obtain ⟨m, ⟨oL, es, ep, hL, hd, r⟩, f⟩ := S.frame
  refine hHid ?_; clear hHid gHid
  refine ⟨?_, ?_, ?_, none_of_le S.zin hb, none_of_le S.kept hb⟩
  · rintro rfl; rw [hL] at hb; cases hb
  · rintro x c hx hc hk rfl
    refine hideG fun gHid hHid => ?_
    obtain ⟨⟨y, B⟩, hm, rfl⟩ := List.mem_map.mp hx
    refine hHid ?_; clear hHid gHid
    refine hideG fun gHid hHid => ?_
    obtain ⟨ov, bd, _⟩ := f y B hm
    refine hHid ?_; clear hHid gHid
    rcases bd with ⟨k, _⟩ | ⟨_, c', e, ⟨o, ho, _⟩, _⟩
    · rcases hk with hk | hk <;> · simp only at hk k; rw [k] at hk; cases hk
    · simp only at hc e; rw [hc] at e; cases e; rw [ho] at hb; cases hb
  · intro ha
    refine hideG fun gHid hHid => ?_
    obtain ⟨⟨vs, n, e⟩, _⟩ := S.addrs_at b ha
    refine hHid ?_; clear hHid gHid
    rw [e] at hb; cases hb

theorem St.grow (S : St mg g₀ env κ Φ ρ z h) (g : Grow h h') : St mg g₀ env κ Φ ρ z h' where
  root := S.root
  kept := fun b o e => g _ _ (S.kept b o e)
  zin := fun b o e => g _ _ (S.zin b o e)
  zoff := S.zoff
  kL := S.kL
  zL := S.zL
  frame := by
    refine hideG fun gHid hHid => ?_
    obtain ⟨m, hn, f⟩ := S.frame
    refine hHid ?_; clear hHid gHid
    refine ⟨m, hn.keeps g, fun x B hm => ?_⟩
    refine hideG fun gHid hHid => ?_
    obtain ⟨ov, b, R⟩ := f x B hm
    refine hHid ?_; clear hHid gHid
    exact ⟨ov, b.change rfl (fun c _ ic k1 k2 => ⟨ic.keeps g, k1, k2⟩), R.change (fun a _ o e => g _ _ e) (Le.refl _) (fun a _ k1 k2 => ⟨k1, k2, id⟩)⟩
  nodup := S.nodup
  cinj := S.cinj
  keys := S.keys
  dbg := S.dbg
  offIn := fun b hb => let ⟨o, e⟩ := S.offIn b hb; ⟨o, g _ _ e⟩

/-- an unused object of the heap is frozen -/
theorem St.addZ (S : St mg g₀ env κ Φ ρ z h) {b : Addr} {o : Obj} (U : Unused env κ ρ z b) (hb : h.get? b = some o) (hf : ¬ Φ b) : St mg g₀ env κ Φ ρ (z.upd b o) h where
  root := S.root
  kept := S.kept
  zin := fun a o' e => by
    by_cases q : a = b
    · subst q; rw [PH.upd_self] at e; cases e; exact hb
    · rw [PH.upd_ne _ _ q] at e; exact S.zin _ _ e
  zoff := fun a ha => by rw [PH.upd_ne _ _ (fun q : a = b => hf (q ▸ ha))]; exact S.zoff a ha
  kL := S.kL
  zL := by rw [PH.upd_ne _ _ (Ne.symm U.nL)]; exact S.zL
  frame := by
    refine hideG fun gHid hHid => ?_
    obtain ⟨m, hn, f⟩ := S.frame
    refine hHid ?_; clear hHid gHid
    refine ⟨m, hn, fun x B hm => ?_⟩
    refine hideG fun gHid hHid => ?_
    obtain ⟨ov, bd, R⟩ := f x B hm
    refine hHid ?_; clear hHid gHid
    refine ⟨ov, ?_, R.change (fun a _ o e => e) (Le.upd U.nz) (fun a ha k1 k2 => ⟨k1, ?_, id⟩)⟩
    · rcases bd with k | ⟨k, c, e, ic, k1, k2⟩
      · exact .inl k
      · exact .inr ⟨k, c, e, ic, k1, by rw [PH.upd_ne _ _ (U.nC x c (List.mem_map.mpr ⟨_, hm, rfl⟩) e k)]; exact k2⟩
    · rw [PH.upd_ne _ _ (fun q : a = b => U.nA (q ▸ Row.addrs_mem hm ha))]; exact k2
  nodup := S.nodup
  cinj := S.cinj
  keys := S.keys
  dbg := S.dbg
  offIn := S.offIn

theorem Unused.updZ {b c : Addr} {o : Obj} (U : Unused env κ ρ z b) (h : b ≠ c) : Unused env κ ρ (z.upd c o) b := ⟨U.nL, U.nC, U.nA, by rw [PH.upd_ne _ _ h]; exact U.nz, U.nk⟩
theorem Unused.updK {b c : Addr} {o : Obj} (U : Unused env κ ρ z b) (h : b ≠ c) : Unused env (κ.upd c o) ρ z b := ⟨U.nL, U.nC, U.nA, U.nz, by rw [PH.upd_ne _ _ h]; exact U.nk⟩

theorem Unused.notG (U : Unused env κ ρ z b) (S : St mg g₀ env κ Φ ρ z h) : g₀.get? b = none := by
  cases e : g₀.get? b with
  | none => rfl
  | some o => have := S.root _ _ e; rw [U.nk] at this; cases this

/-- an unused object of the heap is pinned -/
theorem St.pin (S : St mg g₀ env κ Φ ρ z h) {b : Addr} {o : Obj} (U : Unused env κ ρ z b) (hb : h.get? b = some o) : St mg g₀ env (κ.upd b o) (fun a => a = b ∨ Φ a) ρ z h where
  root := fun a o' e => by
    have := U.notG S
    rw [PH.upd_ne _ _ (fun q : a = b => by rw [q, this] at e; cases e)]; exact S.root _ _ e
  kept := fun a o' e => by
    by_cases q : a = b
    · subst q; rw [PH.upd_self] at e; cases e; exact hb
    · rw [PH.upd_ne _ _ q] at e; exact S.kept _ _ e
  zin := S.zin
  zoff := fun a ha => by
    rcases ha with rfl | ha
    · exact U.nz
    · exact S.zoff a ha
  kL := by rw [PH.upd_ne _ _ (Ne.symm U.nL)]; exact S.kL
  zL := S.zL
  frame := by
    refine hideG fun gHid hHid => ?_
    obtain ⟨m, hn, f⟩ := S.frame
    refine hHid ?_; clear hHid gHid
    refine ⟨m, hn, fun x B hm => ?_⟩
    refine hideG fun gHid hHid => ?_
    obtain ⟨ov, bd, R⟩ := f x B hm
    refine hHid ?_; clear hHid gHid
    refine ⟨ov, ?_, R.change (fun a _ o e => e) (Le.refl _) (fun a ha k1 k2 => ?_)⟩
    · rcases bd with k | ⟨k, c, e, ic, k1, k2⟩
      · exact .inl k
      · exact .inr ⟨k, c, e, ic, by rw [PH.upd_ne _ _ (U.nC x c (List.mem_map.mpr ⟨_, hm, rfl⟩) e k)]; exact k1, k2⟩
    · have hne : a ≠ b := fun q => U.nA (q ▸ Row.addrs_mem hm ha)
      exact ⟨by rw [PH.upd_ne _ _ hne]; exact k1, k2, fun f q => q.elim hne f⟩
  nodup := S.nodup
  cinj := S.cinj
  keys := S.keys
  dbg := S.dbg
  offIn := fun a ha => by
    rcases ha with rfl | ha
    · exact ⟨_, hb⟩
    · exact S.offIn a ha

/-- fewer things are kept -/
theorem St.unpin (S : St mg g₀ env κ' Φ' ρ z h) (hk : Le κ κ') (hp : ∀ a, Φ a → Φ' a) (hr : ∀ b o, g₀.get? b = some o → κ b = some o) : St mg g₀ env κ Φ ρ z h where
  root := hr
  kept := fun a o e => S.kept a o (hk a o e)
  zin := S.zin
  zoff := fun a ha => S.zoff a (hp a ha)
  kL := none_of_le hk S.kL
  zL := S.zL
  frame := by
    refine hideG fun gHid hHid => ?_
    obtain ⟨m, hn, f⟩ := S.frame
    refine hHid ?_; clear hHid gHid
    refine ⟨m, hn, fun x B hm => ?_⟩
    refine hideG fun gHid hHid => ?_
    obtain ⟨ov, bd, R⟩ := f x B hm
    refine hHid ?_; clear hHid gHid
    refine ⟨ov, bd.change rfl (fun c _ ic k1 k2 => ⟨ic, none_of_le hk k1, k2⟩), R.change (fun a _ o e => e) (Le.refl _) (fun a ha k1 k2 => ⟨none_of_le hk k1, k2, fun f q => f (hp _ q)⟩)⟩
  nodup := S.nodup
  cinj := S.cinj
  keys := S.keys
  dbg := S.dbg
  offIn := fun a ha => S.offIn a (hp a ha)

theorem Heap.IsCell.sameBut {h h' : Heap} {b c : Addr} {v : Option Value} (x : h.IsCell c v) (s : Heap.SameBut b h h') (hn : c ≠ b) : h'.IsCell c v := let ⟨o, e, d⟩ := x; ⟨o, (s.2 c hn).trans e, d⟩

/-- a pinned object turns -/
theorem St.repin (S : St mg g₀ env κ Φ ρ z h) {b : Addr} {o' : Obj} (hb : κ b ≠ none) (hg : g₀.get? b = none) (hz : z b = none) (s : Heap.SameBut b h h') (ho : h'.get? b = some o') :
    St mg g₀ env (κ.upd b o') Φ ρ z h' where
  root := fun a o e => by rw [PH.upd_ne _ _ (fun q : a = b => by rw [q, hg] at e; cases e)]; exact S.root _ _ e
  kept := fun a o e => by
    by_cases q : a = b
    · subst q; rw [PH.upd_self] at e; cases e; exact ho
    · rw [PH.upd_ne _ _ q] at e; exact (s.2 a q).trans (S.kept _ _ e)
  zin := fun a o e => (s.2 a (fun q : a = b => by rw [q, hz] at e; cases e)).trans (S.zin _ _ e)
  zoff := S.zoff
  kL := by rw [PH.upd_ne _ _ (fun q : env.locals = b => hb (q ▸ S.kL))]; exact S.kL
  zL := S.zL
  frame := by
    refine hideG fun gHid hHid => ?_
    obtain ⟨m, hn, f⟩ := S.frame
    refine hHid ?_; clear hHid gHid
    refine ⟨m, hn.sameBut s (fun q : env.locals = b => hb (q ▸ S.kL)), fun x B hm => ?_⟩
    refine hideG fun gHid hHid => ?_
    obtain ⟨ov, bd, R⟩ := f x B hm
    refine hHid ?_; clear hHid gHid
    have ne : ∀ a, κ a = none → a ≠ b := fun a k q => hb (q ▸ k)
    exact ⟨ov, bd.change rfl (fun c _ ic k1 k2 => ⟨Heap.IsCell.sameBut ic s (ne c k1), by rw [PH.upd_ne _ _ (ne c k1)]; exact k1, k2⟩),
      R.change (fun a ha o e => (s.2 a (ne a (R.at a ha).2.1)).trans e) (Le.refl _) (fun a ha k1 k2 => ⟨by rw [PH.upd_ne _ _ (ne a k1)]; exact k1, k2, id⟩)⟩
  nodup := S.nodup
  cinj := S.cinj
  keys := S.keys
  dbg := S.dbg
  offIn := fun a ha => by
    by_cases q : a = b
    · exact ⟨o', q ▸ ho⟩
    · obtain ⟨o, e⟩ := S.offIn a ha; exact ⟨o, (s.2 a q).trans e⟩
end
end Mine
namespace Mine
open PySem PySem.Calls

section
variable {mg : Str → Option Value} {g₀ : Heap} {env : Env} {κ κ' z z' : PH} {Φ Φ' : Addr → Prop} {ρ ρ' : Row} {h h' : Heap}

theorem Upd.nodup_same {x : Str} {B C : Bnd} {ρ ρ' : Row} (u : Upd x B ρ ρ') (e : B.addrs = C.addrs) (hm : (x, C) ∈ ρ) (hk : (ρ.map (·.1)).Nodup) (hn : ρ.addrs.Nodup) : ρ'.addrs.Nodup := by rw [u.addrs_same e hm hk]; exact hn
theorem Upd.nodup_nil {x : Str} {B : Bnd} {ρ ρ' : Row} (u : Upd x B ρ ρ') (e : B.addrs = []) (hn : ρ.addrs.Nodup) : ρ'.addrs.Nodup := u.nodup hn (by rw [e]; exact .nil) (fun a ha => by rw [e] at ha; cases ha)

/-- a named list of one's own is frozen -/
theorem St.freeze (S : St mg g₀ env κ Φ ρ z h) {x : Str} {a : Addr} {xs : List V} (hm : (x, Bnd.own a xs) ∈ ρ) (u : Upd x (.val (.list xs)) ρ ρ') :
    ∃ z', Le z z' ∧ St mg g₀ env κ Φ ρ' z' h ∧ Holds mg z' (.ref a) (.list xs) := by
  refine hideG fun gHid hHid => ?_
  obtain ⟨m, hn, f⟩ := S.frame
  refine hHid ?_; clear hHid gHid
  refine hideG fun gHid hHid => ?_
  obtain ⟨ov, bd, e, ⟨⟨vs, n, ea, r⟩, ka, za⟩, fa⟩ := f _ _ hm
  refine hHid ?_; clear hHid gHid
  have hl : Le z (z.upd a (listO vs n)) := Le.upd za
  have aL : a ≠ env.locals := by rintro rfl; obtain ⟨o, _, _, ho, hd, _⟩ := hn; rw [ea] at ho; cases ho; cases hd
  have aC : ∀ c v, h.IsCell c v → c ≠ a := by rintro c v ⟨o, ho, hd⟩ rfl; rw [ea] at ho; cases ho; cases hd
  have hh : Holds mg (z.upd a (listO vs n)) (.ref a) (.list xs) := .list (PH.upd_self ..) (r.mono hl)
  refine ⟨_, hl, ⟨S.root, S.kept, fun b o' q => ?_, fun b hb => ?_, S.kL, ?_, ⟨m, hn, fun y B hy => ?_⟩, u.nodup_nil rfl S.nodup, S.cinj, u.keys ▸ S.keys, u.keys ▸ S.dbg, S.offIn⟩, hh⟩
  · by_cases q' : b = a
    · subst q'; rw [PH.upd_self] at q; cases q; exact ea
    · rw [PH.upd_ne _ _ q'] at q; exact S.zin _ _ q
  · rw [PH.upd_ne _ _ (fun q : b = a => fa (q ▸ hb))]; exact S.zoff b hb
  · rw [PH.upd_ne _ _ (Ne.symm aL)]; exact S.zL
  · have bc : ∀ {x ov}, Bound env κ z h m x ov → Bound env κ (z.upd a (listO vs n)) h m x ov := fun b =>
      b.change rfl fun c _ ic k1 k2 => ⟨ic, k1, by rw [PH.upd_ne _ _ (aC c _ ic)]; exact k2⟩
    rcases u.mem S.keys hy with ⟨rfl, rfl⟩ | ⟨hne, hy⟩
    · exact ⟨ov, bc bd, .ref a, e, hh⟩
    · refine hideG fun gHid hHid => ?_
      obtain ⟨ov', bd', R⟩ := f y B hy
      refine hHid ?_; clear hHid gHid
      refine ⟨ov', bc bd', R.change (fun a _ o e => e) hl fun b hb k1 k2 => ⟨k1, ?_, id⟩⟩
      rw [PH.upd_ne _ _ (fun q : b = a => hne ?_)]; exact k2
      have := Row.addrs_one S.nodup hy hm hb (by simp [Bnd.addrs, q])
      exact congrArg Prod.fst this

/-- the state behind a store into a name -/
theorem St.stored (S : St mg g₀ env κ Φ ρ z h) {x : Str} {B : Bnd} {v : Value} (u : Upd x B ρ ρ') (R : RelB mg κ z Φ h (some v) B) (hb : ρ'.addrs.Nodup) {m : Str → Option Value}
    (hf : ∀ y C, (y, C) ∈ ρ → ∃ ov, Bound env κ z h m y ov ∧ RelB mg κ z Φ h ov C) (hn : h.Ns env.locals m)
    (st : (env.kindOf x = some .local ∧ h'.Ns env.locals (fun y => if y = x then some v else m y) ∧ Heap.SameBut env.locals h h') ∨
      (∃ c, (env.kindOf x = some .cell ∨ env.kindOf x = some .free) ∧ env.cells.lookup x = some c ∧ κ c = none ∧ z c = none ∧ (∃ v₀, h.IsCell c v₀) ∧ h'.IsCell c (some v) ∧ Heap.SameBut c h h')) : St mg g₀ env κ Φ ρ' z h' := by
  obtain ⟨d, hd⟩ : ∃ d, Heap.SameBut d h h' ∧ κ d = none ∧ z d = none ∧ (∀ vs n, h.get? d ≠ some (listO vs n)) ∧ (h'.get? d).isSome = true := by
    rcases st with ⟨_, n', s⟩ | ⟨c, _, _, k1, k2, ⟨v₀, oc, ec, dc⟩, ⟨o', ho', _⟩, s⟩
    · refine ⟨_, s, S.kL, S.zL, fun vs n e => ?_, ?_⟩
      · obtain ⟨o, _, _, ho, hd, _⟩ := hn; rw [e] at ho; cases ho; cases hd
      · obtain ⟨o, _, _, ho, _⟩ := n'; rw [ho]; rfl
    · refine ⟨c, s, k1, k2, fun vs n e => ?_, by rw [ho']; rfl⟩
      rw [ec] at e; cases e; cases dc
  refine hideG fun gHid hHid => ?_
  obtain ⟨s, kd, zd, nd, id'⟩ := hd
  refine hHid ?_; clear hHid gHid
  have hz : Le z h'.get? := fun b o e => (s.2 b (fun q : b = d => by rw [q, zd] at e; cases e)).trans (S.zin _ _ e)
  have rc : ∀ {ov C}, RelB mg κ z Φ h ov C → RelB mg κ z Φ h' ov C := fun R => R.change (fun a ha o e => (s.2 a (fun q : a = d => by obtain ⟨⟨vs, n, e'⟩, _⟩ := R.at a ha; exact nd vs n (q ▸ e'))).trans e) (Le.refl _) fun a _ k1 k2 => ⟨k1, k2, id⟩
  refine ⟨S.root, fun b o e => (s.2 b (fun q : b = d => by rw [q, kd] at e; cases e)).trans (S.kept _ _ e), hz, S.zoff, S.kL, S.zL, ?_, hb, S.cinj, u.keys ▸ S.keys, u.keys ▸ S.dbg, fun b hb => ?_⟩
  · rcases st with ⟨kx, n', s⟩ | ⟨c, kx, lc, k1, k2, ⟨v₀, oc, ec, dc⟩, ic, s⟩
    · refine ⟨_, n', fun y C hy => ?_⟩
      have bcell : ∀ c ov, h.IsCell c ov → h'.IsCell c ov := by
        intro c ov hI1
        refine hideG fun gHid hHid => ?_
        obtain ⟨o, ho, hd⟩ := hI1
        refine hHid ?_; clear hHid gHid
        refine ⟨o, (s.2 c ?_).trans ho, hd⟩
        rintro rfl
        refine hideG fun gHid hHid => ?_
        obtain ⟨oL, _, _, hL, hdL, _⟩ := hn
        refine hHid ?_; clear hHid gHid
        rw [ho] at hL; cases hL; rw [hd] at hdL; cases hdL
      rcases u.mem S.keys hy with ⟨rfl, rfl⟩ | ⟨hne, hy⟩
      · exact ⟨some v, .inl ⟨kx, by simp⟩, rc R⟩
      · refine hideG fun gHid hHid => ?_
        obtain ⟨ov, bd, R'⟩ := hf y C hy
        refine hHid ?_; clear hHid gHid
        exact ⟨ov, bd.change (by simp [hne]) (fun c _ ic k1 k2 => ⟨bcell c _ ic, k1, k2⟩), rc R'⟩
    · have cL : env.locals ≠ c := by rintro rfl; obtain ⟨oL, _, _, hL, hdL, _⟩ := hn; rw [ec] at hL; cases hL; rw [dc] at hdL; cases hdL
      refine ⟨m, hn.sameBut s cL, fun y C hy => ?_⟩
      rcases u.mem S.keys hy with ⟨rfl, rfl⟩ | ⟨hne, hy⟩
      · exact ⟨some v, .inr ⟨kx, c, lc, ic, k1, k2⟩, rc R⟩
      · refine hideG fun gHid hHid => ?_
        obtain ⟨ov, bd, R'⟩ := hf y C hy
        refine hHid ?_; clear hHid gHid
        refine ⟨ov, bd.change rfl (fun c' e' ic' k1 k2 => ⟨Heap.IsCell.sameBut ic' s ?_, k1, k2⟩), rc R'⟩
        rintro rfl; exact hne (S.cinj _ _ _ e' lc)
  · refine hideG fun gHid hHid => ?_
    obtain ⟨o, e⟩ := S.offIn b hb
    refine hHid ?_; clear hHid gHid
    by_cases q : b = d
    · subst q; exact Option.isSome_iff_exists.mp id'
    · exact ⟨o, (s.2 b q).trans e⟩

/-- a name of one's own list: the list turns -/
theorem St.mut (S : St mg g₀ env κ Φ ρ z h) {x : Str} {B C : Bnd} {a : Addr} (u : Upd x B ρ ρ') (hm : (x, C) ∈ ρ) (hC : a ∈ C.addrs) (hB : B.addrs = C.addrs) (s : Heap.ExtBut a h h') (hs : (h'.get? a).isSome = true)
    (R : ∀ ov, RelB mg κ z Φ h ov C → RelB mg κ z Φ h' ov B) : St mg g₀ env κ Φ ρ' z h' := by
  refine hideG fun gHid hHid => ?_
  obtain ⟨⟨vs, n, ea⟩, ka, za⟩ := S.addrs_at a (Row.addrs_mem hm hC)
  refine hHid ?_; clear hHid gHid
  refine hideG fun gHid hHid => ?_
  obtain ⟨m, hn, f⟩ := S.frame
  refine hHid ?_; clear hHid gHid
  have aL : env.locals ≠ a := by rintro rfl; obtain ⟨o, _, _, ho, hd, _⟩ := hn; rw [ea] at ho; cases ho; cases hd
  have aC : ∀ c v, h.IsCell c v → c ≠ a := by rintro c v ⟨o, ho, hd⟩ rfl; rw [ea] at ho; cases ho; cases hd
  refine ⟨S.root, fun b o e => s b o (fun q : b = a => by rw [q, ka] at e; cases e) (S.kept _ _ e), fun b o e => s b o (fun q : b = a => by rw [q, za] at e; cases e) (S.zin _ _ e), S.zoff, S.kL, S.zL,
    ⟨m, hn.extBut s aL, fun y D hy => ?_⟩, u.nodup_same hB hm S.keys S.nodup, S.cinj, u.keys ▸ S.keys, u.keys ▸ S.dbg, fun b hb => ?_⟩
  · have bc : ∀ {x ov}, Bound env κ z h m x ov → Bound env κ z h' m x ov := fun b => b.change rfl fun c _ ic k1 k2 => ⟨let ⟨o, e, d⟩ := ic; ⟨o, s c o (aC c _ ic) e, d⟩, k1, k2⟩
    rcases u.mem S.keys hy with ⟨rfl, rfl⟩ | ⟨hne, hy⟩
    · refine hideG fun gHid hHid => ?_
      obtain ⟨ov, bd, R'⟩ := f _ _ hm
      refine hHid ?_; clear hHid gHid
      exact ⟨ov, bc bd, R _ R'⟩
    · refine hideG fun gHid hHid => ?_
      obtain ⟨ov, bd, R'⟩ := f _ _ hy
      refine hHid ?_; clear hHid gHid
      refine ⟨ov, bc bd, R'.change (fun b hb o e => s b o (fun q : b = a => hne ?_) e) (Le.refl _) fun b _ k1 k2 => ⟨k1, k2, id⟩⟩
      have := Row.addrs_one S.nodup hy hm hb (by rw [q]; exact hC)
      exact congrArg Prod.fst this
  · refine hideG fun gHid hHid => ?_
    obtain ⟨o, e⟩ := S.offIn b hb
    refine hHid ?_; clear hHid gHid
    by_cases q : b = a
    · subst q; exact Option.isSome_iff_exists.mp hs
    · exact ⟨o, s b o q e⟩

/-- more is frozen: what a call made -/
theorem St.after (S : St mg g₀ env κ Φ ρ z h) (g : Grow h h') (hz : Le z z') (hi : Le z' h'.get?) (hn : ∀ b o, z' b = some o → z b = some o ∨ h.get? b = none) : St mg g₀ env κ Φ ρ z' h' := by
  have old : ∀ b o, h.get? b = some o → z b = none → z' b = none := fun b o e q => by
    cases q' : z' b with
    | none => rfl
    | some o' => rcases hn _ _ q' with k | k
                 · rw [q] at k; cases k
                 · rw [e] at k; cases k
  refine hideG fun gHid hHid => ?_
  obtain ⟨m, ns, f⟩ := S.frame
  refine hHid ?_; clear hHid gHid
  refine ⟨S.root, fun b o e => g _ _ (S.kept b o e), hi, fun b hb => ?_, S.kL, ?_, ⟨m, ns.keeps g, fun x B hm => ?_⟩, S.nodup, S.cinj, S.keys, S.dbg, fun b hb => ?_⟩
  · obtain ⟨o, e⟩ := S.offIn b hb; exact old b o e (S.zoff b hb)
  · obtain ⟨o, _, _, ho, _⟩ := ns; exact old _ o ho S.zL
  · refine hideG fun gHid hHid => ?_
    obtain ⟨ov, bd, R⟩ := f x B hm
    refine hHid ?_; clear hHid gHid
    refine ⟨ov, bd.change rfl (fun c _ ic k1 k2 => ⟨ic.keeps g, k1, ?_⟩), R.change (fun a _ o e => g _ _ e) hz fun a ha k1 k2 => ⟨k1, ?_, id⟩⟩
    · obtain ⟨o, e, _⟩ := ic; exact old c o e k2
    · obtain ⟨⟨vs, n, e⟩, _⟩ := R.at a ha; exact old a _ e k2
  · obtain ⟨o, e⟩ := S.offIn b hb; exact ⟨o, g _ _ e⟩
end
end Mine
namespace Mine
open PySem PySem.Calls

inductive Out where
  | next | brk | cont
  | ret (v : V)

section
variable (mg mb : Str → Option Value) (g₀ : Heap) (recs : List DefRec)

/-- what is known of the globals -/
structure Gl : Prop where
  g : g₀.Ns mainGlobals mg
  b : g₀.Ns builtinsNs mb
  nolimit : g₀.NoLimit
  fn : ∀ d ∈ recs, ∃ a o pm code doc, mg d.name = some (.ref a) ∧ g₀.get? a = some o ∧ o.data = .func (docDef d.name d.params d.body d.scope pm code doc) ∧ g₀.CodeRec code d.name
  len : mg "len" = none ∧ mb "len" = some (.builtin "len")
  range : mg "range" = none ∧ mb "range" = some (.type "range")
  abs : mg "abs" = none ∧ mb "abs" = some (.builtin "abs")
  int : mg "int" = none ∧ mb "int" = some (.type "int")
  min : mg "min" = none ∧ mb "min" = some (.builtin "min")
  any : mg "any" = none ∧ mb "any" = some (.builtin "any")
  enum : mg "enumerate" = none ∧ mb "enumerate" = some (.type "enumerate")
  zip : mg "zip" = none ∧ mb "zip" = some (.type "zip")

structure OkC (k : Nat) (A : Around) : Prop where
  handled : A.handled = none
  depth : A.depth + k < recursionLimit
  units : A.units + 10 * k + 200 < cLine

structure OkA (env : Env) (k : Nat) (A : Around) : Prop extends OkC k A where
  kind : env.scope.kind = .function
  globs : env.globals = mainGlobals
  bns : env.builtins = builtinsNs

variable (prog : Program) (w : World)

structure EvV (env : Env) (k : Nat) (e : Expr) (ρ : Row) (Q : V → Row → Prop) : Prop where
  run : ∀ A κ Φ z s (Q' : Value → Shared → Prop) E, OkA env k A → St mg g₀ env κ Φ ρ z s.heap →
    (∀ v x ρ' z' h' tk, Q x ρ' → Le z z' → St mg g₀ env κ Φ ρ' z' h' → Holds mg z' v x → Q' v { s with heap := h', toks := tk }) →
    wpAny (model prog w) A (eval e env) Q' E s

structure EvE (env : Env) (k : Nat) (e : Expr) (ρ : Row) (Q : Bnd → Row → Prop) : Prop where
  run : ∀ A κ Φ z s (Q' : Value → Shared → Prop) E, OkA env k A → St mg g₀ env κ Φ ρ z s.heap →
    (∀ v B ρ' z' h' tk, Q B ρ' → Le z z' → St mg g₀ env κ Φ ρ' z' h' → RelB mg κ z' Φ h' (some v) B → (∀ a ∈ B.addrs, a ∉ ρ'.addrs) → B.addrs.Nodup → Q' v { s with heap := h', toks := tk }) →
    wpAny (model prog w) A (eval e env) Q' E s

structure EvVs (env : Env) (k : Nat) (es : List Expr) (ρ : Row) (Q : List V → Row → Prop) : Prop where
  run : ∀ A κ Φ z s (Q' : List Value → Shared → Prop) E pos, OkA env k A → St mg g₀ env κ Φ ρ z s.heap →
    (∀ vs xs ρ' z' h' tk, Q xs ρ' → Le z z' → St mg g₀ env κ Φ ρ' z' h' → HoldsL mg z' vs xs → Q' vs { s with heap := h', toks := tk }) →
    wpAny (model prog w) A (spliced (backTo pos (starEach es env))) Q' E s

structure EvT (env : Env) (k : Nat) (e : Expr) (ρ : Row) (Q : Bool → Row → Prop) : Prop where
  run : ∀ A κ Φ z s (Q' : Bool → Shared → Prop) E, OkA env k A → St mg g₀ env κ Φ ρ z s.heap →
    (∀ c ρ' z' h' tk, Q c ρ' → Le z z' → St mg g₀ env κ Φ ρ' z' h' → Q' c { s with heap := h', toks := tk }) →
    wpAny (model prog w) A (isTrue e env (eval e env)) Q' E s

def FlowR (z : PH) : Flow → Out → Prop
  | .next, .next => True
  | .brk, .brk => True
  | .cont, .cont => True
  | .ret v, .ret x => Holds mg z v x
  | _, _ => False

structure ExS (env : Env) (k : Nat) (ss : List Stmt) (ρ : Row) (Q : Out → Row → Prop) : Prop where
  run : ∀ A κ Φ z s (Q' : Flow → Shared → Prop) E, OkA env k A → St mg g₀ env κ Φ ρ z s.heap →
    (∀ fl o ρ' z' h' tk, Q o ρ' → Le z z' → St mg g₀ env κ Φ ρ' z' h' → FlowR mg z' fl o → Q' fl { s with heap := h', toks := tk }) →
    wpAny (model prog w) A (execs ss env) Q' E s

structure Ex1 (env : Env) (k : Nat) (st : Stmt) (ρ : Row) (Q : Out → Row → Prop) : Prop where
  run : ∀ A κ Φ z s (Q' : Flow → Shared → Prop) E, OkA env k A → St mg g₀ env κ Φ ρ z s.heap →
    (∀ fl o ρ' z' h' tk, Q o ρ' → Le z z' → St mg g₀ env κ Φ ρ' z' h' → FlowR mg z' fl o → Q' fl { s with heap := h', toks := tk }) →
    wpAny (model prog w) A (exec st env) Q' E s

/-- a value is given to a target -/
structure AsT (env : Env) (k : Nat) (t : Expr) (B : Bnd) (ρ : Row) (Q : Row → Prop) : Prop where
  run : ∀ A κ Φ z s (Q' : Unit → Shared → Prop) E v, OkA env k A → St mg g₀ env κ Φ ρ z s.heap → RelB mg κ z Φ s.heap (some v) B → (∀ a ∈ B.addrs, a ∉ ρ.addrs) → B.addrs.Nodup →
    (∀ ρ' z' h' tk, Q ρ' → Le z z' → St mg g₀ env κ Φ ρ' z' h' → Q' () { s with heap := h', toks := tk }) →
    wpAny (model prog w) A (assign t env v) Q' E s

/-- what a call of a def gives back: it changes nothing that stood -/
def Returns (f : Str) (k : Nat) (args : List V) (r : V) : Prop :=
  ∀ A z s vals a (Q : Value → Shared → Prop) E, OkC k A → (∀ b o, g₀.get? b = some o → s.heap.get? b = some o) → Le z s.heap.get? → HoldsL mg z vals args → mg f = some (.ref a) →
    (∀ v z' h' tk, Le z z' → Le z' h'.get? → (∀ b o, z' b = some o → z b = some o ∨ s.heap.get? b = none) → Grow s.heap h' → Holds mg z' v r → Q v { s with heap := h', toks := tk }) →
    wpAny (model prog w) A (call (.ref a) vals) Q E s

/-- a call whose first argument is a list that it turns -/
def Turns (f : Str) (k : Nat) (xs : List V) (args : List V) (P : List V → V → Prop) : Prop :=
  ∀ A z s vals a l vs n (Q : Value → Shared → Prop) E, OkC k A → (∀ b o, g₀.get? b = some o → s.heap.get? b = some o) → Le z s.heap.get? →
    s.heap.get? l = some (listO vs n) → HoldsL mg z vs xs → z l = none → g₀.get? l = none → HoldsL mg z vals args → mg f = some (.ref a) →
    (∀ v z' h' tk vs' n' ys r, P ys r → Le z z' → Le z' h'.get? → (∀ b o, z' b = some o → z b = some o ∨ s.heap.get? b = none) → Heap.ExtBut l s.heap h' → h'.get? l = some (listO vs' n') → HoldsL mg z' vs' ys → z' l = none →
      Holds mg z' v r → Q v { s with heap := h', toks := tk }) →
    wpAny (model prog w) A (call (.ref a) (.ref l :: vals)) Q E s
end

section
variable {mg mb : Str → Option Value} {g₀ : Heap} {recs : List DefRec} {prog : Program} {w : World} {env : Env} {k : Nat} {ρ ρ' : Row}

theorem OkA.le {k k' : Nat} {A : Around} (h : OkA env k A) (l : k' ≤ k) : OkA env k' A := ⟨⟨h.handled, by have := h.depth; (exact (nl (.branch 2 (.branch 1 (.leaf (A.depth)) (.leaf k')) (.branch 3 (.leaf recursionLimit) (.leaf k))) [(1, (.var 1), (.var 3)), (1, (.add (.add (.var 0) (.var 3)) (.num 1)), (.var 2))] 1 (.add (.add (.var 0) (.var 1)) (.num 1)) (.var 2) rfl l this)), by have := h.units; (exact (nl (.branch 2 (.branch 1 (.leaf (A.units)) (.leaf k')) (.branch 3 (.leaf cLine) (.leaf k))) [(10, (.var 1), (.var 3)), (1, (.add (.add (.add (.var 0) (.mulL 10 (.var 3))) (.num 200)) (.num 1)), (.var 2))] 1 (.add (.add (.add (.var 0) (.mulL 10 (.var 1))) (.num 200)) (.num 1)) (.var 2) rfl l this))⟩, h.kind, h.globs, h.bns⟩
theorem OkC.le {k k' : Nat} {A : Around} (h : OkC k A) (l : k' ≤ k) : OkC k' A := ⟨h.handled, by have := h.depth; omega, by have := h.units; omega⟩

theorem EvV.mono {e : Expr} {Q Q' : V → Row → Prop} (h : EvV mg g₀ prog w env k e ρ Q) (q : ∀ x ρ', Q x ρ' → Q' x ρ') : EvV mg g₀ prog w env k e ρ Q' :=
  ⟨fun A κ Φ z s K E ok S c => h.run A κ Φ z s K E ok S fun v x ρ' z' h' tk hq => c v x ρ' z' h' tk (q _ _ hq)⟩
theorem EvE.mono {e : Expr} {Q Q' : Bnd → Row → Prop} (h : EvE mg g₀ prog w env k e ρ Q) (q : ∀ x ρ', Q x ρ' → Q' x ρ') : EvE mg g₀ prog w env k e ρ Q' :=
  ⟨fun A κ Φ z s K E ok S c => h.run A κ Φ z s K E ok S fun v x ρ' z' h' tk hq => c v x ρ' z' h' tk (q _ _ hq)⟩
theorem ExS.mono {e : List Stmt} {Q Q' : Out → Row → Prop} (h : ExS mg g₀ prog w env k e ρ Q) (q : ∀ x ρ', Q x ρ' → Q' x ρ') : ExS mg g₀ prog w env k e ρ Q' :=
  ⟨fun A κ Φ z s K E ok S c => h.run A κ Φ z s K E ok S fun v x ρ' z' h' tk hq => c v x ρ' z' h' tk (q _ _ hq)⟩
theorem Ex1.mono {e : Stmt} {Q Q' : Out → Row → Prop} (h : Ex1 mg g₀ prog w env k e ρ Q) (q : ∀ x ρ', Q x ρ' → Q' x ρ') : Ex1 mg g₀ prog w env k e ρ Q' :=
  ⟨fun A κ Φ z s K E ok S c => h.run A κ Φ z s K E ok S fun v x ρ' z' h' tk hq => c v x ρ' z' h' tk (q _ _ hq)⟩

/-- a value that is a fresh list may be taken for frozen -/
inductive Bnd.As : Bnd → V → Prop
  | val (x : V) : Bnd.As (.val x) x
  | own (a : Addr) (xs : List V) : Bnd.As (.own a xs) (.list xs)

theorem EvV.ofE {e : Expr} {Q : V → Row → Prop} (h : EvE mg g₀ prog w env k e ρ (fun B ρ' => ∃ x, B.As x ∧ Q x ρ')) : EvV mg g₀ prog w env k e ρ Q := by
  refine ⟨?_⟩
  intro A κ Φ z s K E ok S c
  refine h.run A κ Φ z s K E ok S fun v B ρ' z' h' tk ⟨x, a, hq⟩ hz S' R hd hn => ?_
  cases a with
  | val x =>
    refine hideG fun gHid hHid => ?_
    obtain ⟨v', e, r⟩ := R
    refine hHid ?_; clear hHid gHid
    cases e
    exact c _ _ _ _ _ _ hq hz S' r
  | own a xs =>
    refine hideG fun gHid hHid => ?_
    obtain ⟨e, ⟨⟨vs, n, ea, r⟩, ka, za⟩, fa⟩ := R
    refine hHid ?_; clear hHid gHid
    cases e
    have U : Unused env κ ρ' z' a := by
      refine hideG fun gHid hHid => ?_
      obtain ⟨m, ⟨oL, es, ep, hL, hdL, _⟩, f⟩ := S'.frame
      refine hHid ?_; clear hHid gHid
      refine ⟨?_, ?_, hd a (by simp [Bnd.addrs]), za, ka⟩
      · rintro rfl; rw [ea] at hL; cases hL; cases hdL
      · rintro x c hx hc hk rfl
        refine hideG fun gHid hHid => ?_
        obtain ⟨⟨y, B⟩, hm, rfl⟩ := List.mem_map.mp hx
        refine hHid ?_; clear hHid gHid
        refine hideG fun gHid hHid => ?_
        obtain ⟨ov, bd, _⟩ := f y B hm
        refine hHid ?_; clear hHid gHid
        rcases bd with ⟨k, _⟩ | ⟨_, c', e, ⟨o, ho, hd⟩, _⟩
        · rcases hk with hk | hk <;> · simp only at hk k; rw [k] at hk; cases hk
        · simp only at hc e; rw [hc] at e; cases e; rw [ea] at ho; cases ho; cases hd
    exact c _ _ _ _ _ _ hq (hz.trans (Le.upd za)) (S'.addZ U ea fa) (.list (PH.upd_self ..) (r.mono (Le.upd za)))
theorem EvE.ofV {e : Expr} {Q : Bnd → Row → Prop} (h : EvV mg g₀ prog w env k e ρ (fun x ρ' => Q (.val x) ρ')) : EvE mg g₀ prog w env k e ρ Q :=
  ⟨fun A κ Φ z s K E ok S c => h.run A κ Φ z s K E ok S fun v x ρ' z' h' tk hq hz S' r => c v (.val x) ρ' z' h' tk hq hz S' ⟨v, rfl, r⟩ (fun a ha => by simp [Bnd.addrs] at ha) (by simp [Bnd.addrs])⟩

/-- the name lies in a namespace or a cell -/
theorem St.load {κ z : PH} {Φ : Addr → Prop} {M : Model} {A : Around} {E : Value → Shared → Prop} {s : Shared} {x : Str} {B : Bnd} {v : Value} {m : Str → Option Value} {Q : Value → Shared → Prop}
    (S : St mg g₀ env κ Φ ρ z s.heap) (hk : env.scope.kind = .function) (hm : (x, B) ∈ ρ) (hn : s.heap.Ns env.locals m) (b : Bound env κ z s.heap m x (some v)) (h : Q v s) : wpAny M A (loadName env x) Q E s := by
  rcases b with ⟨k, e⟩ | ⟨k | k, c, e, ic, _⟩
  · exact wpAny_loadName_local hk k hn e.symm h
  · exact wpAny_loadName_cell hk k e ic h
  · exact wpAny_loadName_free hk k e ic h (S.dbg x (List.mem_map.mpr ⟨_, hm, rfl⟩)).2

theorem EvV.name {x : Str} {pos : Pos} {X : V} {Q : V → Row → Prop} (hm : (x, Bnd.val X) ∈ ρ) (hq : Q X ρ) : EvV mg g₀ prog w env k (.Name x pos) ρ Q := by
  refine ⟨?_⟩
  intro A κ Φ z s K E ok S c
  refine hideG fun gHid hHid => ?_
  obtain ⟨m, hn, f⟩ := S.frame
  refine hHid ?_; clear hHid gHid
  refine hideG fun gHid hHid => ?_
  obtain ⟨ov, bd, v, rfl, r⟩ := f _ _ hm
  refine hHid ?_; clear hHid gHid
  exact wpAny_Name (S.load ok.kind hm hn bd (c v X ρ z s.heap s.toks hq (Le.refl _) S r)) (S.dbg x (List.mem_map.mpr ⟨_, hm, rfl⟩)).1

theorem EvV.nameOwn {x : Str} {pos : Pos} {a : Addr} {xs : List V} {Q : V → Row → Prop} (hm : (x, Bnd.own a xs) ∈ ρ) (u : Upd x (.val (.list xs)) ρ ρ') (hq : Q (.list xs) ρ') : EvV mg g₀ prog w env k (.Name x pos) ρ Q := by
  refine ⟨?_⟩
  intro A κ Φ z s K E ok S c
  refine hideG fun gHid hHid => ?_
  obtain ⟨m, hn, f⟩ := S.frame
  refine hHid ?_; clear hHid gHid
  refine hideG fun gHid hHid => ?_
  obtain ⟨z', hz, S', r⟩ := S.freeze hm u
  refine hHid ?_; clear hHid gHid
  refine hideG fun gHid hHid => ?_
  obtain ⟨ov, bd, rfl, _⟩ := f _ _ hm
  refine hHid ?_; clear hHid gHid
  exact wpAny_Name (S.load ok.kind hm hn bd (c _ _ ρ' z' s.heap s.toks hq hz S' r)) (S.dbg x (List.mem_map.mpr ⟨_, hm, rfl⟩)).1

theorem EvV.global {x : Str} {pos : Pos} {v : Value} {Q : V → Row → Prop} (G : Gl mg mb g₀ recs) (hv : mg x = some v) (hx : env.kindOf x = some .globalImplicit) (hq : Q (.fn x) ρ) (hd : (x == ("__debug__" : Str)) = false := by decide) : EvV mg g₀ prog w env k (.Name x pos) ρ Q := by
  refine ⟨?_⟩
  intro A κ Φ z s K E ok S c
  exact Name_function_global ok.kind hx (loadGlobal_global (by rw [ok.globs]; exact G.g.keeps fun b o e => S.kept _ _ (S.root _ _ e)) hv (c v _ ρ z s.heap s.toks hq (Le.refl _) S (.fn hv))) hd

theorem EvV.int {i : Int} {kd pos} {Q : V → Row → Prop} (hq : Q (.int i) ρ) : EvV mg g₀ prog w env k (.Constant (.int i) kd pos) ρ Q := by
  refine ⟨?_⟩
  intro A κ Φ z s K E ok S c
  exact wpAny_Constant_int (c _ _ ρ z s.heap _ hq (Le.refl _) S (.int _ _))
theorem EvV.bool {b : Bool} {kd pos} {Q : V → Row → Prop} (hq : Q (.bool b) ρ) : EvV mg g₀ prog w env k (.Constant (.bool b) kd pos) ρ Q := by
  refine ⟨?_⟩
  intro A κ Φ z s K E ok S c
  exact wpAny_Constant_bool (c _ _ ρ z s.heap s.toks hq (Le.refl _) S (.bool _))
end
end Mine
namespace Mine
open PySem PySem.Calls

theorem intBits_le {a : Int} (h : a.natAbs < 2 ^ 64) : Builtin.Int.intBits a ≤ 64 := by
  unfold Builtin.Int.intBits
  split
  · decide
  · rename_i h0
    have h0' : a.natAbs ≠ 0 := by simpa using h0
    have := (Nat.log2_lt h0').mpr h
    assumption

/-- what an operator makes of two ints -/
inductive BinV : Operator → Int → Int → Int → Prop
  | add {a b : Int} : BinV .Add a b (a + b)
  | sub {a b : Int} : BinV .Sub a b (a - b)
  | mul {a b : Int} (h : a.natAbs < 2 ^ 64 ∨ b.natAbs < 2 ^ 64) : BinV .Mult a b (a * b)
  | fdiv {a b : Int} (h : b ≠ 0) (h1 : b.natAbs < 1073741824) : BinV .FloorDiv a b (a.fdiv b)
  | mod {a b : Int} (h : b ≠ 0) : BinV .Mod a b (a.fmod b)
  | shl {a b : Int} (h : 0 ≤ b) (h1 : b ≤ 1000000) (h2 : a.natAbs < 2 ^ 64) : BinV .LShift a b (a * 2 ^ b.toNat)
  | shr {a b : Int} (h : 0 ≤ b) : BinV .RShift a b (a.fdiv (2 ^ b.toNat))
  | band {a b : Int} : BinV .BitAnd a b (Builtin.bitAnd a b)
  | bor {a b : Int} : BinV .BitOr a b (Builtin.bitOr a b)
  | pow {a b : Int} (h : 0 ≤ b) (h1 : b ≤ 1000000) (h2 : a.natAbs < 2 ^ 64) : BinV .Pow a b (a ^ b.toNat)

/-- what a comparison makes of two ints -/
def cmpI : CmpOp → Int → Int → Option Bool
  | .Eq, a, b => some (a == b)
  | .NotEq, a, b => some (a != b)
  | .Lt, a, b => some (decide (a < b))
  | .LtE, a, b => some (decide (a ≤ b))
  | .Gt, a, b => some (decide (b < a))
  | .GtE, a, b => some (decide (b ≤ a))
  | _, _, _ => none

section
variable {prog : Program} {w : World} {A : Around} {E : Value → Shared → Prop} {s : Shared} {a b c : Int} {t u : Tok} {op : Operator}
theorem BinV.run {Q : Value → Shared → Prop} (x : BinV op a b c) (h : ∀ tk, Q (.int c tk) { s with toks := s.toks + 1 }) : wpAny (model prog w) A (binaryOp op (.int a t) (.int b u)) Q E s := by
  cases x with
  | add => exact PyProof.Rows.add_int (h _)
  | sub => exact PyProof.Rows.sub_int (h _)
  | mul hm =>
    refine PyProof.Rows.mul_int (h _) ?_
    rcases hm with hm | hm
    · exact .of_left (intBits_le hm)
    · exact .of_right (intBits_le hm)
  | fdiv h0 h1 => exact floordiv_int h0 (h _) (.inl (PyProof.noPylong_small h1))
  | mod h0 => exact PyProof.Rows.mod_int h0 (h _)
  | shl h0 h1 h2 => exact lshift_int_small h0 h1 h2 (h _)
  | shr h0 => exact rshift_int h0 (h _)
  | band => exact and_int (h _)
  | bor => exact or_int (h _)
  | pow h0 h1 h2 =>
    refine pow_int h0 ?_ (h _)
    have := intBits_le h2
    have h3 : (Builtin.Int.intBits a : Int) ≤ 64 := by exact_mod_cast this
    have : (Builtin.Int.intBits a : Int) * b ≤ 64 * 1000000 := Int.mul_le_mul h3 h1 h0 (by decide)
    lia

theorem BinV.irun {Q : Value → Shared → Prop} (x : BinV op a b c) (h : ∀ tk, Q (.int c tk) { s with toks := s.toks + 1 }) : wpAny (model prog w) A (inplaceOp op (.int a t) (.int b u)) Q E s := by
  cases x with
  | add => exact P.iadd_int (h _)
  | sub => exact P.isub_int (h _)
  | mul hm =>
    refine P.imul_int (h _) ?_
    rcases hm with hm | hm
    · exact .of_left (intBits_le hm)
    · exact .of_right (intBits_le hm)
  | fdiv h0 h1 => exact ifloordiv_int h0 (h _) (.inl (PyProof.noPylong_small h1))
  | mod h0 => exact PyProof.Rows.imod_int h0 (h _)
  | shl h0 h1 h2 => exact ilshift_int_small h0 h1 h2 (h _)
  | shr h0 => exact irshift_int h0 (h _)
  | band => exact iand_int (h _)
  | bor => exact ior_int (h _)
  | pow h0 h1 h2 =>
    refine ipow_int h0 ?_ (h _)
    have := intBits_le h2
    have h3 : (Builtin.Int.intBits a : Int) ≤ 64 := by exact_mod_cast this
    have : (Builtin.Int.intBits a : Int) * b ≤ 64 * 1000000 := Int.mul_le_mul h3 h1 h0 (by decide)
    omega

theorem cmpI_run {op : CmpOp} {r : Bool} {Q : Value → Shared → Prop} (x : cmpI op a b = some r) (h : Q (.bool r) s) : wpAny (model prog w) A (compareOp op (.int a t) (.int b u)) Q E s := by
  cases op <;> simp only [cmpI, Option.some.injEq, reduceCtorEq] at x <;> subst x
  · exact PyProof.Rows.eq_int h
  · exact PyProof.Rows.ne_int h
  · exact PyProof.Rows.lt_int h
  · exact PyProof.Rows.le_int h
  · exact PyProof.Rows.gt_int h
  · exact PyProof.Rows.ge_int h
end

section
variable {mg mb : Str → Option Value} {g₀ : Heap} {recs : List DefRec} {prog : Program} {w : World} {env : Env} {k : Nat} {ρ ρ' : Row}

theorem EvV.bin {l r : Expr} {op : Operator} {pos : Pos} {Q : V → Row → Prop}
    (h : EvV mg g₀ prog w env k l ρ fun X ρ1 => ∃ a, X = .int a ∧ EvV mg g₀ prog w env k r ρ1 fun Y ρ2 => ∃ b, Y = .int b ∧ ∃ c, BinV op a b c ∧ Q (.int c) ρ2) : EvV mg g₀ prog w env k (.BinOp l op r pos) ρ Q := by
  refine ⟨?_⟩
  intro A κ Φ z s K E ok S c
  refine wpAny_BinOp (h.run A κ Φ z s _ E ok S ?_)
  intro v X ρ1 z1 h1 tk1 hI1 hz1 S1 r1
  refine hideG fun gHid hHid => ?_
  obtain ⟨a, rfl, h'⟩ := hI1
  refine hHid ?_; clear hHid gHid
  refine h'.run A κ Φ z1 _ _ E ok S1 ?_
  intro u Y ρ2 z2 h2 tk2 hI1 hz2 S2 r2
  refine hideG fun gHid hHid => ?_
  obtain ⟨b, rfl, d, bv, hq⟩ := hI1
  refine hHid ?_; clear hHid gHid
  have r1' := r1.mono hz2
  cases r1'; cases r2
  exact bv.run fun tk => c _ _ _ _ _ _ hq (hz1.trans hz2) S2 (.int _ _)

theorem EvV.cmp {l r : Expr} {op : CmpOp} {pos : Pos} {Q : V → Row → Prop}
    (h : EvV mg g₀ prog w env k l ρ fun X ρ1 => ∃ a, X = .int a ∧ EvV mg g₀ prog w env k r ρ1 fun Y ρ2 => ∃ b, Y = .int b ∧ ∃ c, cmpI op a b = some c ∧ Q (.bool c) ρ2)
    (hm : behindInMarks op r = false := by with_unfolding_all rfl) : EvV mg g₀ prog w env k (.Compare l [op] [r] pos) ρ Q := by
  refine ⟨?_⟩
  intro A κ Φ z s K E ok S c
  refine wpAny_Compare1 (h.run A κ Φ z s _ E ok S ?_) hm
  intro v X ρ1 z1 h1 tk1 hI1 hz1 S1 r1
  refine hideG fun gHid hHid => ?_
  obtain ⟨a, rfl, h'⟩ := hI1
  refine hHid ?_; clear hHid gHid
  refine h'.run A κ Φ z1 _ _ E ok S1 ?_
  intro u Y ρ2 z2 h2 tk2 hI1 hz2 S2 r2
  refine hideG fun gHid hHid => ?_
  obtain ⟨b, rfl, d, bv, hq⟩ := hI1
  refine hHid ?_; clear hHid gHid
  have r1' := r1.mono hz2
  cases r1'; cases r2
  exact cmpI_run bv (c _ _ _ _ _ tk2 hq (hz1.trans hz2) S2 (.bool _))

theorem EvT.cmp {l r : Expr} {op : CmpOp} {pos : Pos} {Q : Bool → Row → Prop}
    (h : EvV mg g₀ prog w env k l ρ fun X ρ1 => ∃ a, X = .int a ∧ EvV mg g₀ prog w env k r ρ1 fun Y ρ2 => ∃ b, Y = .int b ∧ ∃ c, cmpI op a b = some c ∧ Q c ρ2)
    (hm : behindInMarks op r = false := by with_unfolding_all rfl) : EvT mg g₀ prog w env k (.Compare l [op] [r] pos) ρ Q := by
  refine ⟨?_⟩
  intro A κ Φ z s K E ok S c
  refine wpAny_isTrue_Compare1 (h.run A κ Φ z s _ E ok S ?_) hm
  intro v X ρ1 z1 h1 tk1 hI1 hz1 S1 r1
  refine hideG fun gHid hHid => ?_
  obtain ⟨a, rfl, h'⟩ := hI1
  refine hHid ?_; clear hHid gHid
  refine h'.run A κ Φ z1 _ _ E ok S1 ?_
  intro u Y ρ2 z2 h2 tk2 hI1 hz2 S2 r2
  refine hideG fun gHid hHid => ?_
  obtain ⟨b, rfl, d, bv, hq⟩ := hI1
  refine hHid ?_; clear hHid gHid
  have r1' := r1.mono hz2
  cases r1'; cases r2
  exact cmpI_run bv (wpAny_truthy_bool (c _ _ _ _ tk2 hq (hz1.trans hz2) S2))

theorem cmpB_run {A : Around} {E : Value → Shared → Prop} {s : Shared} {a b r : Bool} {op : CmpOp} {Q : Value → Shared → Prop} (x : (op = .Eq ∧ r = (a == b)) ∨ (op = .NotEq ∧ r = (a != b))) (h : Q (.bool r) s) : wpAny (model prog w) A (compareOp op (.bool a) (.bool b)) Q E s := by
  rcases x with ⟨rfl, rfl⟩ | ⟨rfl, rfl⟩
  · exact eq_bool h
  · exact ne_bool h

theorem EvV.cmpB {l r : Expr} {op : CmpOp} {pos : Pos} {Q : V → Row → Prop}
    (h : EvV mg g₀ prog w env k l ρ fun X ρ1 => ∃ a, X = .bool a ∧ EvV mg g₀ prog w env k r ρ1 fun Y ρ2 => ∃ b, Y = .bool b ∧ ∃ c, ((op = .Eq ∧ c = (a == b)) ∨ (op = .NotEq ∧ c = (a != b))) ∧ Q (.bool c) ρ2)
    (hm : behindInMarks op r = false := by with_unfolding_all rfl) : EvV mg g₀ prog w env k (.Compare l [op] [r] pos) ρ Q := by
  refine ⟨?_⟩
  intro A κ Φ z s K E ok S c
  refine wpAny_Compare1 (h.run A κ Φ z s _ E ok S ?_) hm
  intro v X ρ1 z1 h1 tk1 hI1 hz1 S1 r1
  refine hideG fun gHid hHid => ?_
  obtain ⟨a, rfl, h'⟩ := hI1
  refine hHid ?_; clear hHid gHid
  refine h'.run A κ Φ z1 _ _ E ok S1 ?_
  intro u Y ρ2 z2 h2 tk2 hI1 hz2 S2 r2
  refine hideG fun gHid hHid => ?_
  obtain ⟨b, rfl, d, bv, hq⟩ := hI1
  refine hHid ?_; clear hHid gHid
  have r1' := r1.mono hz2
  cases r1'; cases r2
  exact cmpB_run bv (c _ _ _ _ _ tk2 hq (hz1.trans hz2) S2 (.bool _))

theorem EvT.cmpB {l r : Expr} {op : CmpOp} {pos : Pos} {Q : Bool → Row → Prop}
    (h : EvV mg g₀ prog w env k l ρ fun X ρ1 => ∃ a, X = .bool a ∧ EvV mg g₀ prog w env k r ρ1 fun Y ρ2 => ∃ b, Y = .bool b ∧ ∃ c, ((op = .Eq ∧ c = (a == b)) ∨ (op = .NotEq ∧ c = (a != b))) ∧ Q c ρ2)
    (hm : behindInMarks op r = false := by with_unfolding_all rfl) : EvT mg g₀ prog w env k (.Compare l [op] [r] pos) ρ Q := by
  refine ⟨?_⟩
  intro A κ Φ z s K E ok S c
  refine wpAny_isTrue_Compare1 (h.run A κ Φ z s _ E ok S ?_) hm
  intro v X ρ1 z1 h1 tk1 hI1 hz1 S1 r1
  refine hideG fun gHid hHid => ?_
  obtain ⟨a, rfl, h'⟩ := hI1
  refine hHid ?_; clear hHid gHid
  refine h'.run A κ Φ z1 _ _ E ok S1 ?_
  intro u Y ρ2 z2 h2 tk2 hI1 hz2 S2 r2
  refine hideG fun gHid hHid => ?_
  obtain ⟨b, rfl, d, bv, hq⟩ := hI1
  refine hHid ?_; clear hHid gHid
  have r1' := r1.mono hz2
  cases r1'; cases r2
  exact cmpB_run bv (wpAny_truthy_bool (c _ _ _ _ tk2 hq (hz1.trans hz2) S2))

theorem EvV.neg {x : Expr} {pos : Pos} {Q : V → Row → Prop} (h : EvV mg g₀ prog w env k x ρ fun X ρ1 => ∃ a, X = .int a ∧ Q (.int (-a)) ρ1) : EvV mg g₀ prog w env k (.UnaryOp .USub x pos) ρ Q := by
  refine ⟨?_⟩
  intro A κ Φ z s K E ok S c
  refine wpAny_UnaryOp (h.run A κ Φ z s _ E ok S ?_)
  intro v X ρ1 z1 h1 tk1 hI1 hz1 S1 r1
  refine hideG fun gHid hHid => ?_
  obtain ⟨a, rfl, hq⟩ := hI1
  refine hHid ?_; clear hHid gHid
  cases r1
  exact PyProof.Rows.neg_int (c _ _ _ _ _ _ hq hz1 S1 (.int _ _))

theorem EvV.not {x : Expr} {pos : Pos} {Q : V → Row → Prop} (h : EvV mg g₀ prog w env k x ρ fun X ρ1 => ∃ a, X = .bool a ∧ Q (.bool (!a)) ρ1) : EvV mg g₀ prog w env k (.UnaryOp .Not x pos) ρ Q := by
  refine ⟨?_⟩
  intro A κ Φ z s K E ok S c
  refine wpAny_UnaryOp (h.run A κ Φ z s _ E ok S ?_)
  intro v X ρ1 z1 h1 tk1 hI1 hz1 S1 r1
  refine hideG fun gHid hHid => ?_
  obtain ⟨a, rfl, hq⟩ := hI1
  refine hHid ?_; clear hHid gHid
  cases r1
  exact not_of (wpAny_truthy_bool (c _ _ _ _ _ tk1 hq hz1 S1 (.bool _)))

/-- a value that is a bool, as a test; the expression is no test of its own -/
theorem EvT.val {e : Expr} {Q : Bool → Row → Prop} (h : EvV mg g₀ prog w env k e ρ fun X ρ1 => ∃ a, X = .bool a ∧ Q a ρ1)
    (he : isTrue e env (eval e env) = (do let v ← eval e env; standAt e.pos; holding [v] (truthy v)) := by with_unfolding_all rfl) : EvT mg g₀ prog w env k e ρ Q := by
  refine ⟨?_⟩
  intro A κ Φ z s K E ok S c
  rw [he]
  refine wpAny_bind (h.run A κ Φ z s _ E ok S ?_)
  intro v X ρ1 z1 h1 tk1 hI1 hz1 S1 r1
  refine hideG fun gHid hHid => ?_
  obtain ⟨a, rfl, hq⟩ := hI1
  refine hHid ?_; clear hHid gHid
  cases r1
  exact wpAny_bind (wpAny_standAt (wpAny_holding (wpAny_truthy_bool (c _ _ _ _ tk1 hq hz1 S1))))

theorem EvT.and2 {x y : Expr} {pos : Pos} {Q : Bool → Row → Prop} (h : EvT mg g₀ prog w env k x ρ fun c ρ1 => if c = true then EvT mg g₀ prog w env k y ρ1 Q else Q false ρ1) :
    EvT mg g₀ prog w env k (.BoolOp .And [x, y] pos) ρ Q := by
  refine ⟨?_⟩
  intro A κ Φ z s K E ok S c
  refine isTrue_and (h.run A κ Φ z s _ E ok S ?_)
  rintro b ρ1 z1 h1 tk1 hq hz1 S1
  cases b with
  | false => exact c _ _ _ _ tk1 (by simpa using hq) hz1 S1
  | true =>
    refine isTrue_and ?_
    refine (show EvT mg g₀ prog w env k y ρ1 Q by simpa using hq).run A κ Φ z1 _ _ E ok S1 ?_
    rintro b ρ2 z2 h2 tk2 hq hz2 S2
    cases b with
    | false => exact c _ _ _ _ tk2 hq (hz1.trans hz2) S2
    | true => exact isTrue_and_nil (c _ _ _ _ tk2 hq (hz1.trans hz2) S2)

theorem EvT.or2 {x y : Expr} {pos : Pos} {Q : Bool → Row → Prop} (h : EvT mg g₀ prog w env k x ρ fun c ρ1 => if c = true then Q true ρ1 else EvT mg g₀ prog w env k y ρ1 Q) :
    EvT mg g₀ prog w env k (.BoolOp .Or [x, y] pos) ρ Q := by
  refine ⟨?_⟩
  intro A κ Φ z s K E ok S c
  refine isTrue_or (h.run A κ Φ z s _ E ok S ?_)
  rintro b ρ1 z1 h1 tk1 hq hz1 S1
  cases b with
  | true => exact c _ _ _ _ tk1 (by simpa using hq) hz1 S1
  | false =>
    refine isTrue_or ?_
    refine (show EvT mg g₀ prog w env k y ρ1 Q by simpa using hq).run A κ Φ z1 _ _ E ok S1 ?_
    rintro b ρ2 z2 h2 tk2 hq hz2 S2
    cases b with
    | true => exact c _ _ _ _ tk2 hq (hz1.trans hz2) S2
    | false => exact isTrue_or_nil (c _ _ _ _ tk2 hq (hz1.trans hz2) S2)

theorem EvT.not {x : Expr} {pos : Pos} {Q : Bool → Row → Prop} (h : EvT mg g₀ prog w env k x ρ fun c ρ1 => Q (!c) ρ1) : EvT mg g₀ prog w env k (.UnaryOp .Not x pos) ρ Q := by
  refine ⟨?_⟩
  intro A κ Φ z s K E ok S c
  exact wpAny_isTrue_Not (h.run A κ Φ z s _ E ok S fun b ρ1 z1 h1 tk1 hq hz1 S1 => c _ _ _ _ tk1 hq hz1 S1)

theorem EvV.and2 {x y : Expr} {pos : Pos} {Q : V → Row → Prop} (h : EvV mg g₀ prog w env k x ρ fun X ρ1 => ∃ a, X = .bool a ∧ if a = true then EvV mg g₀ prog w env k y ρ1 Q else Q (.bool false) ρ1) :
    EvV mg g₀ prog w env k (.BoolOp .And [x, y] pos) ρ Q := by
  refine ⟨?_⟩
  intro A κ Φ z s K E ok S c
  refine wpAny_And2 (h.run A κ Φ z s _ E ok S ?_)
  intro v X ρ1 z1 h1 tk1 hI1 hz1 S1 r1
  refine hideG fun gHid hHid => ?_
  obtain ⟨b, rfl, hq⟩ := hI1
  refine hHid ?_; clear hHid gHid
  cases r1
  refine wpAny_truthy_bool ?_
  cases b with
  | false => exact c _ _ _ _ _ tk1 (by simpa using hq) hz1 S1 (.bool _)
  | true =>
    refine (show EvV mg g₀ prog w env k y ρ1 Q by simpa using hq).run A κ Φ z1 _ _ E ok S1 ?_
    rintro v X ρ2 z2 h2 tk2 hq hz2 S2 r2
    exact c _ _ _ _ _ tk2 hq (hz1.trans hz2) S2 r2

theorem EvV.ife {t x y : Expr} {pos : Pos} {Q : V → Row → Prop} (h : EvT mg g₀ prog w env k t ρ fun c ρ1 => if c = true then EvV mg g₀ prog w env k x ρ1 Q else EvV mg g₀ prog w env k y ρ1 Q) :
    EvV mg g₀ prog w env k (.IfExp t x y pos) ρ Q := by
  refine ⟨?_⟩
  intro A κ Φ z s K E ok S c
  refine wpAny_IfExp (h.run A κ Φ z s _ E ok S ?_)
  rintro b ρ1 z1 h1 tk1 hq hz1 S1
  cases b with
  | true => exact (show EvV mg g₀ prog w env k x ρ1 Q by simpa using hq).run A κ Φ z1 _ _ E ok S1 fun v X ρ2 z2 h2 tk2 hq hz2 S2 r2 => c _ _ _ _ _ tk2 hq (hz1.trans hz2) S2 r2
  | false => exact (show EvV mg g₀ prog w env k y ρ1 Q by simpa using hq).run A κ Φ z1 _ _ E ok S1 fun v X ρ2 z2 h2 tk2 hq hz2 S2 r2 => c _ _ _ _ _ tk2 hq (hz1.trans hz2) S2 r2
end
end Mine
namespace Mine
open PySem PySem.Calls

def ItemAt (xs : List V) (i : Int) (X : V) : Prop :=
  (0 ≤ i ∧ i < 2 ^ 63 ∧ xs[i.toNat]? = some X) ∨ (i < 0 ∧ -(xs.length : Int) ≤ i ∧ -(2 ^ 63) ≤ i ∧ xs[(i + xs.length).toNat]? = some X)

theorem isListO {h : Heap} {a : Addr} {vs : List Value} {n : Nat} (e : h.get? a = some (listO vs n)) : h.IsList a vs.toArray := ⟨_, e, rfl, n, rfl⟩
theorem isTupO {h : Heap} {a : Addr} {vs : List Value} {n : Nat} (e : h.get? a = some (tupO vs n)) : IsTup h a vs.toArray := ⟨_, e, rfl, n, rfl⟩

inductive Bnd.Own : Bnd → Addr → List V → Prop
  | own (a : Addr) (xs : List V) : Bnd.Own (.own a xs) a xs
  | mown (a : Addr) (xs : List V) : Bnd.Own (.mown a xs) a xs

/-- the same list, other items -/
inductive Bnd.To : Bnd → Bnd → List V → Prop
  | own {a : Addr} {xs ys : List V} : Bnd.To (.own a xs) (.own a ys) ys
  | mown {a : Addr} {xs ys : List V} : Bnd.To (.mown a xs) (.mown a ys) ys

section
variable {prog : Program} {w : World} {A : Around} {E : Value → Shared → Prop} {s : Shared} {mg : Str → Option Value} {z : PH}
theorem getList {a : Addr} {vs : List Value} {xs : List V} {n : Nat} {i : Int} {u : Tok} {X : V} {Q : Value → Shared → Prop} (e : s.heap.get? a = some (listO vs n)) (r : HoldsL mg z vs xs) (it : ItemAt xs i X)
    (h : ∀ v, Holds mg z v X → Q v s) : wpAny (model prog w) A (getItem (.ref a) (.int i u)) Q E s := by
  rcases it with ⟨h0, h1, hx⟩ | ⟨h0, h1, h2, hx⟩
  · refine hideG fun gHid hHid => ?_
    obtain ⟨v, hv, rv⟩ := r.get hx
    refine hHid ?_; clear hHid gHid
    exact wpAny_getItem_list (isListO e) h0 h1 (by simpa using hv) (h v rv)
  · refine hideG fun gHid hHid => ?_
    obtain ⟨v, hv, rv⟩ := r.get hx
    refine hHid ?_; clear hHid gHid
    exact wpAny_getItem_list_neg (isListO e) h0 (by simpa [r.length] using h1) h2 (by simpa [r.length] using hv) (h v rv)
theorem getTup {a : Addr} {vs : List Value} {xs : List V} {n : Nat} {i : Int} {u : Tok} {X : V} {Q : Value → Shared → Prop} (e : s.heap.get? a = some (tupO vs n)) (r : HoldsL mg z vs xs) (it : ItemAt xs i X)
    (h : ∀ v, Holds mg z v X → Q v s) : wpAny (model prog w) A (getItem (.ref a) (.int i u)) Q E s := by
  have hl : vs.toArray.size = xs.length := by simp [r.length]
  rcases it with ⟨h0, h1, hx⟩ | ⟨h0, h1, h2, hx⟩
  · refine hideG fun gHid hHid => ?_
    obtain ⟨v, hv, rv⟩ := r.get hx
    refine hHid ?_; clear hHid gHid
    have hlt : i.toNat < xs.length := (List.getElem?_eq_some_iff.mp hx).1
    exact PyProof.Rows.getItem_tuple (isTupO e) (by lia) h1 (seqIndex_of h0 (by rw [hl]; (clear rv hv hx h1 h0 hl h r e; lia))) (by simpa using hv) (h v rv)
  · refine hideG fun gHid hHid => ?_
    obtain ⟨v, hv, rv⟩ := r.get hx
    refine hHid ?_; clear hHid gHid
    exact PyProof.Rows.getItem_tuple (isTupO e) h2 (by lia) (seqIndex_neg h0 (by rw [hl]; omega)) (by rw [hl]; simpa using hv) (h v rv)
end

def noStar : Expr → Bool
  | .Starred .. => false
  | _ => true
theorem starEach_cons {e : Expr} {rest : List Expr} {env : Env} (h : noStar e = true) : starEach (e :: rest) env = (false, eval e env) :: starEach rest env := by
  cases e <;> first | rfl | (simp [noStar] at h)
theorem backTo_any {pos : Pos} {env : Env} : ∀ {es : List Expr}, es.all noStar = true → (backTo pos (starEach es env)).any (·.1) = false
  | [], _ => rfl
  | e :: r, h => by
    simp only [List.all_cons, Bool.and_eq_true] at h
    rw [starEach_cons h.1]
    show (false || (backTo pos (starEach r env)).any (·.1)) = false
    rw [backTo_any h.2]; rfl

def clipI (o : Option Int) (d n : Nat) : Nat := match o with
  | none => d
  | some i => if i < 0 then (i + n).toNat else min i.toNat n
theorem slicePick_clip (vs : List Value) (lo hi : Option Int) : slicePick vs.toArray lo hi none = ((vs.drop (clipI lo 0 vs.length)).take (clipI hi vs.length vs.length - clipI lo 0 vs.length)).toArray := by
  have h1 : (sliceBounds lo hi none vs.toArray.size) = ((clipI lo 0 vs.length : Int), (clipI hi vs.length vs.length : Int), 1) := by
    simp only [sliceBounds, Option.getD_none, show (1 : Int) > 0 by decide, if_true, List.size_toArray]
    congr 1
    · cases lo with
      | none => rfl
      | some i => simp only [clipI]; split <;> lia
    · congr 1
      cases hi with
      | none => rfl
      | some i => simp only [clipI]; split <;> omega
  unfold slicePick
  rw [h1]
  simp only [sliceRange_one, pick_run]

section
variable {mg mb : Str → Option Value} {g₀ : Heap} {recs : List DefRec} {prog : Program} {w : World} {env : Env} {k : Nat} {ρ ρ' : Row}

theorem St.ownRef {κ z : PH} {Φ : Addr → Prop} {h : Heap} {x : Str} {B : Bnd} {a : Addr} {xs : List V} (S : St mg g₀ env κ Φ ρ z h) (hB : B.Own a xs) (hm : (x, B) ∈ ρ) : ∃ m, h.Ns env.locals m ∧ Bound env κ z h m x (some (.ref a)) := by
  refine hideG fun gHid hHid => ?_
  obtain ⟨m, hn, f⟩ := S.frame
  refine hHid ?_; clear hHid gHid
  refine hideG fun gHid hHid => ?_
  obtain ⟨ov, bd, R⟩ := f _ _ hm
  refine hHid ?_; clear hHid gHid
  cases hB <;> (obtain ⟨rfl, _⟩ := R; exact ⟨m, hn, bd⟩)
theorem St.ownAt {κ z : PH} {Φ : Addr → Prop} {h : Heap} {x : Str} {B : Bnd} {a : Addr} {xs : List V} (S : St mg g₀ env κ Φ ρ z h) (hB : B.Own a xs) (hm : (x, B) ∈ ρ) : OwnAt mg κ z h a xs := by
  refine hideG fun gHid hHid => ?_
  obtain ⟨m, hn, f⟩ := S.frame
  refine hHid ?_; clear hHid gHid
  refine hideG fun gHid hHid => ?_
  obtain ⟨ov, bd, R⟩ := f _ _ hm
  refine hHid ?_; clear hHid gHid
  cases hB
  · exact R.2.1
  · exact R.2

theorem EvV.item {value slice : Expr} {pos : Pos} {Q : V → Row → Prop}
    (h : EvV mg g₀ prog w env k value ρ fun X ρ1 => ∃ xs, (X = .list xs ∨ X = .tup xs) ∧ EvV mg g₀ prog w env k slice ρ1 fun Y ρ2 => ∃ i Z, Y = .int i ∧ ItemAt xs i Z ∧ Q Z ρ2)
    (hs : ∀ o i u, subscripted slice false (.ref o) (.int i u) = operate [.ref o, .int i u] (getItem (.ref o) (.int i u)) := by intro _ _ _; with_unfolding_all rfl) : EvV mg g₀ prog w env k (.Subscript value slice pos) ρ Q := by
  refine ⟨?_⟩
  intro A κ Φ z s K E ok S c
  refine Subscript_ (h.run A κ Φ z s _ E ok S ?_)
  intro v X ρ1 z1 h1 tk1 hI1 hz1 S1 r1
  refine hideG fun gHid hHid => ?_
  obtain ⟨xs, hX, h'⟩ := hI1
  refine hHid ?_; clear hHid gHid
  refine h'.run A κ Φ z1 _ _ E ok S1 ?_
  intro u Y ρ2 z2 h2 tk2 hI1 hz2 S2 r2
  refine hideG fun gHid hHid => ?_
  obtain ⟨i, Z, rfl, it, hq⟩ := hI1
  refine hHid ?_; clear hHid gHid
  have r1' := r1.mono hz2
  cases r2
  rcases hX with rfl | rfl
  · cases r1' with
    | list e r => exact tail_any (isListO (S2.zin _ _ e)).typeIs slot_list_getitem.lookup (getList (S2.zin _ _ e) r it fun v rv => c _ _ _ _ _ tk2 hq (hz1.trans hz2) S2 rv) (hs _ _ _)
  · cases r1' with
    | tup e r => exact tail_any (T := "tuple") ⟨_, S2.zin _ _ e, rfl⟩ F.slot_tuple_getitem.lookup (getTup (S2.zin _ _ e) r it fun v rv => c _ _ _ _ _ tk2 hq (hz1.trans hz2) S2 rv) (hs _ _ _)

theorem EvV.itemOwn {x : Str} {p : Pos} {slice : Expr} {pos : Pos} {Q : V → Row → Prop} {B : Bnd} {a : Addr} {xs : List V} (hB : B.Own a xs) (hm : (x, B) ∈ ρ)
    (h : EvV mg g₀ prog w env k slice ρ fun Y ρ2 => (x, B) ∈ ρ2 ∧ ∃ i Z, Y = .int i ∧ ItemAt xs i Z ∧ Q Z ρ2)
    (hs : ∀ o i u, subscripted slice false (.ref o) (.int i u) = operate [.ref o, .int i u] (getItem (.ref o) (.int i u)) := by intro _ _ _; with_unfolding_all rfl) : EvV mg g₀ prog w env k (.Subscript (.Name x p) slice pos) ρ Q := by
  refine ⟨?_⟩
  intro A κ Φ z s K E ok S c
  refine hideG fun gHid hHid => ?_
  obtain ⟨m, hn, bd⟩ := S.ownRef hB hm
  refine hHid ?_; clear hHid gHid
  refine Subscript_ (wpAny_Name (S.load ok.kind hm hn bd ?_) (S.dbg x (List.mem_map.mpr ⟨_, hm, rfl⟩)).1)
  refine h.run A κ Φ z s _ E ok S ?_
  intro u Y ρ2 z2 h2 tk2 hI1 hz2 S2 r2
  refine hideG fun gHid hHid => ?_
  obtain ⟨hm2, i, Z, rfl, it, hq⟩ := hI1
  refine hHid ?_; clear hHid gHid
  cases r2
  refine hideG fun gHid hHid => ?_
  obtain ⟨⟨vs, n, e, r⟩, _⟩ := S2.ownAt hB hm2
  refine hHid ?_; clear hHid gHid
  exact tail_any (isListO e).typeIs slot_list_getitem.lookup (getList e r it fun v rv => c _ _ _ _ _ tk2 hq hz2 S2 rv) (hs _ _ _)

theorem EvVs.nil {Q : List V → Row → Prop} (hq : Q [] ρ) : EvVs mg g₀ prog w env k [] ρ Q := by
  refine ⟨?_⟩
  intro A κ Φ z s K E pos ok S c
  exact wpAny_items_nil (c _ _ _ _ _ s.toks hq (Le.refl _) S .nil)
theorem EvVs.cons {e : Expr} {es : List Expr} {Q : List V → Row → Prop} (h : EvV mg g₀ prog w env k e ρ fun X ρ1 => EvVs mg g₀ prog w env k es ρ1 fun xs ρ2 => Q (X :: xs) ρ2) (hs : noStar e = true := by with_unfolding_all rfl) :
    EvVs mg g₀ prog w env k (e :: es) ρ Q := by
  refine ⟨?_⟩
  intro A κ Φ z s K E pos ok S c
  refine wpAny_items_cons (h.run A κ Φ z s _ E ok S ?_) (starEach_cons hs)
  rintro v X ρ1 z1 h1 tk1 h' hz1 S1 r1
  refine h'.run A κ Φ z1 _ _ E pos ok S1 ?_
  rintro vs xs ρ2 z2 h2 tk2 hq hz2 S2 r2
  exact c _ _ _ _ _ tk2 hq (hz1.trans hz2) S2 (.cons (r1.mono hz2) r2)

/-- a fresh object -/
theorem St.alloc {κ z : PH} {Φ : Addr → Prop} {h : Heap} (S : St mg g₀ env κ Φ ρ z h) (o : Obj) (hf : o.isFreed = false := by with_unfolding_all rfl) : St mg g₀ env κ Φ ρ (z.upd h.objs.size o) (h.push o) ∧ Le z (z.upd h.objs.size o) := by
  have U := S.unused (fresh_size h)
  refine ⟨(S.grow (Grow.push h o)).addZ U (Heap.get?_push_size _ hf) fun q => ?_, Le.upd U.nz⟩
  refine hideG fun gHid hHid => ?_
  obtain ⟨o', e⟩ := S.offIn _ q
  refine hHid ?_; clear hHid gHid
  rw [fresh_size] at e; cases e

theorem EvV.tup {es : List Expr} {kd : Nat} {pos : Pos} {Q : V → Row → Prop} (h : EvVs mg g₀ prog w env k es ρ fun xs ρ1 => xs.length ≤ 100 ∧ Q (.tup xs) ρ1) : EvV mg g₀ prog w env k (.Tuple es kd pos) ρ Q := by
  refine ⟨?_⟩
  intro A κ Φ z s K E ok S c
  refine wpAny_Tuple (h.run A κ Φ z s _ E pos ok S ?_)
  intro vs xs ρ1 z1 h1 tk1 hI1 hz1 S1 r1
  refine hideG fun gHid hHid => ?_
  obtain ⟨hl, hq⟩ := hI1
  refine hHid ?_; clear hHid gHid
  refine ⟨by rw [r1.length]; exact Nat.le_trans hl (by decide), ?_⟩
  refine hideG fun gHid hHid => ?_
  obtain ⟨S2, hz2⟩ := S1.alloc (tupO vs 0)
  refine hHid ?_; clear hHid gHid
  exact c _ _ _ _ _ tk1 hq (hz1.trans hz2) S2 (.tup (PH.upd_self ..) (r1.mono hz2))

theorem EvE.list {es : List Expr} {pos : Pos} {Q : Bnd → Row → Prop} (h : EvVs mg g₀ prog w env k es ρ fun xs ρ1 => xs.length ≤ 100 ∧ ∀ a, Q (.own a xs) ρ1) : EvE mg g₀ prog w env k (.List es pos) ρ Q := by
  refine ⟨?_⟩
  intro A κ Φ z s K E ok S c
  refine wpAny_List (h.run A κ Φ z s _ E pos ok S ?_)
  intro vs xs ρ1 z1 h1 tk1 hI1 hz1 S1 r1
  refine hideG fun gHid hHid => ?_
  obtain ⟨hl, hq⟩ := hI1
  refine hHid ?_; clear hHid gHid
  refine ⟨by rw [r1.length]; exact Nat.le_trans hl (by decide), ?_⟩
  have U := S1.unused (fresh_size h1)
  refine c _ _ _ _ _ tk1 (hq h1.objs.size) hz1 (S1.grow (Grow.push h1 _)) ⟨rfl, ⟨⟨vs, 0, Heap.get?_push_size _ rfl, r1⟩, U.nk, U.nz⟩, fun q => ?_⟩ (fun a ha => ?_) (by simp [Bnd.addrs])
  · refine hideG fun gHid hHid => ?_
    obtain ⟨o', e⟩ := S1.offIn _ q
    refine hHid ?_; clear hHid gHid
    have := fresh_size h1; rw [e] at this; cases this
  · simp [Bnd.addrs] at ha; subst ha; exact U.nA

/-- a def of the text is called by its name -/
theorem EvV.call {f : Str} {p pos : Pos} {e : Expr} {es : List Expr} {Q : V → Row → Prop} (G : Gl mg mb g₀ recs)
    (h : EvV mg g₀ prog w env k (.Name f p) ρ fun X ρ0 => ∃ g, X = .fn g ∧ (∃ d ∈ recs, d.name = g) ∧ EvVs mg g₀ prog w env k (e :: es) ρ0 fun xs ρ1 => ∃ r, Returns mg g₀ prog w g k xs r ∧ Q r ρ1)
    (hs : noStar e = true := by with_unfolding_all rfl) : EvV mg g₀ prog w env k (.Call (.Name f p) (e :: es) [] pos) ρ Q := by
  refine ⟨?_⟩
  intro A κ Φ z s K E ok S c
  refine wpAny_Call_NameR (h.run A κ Φ z s _ E ok S ?_)
  intro v X ρ0 z0 h0 tk0 hI1 hz0 S0 r0
  refine hideG fun gHid hHid => ?_
  obtain ⟨g, rfl, ⟨d, hd, rfl⟩, h'⟩ := hI1
  refine hHid ?_; clear hHid gHid
  cases r0 with
  | fn hv =>
    refine hideG fun gHid hHid => ?_
    obtain ⟨a, o, pm, code, doc, e1, e2, e3, e4⟩ := G.fn d hd
    refine hHid ?_; clear hHid gHid
    rw [e1] at hv; cases hv
    refine PyProof.Rows.callWith_def e3 ?_ (starEach_cons hs)
    refine h'.run A κ Φ z0 _ _ E pos ok S0 ?_
    intro vs xs ρ1 z1 h1 tk1 hI1 hz1 S1 r1
    refine hideG fun gHid hHid => ?_
    obtain ⟨r, R, hq⟩ := hI1
    refine hHid ?_; clear hHid gHid
    have root : ∀ b o, g₀.get? b = some o → h1.get? b = some o := fun b o e => S1.kept _ _ (S1.root _ _ e)
    refine ⟨root _ _ e2, R A z1 _ vs a _ E ok.toOkC root S1.zin r1 e1 ?_⟩
    intro v z2 h2 tk2 hz2 zin2 new2 g2 hv
    exact c _ _ _ _ _ tk2 hq (hz0.trans (hz1.trans hz2)) (S1.after g2 hz2 zin2 new2) hv

/-- a call that turns the list that a name is bound to -/
theorem EvV.callM {f x : Str} {p p' pos : Pos} {es : List Expr} {B : Bnd} {a : Addr} {xs : List V} {Q : V → Row → Prop} (G : Gl mg mb g₀ recs) (hB : B.Own a xs) (hm : (x, B) ∈ ρ)
    (h : EvV mg g₀ prog w env k (.Name f p) ρ fun X ρ0 => ρ0 = ρ ∧ ∃ g, X = .fn g ∧ (∃ d ∈ recs, d.name = g) ∧ EvVs mg g₀ prog w env k es ρ fun Ys ρ1 => (x, B) ∈ ρ1 ∧ ∃ P, Turns mg g₀ prog w g k xs Ys P ∧
      ∀ ys r, P ys r → ∃ C ρ2, Bnd.To B C ys ∧ Upd x C ρ1 ρ2 ∧ Q r ρ2) : EvV mg g₀ prog w env k (.Call (.Name f p) (.Name x p' :: es) [] pos) ρ Q := by
  refine ⟨?_⟩
  intro A κ Φ z s K E ok S c
  refine wpAny_Call_NameR (h.run A κ Φ z s _ E ok S ?_)
  intro v X ρ0 z0 h0 tk0 hI1 hz0 S0 r0
  refine hideG fun gHid hHid => ?_
  obtain ⟨rfl, g, rfl, ⟨d, hd, rfl⟩, h'⟩ := hI1
  refine hHid ?_; clear hHid gHid
  cases r0 with
  | fn hv =>
    refine hideG fun gHid hHid => ?_
    obtain ⟨q, o, pm, code, doc, e1, e2, e3, e4⟩ := G.fn d hd
    refine hHid ?_; clear hHid gHid
    rw [e1] at hv; cases hv
    refine PyProof.Rows.callWith_def e3 ?_ rfl
    refine hideG fun gHid hHid => ?_
    obtain ⟨m, hn, bd⟩ := S0.ownRef hB hm
    refine hHid ?_; clear hHid gHid
    refine wpAny_items_cons ?_ rfl
    refine wpAny_Name (S0.load (s := { s with heap := h0, toks := tk0 }) ok.kind hm hn bd ?_) (S0.dbg x (List.mem_map.mpr ⟨_, hm, rfl⟩)).1
    refine h'.run A κ Φ z0 _ _ E pos ok S0 ?_
    intro vs Ys ρ1 z1 h1 tk1 hI1 hz1 S1 r1
    refine hideG fun gHid hHid => ?_
    obtain ⟨hm1, P, R, hP⟩ := hI1
    refine hHid ?_; clear hHid gHid
    have root : ∀ b o, g₀.get? b = some o → h1.get? b = some o := fun b o e => S1.kept _ _ (S1.root _ _ e)
    refine hideG fun gHid hHid => ?_
    obtain ⟨⟨vs0, n0, ea, ra⟩, ka, za⟩ := S1.ownAt hB hm1
    refine hHid ?_; clear hHid gHid
    have ga : g₀.get? a = none := by
      cases q : g₀.get? a with
      | none => rfl
      | some o => rw [S1.root _ _ q] at ka; cases ka
    refine ⟨root _ _ e2, R A z1 _ vs q a vs0 n0 _ E ok.toOkC root S1.zin ea ra za ga r1 e1 ?_⟩
    intro v z2 h2 tk2 vs' n' ys r hPr hz2 zin2 new2 g2 ea2 ra2 za2 hv
    refine hideG fun gHid hHid => ?_
    obtain ⟨C, ρ2, hC, u, hq⟩ := hP ys r hPr
    refine hHid ?_; clear hHid gHid
    have S2 : St mg g₀ env κ Φ ρ2 z2 h2 := by
      have hb : h2.get? a = some (listO vs' n') := ea2
      have eA : (h2.update a fun _ => listO vs0 n0).get? a = some (listO vs0 n0) := Heap.get?_update_self _ hb rfl
      have eO : ∀ b, b ≠ a → (h2.update a fun _ => listO vs0 n0).get? b = h2.get? b := fun b hb => Heap.get?_update_ne _ _ _ _ hb
      have SA : St mg g₀ env κ Φ ρ1 z2 (h2.update a fun _ => listO vs0 n0) := by
        refine S1.after (fun b o e => ?_) hz2 (fun b o e => ?_) new2
        · by_cases q : b = a
          · subst q; rw [ea] at e; cases e; exact eA
          · rw [eO b q]; exact g2 b o q e
        · have q : b ≠ a := by rintro rfl; rw [za2] at e; cases e
          rw [eO b q]; exact zin2 b o e
      refine SA.mut u hm1 (a := a) (by cases hB <;> simp [Bnd.addrs]) (by cases hC <;> rfl) (fun b o q e => by rw [eO b q] at e; exact e) (by rw [hb]; rfl) fun ov R => ?_
      cases hC
      · cases hB; exact ⟨R.1, ⟨⟨vs', n', hb, ra2⟩, ka, za2⟩, R.2.2⟩
      · cases hB; exact ⟨R.1, ⟨⟨vs', n', hb, ra2⟩, ka, za2⟩⟩
    exact c _ _ _ _ _ tk2 hq (hz0.trans (hz1.trans hz2)) S2 hv
end
end Mine
namespace Mine
open PySem PySem.Calls

section
variable {mg mb : Str → Option Value} {g₀ : Heap} {recs : List DefRec} {prog : Program} {w : World} {env : Env} {k : Nat} {ρ ρ' : Row}

/-- a name of the builtins -/
theorem builtin_load {κ z : PH} {Φ : Addr → Prop} {A : Around} {E : Value → Shared → Prop} {s : Shared} {x : Str} {pos : Pos} {v : Value} {Q : Value → Shared → Prop} (G : Gl mg mb g₀ recs) (ok : OkA env k A)
    (S : St mg g₀ env κ Φ ρ z s.heap) (hv : mg x = none ∧ mb x = some v) (hx : env.kindOf x = some .globalImplicit) (h : Q v s) (hd : (x == ("__debug__" : Str)) = false := by decide) : wpAny (model prog w) A (eval (.Name x pos) env) Q E s :=
  have gr : ∀ b o, g₀.get? b = some o → s.heap.get? b = some o := fun b o e => S.kept _ _ (S.root _ _ e)
  Name_function_global ok.kind hx (loadGlobal_builtin (by rw [ok.globs]; exact G.g.keeps gr) hv.1 (by rw [ok.bns]; exact G.b.keeps gr) hv.2 h) hd

theorem EvV.len {p pos : Pos} {e : Expr} {Q : V → Row → Prop} (G : Gl mg mb g₀ recs)
    (h : EvV mg g₀ prog w env k e ρ fun X ρ1 => ∃ xs, X = .list xs ∧ (xs.length : Int) < 2 ^ 63 ∧ Q (.int xs.length) ρ1)
    (hs : noStar e = true := by with_unfolding_all rfl) (hx : env.kindOf "len" = some .globalImplicit := by with_unfolding_all rfl) : EvV mg g₀ prog w env k (.Call (.Name "len" p) [e] [] pos) ρ Q := by
  refine ⟨?_⟩
  intro A κ Φ z s K E ok S c
  refine wpAny_Call_NameR (builtin_load G ok S G.len hx ?_)
  refine callWith_builtin1 ?_ (starEach_cons hs) rfl
  refine wpAny_items_cons (h.run A κ Φ z s _ E ok S ?_) (starEach_cons hs)
  intro v X ρ1 z1 h1 tk1 hI1 hz1 S1 r1
  refine hideG fun gHid hHid => ?_
  obtain ⟨xs, rfl, hl, hq⟩ := hI1
  refine hHid ?_; clear hHid gHid
  refine wpAny_items_nil ?_
  cases r1 with
  | list e r => exact PyProof.Rows.len_list (isListO (S1.zin _ _ e)) (by simpa [r.length] using hl) (c _ _ _ _ _ _ (by simpa [r.length] using hq) hz1 S1 (by simpa [r.length] using Holds.int _ _))

theorem EvV.lenOwn {x : Str} {p p' pos : Pos} {B : Bnd} {a : Addr} {xs : List V} {Q : V → Row → Prop} (G : Gl mg mb g₀ recs) (hB : B.Own a xs) (hm : (x, B) ∈ ρ) (hl : (xs.length : Int) < 2 ^ 63) (hq : Q (.int xs.length) ρ)
    (hx : env.kindOf "len" = some .globalImplicit := by with_unfolding_all rfl) : EvV mg g₀ prog w env k (.Call (.Name "len" p) [.Name x p'] [] pos) ρ Q := by
  refine ⟨?_⟩
  intro A κ Φ z s K E ok S c
  refine wpAny_Call_NameR (builtin_load G ok S G.len hx ?_)
  refine callWith_builtin1 ?_ rfl rfl
  refine hideG fun gHid hHid => ?_
  obtain ⟨m, hn, bd⟩ := S.ownRef hB hm
  refine hHid ?_; clear hHid gHid
  refine hideG fun gHid hHid => ?_
  obtain ⟨⟨vs, n, e, r⟩, _⟩ := S.ownAt hB hm
  refine hHid ?_; clear hHid gHid
  refine wpAny_items_cons (wpAny_Name (S.load ok.kind hm hn bd ?_) (S.dbg x (List.mem_map.mpr ⟨_, hm, rfl⟩)).1) rfl
  refine wpAny_items_nil ?_
  exact PyProof.Rows.len_list (isListO e) (by simpa [r.length] using hl) (c _ _ _ _ _ _ (by simpa [r.length] using hq) (Le.refl _) S (by simpa [r.length] using Holds.int _ _))

theorem EvV.abs {p pos : Pos} {e : Expr} {Q : V → Row → Prop} (G : Gl mg mb g₀ recs)
    (h : EvV mg g₀ prog w env k e ρ fun X ρ1 => ∃ i, X = .int i ∧ Q (.int (if i < 0 then -i else i)) ρ1)
    (hs : noStar e = true := by with_unfolding_all rfl) (hx : env.kindOf "abs" = some .globalImplicit := by with_unfolding_all rfl) : EvV mg g₀ prog w env k (.Call (.Name "abs" p) [e] [] pos) ρ Q := by
  refine ⟨?_⟩
  intro A κ Φ z s K E ok S c
  refine wpAny_Call_NameR (builtin_load G ok S G.abs hx ?_)
  refine callWith_builtin1 ?_ (starEach_cons hs) rfl
  refine wpAny_items_cons (h.run A κ Φ z s _ E ok S ?_) (starEach_cons hs)
  intro v X ρ1 z1 h1 tk1 hI1 hz1 S1 r1
  refine hideG fun gHid hHid => ?_
  obtain ⟨i, rfl, hq⟩ := hI1
  refine hHid ?_; clear hHid gHid
  refine wpAny_items_nil ?_
  cases r1
  exact call_abs_int fun u tk => c _ _ _ _ _ tk hq hz1 S1 (.int _ _)

theorem EvV.intCall {p pos : Pos} {e : Expr} {Q : V → Row → Prop} (G : Gl mg mb g₀ recs)
    (h : EvV mg g₀ prog w env k e ρ fun X ρ1 => ∃ i, X = .int i ∧ Q (.int i) ρ1)
    (hs : noStar e = true := by with_unfolding_all rfl) (hx : env.kindOf "int" = some .globalImplicit := by with_unfolding_all rfl) : EvV mg g₀ prog w env k (.Call (.Name "int" p) [e] [] pos) ρ Q := by
  refine ⟨?_⟩
  intro A κ Φ z s K E ok S c
  refine wpAny_Call_NameR (builtin_load G ok S G.int hx ?_)
  refine PyProof.Rows.callWith_type1 ?_ (starEach_cons hs) rfl
  refine wpAny_items_cons (h.run A κ Φ z s _ E ok S ?_) (starEach_cons hs)
  intro v X ρ1 z1 h1 tk1 hI1 hz1 S1 r1
  refine hideG fun gHid hHid => ?_
  obtain ⟨i, rfl, hq⟩ := hI1
  refine hHid ?_; clear hHid gHid
  refine wpAny_items_nil ?_
  cases r1
  exact call_int_int (c _ _ _ _ _ tk1 hq hz1 S1 (.int _ _))

theorem EvV.min2 {p pos : Pos} {e f : Expr} {Q : V → Row → Prop} (G : Gl mg mb g₀ recs)
    (h : EvV mg g₀ prog w env k e ρ fun X ρ1 => ∃ i, X = .int i ∧ EvV mg g₀ prog w env k f ρ1 fun Y ρ2 => ∃ j, Y = .int j ∧ Q (.int (if j < i then j else i)) ρ2)
    (hs : noStar e = true := by with_unfolding_all rfl) (hs' : noStar f = true := by with_unfolding_all rfl) (hx : env.kindOf "min" = some .globalImplicit := by with_unfolding_all rfl) : EvV mg g₀ prog w env k (.Call (.Name "min" p) [e, f] [] pos) ρ Q := by
  refine ⟨?_⟩
  intro A κ Φ z s K E ok S c
  refine wpAny_Call_NameR (builtin_load G ok S G.min hx ?_)
  refine callWith_builtin1 ?_ (starEach_cons hs) (backTo_any (by simp [hs']))
  refine wpAny_items_cons (h.run A κ Φ z s _ E ok S ?_) (starEach_cons hs)
  intro v X ρ1 z1 h1 tk1 hI1 hz1 S1 r1
  refine hideG fun gHid hHid => ?_
  obtain ⟨i, rfl, h'⟩ := hI1
  refine hHid ?_; clear hHid gHid
  refine wpAny_items_cons (h'.run A κ Φ z1 _ _ E ok S1 ?_) (starEach_cons hs')
  intro v X ρ2 z2 h2 tk2 hI1 hz2 S2 r2
  refine hideG fun gHid hHid => ?_
  obtain ⟨j, rfl, hq⟩ := hI1
  refine hHid ?_; clear hHid gHid
  refine wpAny_items_nil ?_
  have r1' := r1.mono hz2
  cases r1'; cases r2
  refine min_two_ints ok.handled fun h3 tk3 g => ?_
  have S3 := S2.grow (h' := h3) g
  split
  · exact c _ _ _ _ _ tk3 (by simpa [*] using hq) (hz1.trans hz2) S3 (.int _ _)
  · exact c _ _ _ _ _ tk3 (by simpa [*] using hq) (hz1.trans hz2) S3 (.int _ _)

/-- a part of a slice -/
def EvP (mg : Str → Option Value) (g₀ : Heap) (prog : Program) (w : World) (env : Env) (k : Nat) : Option Expr → Row → (Option Int → Row → Prop) → Prop
  | none, ρ, Q => Q none ρ
  | some e, ρ, Q => EvV mg g₀ prog w env k e ρ fun X ρ1 => ∃ i, X = .int i ∧ Q (some i) ρ1

theorem EvP.run {A : Around} {κ z : PH} {Φ : Addr → Prop} {s : Shared} {K : Value → Shared → Prop} {E : Value → Shared → Prop} {o : Option Expr} {Q : Option Int → Row → Prop} (h : EvP mg g₀ prog w env k o ρ Q) (ok : OkA env k A) (S : St mg g₀ env κ Φ ρ z s.heap)
    (c : ∀ v i ρ' z' h' tk, Q i ρ' → Le z z' → St mg g₀ env κ Φ ρ' z' h' → IsPart v i → K v { s with heap := h', toks := tk }) : wpAny (model prog w) A (evalPart o env) K E s := by
  cases o with
  | none => rw [evalPart_none]; exact wpAny_pure (c _ _ _ _ _ s.toks h (Le.refl _) S .none)
  | some e =>
    rw [evalPart_some]
    refine EvV.run h A κ Φ z s _ E ok S ?_
    intro v X ρ1 z1 h1 tk1 hI1 hz1 S1 r1
    refine hideG fun gHid hHid => ?_
    obtain ⟨i, rfl, hq⟩ := hI1
    refine hHid ?_; clear hHid gHid
    cases r1
    exact c _ _ _ _ _ tk1 hq hz1 S1 (.int _ _)

/-- a fresh list at the heap's end -/
theorem St.fresh {κ z : PH} {Φ : Addr → Prop} {h : Heap} {vs : List Value} {xs : List V} (S : St mg g₀ env κ Φ ρ z h) (r : HoldsL mg z vs xs) :
    St mg g₀ env κ Φ ρ z (h.push (listO vs 0)) ∧ RelB mg κ z Φ (h.push (listO vs 0)) (some (.ref h.objs.size)) (.own h.objs.size xs) ∧ (∀ a ∈ (Bnd.own h.objs.size xs).addrs, a ∉ ρ.addrs) ∧ (Bnd.own h.objs.size xs).addrs.Nodup := by
  have U := S.unused (fresh_size h)
  refine ⟨S.grow (Grow.push h _), ⟨rfl, ⟨⟨vs, 0, Heap.get?_push_size _ rfl, r⟩, U.nk, U.nz⟩, fun q => ?_⟩, fun a ha => ?_, by simp [Bnd.addrs]⟩
  · refine hideG fun gHid hHid => ?_
    obtain ⟨o', e⟩ := S.offIn _ q
    refine hHid ?_; clear hHid gHid
    rw [fresh_size] at e; cases e
  · simp [Bnd.addrs] at ha; subst ha; exact U.nA

theorem EvE.slice {value : Expr} {lo hi : Option Expr} {p pos : Pos} {Q : Bnd → Row → Prop}
    (h : EvV mg g₀ prog w env k value ρ fun X ρ1 => ∃ xs, X = .list xs ∧ xs.length ≤ 2 ^ 24 ∧ EvP mg g₀ prog w env k lo ρ1 fun i ρ2 => EvP mg g₀ prog w env k hi ρ2 fun j ρ3 =>
      ∀ a, Q (.own a ((xs.drop (clipI i 0 xs.length)).take (clipI j xs.length xs.length - clipI i 0 xs.length))) ρ3)
    (ht : ∀ o r, letTemporaryGo value o r = pure () := by intro _ _; with_unfolding_all rfl) : EvE mg g₀ prog w env k (.Subscript value (.Slice lo hi none p) pos) ρ Q := by
  refine ⟨?_⟩
  intro A κ Φ z s K E ok S c
  refine wpAny_Subscript_list_slice (h.run A κ Φ z s _ E ok S ?_) ht
  intro v X ρ1 z1 h1 tk1 hI1 hz1 S1 r1
  refine hideG fun gHid hHid => ?_
  obtain ⟨xs, rfl, hl, h'⟩ := hI1
  refine hHid ?_; clear hHid gHid
  refine h'.run ok S1 ?_
  rintro vl i ρ2 z2 h2 tk2 h'' hz2 S2 pl
  refine h''.run ok S2 ?_
  rintro vu j ρ3 z3 h3 tk3 hq hz3 S3 pu
  have r3 := (r1.mono hz2).mono hz3
  cases r3 with
  | list e r =>
    have hlen := r.length
    refine ⟨_, _, i, j, rfl, isListO (S3.zin _ _ e), by simpa [hlen, sizeLine] using hl, pl, pu, ?_⟩
    rw [slicePick_clip, hlen]
    have S4 := S3.grow (Grow.push h3 { cls := .type "slice", data := .fields #[vl, vu, .none] })
    have hsz : (h3.push { cls := .type "slice", data := .fields #[vl, vu, .none] }).objs.size = h3.objs.size + 1 := Heap.size_push ..
    refine hideG fun gHid hHid => ?_
    obtain ⟨S5, R5, d5, n5⟩ := S4.fresh (vs := (List.drop (clipI i 0 xs.length) _).take (clipI j xs.length xs.length - clipI i 0 xs.length)) r.drop.take
    refine hHid ?_; clear hHid gHid
    rw [hsz] at R5 d5 n5
    exact c _ _ _ _ _ tk3 (hq (h3.objs.size + 1)) ((hz1.trans hz2).trans hz3) S5 R5 d5 n5

theorem add_listsO {A : Around} {E : Value → Shared → Prop} {s : Shared} {l b : Addr} {vs ws : List Value} {n n2 : Nat} {Q : Value → Shared → Prop} (ho : s.heap.get? l = some (listO vs n)) (ho2 : s.heap.get? b = some (listO ws n2))
    (h : Q (.ref s.heap.objs.size) { s with heap := s.heap.push (listO (vs ++ ws) 0) }) (hsz : vs.length + ws.length ≤ sizeLine) : wpAny (model prog w) A (binaryOp .Add (.ref l) (.ref b)) Q E s := by
  have e : vs.toArray ++ ws.toArray = (vs ++ ws).toArray := by simp
  refine concat_meets ⟨_, ho, rfl⟩ ⟨_, ho2, rfl⟩ noFill_list_add seq_list_add PySem.F.slot_list_add PySem.F.entry_list_add (PySem.F.args_list_add_2 _ _) (list_addW l b vs.toArray ws.toArray n n2 none none #[] #[] (by simpa using hsz)) ⟨ho, ho2, ?_⟩
  rw [e]
  exact h

theorem mul_listO {A : Around} {E : Value → Shared → Prop} {s : Shared} {l : Addr} {v : Value} {n : Nat} {x : Int} {u : Tok} {Q : Value → Shared → Prop} (hl : s.heap.get? l = some (listO [v] n)) (h0 : 0 ≤ x) (hx : x ≤ 2 ^ 24)
    (h : Q (.ref s.heap.objs.size) { s with heap := s.heap.push (listO (List.replicate x.toNat v) 0) }) : wpAny (model prog w) A (binaryOp .Mult (.ref l) (.int x u)) Q E s := by
  have e : ∀ (j : Nat) (acc : Array Value), List.foldl (fun x1 x2 => x1 ++ x2) acc (List.replicate j #[v]) = acc ++ (List.replicate j v).toArray := by
    intro j
    induction j with
    | zero => intro acc; simp
    | succ j ih => intro acc; rw [List.replicate_succ, List.foldl_cons, ih, List.replicate_succ]; apply Array.toList_inj.mp; simp
  have h1 : (List.toArray [v]).size = 1 := rfl
  have e3 : List.foldl (fun x1 x2 => x1 ++ x2) #[] (List.replicate x.toNat #[v]) = (List.replicate x.toNat v).toArray := by simpa using e x.toNat #[]
  refine wpAny_binaryOp_repeat_ref (T := "list") (U := "int") (by decide) ⟨_, hl, rfl⟩ (fun s' => typeIs_int s' x u) noFill_list_mul F.fills_int_mul F.slot_int_rmul repeat_list F.slot_int_index.lookup
    (call_meets F.slot_int_rmul (typeIs_int s x u) F.entry_int_rmul (F.args_int_rmul_2 _ _) (int___rmul___int_list x u l _ n)
      ⟨hl, rfl, ⟨_, hl, rfl⟩, call_meets F.slot_list_mul ⟨_, hl, rfl⟩ F.entry_list_mul (F.args_list_mul_2 _ _)
        (AutoListH.list___mul___list_int_3 l _ n x u (by simp [Builtin.List.listFitsIndex]; lia) (by rw [h1]; lia) (by simp only [Builtin.List.listTooLong, sizeLine, h1, decide_eq_true_eq]; lia))
        ⟨hl, ?_⟩⟩)
  show Q _ { s with heap := s.heap.push { cls := .type "list", data := .seq (List.foldl (fun x1 x2 => x1 ++ x2) #[] (List.replicate x.toNat #[v])) } }
  rw [e3]
  exact h

theorem EvE.cat {l r : Expr} {pos : Pos} {Q : Bnd → Row → Prop}
    (h : EvV mg g₀ prog w env k l ρ fun X ρ1 => ∃ xs, X = .list xs ∧ EvV mg g₀ prog w env k r ρ1 fun Y ρ2 => ∃ ys, Y = .list ys ∧ xs.length + ys.length ≤ 2 ^ 24 ∧ ∀ a, Q (.own a (xs ++ ys)) ρ2) : EvE mg g₀ prog w env k (.BinOp l .Add r pos) ρ Q := by
  refine ⟨?_⟩
  intro A κ Φ z s K E ok S c
  refine wpAny_BinOp (h.run A κ Φ z s _ E ok S ?_)
  intro v X ρ1 z1 h1 tk1 hI1 hz1 S1 r1
  refine hideG fun gHid hHid => ?_
  obtain ⟨a, rfl, h'⟩ := hI1
  refine hHid ?_; clear hHid gHid
  refine h'.run A κ Φ z1 _ _ E ok S1 ?_
  intro u Y ρ2 z2 h2 tk2 hI1 hz2 S2 r2
  refine hideG fun gHid hHid => ?_
  obtain ⟨b, rfl, hl, hq⟩ := hI1
  refine hHid ?_; clear hHid gHid
  have r1' := r1.mono hz2
  cases r1' with
  | list e1 ra =>
    cases r2 with
    | list e2 rb =>
      refine add_listsO (S2.zin _ _ e1) (S2.zin _ _ e2) ?_ (by rw [ra.length, rb.length]; exact hl)
      refine hideG fun gHid hHid => ?_
      obtain ⟨S3, R3, d3, n3⟩ := S2.fresh (ra.append rb)
      refine hHid ?_; clear hHid gHid
      exact c _ _ _ _ _ tk2 (hq _) (hz1.trans hz2) S3 R3 d3 n3

/-- [v] * n -/
theorem EvE.rep {l r : Expr} {pos : Pos} {Q : Bnd → Row → Prop}
    (h : EvV mg g₀ prog w env k l ρ fun X ρ1 => ∃ x, X = .list [x] ∧ EvV mg g₀ prog w env k r ρ1 fun Y ρ2 => ∃ i, Y = .int i ∧ 0 ≤ i ∧ i ≤ 2 ^ 24 ∧ ∀ a, Q (.own a (List.replicate i.toNat x)) ρ2) : EvE mg g₀ prog w env k (.BinOp l .Mult r pos) ρ Q := by
  refine ⟨?_⟩
  intro A κ Φ z s K E ok S c
  refine wpAny_BinOp (h.run A κ Φ z s _ E ok S ?_)
  intro v X ρ1 z1 h1 tk1 hI1 hz1 S1 r1
  refine hideG fun gHid hHid => ?_
  obtain ⟨a, rfl, h'⟩ := hI1
  refine hHid ?_; clear hHid gHid
  refine h'.run A κ Φ z1 _ _ E ok S1 ?_
  intro u Y ρ2 z2 h2 tk2 hI1 hz2 S2 r2
  refine hideG fun gHid hHid => ?_
  obtain ⟨b, rfl, h0, hl, hq⟩ := hI1
  refine hHid ?_; clear hHid gHid
  have r1' := r1.mono hz2
  cases r2
  cases r1' with
  | list e1 ra =>
    cases ra with
    | cons rv rn =>
      cases rn
      refine mul_listO (S2.zin _ _ e1) h0 hl ?_
      obtain ⟨S3, R3, d3, n3⟩ := S2.fresh (vs := List.replicate b.toNat _) (xs := List.replicate b.toNat a) (by
        generalize b.toNat = j
        induction j with
        | zero => exact .nil
        | succ j ih => exact .cons rv ih)
      exact c _ _ _ _ _ tk2 (hq _) (hz1.trans hz2) S3 R3 d3 n3

/-- x.bit_length() of an int -/
theorem EvV.bitLen {o : Expr} {apos pos : Pos} {Q : V → Row → Prop} (h : EvV mg g₀ prog w env k o ρ fun X ρ1 => ∃ i, X = .int i ∧ Q (.int (Builtin.Int.intBits i)) ρ1)
    (hb : attributeBase o "bit_length" env (eval o env) = eval o env := by with_unfolding_all rfl) (hl : (apos.endLine == pos.line) = true := by with_unfolding_all rfl) : EvV mg g₀ prog w env k (.Call (.Attribute o "bit_length" apos) [] [] pos) ρ Q := by
  refine ⟨?_⟩
  intro A κ Φ z s K E ok S c
  refine wpAny_Call_method (T := "int") hb rfl hl F.plainAttrs_int F.slot_int_bit_length F.type_int_bit_length (h.run A κ Φ z s _ E ok S ?_)
  intro v X ρ1 z1 h1 tk1 hI1 hz1 S1 r1
  refine hideG fun gHid hHid => ?_
  obtain ⟨i, rfl, hq⟩ := hI1
  refine hHid ?_; clear hHid gHid
  cases r1
  exact ⟨typeIs_int _ _ _, (by intro a e; cases e), callWith_method0 (call_int_bit_length (c _ _ _ _ _ _ hq hz1 S1 (.int _ _)))⟩

/-- x.append(e) of a list of one's own -/
theorem EvV.append {x : Str} {p apos pos : Pos} {e : Expr} {B : Bnd} {a : Addr} {xs : List V} {Q : V → Row → Prop} (hB : B.Own a xs) (hm : (x, B) ∈ ρ) (hsz : xs.length ≤ 2 ^ 24)
    (h : EvV mg g₀ prog w env k e ρ fun Y ρ1 => (x, B) ∈ ρ1 ∧ ∃ C ρ2, Bnd.To B C (xs ++ [Y]) ∧ Upd x C ρ1 ρ2 ∧ Q .none ρ2)
    (hs : noStar e = true := by with_unfolding_all rfl) (hl : (apos.endLine == pos.line) = true := by with_unfolding_all rfl) : EvV mg g₀ prog w env k (.Call (.Attribute (.Name x p) "append" apos) [e] [] pos) ρ Q := by
  refine ⟨?_⟩
  intro A κ Φ z s K E ok S c
  refine hideG fun gHid hHid => ?_
  obtain ⟨m, hn, bd⟩ := S.ownRef hB hm
  refine hHid ?_; clear hHid gHid
  have htrees : backTo pos (starEach [e] env) = [(false, eval e env)] := by rw [starEach_cons hs]; rfl
  refine wpAny_Call_append rfl (by rw [htrees]; rfl) hl htrees (wpAny_Name (S.load ok.kind hm hn bd ?_) (S.dbg x (List.mem_map.mpr ⟨_, hm, rfl⟩)).1)
  refine hideG fun gHid hHid => ?_
  obtain ⟨⟨vs0, n0, e0, r0⟩, _⟩ := S.ownAt hB hm
  refine hHid ?_; clear hHid gHid
  refine ⟨a, vs0.toArray, rfl, ⟨_, _, e0, rfl, rfl, rfl⟩, ?_⟩
  refine h.run A κ Φ z s _ E ok S ?_
  intro v Y ρ1 z1 h1 tk1 hI1 hz1 S1 r1
  refine hideG fun gHid hHid => ?_
  obtain ⟨hm1, C, ρ2, hC, u, hq⟩ := hI1
  refine hHid ?_; clear hHid gHid
  refine hideG fun gHid hHid => ?_
  obtain ⟨⟨vs, n, ea, ra⟩, ka, za⟩ := S1.ownAt hB hm1
  refine hHid ?_; clear hHid gHid
  refine wpAny_call_entry slot_list_append (isListO ea).typeIs entry_list_append ?_ (args_list_append _ _)
  show wpAny _ _ (updateSeq a (·.push v) >>= fun _ => ret .none) _ _ _
  have hsl : vs.length ≤ 2 ^ 24 := by rw [ra.length]; exact hsz
  refine wpAny_bind (wpAny_updateSeq ea rfl (wpAny_pure ⟨.none, rfl, ?_⟩) (by simpa [sizeLine] using hsl) (by simp [sizeLine]; omega))
  have e2 : (h1.update a (Obj.mapSeq (·.push v))).get? a = some (listO (vs ++ [v]) (n + 1)) := by
    rw [Heap.get?_update_self _ ea rfl]
    simp [Obj.mapSeq, listO]
  refine c _ _ ρ2 z1 _ tk1 hq hz1 (S1.mut u hm1 (a := a) (by cases hB <;> simp [Bnd.addrs]) (by cases hC <;> rfl) (Heap.SameBut.update ..).extBut (by rw [e2]; rfl) fun ov R => ?_) .none
  cases hC
  · cases hB; exact ⟨R.1, ⟨⟨_, _, e2, ra.append (.cons r1 .nil)⟩, ka, za⟩, R.2.2⟩
  · cases hB; exact ⟨R.1, ⟨⟨_, _, e2, ra.append (.cons r1 .nil)⟩, ka, za⟩⟩
end
end Mine
namespace Mine
open PySem PySem.Calls

theorem Upd.old {x : Str} {B : Bnd} : ∀ {ρ ρ' : Row}, Upd x B ρ ρ' → ∃ C, (x, C) ∈ ρ
  | _, _, .here => ⟨_, List.mem_cons_self⟩
  | _, _, .there u => let ⟨C, h⟩ := u.old; ⟨C, List.mem_cons_of_mem _ h⟩

section
variable {mg mb : Str → Option Value} {g₀ : Heap} {recs : List DefRec} {prog : Program} {w : World} {env : Env} {k : Nat} {ρ ρ' : Row}

/-- a store into a name; what else is pending stays -/
theorem store_run {κ z : PH} {Φ : Addr → Prop} {A : Around} {E : Value → Shared → Prop} {s : Shared} {x : Str} {B : Bnd} {v : Value} {Q : Unit → Shared → Prop} (ok : OkA env k A) (S : St mg g₀ env κ Φ ρ z s.heap)
    (u : Upd x B ρ ρ') (R : RelB mg κ z Φ s.heap (some v) B) (hd : ∀ a ∈ B.addrs, a ∉ ρ.addrs) (hn : B.addrs.Nodup)
    (c : ∀ h' tk, St mg g₀ env κ Φ ρ' z h' → (∀ ov C, RelB mg κ z Φ s.heap ov C → RelB mg κ z Φ h' ov C) → Q () { s with heap := h', toks := tk }) : wpAny (model prog w) A (storeName env x v) Q E s := by
  refine hideG fun gHid hHid => ?_
  obtain ⟨m, ns, f⟩ := S.frame
  refine hHid ?_; clear hHid gHid
  refine hideG fun gHid hHid => ?_
  obtain ⟨C, hm⟩ := u.old
  refine hHid ?_; clear hHid gHid
  refine hideG fun gHid hHid => ?_
  obtain ⟨ov, bd, R0⟩ := f _ _ hm
  refine hHid ?_; clear hHid gHid
  have nd := u.nodup S.nodup hn hd
  have ch : ∀ {h' : Heap} {d : Addr}, Heap.SameBut d s.heap h' → (∀ vs n, s.heap.get? d ≠ some (listO vs n)) → ∀ ov C, RelB mg κ z Φ s.heap ov C → RelB mg κ z Φ h' ov C := fun {h' d} s' nd ov C R =>
    R.change (fun a ha o e => (s'.2 a (fun q : a = d => by obtain ⟨⟨vs, n, e'⟩, _⟩ := R.at a ha; exact nd vs n (q ▸ e'))).trans e) (Le.refl _) fun a _ k1 k2 => ⟨k1, k2, id⟩
  have cell : ∀ c, env.cells.lookup x = some c → s.heap.IsCell c ov → κ c = none → z c = none → (env.kindOf x = some .cell ∨ env.kindOf x = some .free) → ∀ h', h'.IsCell c (some v) → Heap.SameBut c s.heap h' → Q () { s with heap := h' } := by
    intro c' e ic k1 k2 hk h' ic' s'
    refine c h' s.toks (S.stored u R nd f ns (.inr ⟨c', hk, e, k1, k2, ⟨_, ic⟩, ic', s'⟩)) (ch s' fun vs n e' => ?_)
    obtain ⟨o, ho, hd⟩ := ic; rw [e'] at ho; cases ho; cases hd
  rcases bd with ⟨hk, _⟩ | ⟨hk | hk, c', e, ic, k1, k2⟩
  · refine wpAny_storeName_local hk ns (fun h' n' s' => c h' _ (S.stored u R nd f ns (.inl ⟨hk, n', s'⟩)) (ch s' fun vs n e' => ?_)) (by simp [ok.kind])
    obtain ⟨o, _, _, ho, hd, _⟩ := ns; rw [e'] at ho; cases ho; cases hd
  · exact wpAny_storeName_cell ok.kind hk e ic (cell c' e ic k1 k2 (.inl hk))
  · unfold storeName
    simp only [hk, ok.kind]
    exact wpAny_bind (wpAny_cellOf e (wpAny_cellSet ic (cell c' e ic k1 k2 (.inr hk))))

theorem ExS.nil {Q : Out → Row → Prop} (hq : Q .next ρ) : ExS mg g₀ prog w env k [] ρ Q := by
  refine ⟨?_⟩
  intro A κ Φ z s K E ok S c
  exact wpAny_execs_nil (c _ .next _ _ _ s.toks hq (Le.refl _) S trivial)

theorem ExS.cons {st : Stmt} {rest : List Stmt} {Q : Out → Row → Prop} (h : Ex1 mg g₀ prog w env k st ρ fun o ρ1 => match o with | .next => ExS mg g₀ prog w env k rest ρ1 Q | o => Q o ρ1) : ExS mg g₀ prog w env k (st :: rest) ρ Q := by
  refine ⟨?_⟩
  intro A κ Φ z s K E ok S c
  refine wpAny_execs_cons (h.run A κ Φ z s _ E ok S ?_)
  intro fl o ρ1 z1 h1 tk1 hq hz1 S1 r1
  cases fl <;> cases o <;> simp only [FlowR] at r1
  · exact hq.run A κ Φ z1 _ _ E ok S1 fun fl o ρ2 z2 h2 tk2 hq2 hz2 S2 r2 => c fl o ρ2 z2 h2 tk2 hq2 (hz1.trans hz2) S2 r2
  · exact c _ _ _ _ _ tk1 hq hz1 S1 trivial
  · exact c _ _ _ _ _ tk1 hq hz1 S1 trivial
  · exact c _ _ _ _ _ tk1 hq hz1 S1 r1

theorem Ex1.assign {x : Str} {p pos : Pos} {value : Expr} {Q : Out → Row → Prop} (h : EvE mg g₀ prog w env k value ρ fun B ρ1 => ∃ ρ2, Upd x B ρ1 ρ2 ∧ Q .next ρ2)
    (hs : swapsWith value (some (.Name x p)) pos.line env = pure false := by with_unfolding_all rfl) : Ex1 mg g₀ prog w env k (.Assign [.Name x p] value pos) ρ Q := by
  refine ⟨?_⟩
  intro A κ Φ z s K E ok S c
  refine wpAny_Assign_Name (h.run A κ Φ z s _ E ok S ?_) hs
  intro v B ρ1 z1 h1 tk1 hI1 hz1 S1 R hd hn
  refine hideG fun gHid hHid => ?_
  obtain ⟨ρ2, u, hq⟩ := hI1
  refine hHid ?_; clear hHid gHid
  exact store_run (s := { s with heap := h1, toks := tk1 }) ok S1 u R hd hn fun h' tk S2 _ => c _ .next _ _ _ _ hq hz1 S2 trivial

theorem Ex1.assignV {x : Str} {p pos : Pos} {value : Expr} {Q : Out → Row → Prop} (h : EvV mg g₀ prog w env k value ρ fun X ρ1 => ∃ ρ2, Upd x (.val X) ρ1 ρ2 ∧ Q .next ρ2)
    (hs : swapsWith value (some (.Name x p)) pos.line env = pure false := by with_unfolding_all rfl) : Ex1 mg g₀ prog w env k (.Assign [.Name x p] value pos) ρ Q := Ex1.assign (EvE.ofV h) hs

theorem Ex1.aug {x : Str} {p pos : Pos} {op : Operator} {value : Expr} {a : Int} {Q : Out → Row → Prop} (hm : (x, Bnd.val (.int a)) ∈ ρ)
    (h : EvV mg g₀ prog w env k value ρ fun Y ρ1 => ∃ b, Y = .int b ∧ ∃ c ρ2, BinV op a b c ∧ Upd x (.val (.int c)) ρ1 ρ2 ∧ Q .next ρ2) : Ex1 mg g₀ prog w env k (.AugAssign (.Name x p) op value pos) ρ Q := by
  refine ⟨?_⟩
  intro A κ Φ z s K E ok S c
  refine hideG fun gHid hHid => ?_
  obtain ⟨m, hn, f⟩ := S.frame
  refine hHid ?_; clear hHid gHid
  refine hideG fun gHid hHid => ?_
  obtain ⟨ov, bd, v, rfl, r⟩ := f _ _ hm
  refine hHid ?_; clear hHid gHid
  refine wpAny_AugAssign_Name (S.load ok.kind hm hn bd (h.run A κ Φ z s _ E ok S ?_))
  intro v' Y ρ1 z1 h1 tk1 hI1 hz1 S1 r1
  refine hideG fun gHid hHid => ?_
  obtain ⟨b, rfl, d, ρ2, bv, u, hq⟩ := hI1
  refine hHid ?_; clear hHid gHid
  have r' := r.mono hz1
  cases r'; cases r1
  exact bv.irun fun tk => store_run (s := { s with heap := h1, toks := tk1 + 1 }) ok S1 u ⟨_, rfl, .int _ _⟩ (fun a ha => by simp [Bnd.addrs] at ha) (by simp [Bnd.addrs]) fun h' tk S2 _ => c _ .next _ _ _ _ hq hz1 S2 trivial

theorem Ex1.ret {e : Expr} {pos : Pos} {Q : Out → Row → Prop} (h : EvV mg g₀ prog w env k e ρ fun X ρ1 => Q (.ret X) ρ1) : Ex1 mg g₀ prog w env k (.Return (some e) pos) ρ Q := by
  refine ⟨?_⟩
  intro A κ Φ z s K E ok S c
  exact wpAny_Return_some (h.run A κ Φ z s _ E ok S fun v X ρ1 z1 h1 tk1 hq hz1 S1 r1 => c _ (.ret X) _ _ _ _ hq hz1 S1 r1)

theorem Ex1.cont {pos : Pos} {Q : Out → Row → Prop} (hq : Q .cont ρ) : Ex1 mg g₀ prog w env k (.Continue pos) ρ Q := by
  refine ⟨?_⟩
  intro A κ Φ z s K E ok S c
  exact wpAny_Continue (c _ .cont _ _ _ s.toks hq (Le.refl _) S trivial)

theorem Ex1.ite {t : Expr} {b o : List Stmt} {pos : Pos} {Q : Out → Row → Prop} (h : EvT mg g₀ prog w env k t ρ fun c ρ1 => if c = true then ExS mg g₀ prog w env k b ρ1 Q else ExS mg g₀ prog w env k o ρ1 Q) : Ex1 mg g₀ prog w env k (.If t b o pos) ρ Q := by
  refine ⟨?_⟩
  intro A κ Φ z s K E ok S c
  refine wpAny_If (h.run A κ Φ z s _ E ok S ?_)
  rintro b' ρ1 z1 h1 tk1 hq hz1 S1
  cases b' with
  | true => exact (show ExS mg g₀ prog w env k b ρ1 Q by simpa using hq).run A κ Φ z1 _ _ E ok S1 fun fl o ρ2 z2 h2 tk2 hq hz2 S2 r2 => c fl o _ _ _ tk2 hq (hz1.trans hz2) S2 r2
  | false => exact (show ExS mg g₀ prog w env k o ρ1 Q by simpa using hq).run A κ Φ z1 _ _ E ok S1 fun fl o ρ2 z2 h2 tk2 hq hz2 S2 r2 => c fl o _ _ _ tk2 hq (hz1.trans hz2) S2 r2

/-- a statement that is an expression that gives None -/
theorem Ex1.expr {e : Expr} {pos : Pos} {Q : Out → Row → Prop} (h : EvV mg g₀ prog w env k e ρ fun X ρ1 => X = .none ∧ Q .next ρ1) (hs : swapsWith e none pos.line env = pure false := by with_unfolding_all rfl) : Ex1 mg g₀ prog w env k (.Expr e pos) ρ Q := by
  refine ⟨?_⟩
  intro A κ Φ z s K E ok S c
  refine wpAny_Expr (h.run A κ Φ z s _ E ok S ?_) (by unfold interactive; rw [ok.kind]; rfl) hs
  intro v X ρ1 z1 h1 tk1 hI1 hz1 S1 r1
  refine hideG fun gHid hHid => ?_
  obtain ⟨rfl, hq⟩ := hI1
  refine hHid ?_; clear hHid gHid
  cases r1
  exact c _ .next _ _ _ _ hq hz1 S1 trivial

theorem set_run {κ z : PH} {Φ : Addr → Prop} {A : Around} {E : Value → Shared → Prop} {s : Shared} {x : Str} {B C : Bnd} {a : Addr} {xs : List V} {X : V} {v : Value} {i : Int} {t : Tok} {Q : Unit → Shared → Prop}
    (S : St mg g₀ env κ Φ ρ z s.heap) (hB : B.Own a xs) (hm : (x, B) ∈ ρ) (h0 : 0 ≤ i) (h1 : i < xs.length) (h2 : i < 2 ^ 63) (r : Holds mg z v X) (hC : Bnd.To B C (xs.set i.toNat X)) (u : Upd x C ρ ρ')
    (c : ∀ h', St mg g₀ env κ Φ ρ' z h' → Q () { s with heap := h' }) : wpAny (model prog w) A (setItem (.ref a) (.int i t) v) Q E s := by
  refine hideG fun gHid hHid => ?_
  obtain ⟨⟨vs, n, ea, ra⟩, ka, za⟩ := S.ownAt hB hm
  refine hHid ?_; clear hHid gHid
  have hi : i.toNat < vs.length := by rw [ra.length]; lia
  unfold setItem
  try with_reducible refine wpAny_holding ?_
  first | refine wpAny_bind (wpAny_pure ?_) | skip
  refine wpAny_bind (wpAny_sequenceKey (isListO ea).typeIs (by decide) ?_)
  refine wpAny_bind (wpAny_callSpecial?_slot (name := Str.ofString "__setitem__") (isListO ea).typeIs slot_list_setitem
    (wpAny_call_entry slot_list_setitem (isListO ea).typeIs entry_list_setitem ?_ (args_list_setitem _ _ _)))
  show wpAny _ _ (Builtin.List.listSubscript? (.int i t) >>= _) _ _ s
  refine wpAny_bind (wpAny_listSubscript_int (fitsIndex_of h0 h2) ?_)
  clear h2
  refine hideG fun gHid hHid => ?_
  obtain ⟨j, rfl⟩ := Int.eq_ofNat_of_zero_le h0
  refine hHid ?_; clear hHid gHid
  have hj : j < vs.toArray.size := by simpa using hi
  have hx' : vs.toArray[j]? = some vs.toArray[j] := Array.getElem?_eq_getElem hj
  show wpAny _ _ ((seqItemAt a j >>= fun r => pure (r.map (j, ·))) >>= _) _ _ s
  refine wpAny_bind (wpAny_bind (wpAny_seqItemAt ea rfl (wpAny_pure ?_)))
  rw [hx']
  show wpAny _ _ (setSeqItemAt a j v >>= _) _ _ s
  have e2 : ∃ n', (s.heap.update a (Obj.mapSeq (·.setIfInBounds j v))).get? a = some (listO (vs.set j v) n') := by
    rw [Heap.get?_update_self _ ea rfl]
    simp [Obj.mapSeq, listO]
  refine hideG fun gHid hHid => ?_
  obtain ⟨n', e2⟩ := e2
  refine hHid ?_; clear hHid gHid
  have fin : Q () { s with heap := s.heap.update a (Obj.mapSeq (·.setIfInBounds j v)) } := by
    refine c _ (S.mut u hm (a := a) (by cases hB <;> simp [Bnd.addrs]) (by cases hC <;> rfl) (Heap.SameBut.update ..).extBut (by rw [e2]; rfl) fun ov R => ?_)
    cases hC
    · cases hB; exact ⟨R.1, ⟨⟨_, _, e2, ra.set r⟩, ka, za⟩, R.2.2⟩
    · cases hB; exact ⟨R.1, ⟨⟨_, _, e2, ra.set r⟩, ka, za⟩⟩
  refine wpAny_bind (wpAny_setSeqItemAt ea rfl ?_)
  first
    | exact wpAny_bind (wpAny_pure (wpAny_pure ⟨.none, rfl, wpAny_pure fin⟩))
    | exact wpAny_pure ⟨.none, rfl, wpAny_pure fin⟩

/-- x[i] = value, x a list of one's own -/
theorem Ex1.setItem {x : Str} {p p' pos : Pos} {i value : Expr} {B : Bnd} {a : Addr} {xs : List V} {Q : Out → Row → Prop} (hB : B.Own a xs)
    (h : EvV mg g₀ prog w env k value ρ fun Y ρ1 => (x, B) ∈ ρ1 ∧ EvV mg g₀ prog w env k i ρ1 fun I ρ2 => (x, B) ∈ ρ2 ∧ ∃ j, I = .int j ∧ 0 ≤ j ∧ j < xs.length ∧ j < 2 ^ 63 ∧ ∃ C ρ3, Bnd.To B C (xs.set j.toNat Y) ∧ Upd x C ρ2 ρ3 ∧ Q .next ρ3)
    (hs : swapsWith value (some (.Subscript (.Name x p) i p')) pos.line env = pure false := by with_unfolding_all rfl) : Ex1 mg g₀ prog w env k (.Assign [.Subscript (.Name x p) i p'] value pos) ρ Q := by
  refine ⟨?_⟩
  intro A κ Φ z s K E ok S c
  refine wpAny_Assign_Subscript (h.run A κ Φ z s _ E ok S ?_) hs
  intro v Y ρ1 z1 h1 tk1 hI1 hz1 S1 r1
  refine hideG fun gHid hHid => ?_
  obtain ⟨hm1, h'⟩ := hI1
  refine hHid ?_; clear hHid gHid
  refine hideG fun gHid hHid => ?_
  obtain ⟨m, hn, bd⟩ := S1.ownRef hB hm1
  refine hHid ?_; clear hHid gHid
  refine wpAny_Name (S1.load (s := { s with heap := h1, toks := tk1 }) ok.kind hm1 hn bd ?_) (S1.dbg x (List.mem_map.mpr ⟨_, hm1, rfl⟩)).1
  refine h'.run A κ Φ z1 _ _ E ok S1 ?_
  intro u I ρ2 z2 h2 tk2 hI1 hz2 S2 r2
  refine hideG fun gHid hHid => ?_
  obtain ⟨hm2, j, rfl, j0, j1, j2, C, ρ3, hC, up, hq⟩ := hI1
  refine hHid ?_; clear hHid gHid
  cases r2
  exact set_run (s := { s with heap := h2, toks := tk2 }) S2 hB hm2 j0 j1 j2 (r1.mono hz2) hC up fun h' S3 => c _ .next _ _ _ _ hq (hz1.trans hz2) S3 trivial
end
end Mine
namespace Mine
open PySem PySem.Calls

/-- what is given to a target: a value, or a tuple just made whose items are values -/
def ItemR (mg : Str → Option Value) (z : PH) (h : Heap) (t : Expr) (v : Value) (X : V) : Prop :=
  Holds mg z v X ∨ ((∃ es kd p, t = .Tuple es kd p) ∧ ∃ T vals xs, v = .ref T ∧ X = .tup xs ∧ h.IsTuple T (List.toArray vals) ∧ HoldsL mg z vals xs)

structure AsX (mg : Str → Option Value) (g₀ : Heap) (prog : Program) (w : World) (env : Env) (k : Nat) (t : Expr) (X : V) (ρ : Row) (Q : Row → Prop) : Prop where
  run : ∀ A κ Φ z s (K : Unit → Shared → Prop) E v, OkA env k A → St mg g₀ env κ Φ ρ z s.heap → ItemR mg z s.heap t v X →
    (∀ ρ' z' h' tk, Q ρ' → Le z z' → St mg g₀ env κ Φ ρ' z' h' → K () { s with heap := h', toks := tk }) → wpAny (model prog w) A (assign t env v) K E s

structure AsXs (mg : Str → Option Value) (g₀ : Heap) (prog : Program) (w : World) (env : Env) (k : Nat) (ts : List Expr) (Xs : List V) (ρ : Row) (Q : Row → Prop) : Prop where
  run : ∀ A κ Φ z s (K : Unit → Shared → Prop) E vals, OkA env k A → St mg g₀ env κ Φ ρ z s.heap → HoldsL mg z vals Xs →
    (∀ ρ' z' h' tk, Q ρ' → Le z z' → St mg g₀ env κ Φ ρ' z' h' → K () { s with heap := h', toks := tk }) → wpAny (model prog w) A (assignInOrder ((assignEach ts env).map (·.2)) vals) K E s

theorem assignEach_cons {e : Expr} {rest : List Expr} {env : Env} (h : noStar e = true) : assignEach (e :: rest) env = (false, assign e env) :: assignEach rest env := by
  cases e <;> first | rfl | (simp [noStar] at h)
theorem assignEach_len {env : Env} : ∀ {es : List Expr}, es.all noStar = true → (assignEach es env).length = es.length ∧ (assignEach es env).findIdx? (·.1) = none
  | [], _ => ⟨rfl, rfl⟩
  | e :: r, h => by
    simp only [List.all_cons, Bool.and_eq_true] at h
    refine hideG fun gHid hHid => ?_
    obtain ⟨a, b⟩ := assignEach_len (env := env) h.2
    refine hHid ?_; clear hHid gHid
    rw [assignEach_cons h.1]
    exact ⟨by simp [a], by simp [List.findIdx?_cons, b]⟩

section
variable {mg mb : Str → Option Value} {g₀ : Heap} {recs : List DefRec} {prog : Program} {w : World} {env : Env} {k : Nat} {ρ ρ' : Row}

theorem AsX.name {x : Str} {p : Pos} {X : V} {Q : Row → Prop} (u : Upd x (.val X) ρ ρ') (hq : Q ρ') : AsX mg g₀ prog w env k (.Name x p) X ρ Q := by
  refine ⟨?_⟩
  intro A κ Φ z s K E v ok S r c
  rcases r with r | ⟨⟨_, _, _, e⟩, _⟩
  · exact wpAny_assign_Name (store_run ok S u ⟨v, rfl, r⟩ (fun a ha => by simp [Bnd.addrs] at ha) (by simp [Bnd.addrs]) fun h' tk S' _ => c _ _ _ _ hq (Le.refl _) S')
  · cases e

theorem AsXs.nil {Q : Row → Prop} (hq : Q ρ) : AsXs mg g₀ prog w env k [] [] ρ Q := by
  refine ⟨?_⟩
  intro A κ Φ z s K E vals ok S r c
  cases r
  exact wpAny_pure (c _ _ _ s.toks hq (Le.refl _) S)
theorem AsXs.cons {t : Expr} {ts : List Expr} {X : V} {Xs : List V} {Q : Row → Prop} (h : AsX mg g₀ prog w env k t X ρ fun ρ1 => AsXs mg g₀ prog w env k ts Xs ρ1 Q) (hs : noStar t = true := by with_unfolding_all rfl) : AsXs mg g₀ prog w env k (t :: ts) (X :: Xs) ρ Q := by
  refine ⟨?_⟩
  intro A κ Φ z s K E vals ok S r c
  cases r with
  | cons rv r =>
    rw [assignEach_cons hs]
    refine wpAny_bind (wpAny_holding (h.run A κ Φ z s _ E _ ok S (.inl rv) ?_))
    intro ρ1 z1 h1 tk1 h' hz1 S1
    exact h'.run A κ Φ z1 _ _ E _ ok S1 (r.mono hz1) fun ρ2 z2 h2 tk2 hq hz2 S2 => c _ _ _ tk2 hq (hz1.trans hz2) S2

theorem AsX.tup {es : List Expr} {kd : Nat} {p : Pos} {xs : List V} {Q : Row → Prop} (h : AsXs mg g₀ prog w env k es xs ρ Q) (hl : es.length = xs.length := by with_unfolding_all rfl) (hs : es.all noStar = true := by with_unfolding_all rfl) : AsX mg g₀ prog w env k (.Tuple es kd p) (.tup xs) ρ Q := by
  refine ⟨?_⟩
  intro A κ Φ z s K E v ok S r c
  obtain ⟨T, vals, rfl, it, hv⟩ : ∃ T vals, v = .ref T ∧ s.heap.IsTuple T (List.toArray vals) ∧ HoldsL mg z vals xs := by
    rcases r with r | ⟨_, T, vals, xs', e, e2, it, hv⟩
    · cases r with
      | tup e r => exact ⟨_, _, rfl, ⟨_, S.zin _ _ e, rfl, _, rfl⟩, r⟩
    · cases e2; exact ⟨T, vals, e, it, hv⟩
  refine hideG fun gHid hHid => ?_
  obtain ⟨a, b⟩ := assignEach_len (env := env) hs
  refine hHid ?_; clear hHid gHid
  refine wpAny_assign_Tuple ok.handled it (by rw [a, hl]; simp [hv.length]) b fun h' ex => ?_
  have g : Grow s.heap h' := fun b o e => ex b o (Nat.ne_of_lt (Heap.lt_size e)) e
  exact h.run A κ Φ z _ _ E _ ok (S.grow g) hv fun ρ1 z1 h1 tk1 hq hz1 S1 => c _ _ _ tk1 hq hz1 S1

theorem AsX.sub {x : Str} {p p' : Pos} {i : Expr} {B : Bnd} {a : Addr} {xs : List V} {X : V} {Q : Row → Prop} (hB : B.Own a xs) (hm : (x, B) ∈ ρ)
    (h : EvV mg g₀ prog w env k i ρ fun I ρ2 => (x, B) ∈ ρ2 ∧ ∃ j, I = .int j ∧ 0 ≤ j ∧ j < xs.length ∧ j < 2 ^ 63 ∧ ∃ C ρ3, Bnd.To B C (xs.set j.toNat X) ∧ Upd x C ρ2 ρ3 ∧ Q ρ3) : AsX mg g₀ prog w env k (.Subscript (.Name x p) i p') X ρ Q := by
  refine ⟨?_⟩
  intro A κ Φ z s K E v ok S r c
  rcases r with r | ⟨⟨_, _, _, e⟩, _⟩
  · rw [arm_assign_Subscript]
    refine hideG fun gHid hHid => ?_
    obtain ⟨m, hn, bd⟩ := S.ownRef hB hm
    refine hHid ?_; clear hHid gHid
    refine wpAny_bind (wpAny_holding (wpAny_Name (S.load ok.kind hm hn bd ?_) (S.dbg x (List.mem_map.mpr ⟨_, hm, rfl⟩)).1))
    refine wpAny_bind (wpAny_holding (h.run A κ Φ z s _ E ok S ?_))
    intro u I ρ2 z2 h2 tk2 hI1 hz2 S2 r2
    refine hideG fun gHid hHid => ?_
    obtain ⟨hm2, j, rfl, j0, j1, j2, C, ρ3, hC, up, hq⟩ := hI1
    refine hHid ?_; clear hHid gHid
    cases r2
    refine wpAny_bind (wpAny_standAt (wpAny_bind (wpAny_holding ?_)))
    refine set_run (s := { s with heap := h2, toks := tk2 }) S2 hB hm2 j0 j1 j2 (r.mono hz2) hC up fun h' S3 => ?_
    intro Γ p _
    rw [Sem.wp_release]
    exact c _ _ _ _ hq hz2 S3
  · cases e

/-- a, b = value -/
theorem Ex1.assignTup {es : List Expr} {kd : Nat} {p pos : Pos} {value : Expr} {Q : Out → Row → Prop}
    (h : EvV mg g₀ prog w env k value ρ fun X ρ1 => AsX mg g₀ prog w env k (.Tuple es kd p) X ρ1 fun ρ2 => Q .next ρ2)
    (hs : swapsWithSole [.Tuple es kd p] value pos.line env = pure false := by with_unfolding_all rfl) (hw : swappedStores [.Tuple es kd p] value env = pure none := by with_unfolding_all rfl) : Ex1 mg g₀ prog w env k (.Assign [.Tuple es kd p] value pos) ρ Q := by
  refine ⟨?_⟩
  intro A κ Φ z s K E ok S c
  refine Assign_Tuple (h.run A κ Φ z s _ E ok S ?_) hs hw
  intro v X ρ1 z1 h1 tk1 h' hz1 S1 r1
  exact h'.run A κ Φ z1 _ _ E v ok S1 (.inl r1) fun ρ2 z2 h2 tk2 hq hz2 S2 => c _ .next _ _ _ tk2 hq (hz1.trans hz2) S2 trivial

/-- several values, some of them fresh lists -/
inductive RelBs (mg : Str → Option Value) (κ z : PH) (Φ : Addr → Prop) (h : Heap) : List Value → List Bnd → Prop
  | nil : RelBs mg κ z Φ h [] []
  | cons {v : Value} {B : Bnd} {vs : List Value} {Bs : List Bnd} : RelB mg κ z Φ h (some v) B → RelBs mg κ z Φ h vs Bs → RelBs mg κ z Φ h (v :: vs) (B :: Bs)

def Bnds.addrs (Bs : List Bnd) : List Addr := Bs.flatMap Bnd.addrs

structure EvBs (mg : Str → Option Value) (g₀ : Heap) (prog : Program) (w : World) (env : Env) (k : Nat) (es : List Expr) (ρ : Row) (Q : List Bnd → Row → Prop) : Prop where
  run : ∀ A κ Φ z s (Q' : List Value → Shared → Prop) E pos, OkA env k A → St mg g₀ env κ Φ ρ z s.heap →
    (∀ vs Bs ρ' z' h' tk, Q Bs ρ' → Le z z' → St mg g₀ env κ Φ ρ' z' h' → RelBs mg κ z' Φ h' vs Bs → (Bnds.addrs Bs).Nodup → (∀ a ∈ Bnds.addrs Bs, a ∉ ρ'.addrs) → Q' vs { s with heap := h', toks := tk }) →
    wpAny (model prog w) A (spliced (backTo pos (starEach es env))) Q' E s

theorem RelBs.at {κ z : PH} {Φ : Addr → Prop} {h : Heap} : ∀ {vs : List Value} {Bs : List Bnd}, RelBs mg κ z Φ h vs Bs → ∀ a ∈ Bnds.addrs Bs, (∃ vs n, h.get? a = some (listO vs n)) ∧ κ a = none ∧ z a = none
  | _, _, .nil, a, ha => by simp [Bnds.addrs] at ha
  | _, _, .cons R r, a, ha => by
    simp only [Bnds.addrs, List.flatMap_cons, List.mem_append] at ha
    rcases ha with ha | ha
    · exact R.at a ha
    · exact r.at a ha
theorem RelBs.change {κ κ' z z' : PH} {Φ Φ' : Addr → Prop} {h h' : Heap} : ∀ {vs : List Value} {Bs : List Bnd}, RelBs mg κ z Φ h vs Bs → (∀ a ∈ Bnds.addrs Bs, ∀ o, h.get? a = some o → h'.get? a = some o) → Le z z' →
    (∀ a ∈ Bnds.addrs Bs, κ a = none → z a = none → κ' a = none ∧ z' a = none ∧ (¬ Φ a → ¬ Φ' a)) → RelBs mg κ' z' Φ' h' vs Bs
  | _, _, .nil, _, _, _ => .nil
  | _, _, .cons R r, hh, hz, k => by
    simp only [Bnds.addrs, List.flatMap_cons, List.mem_append] at hh k
    exact .cons (R.change (fun a ha => hh a (.inl ha)) hz fun a ha => k a (.inl ha)) (r.change (fun a ha => hh a (.inr ha)) hz fun a ha => k a (.inr ha))
theorem RelBs.length {κ z : PH} {Φ : Addr → Prop} {h : Heap} : ∀ {vs : List Value} {Bs : List Bnd}, RelBs mg κ z Φ h vs Bs → vs.length = Bs.length
  | _, _, .nil => rfl
  | _, _, .cons _ r => by simp [r.length]

def pinK (κ : PH) (h : Heap) (as : List Addr) : PH := fun b => if b ∈ as then h.get? b else κ b
theorem St.pinAll {κ z : PH} {Φ : Addr → Prop} {h : Heap} (S : St mg g₀ env κ Φ ρ z h) {as : List Addr} (H : ∀ a ∈ as, ((∃ vs n, h.get? a = some (listO vs n)) ∧ κ a = none ∧ z a = none) ∧ a ∉ ρ.addrs) :
    St mg g₀ env (pinK κ h as) (fun b => b ∈ as ∨ Φ b) ρ z h := by
  refine hideG fun gHid hHid => ?_
  obtain ⟨m, hn, f⟩ := S.frame
  refine hHid ?_; clear hHid gHid
  have nL : env.locals ∉ as := fun q => by obtain ⟨⟨⟨vs, n, e⟩, _⟩, _⟩ := H _ q; obtain ⟨o, _, _, ho, hd, _⟩ := hn; rw [e] at ho; cases ho; cases hd
  have nC : ∀ c v, h.IsCell c v → c ∉ as := fun c v ic q => by obtain ⟨⟨⟨vs, n, e⟩, _⟩, _⟩ := H _ q; obtain ⟨o, ho, hd⟩ := ic; rw [e] at ho; cases ho; cases hd
  refine ⟨fun b o e => ?_, fun b o e => ?_, S.zin, fun b hb => ?_, ?_, S.zL, ⟨m, hn, fun x B hm => ?_⟩, S.nodup, S.cinj, S.keys, S.dbg, fun b hb => ?_⟩
  · have := S.root _ _ e
    unfold pinK; rw [if_neg (fun q => by rw [(H _ q).1.2.1] at this; cases this)]; exact this
  · unfold pinK at e
    split at e
    · exact e
    · exact S.kept _ _ e
  · rcases hb with hb | hb
    · exact (H _ hb).1.2.2
    · exact S.zoff _ hb
  · unfold pinK; rw [if_neg nL]; exact S.kL
  · refine hideG fun gHid hHid => ?_
    obtain ⟨ov, bd, R⟩ := f x B hm
    refine hHid ?_; clear hHid gHid
    refine ⟨ov, bd.change rfl (fun c _ ic k1 k2 => ⟨ic, by unfold pinK; rw [if_neg (nC c _ ic)]; exact k1, k2⟩), R.change (fun a _ o e => e) (Le.refl _) fun a ha k1 k2 => ?_⟩
    have na : a ∉ as := fun q => (H _ q).2 (Row.addrs_mem hm ha)
    exact ⟨by unfold pinK; rw [if_neg na]; exact k1, k2, fun f q => q.elim na f⟩
  · rcases hb with hb | hb
    · obtain ⟨⟨⟨vs, n, e⟩, _⟩, _⟩ := H _ hb; exact ⟨_, e⟩
    · exact S.offIn _ hb

theorem EvBs.nil {Q : List Bnd → Row → Prop} (hq : Q [] ρ) : EvBs mg g₀ prog w env k [] ρ Q := by
  refine ⟨?_⟩
  intro A κ Φ z s K E pos ok S c
  exact wpAny_items_nil (c _ _ _ _ _ s.toks hq (Le.refl _) S .nil (by simp [Bnds.addrs]) (by simp [Bnds.addrs]))
theorem EvBs.cons {e : Expr} {es : List Expr} {Q : List Bnd → Row → Prop} (h : EvE mg g₀ prog w env k e ρ fun B ρ1 => EvBs mg g₀ prog w env k es ρ1 fun Bs ρ2 => Q (B :: Bs) ρ2) (hs : noStar e = true := by with_unfolding_all rfl) :
    EvBs mg g₀ prog w env k (e :: es) ρ Q := by
  refine ⟨?_⟩
  intro A κ Φ z s K E pos ok S c
  refine wpAny_items_cons (h.run A κ Φ z s _ E ok S ?_) (starEach_cons hs)
  intro v B ρ1 z1 h1 tk1 h' hz1 S1 R1 d1 n1
  have S1' := S1.pinAll (as := B.addrs) fun a ha => ⟨R1.at a ha, d1 a ha⟩
  refine h'.run A _ _ z1 _ _ E pos ok S1' ?_
  intro vs Bs ρ2 z2 h2 tk2 hq hz2 S2 R2 n2 d2
  have kle : Le κ (pinK κ h1 B.addrs) := fun b o e => by
    unfold pinK; rw [if_neg (fun q => by rw [(R1.at _ q).2.1] at e; cases e)]; exact e
  have kpin : ∀ a ∈ B.addrs, ∀ o, h1.get? a = some o → pinK κ h1 B.addrs a = some o := fun a ha o e => by unfold pinK; rw [if_pos ha]; exact e
  have nB : ∀ a ∈ B.addrs, pinK κ h1 B.addrs a ≠ none := fun a ha q => by
    refine hideG fun gHid hHid => ?_
    obtain ⟨⟨vs, n, e⟩, _⟩ := R1.at a ha
    refine hHid ?_; clear hHid gHid
    rw [kpin a ha _ e] at q; cases q
  refine c _ _ _ z2 h2 tk2 hq (hz1.trans hz2) (S2.unpin kle (fun a ha => .inr ha) S.root) (.cons (R1.change (fun a ha o e => S2.kept _ _ (kpin a ha o e)) hz2 fun a ha k1 k2 => ⟨k1, S2.zoff _ (.inl ha), id⟩)
    (R2.change (fun a _ o e => e) (Le.refl _) fun a ha k1 k2 => ⟨none_of_le kle k1, k2, fun f q => f (.inr q)⟩)) ?_ ?_
  · simp only [Bnds.addrs, List.flatMap_cons]
    rw [List.nodup_append]
    refine ⟨n1, n2, fun a ha b hb e => ?_⟩
    subst e
    exact nB a ha (R2.at a hb).2.1
  · intro a ha
    simp only [Bnds.addrs, List.flatMap_cons, List.mem_append] at ha
    rcases ha with ha | ha
    · intro q; exact nB a ha (S2.addrs_at a q).2.1
    · exact d2 a ha

/-- several stores, one behind the other -/
inductive Upds : List (Str × Bnd) → Row → Row → Prop
  | nil {ρ : Row} : Upds [] ρ ρ
  | cons {x : Str} {B : Bnd} {r : List (Str × Bnd)} {ρ ρ1 ρ' : Row} : Upd x B ρ ρ1 → Upds r ρ1 ρ' → Upds ((x, B) :: r) ρ ρ'

theorem stores_run {κ z : PH} {Φ : Addr → Prop} {A : Around} {E : Value → Shared → Prop} (ok : OkA env k A) : ∀ {ps : List (Str × Bnd)} {ρ ρ' : Row} {s : Shared} {vs : List Value} {Q : Unit → Shared → Prop}, St mg g₀ env κ Φ ρ z s.heap →
    Upds ps ρ ρ' → RelBs mg κ z Φ s.heap vs (ps.map (·.2)) → (Bnds.addrs (ps.map (·.2))).Nodup → (∀ a ∈ Bnds.addrs (ps.map (·.2)), a ∉ ρ.addrs) →
    (∀ h' tk, St mg g₀ env κ Φ ρ' z h' → Q () { s with heap := h', toks := tk }) → wpAny (model prog w) A (assignInOrder ((ps.map (·.1)).map fun n => bindName env n) vs) Q E s
  | [], ρ, _, s, vs, Q, S, .nil, R, _, _, c => by
    cases R
    exact wpAny_pure (c _ s.toks S)
  | (x, B) :: r, ρ, _, s, vs, Q, S, .cons u us, R, n, d, c => by
    cases R with
    | cons Rb Rr =>
      simp only [List.map_cons, Bnds.addrs, List.flatMap_cons] at n d
      rw [List.nodup_append] at n
      show wpAny _ _ (holding _ (bindName env x _) >>= fun _ => assignInOrder _ _) _ _ _
      refine wpAny_bind (wpAny_holding (bindName_ (store_run ok S u Rb (fun a ha => d a (List.mem_append.mpr (.inl ha))) n.1 fun h' tk S' keep => ?_)))
      refine stores_run (s := { s with heap := h', toks := tk }) ok S' us ?_ n.2.1 (fun a ha q => ?_) fun h'' tk'' S'' => c _ _ S''
      · clear d n
        generalize r.map (·.2) = Bs at Rr
        induction Rr with
        | nil => exact .nil
        | cons R _ ih => exact .cons (keep _ _ R) ih
      · rcases u.addrs a q with h | h
        · exact n.2.2 a h a ha rfl
        · exact d a (List.mem_append.mpr (.inr ha)) h

theorem RelBs.reverse {κ z : PH} {Φ : Addr → Prop} {h : Heap} {vs : List Value} {Bs : List Bnd} (R : RelBs mg κ z Φ h vs Bs) : RelBs mg κ z Φ h vs.reverse Bs.reverse := by
  have app : ∀ {vs ws : List Value} {Bs Cs : List Bnd}, RelBs mg κ z Φ h vs Bs → RelBs mg κ z Φ h ws Cs → RelBs mg κ z Φ h (vs ++ ws) (Bs ++ Cs) := by
    intro vs ws Bs Cs a b
    induction a with
    | nil => exact b
    | cons R _ ih => exact .cons R ih
  induction R with
  | nil => exact .nil
  | cons R _ ih => rw [List.reverse_cons, List.reverse_cons]; exact app ih (.cons R .nil)

/-- a, b = x, y with names alone: the stores go from behind -/
theorem Ex1.assignSwap {es vs : List Expr} {kd kd' : Nat} {p p' pos : Pos} {names : List Str} {Q : Out → Row → Prop}
    (h : EvBs mg g₀ prog w env k vs ρ fun Bs ρ1 => Bs.length = names.length ∧ Bs.length ≤ 100 ∧ ∃ ρ2, Upds (names.zip Bs).reverse ρ1 ρ2 ∧ Q .next ρ2)
    (hw : swappedStores [.Tuple es kd p] (.Tuple vs kd' p') env = pure (some names) := by with_unfolding_all rfl)
    (hs : swapsWithSole [.Tuple es kd p] (.Tuple vs kd' p') pos.line env = pure false := by with_unfolding_all rfl) : Ex1 mg g₀ prog w env k (.Assign [.Tuple es kd p] (.Tuple vs kd' p') pos) ρ Q := by
  refine ⟨?_⟩
  intro A κ Φ z s K E ok S c
  refine Assign_Tuple_swapped ?_ hs hw
  refine wpAny_Tuple_spliced (h.run A κ Φ z s _ E p' ok S ?_)
  intro vals Bs ρ1 z1 h1 tk1 hI1 hz1 S1 R1 n1 d1
  refine hideG fun gHid hHid => ?_
  obtain ⟨hl, hl2, ρ2, us, hq⟩ := hI1
  refine hHid ?_; clear hHid gHid
  have hvl := R1.length
  refine ⟨by rw [hvl]; exact Nat.le_trans hl2 (by decide), ?_⟩
  have it : (h1.push { cls := .type "tuple", data := .seq vals.toArray }).IsTuple h1.objs.size vals.toArray := ⟨_, Heap.get?_push_size _ rfl, rfl, _, rfl⟩
  have e : names.length = vals.toArray.size := by simp [hvl, hl]
  rw [e]
  refine wpAny_unpackItems_tuple ok.handled it fun h' ex => ?_
  have g : Grow h1 h' := fun b o e => ex b o (Nat.ne_of_lt (Heap.lt_size (Heap.get?_push_of_some _ e))) (Heap.get?_push_of_some _ e)
  have S2 := S1.grow g
  have R2 := (R1.change (h' := h') (z' := z1) (κ' := κ) (Φ' := Φ) (fun a _ o e => g _ _ e) (Le.refl _) fun a _ k1 k2 => ⟨k1, k2, id⟩).reverse
  have z1' : ((names.zip Bs).reverse).map (·.2) = Bs.reverse := by
    rw [List.map_reverse]; congr 1
    exact List.map_snd_zip (by (exact (nl (.branch 1 (.leaf (Bs.length)) (.leaf (names.length))) [(1, (.var 0), (.var 1))] 1 (.var 0) (.var 1) rfl (Nat.le_of_eq hl))))
  have z2' : ((names.zip Bs).reverse).map (·.1) = names.reverse := by
    rw [List.map_reverse]; congr 1
    exact List.map_fst_zip (by (exact (nl (.branch 1 (.leaf (names.length)) (.leaf (Bs.length))) [(1, (.var 0), (.var 1))] 1 (.var 0) (.var 1) rfl (nge hl))))
  have nr : (Bnds.addrs Bs.reverse).Nodup := by
    have : (Bnds.addrs Bs.reverse).Perm (Bnds.addrs Bs) := by
      unfold Bnds.addrs
      exact List.Perm.flatMap_right _ (List.reverse_perm Bs)
    exact this.nodup_iff.mpr n1
  have := stores_run (s := { s with heap := h', toks := tk1 }) (prog := prog) (w := w) (E := E) (Q := fun _ => K .next) ok S2 us (vs := vals.reverse) (by rw [z1']; exact R2) (by rw [z1']; exact nr)
    (by rw [z1']; intro a ha; refine d1 a ?_; simp only [Bnds.addrs, List.mem_flatMap, List.mem_reverse] at ha ⊢; exact ha) fun h'' tk'' S3 => c _ .next _ _ _ _ hq hz1 S3 trivial
  rw [z2'] at this
  simpa using this
end
end Mine
namespace Mine
open PySem PySem.Calls

/-- an iterator over known items, for a target t -/
structure Wk (prog : Program) (w : World) (A : Around) (mg : Str → Option Value) (I : Addr) (t : Expr) (wr : List Addr) (z : PH) (Xs : List V) (SI : Nat → Heap → Prop) (rd : List Addr) : Prop where
  frame : ∀ i h h', SI i h → Le z h.get? → (∀ b ∈ wr, ∀ o, h.get? b = some o → h'.get? b = some o) → (∀ b ∈ rd, ∀ o, h.get? b = some o → h'.get? b = some o) → Le z h'.get? → SI i h'
  step : ∀ i X (s : Shared) (P : Option Value → Shared → Prop) (Q : Value → Shared → Prop) (E : Value → Shared → Prop), Xs[i]? = some X → SI i s.heap → Le z s.heap.get? →
    (∀ v s1, wpAny (model prog w) A (letOwnedTupleGo t (.ref I) v) (fun _ s2 => Q v s2) E s1 → P (some v) s1) →
    (∀ v h' tk, SI (i + 1) h' → (∀ b o, b ∉ wr → s.heap.get? b = some o → h'.get? b = some o) → ItemR mg z h' t v X → Q v { s with heap := h', toks := tk }) →
    wpAny (model prog w) A (pyNext (.ref I)) P E s
  done : ∀ (s : Shared) (P : Option Value → Shared → Prop) (E : Value → Shared → Prop), SI Xs.length s.heap → Le z s.heap.get? →
    (∀ h' tk, (∀ b o, b ∉ wr → s.heap.get? b = some o → h'.get? b = some o) → P none { s with heap := h', toks := tk }) →
    wpAny (model prog w) A (pyNext (.ref I)) P E s
  ex : ∀ i h, SI i h → ∀ b ∈ wr, ∃ o, h.get? b = some o
  self : ∀ i (s : Shared) (Q : Value → Shared → Prop) (E : Value → Shared → Prop), SI i s.heap → Q (.ref I) s → wpAny (model prog w) A (pyIter (.ref I)) Q E s

structure EvI (mg : Str → Option Value) (g₀ : Heap) (prog : Program) (w : World) (env : Env) (k : Nat) (t iter : Expr) (ρ : Row) (Q : List V → Row → Prop) : Prop where
  run : ∀ A κ Φ z s (K : Value → Shared → Prop) E, OkA env k A → St mg g₀ env κ Φ ρ z s.heap →
    (∀ I wr SI Xs ρ' z' h' tk, Q Xs ρ' → Le z z' → St mg g₀ env κ Φ ρ' z' h' → Wk prog w A mg I t wr z' Xs SI [] → SI 0 h' → (∀ b ∈ wr, Unused env κ ρ' z' b ∧ ¬ Φ b) → K (.ref I) { s with heap := h', toks := tk }) →
    wpAny (model prog w) A (eval iter env) (fun x s1 => wpAny (model prog w) A (pyIter x) K E s1) E s

section
variable {mg mb : Str → Option Value} {g₀ : Heap} {recs : List DefRec} {prog : Program} {w : World} {env : Env} {k : Nat} {ρ ρ' : Row}

theorem Ex1.while {t : Expr} {body : List Stmt} {pos : Pos} {Q : Out → Row → Prop} (I : Nat → Row → Prop) (n : Nat) (h0 : I n ρ)
    (turn : ∀ n ρ1, I n ρ1 → EvT mg g₀ prog w env k t ρ1 fun c ρ2 => if c = true then ExS mg g₀ prog w env k body ρ2 (fun o ρ3 => match o with
      | .next | .cont => ∃ m, m < n ∧ I m ρ3
      | .brk => Q .next ρ3
      | .ret X => Q (.ret X) ρ3) else Q .next ρ2) : Ex1 mg g₀ prog w env k (.While t body [] pos) ρ Q := by
  refine ⟨?_⟩
  intro A κ Φ z s K E ok S c
  refine wpAny_While (codeAny_whileLoop (fun n s' => ∃ h' tk ρ1 z1, s' = { s with heap := h', toks := tk } ∧ I n ρ1 ∧ Le z z1 ∧ St mg g₀ env κ Φ ρ1 z1 h') ?_ n ⟨s.heap, s.toks, ρ, z, rfl, h0, Le.refl _, S⟩)
  intro n _ hI1
  refine hideG fun gHid hHid => ?_
  obtain ⟨h1, tk1, ρ1, z1, rfl, hI, hz1, S1⟩ := hI1
  refine hHid ?_; clear hHid gHid
  refine (turn n ρ1 hI).run A κ Φ z1 _ _ _ ok S1 ?_
  intro b ρ2 z2 h2 tk2 hb hz2 S2
  cases b with
  | false =>
    simp only [Bool.false_eq_true, if_false] at hb ⊢
    exact wpAny_execs_nil (c _ .next _ _ _ tk2 hb (hz1.trans hz2) S2 trivial)
  | true =>
    simp only [if_true] at hb ⊢
    refine hb.run A κ Φ z2 _ _ _ ok S2 ?_
    intro fl o ρ3 z3 h3 tk3 hq hz3 S3 r3
    cases fl <;> cases o <;> simp only [FlowR] at r3
    · obtain ⟨m, hm, hI⟩ := hq; exact ⟨m, hm, h3, tk3, ρ3, z3, rfl, hI, (hz1.trans hz2).trans hz3, S3⟩
    · exact c _ .next _ _ _ tk3 hq ((hz1.trans hz2).trans hz3) S3 trivial
    · obtain ⟨m, hm, hI⟩ := hq; exact ⟨m, hm, h3, tk3, ρ3, z3, rfl, hI, (hz1.trans hz2).trans hz3, S3⟩
    · exact c _ (.ret _) _ _ _ tk3 hq ((hz1.trans hz2).trans hz3) S3 r3

/-- the loop's end told apart -/
theorem Ex1.whileR {t : Expr} {body : List Stmt} {pos : Pos} {Q : Out → Row → Prop} (I : Nat → Row → Prop) (R : Row → Prop) (n : Nat) (h0 : I n ρ)
    (turn : ∀ n ρ1, I n ρ1 → EvT mg g₀ prog w env k t ρ1 fun c ρ2 => if c = true then ExS mg g₀ prog w env k body ρ2 (fun o ρ3 => match o with
      | .next | .cont => ∃ m, m < n ∧ I m ρ3
      | .brk => R ρ3
      | .ret X => Q (.ret X) ρ3) else R ρ2)
    (fin : ∀ ρ1, R ρ1 → Q .next ρ1) : Ex1 mg g₀ prog w env k (.While t body [] pos) ρ Q := by
  refine Ex1.while I n h0 fun n ρ1 hI => ⟨fun A κ Φ z s K E ok S c => (turn n ρ1 hI).run A κ Φ z s K E ok S fun b ρ2 z2 h2 tk2 hb => c b ρ2 z2 h2 tk2 ?_⟩
  cases b with
  | false => simp only [Bool.false_eq_true, if_false] at hb ⊢; exact fin _ hb
  | true =>
    simp only [if_true] at hb ⊢
    refine hb.mono fun o ρ3 h => ?_
    cases o with
    | brk => exact fin _ h
    | next => exact h
    | cont => exact h
    | ret X => exact h

/-- unused objects are pinned -/
theorem St.pinU {κ z : PH} {Φ : Addr → Prop} {h : Heap} (S : St mg g₀ env κ Φ ρ z h) {as : List Addr} (H : ∀ a ∈ as, Unused env κ ρ z a) (Hx : ∀ a ∈ as, ∃ o, h.get? a = some o) :
    St mg g₀ env (pinK κ h as) (fun b => b ∈ as ∨ Φ b) ρ z h := by
  refine hideG fun gHid hHid => ?_
  obtain ⟨m, hn, f⟩ := S.frame
  refine hHid ?_; clear hHid gHid
  refine ⟨fun b o e => ?_, fun b o e => ?_, S.zin, fun b hb => ?_, ?_, S.zL, ⟨m, hn, fun x B hm => ?_⟩, S.nodup, S.cinj, S.keys, S.dbg, fun b hb => ?_⟩
  · have := S.root _ _ e
    unfold pinK; rw [if_neg (fun q => by rw [(H _ q).nk] at this; cases this)]; exact this
  · unfold pinK at e
    split at e
    · exact e
    · exact S.kept _ _ e
  · rcases hb with hb | hb
    · exact (H _ hb).nz
    · exact S.zoff _ hb
  · unfold pinK; rw [if_neg (fun q => (H _ q).nL rfl)]; exact S.kL
  · refine hideG fun gHid hHid => ?_
    obtain ⟨ov, bd, R⟩ := f x B hm
    refine hHid ?_; clear hHid gHid
    refine ⟨ov, ?_, R.change (fun a _ o e => e) (Le.refl _) fun a ha k1 k2 => ?_⟩
    · rcases bd with k | ⟨k, c, e, ic, k1, k2⟩
      · exact .inl k
      · exact .inr ⟨k, c, e, ic, by unfold pinK; rw [if_neg (fun q => (H _ q).nC x c (List.mem_map.mpr ⟨_, hm, rfl⟩) e k rfl)]; exact k1, k2⟩
    · have na : a ∉ as := fun q => (H _ q).nA (Row.addrs_mem hm ha)
      exact ⟨by unfold pinK; rw [if_neg na]; exact k1, k2, fun f q => q.elim na f⟩
  · rcases hb with hb | hb
    · exact Hx _ hb
    · exact S.offIn _ hb

theorem pinK_le {κ : PH} {h : Heap} {as : List Addr} (H : ∀ a ∈ as, κ a = none) : Le κ (pinK κ h as) := fun b o e => by
  unfold pinK; rw [if_neg (fun q => by rw [H _ q] at e; cases e)]; exact e

/-- what is pinned is used by nothing -/
theorem St.pinned {κ z : PH} {Φ : Addr → Prop} {h h0 : Heap} {as : List Addr} (S : St mg g₀ env (pinK κ h0 as) (fun b => b ∈ as ∨ Φ b) ρ z h) (H : ∀ a ∈ as, κ a = none) (Hx : ∀ a ∈ as, ∃ o, h0.get? a = some o) : ∀ a ∈ as, Unused env κ ρ z a := by
  intro a ha
  refine hideG fun gHid hHid => ?_
  obtain ⟨o, e⟩ := Hx a ha
  refine hHid ?_; clear hHid gHid
  have kp : pinK κ h0 as a = some o := by unfold pinK; rw [if_pos ha]; exact e
  refine hideG fun gHid hHid => ?_
  obtain ⟨m, hn, f⟩ := S.frame
  refine hHid ?_; clear hHid gHid
  refine ⟨?_, ?_, fun q => ?_, S.zoff _ (.inl ha), H a ha⟩
  · rintro rfl; rw [S.kL] at kp; cases kp
  · rintro x c hx hc hk rfl
    refine hideG fun gHid hHid => ?_
    obtain ⟨⟨y, B⟩, hm, rfl⟩ := List.mem_map.mp hx
    refine hHid ?_; clear hHid gHid
    refine hideG fun gHid hHid => ?_
    obtain ⟨ov, bd, _⟩ := f y B hm
    refine hHid ?_; clear hHid gHid
    rcases bd with ⟨k, _⟩ | ⟨_, c', e', _, k1, _⟩
    · rcases hk with hk | hk <;> · simp only at hk k; rw [k] at hk; cases hk
    · simp only at hc e'; rw [hc] at e'; cases e'; rw [kp] at k1; cases k1
  · have := (S.addrs_at a q).2.1; rw [kp] at this; cases this

/-- only what was pinned turns -/
theorem St.outside {κ z : PH} {Φ : Addr → Prop} {h0 h h' : Heap} {as : List Addr} (S : St mg g₀ env (pinK κ h0 as) (fun b => b ∈ as ∨ Φ b) ρ z h) (H : ∀ a ∈ as, κ a = none) (Hx : ∀ a ∈ as, ∃ o, h0.get? a = some o)
    (hr : ∀ b o, g₀.get? b = some o → κ b = some o) (hf : ∀ b, Φ b → b ∉ as) (g : ∀ b o, b ∉ as → h.get? b = some o → h'.get? b = some o) : St mg g₀ env κ Φ ρ z h' := by
  have U := S.pinned H Hx
  have kle := pinK_le (h := h0) H
  have S1 : St mg g₀ env κ Φ ρ z h := S.unpin kle (fun a ha => .inr ha) hr
  refine hideG fun gHid hHid => ?_
  obtain ⟨m, hn, f⟩ := S1.frame
  refine hHid ?_; clear hHid gHid
  have zn : ∀ b o, z b = some o → b ∉ as := fun b o e q => by rw [(U b q).nz] at e; cases e
  refine ⟨S1.root, fun b o e => g _ _ (fun q => by rw [H _ q] at e; cases e) (S1.kept _ _ e), fun b o e => g _ _ (zn _ _ e) (S1.zin _ _ e), S1.zoff, S1.kL, S1.zL, ⟨m, hn.at' fun o e => g _ _ (fun q => (U _ q).nL rfl) e, fun x B hm => ?_⟩, S1.nodup, S1.cinj, S1.keys, S1.dbg, fun b hb => ?_⟩
  · refine hideG fun gHid hHid => ?_
    obtain ⟨ov, bd, R⟩ := f x B hm
    refine hHid ?_; clear hHid gHid
    refine ⟨ov, ?_, R.change (fun a ha o e => g _ _ (fun q => (U _ q).nA (Row.addrs_mem hm ha)) e) (Le.refl _) fun a ha k1 k2 => ⟨k1, k2, id⟩⟩
    rcases bd with k | ⟨k, c, e, ⟨o, ho, hd⟩, k1, k2⟩
    · exact .inl k
    · exact .inr ⟨k, c, e, ⟨o, g _ _ (fun q => (U _ q).nC x c (List.mem_map.mpr ⟨_, hm, rfl⟩) e k rfl) ho, hd⟩, k1, k2⟩
  · obtain ⟨o, e⟩ := S1.offIn _ hb; exact ⟨o, g _ _ (hf _ hb) e⟩

theorem Ex1.for {t iter : Expr} {body : List Stmt} {pos : Pos} {Q : Out → Row → Prop}
    (h : EvI mg g₀ prog w env k t iter ρ fun Xs ρ1 => ∃ inv : Nat → Row → Prop, inv 0 ρ1 ∧
      (∀ i X ρ2, Xs[i]? = some X → inv i ρ2 → AsX mg g₀ prog w env k t X ρ2 fun ρ3 => ExS mg g₀ prog w env k body ρ3 fun o ρ4 => match o with
        | .next | .cont => inv (i + 1) ρ4
        | .brk => Q .next ρ4
        | .ret Y => Q (.ret Y) ρ4) ∧
      (∀ ρ2, inv Xs.length ρ2 → Q .next ρ2))
    (hs : ∀ x, foldedSetIterable iter env x = pure x := by intro _; with_unfolding_all rfl) : Ex1 mg g₀ prog w env k (.For t iter body [] pos) ρ Q := by
  refine ⟨?_⟩
  intro A κ Φ z s K E ok S c
  refine wpAny_For (h.run A κ Φ z s _ E ok S ?_) hs
  intro I wr SI Xs ρ1 z1 h1 tk1 hI1 hz1 S1 W hSI U
  refine hideG fun gHid hHid => ?_
  obtain ⟨inv, i0, turn, fin⟩ := hI1
  refine hHid ?_; clear hHid gHid
  have Hk : ∀ a ∈ wr, κ a = none := fun a ha => (U a ha).1.nk
  have Hg : ∀ b o, g₀.get? b = some o → κ b = some o := S1.root
  have Hf : ∀ b, Φ b → b ∉ wr := fun b hb q => (U b q).2 hb
  have P1 := S1.pinU (fun a ha => (U a ha).1) (W.ex 0 h1 hSI)
  refine codeAny_forLoop_any (fun m s' => ∃ i h2 tk2 ρ2 z2, s' = { s with heap := h2, toks := tk2 } ∧ m = Xs.length + 1 - i ∧ i ≤ Xs.length ∧ inv i ρ2 ∧ Le z1 z2 ∧ St mg g₀ env (pinK κ h2 wr) (fun b => b ∈ wr ∨ Φ b) ρ2 z2 h2 ∧ SI i h2) ?_
    (Xs.length + 1) ⟨0, h1, tk1, ρ1, z1, rfl, rfl, Nat.zero_le _, i0, Le.refl _, P1, hSI⟩
  intro m _ hI1
  refine el_5_7 hI1 ?_
  intro i h2 tk2 ρ2 z2 hρ0 hρ1 hi hinv hz2 S2 hS
  clear hI1
  subst hρ0
  subst hρ1
  have zin2 : Le z1 h2.get? := hz2.trans S2.zin
  have Hx := W.ex i h2 hS
  by_cases hlt : i < Xs.length
  · have hX : Xs[i]? = some Xs[i] := List.getElem?_eq_getElem hlt
    refine W.step i Xs[i] _ _ _ _ hX hS zin2 (fun v s1 hr => hr) ?_
    intro v h3 tk3 hS3 g3 r3
    have Hx3 := W.ex (i + 1) h3 hS3
    have S3' := S2.outside (h' := h3) Hk Hx Hg Hf g3
    have S3 := S3'.pinU (fun a ha => S2.pinned Hk Hx a ha) Hx3
    have r3' : ItemR mg z2 h3 t v Xs[i] := by
      rcases r3 with r | ⟨e, T, vals, xs, e1, e2, it, r⟩
      · exact .inl (r.mono hz2)
      · exact .inr ⟨e, T, vals, xs, e1, e2, it, r.mono hz2⟩
    refine (turn i Xs[i] ρ2 hX hinv).run A _ _ z2 _ _ _ v ok S3 r3' ?_
    intro ρ3 z3 h4 tk4 hbody hz3 S4
    refine hbody.run A _ _ z3 _ _ _ ok S4 ?_
    intro fl o ρ4 z4 h5 tk5 hq hz4 S5 r5
    have keep5 : ∀ b ∈ wr, ∀ o, h3.get? b = some o → h5.get? b = some o := fun b hb o e => S5.kept _ _ (by unfold pinK; rw [if_pos hb]; exact e)
    have eqpin : pinK κ h5 wr = pinK κ h3 wr := by
      funext b
      unfold pinK
      split
      · rename_i hb
        refine hideG fun gHid hHid => ?_
        obtain ⟨o, e⟩ := Hx3 b hb
        refine hHid ?_; clear hHid gHid
        rw [e, keep5 b hb o e]
      · rfl
    have hz14 : Le z1 z4 := (hz2.trans hz3).trans hz4
    have SI5 : SI (i + 1) h5 := W.frame _ _ _ hS3 (hz2.trans S3.zin) keep5 (fun b hb => by cases hb) (hz14.trans S5.zin)
    have out5 : St mg g₀ env κ Φ ρ4 z4 h5 := S5.unpin (pinK_le Hk) (fun a ha => .inr ha) Hg
    cases fl <;> cases o <;> simp only [FlowR] at r5
    · exact ⟨Xs.length + 1 - (i + 1), by (exact (nl (.branch 2 (.branch 1 (.leaf (Xs.length + 1 - (i + 1))) (.leaf (Xs.length + 1 - i))) (.branch 3 (.leaf i) (.leaf (Xs.length)))) [(1, (.add (.var 3) (.num 1)), (.add (.var 1) (.var 2))), (1, (.add (.var 0) (.add (.var 2) (.num 1))), (.add (.var 3) (.num 1)))] 1 (.add (.var 0) (.num 1)) (.var 1) rfl (nsa (Xs.length + 1) (i)) (nsb (nl (.branch 1 (.leaf i) (.leaf (Xs.length))) [(1, (.var 0), (.var 1))] 1 (.add (.var 0) (.num 1)) (.add (.var 1) (.num 1)) rfl hi)))), i + 1, h5, tk5, ρ4, z4, rfl, rfl, hlt, hq, hz14, by rw [eqpin]; exact S5, SI5⟩
    · exact c _ .next _ _ _ tk5 hq (hz1.trans hz14) out5 trivial
    · exact ⟨Xs.length + 1 - (i + 1), by omega, i + 1, h5, tk5, ρ4, z4, rfl, rfl, hlt, hq, hz14, by rw [eqpin]; exact S5, SI5⟩
    · exact c _ (.ret _) _ _ _ tk5 hq (hz1.trans hz14) out5 r5
  · have he : i = Xs.length := by (exact (Nat.le_antisymm (nl (.branch 1 (.leaf i) (.leaf (Xs.length))) [(1, (.var 0), (.var 1))] 1 (.var 0) (.var 1) rfl hi) (nl (.branch 1 (.leaf (Xs.length)) (.leaf i)) [(1, (.var 0), (.var 1))] 1 (.var 0) (.var 1) rfl (Nat.le_of_not_lt hlt))))
    subst he
    refine W.done _ _ _ hS zin2 ?_
    intro h3 tk3 g3
    exact wpAny_execs_nil (c _ .next _ _ _ tk3 (fin _ hinv) (hz1.trans hz2) (S2.outside Hk Hx Hg Hf g3) trivial)
end
end Mine
namespace Mine
open PySem PySem.Calls

theorem Wk.of_walks {prog : Program} {w : World} {A : Around} {mg : Str → Option Value} {I : Addr} {t : Expr} {fp wr : List Addr} {z : PH} {Xs : List V} {n : Nat} {P : Nat → Value → Prop} {SI : Nat → Heap → Prop}
    (W : Walks prog w A I fp wr n P SI) (hn : n = Xs.length) (hP : ∀ i v X, P i v → Xs[i]? = some X → Holds mg z v X) (hfp : ∀ b ∈ fp, b ∈ wr ∨ ∃ o, z b = some o)
    (hex : ∀ i h, SI i h → ∀ b ∈ wr, ∃ o, h.get? b = some o)
    (hl : ∀ i v (s : Shared) (Q : Unit → Shared → Prop) (E : Value → Shared → Prop), SI i s.heap → Q () s → wpAny (model prog w) A (letOwnedTupleGo t (.ref I) v) Q E s) : Wk prog w A mg I t wr z Xs SI [] where
  frame := fun i h h' hs hz hk _ hz' => W.frame i h h' hs fun b hb o e => by
    rcases hfp b hb with q | ⟨o', q⟩
    · exact hk b q o e
    · have e1 := hz _ _ q; rw [e] at e1; cases e1; exact hz' _ _ q
  step := fun i X s Pp Q E hX hS hz hp hq => by
    have hi : i < n := by rw [hn]; exact (List.getElem?_eq_some_iff.mp hX).1
    refine W.item i s Pp E hi hS fun v h' tk hv hS' hk => hp v _ ?_
    exact hl (i + 1) v { s with heap := h', toks := tk } _ E hS' (hq v h' tk hS' hk (.inl (hP i v X hv hX)))
  done := fun s Pp E hS hz hq => W.done s Pp E (by rw [hn]; exact hS) hq
  ex := hex
  self := W.self

theorem Wk.of_walksT {prog : Program} {w : World} {A : Around} {mg : Str → Option Value} {I : Addr} {es : List Expr} {kd : Nat} {p : Pos} {fp wr : List Addr} {z : PH} {Xs : List V} {n : Nat} {P : Nat → Array Value → Prop} {SI : Nat → Heap → Prop} {Mid : Nat → Addr → Heap → Prop}
    (W : WalksT prog w A I fp wr n P SI Mid) (hn : n = Xs.length) (hP : ∀ i vals X, P i vals → Xs[i]? = some X → ∃ xs, X = .tup xs ∧ HoldsL mg z vals.toList xs) (hfp : ∀ b ∈ fp, b ∈ wr ∨ ∃ o, z b = some o)
    (hex : ∀ i h, SI i h → ∀ b ∈ wr, ∃ o, h.get? b = some o) : Wk prog w A mg I (.Tuple es kd p) wr z Xs SI [] where
  frame := fun i h h' hs hz hk _ hz' => W.frame i h h' hs fun b hb o e => by
    rcases hfp b hb with q | ⟨o', q⟩
    · exact hk b q o e
    · have e1 := hz _ _ q; rw [e] at e1; cases e1; exact hz' _ _ q
  step := fun i X s Pp Q E hX hS hz hp hq => by
    have hi : i < n := by rw [hn]; exact (List.getElem?_eq_some_iff.mp hX).1
    refine W.item i s Pp E hi hS fun T vals h' tk hv _ hT hM hk => hp (.ref T) _ ?_
    refine W.go es kd p i T { s with heap := h', toks := tk } _ E hM fun h2 hS2 hk2 => ?_
    have hT2 : h2.IsTuple T vals := let ⟨o, ho, r⟩ := hT; ⟨o, hk2 _ _ (W.apart _ _ _ hM) ho, r⟩
    refine hideG fun gHid hHid => ?_
    obtain ⟨xs, rfl, hx⟩ := hP i vals X hv hX
    refine hHid ?_; clear hHid gHid
    exact hq (.ref T) h2 tk hS2 (fun b o hb e => hk2 _ _ hb (hk _ _ hb e)) (.inr ⟨⟨_, _, _, rfl⟩, T, vals.toList, xs, rfl, rfl, by simpa using hT2, hx⟩)
  done := fun s Pp E hS hz hq => W.done s Pp E (by rw [hn]; exact hS) hq
  ex := hex
  self := W.self

def rng (a c : Int) (n : Nat) : List V := (List.range n).map fun i => V.int (a + (i : Nat) * c)
theorem rng_length (a c : Int) (n : Nat) : (rng a c n).length = n := by simp [rng]
theorem rng_get {a c : Int} {n i : Nat} {X : V} (h : (rng a c n)[i]? = some X) : i < n ∧ X = .int (a + (i : Nat) * c) := by
  simp only [rng, List.getElem?_map, List.getElem?_range] at h
  by_cases hi : i < n
  · rw [List.getElem?_range hi] at h; simp at h; exact ⟨hi, h.symm⟩
  · rw [List.getElem?_eq_none (by simpa using hi)] at h; simp at h

section
variable {mg mb : Str → Option Value} {g₀ : Heap} {recs : List DefRec} {prog : Program} {w : World} {env : Env} {k : Nat} {ρ ρ' : Row}

theorem St.freshΦ {κ z : PH} {Φ : Addr → Prop} {h : Heap} (S : St mg g₀ env κ Φ ρ z h) {b : Addr} (hb : h.get? b = none) : Unused env κ ρ z b ∧ ¬ Φ b :=
  ⟨S.unused hb, fun q => by obtain ⟨o, e⟩ := S.offIn _ q; rw [e] at hb; cases hb⟩

theorem EvI.list {x : Str} {p : Pos} {iter : Expr} {Q : List V → Row → Prop} (h : EvV mg g₀ prog w env k iter ρ fun X ρ1 => ∃ xs, X = .list xs ∧ Q xs ρ1) : EvI mg g₀ prog w env k (.Name x p) iter ρ Q := by
  refine ⟨?_⟩
  intro A κ Φ z s K E ok S c
  refine h.run A κ Φ z s _ E ok S ?_
  intro v X ρ1 z1 h1 tk1 hI1 hz1 S1 r1
  refine hideG fun gHid hHid => ?_
  obtain ⟨xs, rfl, hq⟩ := hI1
  refine hHid ?_; clear hHid gHid
  cases r1 with
  | @list a vs n _ e r =>
    have eh := S1.zin _ _ e
    refine wpAny_pyIter_list (isListO eh) ?_
    have hne : a ≠ h1.objs.size := Nat.ne_of_lt (Heap.lt_size eh)
    have W := Walks.list (prog := prog) (w := w) ok.handled h1.objs.size a hne vs.toArray
    refine c _ [h1.objs.size] _ xs _ z1 _ tk1 hq hz1 (S1.grow (Grow.push h1 _)) (Wk.of_walks W (by simp [r.length]) (fun i v X hv hX => ?_) (fun b hb => ?_) (fun i h hS b hb => ?_) (fun _ _ _ _ _ _ hq => wpAny_pure hq)) ⟨⟨_, Heap.get?_push_size _ rfl, rfl, rfl⟩, isListO (Heap.get?_push_of_some _ eh)⟩ (fun b hb => ?_)
    · refine hideG fun gHid hHid => ?_
      obtain ⟨v', hv', rv⟩ := r.get hX
      refine hHid ?_; clear hHid gHid
      have : vs[i]? = some v := by simpa using hv
      rw [this] at hv'; cases hv'; exact rv
    · simp only [List.mem_cons, List.not_mem_nil, or_false] at hb
      rcases hb with rfl | rfl
      · exact .inl (by simp)
      · exact .inr ⟨_, e⟩
    · simp only [List.mem_cons, List.not_mem_nil, or_false] at hb; subst hb
      obtain ⟨o, ho, _⟩ := hS.1; exact ⟨o, ho⟩
    · simp only [List.mem_cons, List.not_mem_nil, or_false] at hb; subst hb
      exact S1.freshΦ (fresh_size h1)

/-- over a tuple, the items unpacked or not -/
theorem EvI.tuple {t : Expr} {iter : Expr} {Q : List V → Row → Prop} (h : EvV mg g₀ prog w env k iter ρ fun X ρ1 => ∃ xs, X = .tup xs ∧ Q xs ρ1) : EvI mg g₀ prog w env k t iter ρ Q := by
  refine ⟨?_⟩
  intro A κ Φ z s K E ok S c
  refine h.run A κ Φ z s _ E ok S ?_
  intro v X ρ1 z1 h1 tk1 hI1 hz1 S1 r1
  refine hideG fun gHid hHid => ?_
  obtain ⟨xs, rfl, hq⟩ := hI1
  refine hHid ?_; clear hHid gHid
  cases r1 with
  | @tup a vs n _ e r =>
    have eh := S1.zin _ _ e
    have it : h1.IsTuple a vs.toArray := ⟨_, eh, rfl, _, rfl⟩
    refine wpAny_pyIter_tuple it ?_
    have hne : a ≠ h1.objs.size := Nat.ne_of_lt (Heap.lt_size eh)
    have W := Walks.tuple (prog := prog) (w := w) ok.handled h1.objs.size a hne vs.toArray
    refine c _ [h1.objs.size] _ xs _ z1 _ tk1 hq hz1 (S1.grow (Grow.push h1 _)) (Wk.of_walks W (by simp [r.length]) (fun i v X hv hX => ?_) (fun b hb => ?_) (fun i h hS b hb => ?_) (fun i v s Q E hS hq => ?_)) ⟨⟨_, Heap.get?_push_size _ rfl, rfl, rfl⟩, ⟨_, Heap.get?_push_of_some _ eh, rfl, _, rfl⟩⟩ (fun b hb => ?_)
    · refine hideG fun gHid hHid => ?_
      obtain ⟨v', hv', rv⟩ := r.get hX
      refine hHid ?_; clear hHid gHid
      have : vs[i]? = some v := by simpa using hv
      rw [this] at hv'; cases hv'; exact rv
    · simp only [List.mem_cons, List.not_mem_nil, or_false] at hb
      rcases hb with rfl | rfl
      · exact .inl (by simp)
      · exact .inr ⟨_, e⟩
    · simp only [List.mem_cons, List.not_mem_nil, or_false] at hb; subst hb
      obtain ⟨o, ho, _⟩ := hS.1; exact ⟨o, ho⟩
    · refine hideG fun gHid hHid => ?_
      obtain ⟨o, ho, hc, hd⟩ := hS.1
      refine hHid ?_; clear hHid gHid
      unfold letOwnedTupleGo
      split
      all_goals first
        | exact wpAny_pure hq
        | (split
           · rename_i a' _ _
             rename_i e1; cases e1
             refine wpAny_bind (wpAny_load ho ?_)
             rw [hc, hd]
             show wpAny _ _ (if (["enumerate", "zip", "dict_itemiterator", "dict_reverseitemiterator", "odict_iterator", "itertools.zip_longest", "itertools.pairwise"].contains "tuple_iterator" && _) = true then _ else pure ()) Q E s
             rw [show (["enumerate", "zip", "dict_itemiterator", "dict_reverseitemiterator", "odict_iterator", "itertools.zip_longest", "itertools.pairwise"].contains "tuple_iterator") = false from by decide, Bool.false_and, if_neg Bool.false_ne_true]
             exact wpAny_pure hq
           · exact wpAny_pure hq)
    · simp only [List.mem_cons, List.not_mem_nil, or_false] at hb; subst hb
      exact S1.freshΦ (fresh_size h1)

theorem range_src {A : Around} {κ z : PH} {Φ : Addr → Prop} {s : Shared} {K : Value → Shared → Prop} {E : Value → Shared → Prop} {x : Str} {p : Pos} {r : Addr} {a b c : Int} {t u v : Tok} {Q : List V → Row → Prop} (ok : OkA env k A) (S : St mg g₀ env κ Φ ρ z s.heap)
    (hr : IsRange s.heap r a b c t u v) (hsm : Builtin.Range.small a b c = true) (hpos : 0 ≤ Builtin.Range.rangeSize a b c) (hq : Q (rng a c (Builtin.Range.rangeSize a b c).toNat) ρ)
    (cc : ∀ I wr SI Xs ρ' z' h' tk, Q Xs ρ' → Le z z' → St mg g₀ env κ Φ ρ' z' h' → Wk prog w A mg I (.Name x p) wr z' Xs SI [] → SI 0 h' → (∀ b ∈ wr, Unused env κ ρ' z' b ∧ ¬ Φ b) → K (.ref I) { s with heap := h', toks := tk }) :
    wpAny (model prog w) A (pyIter (.ref r)) K E s := by
  refine wpAny_pyIter_range hr hsm ?_
  have W := Walks.range (prog := prog) (w := w) ok.handled s.heap.objs.size a c (Builtin.Range.rangeSize a b c).toNat
  refine cc _ [s.heap.objs.size] _ _ ρ z _ s.toks hq (Le.refl _) (S.grow (Grow.push s.heap _)) (Wk.of_walks W (by simp [rng]) (fun i v X hv hX => ?_) (fun b hb => .inl hb) (fun i h hS b hb => ?_) (fun _ _ _ _ _ _ hq => wpAny_pure hq)) ?_ (fun b hb => ?_)
  · refine hideG fun gHid hHid => ?_
    obtain ⟨_, rfl⟩ := rng_get hX
    refine hHid ?_; clear hHid gHid
    refine hideG fun gHid hHid => ?_
    obtain ⟨t, rfl⟩ := hv
    refine hHid ?_; clear hHid gHid
    exact .int _ _
  · simp only [List.mem_cons, List.not_mem_nil, or_false] at hb; subst hb; exact ⟨_, hS⟩
  · show IsRangeIter _ _ _ _ _
    rw [Int.toNat_of_nonneg hpos]
    simpa using Heap.get?_push_size _ rfl
  · simp only [List.mem_cons, List.not_mem_nil, or_false] at hb; subst hb; exact S.freshΦ (fresh_size s.heap)

theorem rangeSize_nonneg (a b c : Int) : 0 ≤ Builtin.Range.rangeSize a b c := by
  unfold Builtin.Range.rangeSize
  split <;> split <;> first | (first | decide | omega) | (have := Int.ediv_nonneg (a := b - a - 1) (b := c) (by lia) (by lia); omega) | (have := Int.ediv_nonneg (a := a - b - 1) (b := -c) (by lia) (by lia); omega)

theorem EvI.range1 {x : Str} {p pr pos : Pos} {e : Expr} {Q : List V → Row → Prop} (G : Gl mg mb g₀ recs)
    (h : EvV mg g₀ prog w env k e ρ fun X ρ1 => ∃ n, X = .int n ∧ -(2 ^ 62) ≤ n ∧ n < 2 ^ 62 ∧ Q (rng 0 1 n.toNat) ρ1)
    (hs : noStar e = true := by with_unfolding_all rfl) (hx : env.kindOf "range" = some .globalImplicit := by with_unfolding_all rfl) : EvI mg g₀ prog w env k (.Name x p) (.Call (.Name "range" pr) [e] [] pos) ρ Q := by
  refine ⟨?_⟩
  intro A κ Φ z s K E ok S c
  refine wpAny_Call_NameR (builtin_load G ok S G.range hx ?_)
  refine PyProof.Rows.callWith_type1 ?_ (starEach_cons hs) rfl
  refine wpAny_items_cons (h.run A κ Φ z s _ E ok S ?_) (starEach_cons hs)
  intro v X ρ1 z1 h1 tk1 hI1 hz1 S1 r1
  refine hideG fun gHid hHid => ?_
  obtain ⟨n, rfl, n0, n1, hq⟩ := hI1
  refine hHid ?_; clear hHid gHid
  refine wpAny_items_nil ?_
  cases r1
  refine call_range_1 ?_
  have e1 : (Builtin.Range.rangeSize 0 n 1).toNat = n.toNat := by rw [rangeSize_nat]; lia
  exact range_src ok (S1.grow (Grow.push h1 _)) (IsRange.new ..) (small_one (by decide) (by decide) n0 n1) (rangeSize_nonneg ..) (Q := Q) (by rw [e1]; exact hq) fun I wr SI Xs ρ' z' h' tk hq hz S W => c I wr SI Xs ρ' z' h' tk hq (hz1.trans hz) S W

theorem EvI.range2 {x : Str} {p pr pos : Pos} {e f : Expr} {Q : List V → Row → Prop} (G : Gl mg mb g₀ recs)
    (h : EvV mg g₀ prog w env k e ρ fun X ρ1 => ∃ a, X = .int a ∧ -(2 ^ 62) ≤ a ∧ a < 2 ^ 62 ∧ EvV mg g₀ prog w env k f ρ1 fun Y ρ2 => ∃ n, Y = .int n ∧ -(2 ^ 62) ≤ n ∧ n < 2 ^ 62 ∧ Q (rng a 1 (n - a).toNat) ρ2)
    (hs : noStar e = true := by with_unfolding_all rfl) (hs' : noStar f = true := by with_unfolding_all rfl) (hx : env.kindOf "range" = some .globalImplicit := by with_unfolding_all rfl) : EvI mg g₀ prog w env k (.Name x p) (.Call (.Name "range" pr) [e, f] [] pos) ρ Q := by
  refine ⟨?_⟩
  intro A κ Φ z s K E ok S c
  refine wpAny_Call_NameR (builtin_load G ok S G.range hx ?_)
  refine PyProof.Rows.callWith_type1 ?_ (starEach_cons hs) (backTo_any (by simp [hs']))
  refine wpAny_items_cons (h.run A κ Φ z s _ E ok S ?_) (starEach_cons hs)
  intro v X ρ1 z1 h1 tk1 hI1 hz1 S1 r1
  refine hideG fun gHid hHid => ?_
  obtain ⟨a, rfl, a0, a1, h'⟩ := hI1
  refine hHid ?_; clear hHid gHid
  refine wpAny_items_cons (h'.run A κ Φ z1 _ _ E ok S1 ?_) (starEach_cons hs')
  intro v X ρ2 z2 h2 tk2 hI1 hz2 S2 r2
  refine hideG fun gHid hHid => ?_
  obtain ⟨n, rfl, n0, n1, hq⟩ := hI1
  refine hHid ?_; clear hHid gHid
  refine wpAny_items_nil ?_
  cases r1; cases r2
  refine call_range_2 ?_
  have e1 : (Builtin.Range.rangeSize a n 1).toNat = (n - a).toNat := by rw [rangeSize_nat]; rfl
  exact range_src ok (S2.grow (Grow.push h2 _)) (IsRange.new ..) (small_one a0 a1 n0 n1) (rangeSize_nonneg ..) (Q := Q) (by rw [e1]; exact hq) fun I wr SI Xs ρ' z' h' tk hq hz S W => c I wr SI Xs ρ' z' h' tk hq ((hz1.trans hz2).trans hz) S W

theorem EvI.range3 {x : Str} {p pr pos : Pos} {e f g : Expr} {Q : List V → Row → Prop} (G : Gl mg mb g₀ recs)
    (h : EvV mg g₀ prog w env k e ρ fun X ρ1 => ∃ a, X = .int a ∧ EvV mg g₀ prog w env k f ρ1 fun Y ρ2 => ∃ n, Y = .int n ∧ EvV mg g₀ prog w env k g ρ2 fun Z ρ3 => ∃ d, Z = .int d ∧ d ≠ 0 ∧ d.natAbs < 1073741824 ∧
      Builtin.Range.small a n d = true ∧ Q (rng a d (Builtin.Range.rangeSize a n d).toNat) ρ3)
    (hs : noStar e = true := by with_unfolding_all rfl) (hs' : noStar f = true := by with_unfolding_all rfl) (hs'' : noStar g = true := by with_unfolding_all rfl) (hx : env.kindOf "range" = some .globalImplicit := by with_unfolding_all rfl) : EvI mg g₀ prog w env k (.Name x p) (.Call (.Name "range" pr) [e, f, g] [] pos) ρ Q := by
  refine ⟨?_⟩
  intro A κ Φ z s K E ok S c
  refine wpAny_Call_NameR (builtin_load G ok S G.range hx ?_)
  refine PyProof.Rows.callWith_type1 ?_ (starEach_cons hs) (backTo_any (by simp [hs', hs'']))
  refine wpAny_items_cons (h.run A κ Φ z s _ E ok S ?_) (starEach_cons hs)
  intro v X ρ1 z1 h1 tk1 hI1 hz1 S1 r1
  refine hideG fun gHid hHid => ?_
  obtain ⟨a, rfl, h'⟩ := hI1
  refine hHid ?_; clear hHid gHid
  refine wpAny_items_cons (h'.run A κ Φ z1 _ _ E ok S1 ?_) (starEach_cons hs')
  intro v X ρ2 z2 h2 tk2 hI1 hz2 S2 r2
  refine hideG fun gHid hHid => ?_
  obtain ⟨n, rfl, h''⟩ := hI1
  refine hHid ?_; clear hHid gHid
  refine wpAny_items_cons (h''.run A κ Φ z2 _ _ E ok S2 ?_) (starEach_cons hs'')
  intro v X ρ3 z3 h3 tk3 hI1 hz3 S3 r3
  refine hideG fun gHid hHid => ?_
  obtain ⟨d, rfl, d0, d1, hsm, hq⟩ := hI1
  refine hHid ?_; clear hHid gHid
  refine wpAny_items_nil ?_
  cases r1; cases r2; cases r3
  refine call_range_3 d0 ?_ (.inl (PyProof.noPylong_small d1))
  exact range_src ok (S3.grow (Grow.push h3 _)) (IsRange.new ..) hsm (rangeSize_nonneg ..) (Q := Q) hq fun I wr SI Xs ρ' z' h' tk hq hz S W => c I wr SI Xs ρ' z' h' tk hq (((hz1.trans hz2).trans hz3).trans hz) S W

def enumV (xs : List V) : List V := (xs.zipIdx).map fun p => V.tup [.int p.2, p.1]

theorem EvI.enum {es : List Expr} {kd : Nat} {p pr pos : Pos} {e : Expr} {Q : List V → Row → Prop} (G : Gl mg mb g₀ recs)
    (h : EvV mg g₀ prog w env k e ρ fun X ρ1 => ∃ xs, X = .list xs ∧ Q (enumV xs) ρ1)
    (hs : noStar e = true := by with_unfolding_all rfl) (hx : env.kindOf "enumerate" = some .globalImplicit := by with_unfolding_all rfl) : EvI mg g₀ prog w env k (.Tuple es kd p) (.Call (.Name "enumerate" pr) [e] [] pos) ρ Q := by
  refine ⟨?_⟩
  intro A κ Φ z s K E ok S c
  refine wpAny_Call_NameR (builtin_load G ok S G.enum hx ?_)
  refine PyProof.Rows.callWith_type1 ?_ (starEach_cons hs) rfl
  refine wpAny_items_cons (h.run A κ Φ z s _ E ok S ?_) (starEach_cons hs)
  intro v X ρ1 z1 h1 tk1 hI1 hz1 S1 r1
  refine hideG fun gHid hHid => ?_
  obtain ⟨xs, rfl, hq⟩ := hI1
  refine hHid ?_; clear hHid gHid
  refine wpAny_items_nil ?_
  cases r1 with
  | @list a vs n _ e r =>
    have eh := S1.zin _ _ e
    have alt := ltN (Heap.lt_size eh)
    refine call_enumerate_list (isListO eh) fun h2 he hit hsz g => ?_
    have S2 := S1.grow (h' := h2) g
    have W := WalksT.enumerate (prog := prog) (w := w) ok.handled (h1.objs.size + 1) h1.objs.size a (neN (by (exact (Nat.ne_of_gt (nl (.leaf (h1.objs.size)) [] 1 (.add (.var 0) (.num 1)) (.add (.var 0) (.num 1)) rfl))))) (neN (by dsimp only at *; (exact (Nat.ne_of_lt (nl (.branch 1 (.leaf a) (.leaf (h1.objs.size))) [(1, (.add (.var 0) (.num 1)), (.var 1))] 1 (.add (.var 0) (.num 1)) (.add (.var 1) (.num 1)) rfl alt))))) (neN (by dsimp only at *; (exact Nat.ne_of_lt (by assumption)))) vs.toArray
    refine W.self 0 _ _ E ⟨⟨_, he⟩, hit, isListO (g _ _ eh)⟩ ?_
    refine c _ [h1.objs.size + 1, h1.objs.size] _ (enumV xs) _ z1 _ tk1 hq hz1 S2 (Wk.of_walksT W (by simp [enumV, r.length]) (fun i vals X hv hX => ?_) (fun b hb => ?_) (fun i h hS b hb => ?_)) ⟨⟨_, he⟩, hit, isListO (g _ _ eh)⟩ (fun b hb => ?_)
    · refine hideG fun gHid hHid => ?_
      obtain ⟨t, x, hx, rfl⟩ := hv
      refine hHid ?_; clear hHid gHid
      simp only [enumV, List.getElem?_map, List.getElem?_zipIdx, Option.map_map, Option.map_eq_some_iff] at hX
      refine hideG fun gHid hHid => ?_
      obtain ⟨y, hy, rfl⟩ := hX
      refine hHid ?_; clear hHid gHid
      refine hideG fun gHid hHid => ?_
      obtain ⟨v', hv', rv⟩ := r.get hy
      refine hHid ?_; clear hHid gHid
      have : vs[i]? = some x := by simpa using hx
      rw [this] at hv'; cases hv'
      exact ⟨_, rfl, by simpa using HoldsL.cons (.int _ _) (.cons rv .nil)⟩
    · simp only [List.mem_cons, List.not_mem_nil, or_false] at hb ⊢
      rcases hb with rfl | rfl | rfl
      · exact .inl (.inl rfl)
      · exact .inl (.inr rfl)
      · exact .inr ⟨_, e⟩
    · refine hideG fun gHid hHid => ?_
      obtain ⟨⟨old, q⟩, ⟨o, ho, _⟩, _⟩ := hS
      refine hHid ?_; clear hHid gHid
      simp only [List.mem_cons, List.not_mem_nil, or_false] at hb
      rcases hb with rfl | rfl
      · exact ⟨_, q⟩
      · exact ⟨_, ho⟩
    · simp only [List.mem_cons, List.not_mem_nil, or_false] at hb
      rcases hb with rfl | rfl
      · exact S1.freshΦ (fresh_ge (by (exact (nl (.leaf (h1.objs.size)) [] 1 (.var 0) (.add (.var 0) (.num 1)) rfl))))
      · exact S1.freshΦ (fresh_ge (by (exact Nat.le_refl _)))

def zipV (xs ys : List V) : List V := (xs.zip ys).map fun p => V.tup [p.1, p.2]

theorem EvI.zip {es : List Expr} {kd : Nat} {p pr pos : Pos} {e f : Expr} {Q : List V → Row → Prop} (G : Gl mg mb g₀ recs)
    (h : EvV mg g₀ prog w env k e ρ fun X ρ1 => ∃ xs, X = .list xs ∧ EvV mg g₀ prog w env k f ρ1 fun Y ρ2 => ∃ ys, Y = .list ys ∧ Q (zipV xs ys) ρ2)
    (hs : noStar e = true := by with_unfolding_all rfl) (hs' : noStar f = true := by with_unfolding_all rfl) (hx : env.kindOf "zip" = some .globalImplicit := by with_unfolding_all rfl) : EvI mg g₀ prog w env k (.Tuple es kd p) (.Call (.Name "zip" pr) [e, f] [] pos) ρ Q := by
  refine ⟨?_⟩
  intro A κ Φ z s K E ok S c
  refine wpAny_Call_NameR (builtin_load G ok S G.zip hx ?_)
  refine PyProof.Rows.callWith_type1 ?_ (starEach_cons hs) (backTo_any (by simp [hs']))
  refine wpAny_items_cons (h.run A κ Φ z s _ E ok S ?_) (starEach_cons hs)
  intro v X ρ1 z1 h1 tk1 hI1 hz1 S1 r1
  refine hideG fun gHid hHid => ?_
  obtain ⟨xs, rfl, h'⟩ := hI1
  refine hHid ?_; clear hHid gHid
  refine wpAny_items_cons (h'.run A κ Φ z1 _ _ E ok S1 ?_) (starEach_cons hs')
  intro v' X ρ2 z2 h2 tk2 hI1 hz2 S2 r2
  refine hideG fun gHid hHid => ?_
  obtain ⟨ys, rfl, hq⟩ := hI1
  refine hHid ?_; clear hHid gHid
  refine wpAny_items_nil ?_
  have r1' := r1.mono hz2
  cases r1' with
  | @list a vs n _ e1 r =>
    cases r2 with
    | @list b ws m _ e2 q =>
      have eh := S2.zin _ _ e1
      have fh := S2.zin _ _ e2
      have alt := ltN (Heap.lt_size eh)
      have blt := ltN (Heap.lt_size fh)
      refine call_zip_2 (isListO eh) (isListO fh) fun h3 a1 a2 a3 a4 a5 hsz g => ?_
      have S3 := S2.grow (h' := h3) g
      have W := WalksT.zip2 (prog := prog) (w := w) ok.handled (h2.objs.size + 4) (h2.objs.size + 2) (h2.objs.size + 3) h2.objs.size (h2.objs.size + 1) a b
        (by constructor <;> (refine neN ?_; dsimp only at *; (first | (exact (Nat.ne_of_lt (nl (.leaf (h2.objs.size)) [] 1 (.add (.add (.var 0) (.num 2)) (.num 1)) (.add (.var 0) (.num 4)) rfl))) | (exact (Nat.ne_of_lt (nl (.leaf (h2.objs.size)) [] 1 (.add (.add (.var 0) (.num 3)) (.num 1)) (.add (.var 0) (.num 4)) rfl))) | (exact (Nat.ne_of_lt (nl (.leaf (h2.objs.size)) [] 1 (.add (.var 0) (.num 1)) (.add (.var 0) (.num 4)) rfl))) | (exact (Nat.ne_of_lt (nl (.leaf (h2.objs.size)) [] 1 (.add (.add (.var 0) (.num 1)) (.num 1)) (.add (.var 0) (.num 4)) rfl))) | (exact (Nat.ne_of_lt (nl (.leaf (h2.objs.size)) [] 1 (.add (.add (.var 0) (.num 2)) (.num 1)) (.add (.var 0) (.num 3)) rfl))) | (exact (Nat.ne_of_gt (nl (.leaf (h2.objs.size)) [] 1 (.add (.var 0) (.num 1)) (.add (.var 0) (.num 2)) rfl))) | (exact (Nat.ne_of_gt (nl (.leaf (h2.objs.size)) [] 1 (.add (.add (.var 0) (.num 1)) (.num 1)) (.add (.var 0) (.num 2)) rfl))) | (exact (Nat.ne_of_gt (nl (.leaf (h2.objs.size)) [] 1 (.add (.var 0) (.num 1)) (.add (.var 0) (.num 3)) rfl))) | (exact (Nat.ne_of_gt (nl (.leaf (h2.objs.size)) [] 1 (.add (.add (.var 0) (.num 1)) (.num 1)) (.add (.var 0) (.num 3)) rfl))) | (exact (Nat.ne_of_lt (nl (.leaf (h2.objs.size)) [] 1 (.add (.var 0) (.num 1)) (.add (.var 0) (.num 1)) rfl))) | (exact (Nat.ne_of_lt (nl (.branch 1 (.leaf a) (.leaf (h2.objs.size))) [(1, (.add (.var 0) (.num 1)), (.var 1))] 1 (.add (.var 0) (.num 1)) (.add (.var 1) (.num 4)) rfl alt))) | (exact (Nat.ne_of_lt (nl (.branch 1 (.leaf a) (.leaf (h2.objs.size))) [(1, (.add (.var 0) (.num 1)), (.var 1))] 1 (.add (.var 0) (.num 1)) (.add (.var 1) (.num 3)) rfl alt))) | (exact (Nat.ne_of_lt (nl (.branch 1 (.leaf a) (.leaf (h2.objs.size))) [(1, (.add (.var 0) (.num 1)), (.var 1))] 1 (.add (.var 0) (.num 1)) (.var 1) rfl alt))) | (exact (Nat.ne_of_lt (nl (.branch 1 (.leaf a) (.leaf (h2.objs.size))) [(1, (.add (.var 0) (.num 1)), (.var 1))] 1 (.add (.var 0) (.num 1)) (.add (.var 1) (.num 1)) rfl alt))) | (exact (Nat.ne_of_lt (nl (.branch 1 (.leaf b) (.leaf (h2.objs.size))) [(1, (.add (.var 0) (.num 1)), (.var 1))] 1 (.add (.var 0) (.num 1)) (.add (.var 1) (.num 4)) rfl blt))) | (exact (Nat.ne_of_lt (nl (.branch 1 (.leaf b) (.leaf (h2.objs.size))) [(1, (.add (.var 0) (.num 1)), (.var 1))] 1 (.add (.var 0) (.num 1)) (.add (.var 1) (.num 3)) rfl blt))) | (exact (Nat.ne_of_lt (nl (.branch 1 (.leaf b) (.leaf (h2.objs.size))) [(1, (.add (.var 0) (.num 1)), (.var 1))] 1 (.add (.var 0) (.num 1)) (.var 1) rfl blt))) | (exact (Nat.ne_of_lt (nl (.branch 1 (.leaf b) (.leaf (h2.objs.size))) [(1, (.add (.var 0) (.num 1)), (.var 1))] 1 (.add (.var 0) (.num 1)) (.add (.var 1) (.num 1)) rfl blt)))))) vs.toArray ws.toArray
      have S0 : IsZip h3 (h2.objs.size + 4) (h2.objs.size + 2) (h2.objs.size + 3) .none ∧ IsPair h3 (h2.objs.size + 2) (.ref h2.objs.size) (.ref (h2.objs.size + 1)) ∧ (∃ a b, IsPair h3 (h2.objs.size + 3) a b) ∧ h3.IsListIter h2.objs.size a 0 ∧ h3.IsListIter (h2.objs.size + 1) b 0 ∧ h3.IsList a vs.toArray ∧ h3.IsList b ws.toArray :=
        ⟨a1, a2, ⟨_, _, a3⟩, a4, a5, isListO (g _ _ eh), isListO (g _ _ fh)⟩
      refine W.self 0 _ _ E S0 ?_
      have TIu : Unused env κ ρ2 z2 (h2.objs.size + 2) ∧ ¬ Φ (h2.objs.size + 2) := S2.freshΦ (fresh_ge (by (exact (nl (.leaf (h2.objs.size)) [] 1 (.var 0) (.add (.var 0) (.num 2)) rfl))))
      have S4 := S3.addZ TIu.1 a2 TIu.2
      have hz4 : Le z2 (z2.upd (h2.objs.size + 2) { cls := .type "tuple", data := .seq #[.ref h2.objs.size, .ref (h2.objs.size + 1)] }) := Le.upd TIu.1.nz
      refine c _ [h2.objs.size + 4, h2.objs.size + 3, h2.objs.size, h2.objs.size + 1] _ (zipV xs ys) _ _ _ tk2 hq ((hz1.trans hz2).trans hz4) S4 (Wk.of_walksT W (by simp [zipV, r.length, q.length]) (fun i vals X hv hX => ?_) (fun b' hb => ?_) (fun i h hS b' hb => ?_)) S0 (fun b' hb => ?_)
      · refine hideG fun gHid hHid => ?_
        obtain ⟨x, y, hx, hy, rfl⟩ := hv
        refine hHid ?_; clear hHid gHid
        simp only [zipV, List.getElem?_map, Option.map_eq_some_iff] at hX
        refine hideG fun gHid hHid => ?_
        obtain ⟨⟨X1, X2⟩, hp, rfl⟩ := hX
        refine hHid ?_; clear hHid gHid
        refine hideG fun gHid hHid => ?_
        obtain ⟨p1, p2⟩ := List.getElem?_zip_eq_some.mp hp
        refine hHid ?_; clear hHid gHid
        refine hideG fun gHid hHid => ?_
        obtain ⟨u1, hu1, ru1⟩ := r.get p1
        refine hHid ?_; clear hHid gHid
        refine hideG fun gHid hHid => ?_
        obtain ⟨u2, hu2, ru2⟩ := q.get p2
        refine hHid ?_; clear hHid gHid
        have e3 : vs[i]? = some x := by simpa using hx
        have e4 : ws[i]? = some y := by simpa using hy
        rw [e3] at hu1; cases hu1
        rw [e4] at hu2; cases hu2
        exact ⟨_, rfl, by simpa using HoldsL.cons (ru1.mono hz4) (.cons (ru2.mono hz4) .nil)⟩
      · simp only [List.mem_cons, List.not_mem_nil, or_false] at hb ⊢
        rcases hb with rfl | rfl | rfl | rfl | rfl | rfl | rfl
        · exact .inl (.inl rfl)
        · exact .inr ⟨_, PH.upd_self ..⟩
        · exact .inl (.inr (.inl rfl))
        · exact .inl (.inr (.inr (.inl rfl)))
        · exact .inl (.inr (.inr (.inr rfl)))
        · exact .inr ⟨_, hz4 _ _ e1⟩
        · exact .inr ⟨_, hz4 _ _ e2⟩
      · refine hideG fun gHid hHid => ?_
        obtain ⟨b1, b2, ⟨_, _, b3⟩, ⟨o4, b4, _⟩, ⟨o5, b5, _⟩, _⟩ := hS
        refine hHid ?_; clear hHid gHid
        simp only [List.mem_cons, List.not_mem_nil, or_false] at hb
        rcases hb with rfl | rfl | rfl | rfl
        · exact ⟨_, b1⟩
        · exact ⟨_, b3⟩
        · exact ⟨_, b4⟩
        · exact ⟨_, b5⟩
      · simp only [List.mem_cons, List.not_mem_nil, or_false] at hb
        rcases hb with rfl | rfl | rfl | rfl
        · exact ⟨(S2.freshΦ (fresh_ge (by (exact (nl (.leaf (h2.objs.size)) [] 1 (.var 0) (.add (.var 0) (.num 4)) rfl))))).1.updZ (neN (by (exact (Nat.ne_of_gt (nl (.leaf (h2.objs.size)) [] 1 (.add (.add (.var 0) (.num 2)) (.num 1)) (.add (.var 0) (.num 4)) rfl))))), (S2.freshΦ (fresh_ge (by (exact (nl (.leaf (h2.objs.size)) [] 1 (.var 0) (.add (.var 0) (.num 4)) rfl))))).2⟩
        · exact ⟨(S2.freshΦ (fresh_ge (by (exact (nl (.leaf (h2.objs.size)) [] 1 (.var 0) (.add (.var 0) (.num 3)) rfl))))).1.updZ (neN (by (exact (Nat.ne_of_gt (nl (.leaf (h2.objs.size)) [] 1 (.add (.add (.var 0) (.num 2)) (.num 1)) (.add (.var 0) (.num 3)) rfl))))), (S2.freshΦ (fresh_ge (by (exact (nl (.leaf (h2.objs.size)) [] 1 (.var 0) (.add (.var 0) (.num 3)) rfl))))).2⟩
        · exact ⟨(S2.freshΦ (fresh_ge (by (exact Nat.le_refl _)))).1.updZ (neN (by (exact (Nat.ne_of_lt (nl (.leaf (h2.objs.size)) [] 1 (.add (.var 0) (.num 1)) (.add (.var 0) (.num 2)) rfl))))), (S2.freshΦ (fresh_ge (by (exact Nat.le_refl _)))).2⟩
        · exact ⟨(S2.freshΦ (fresh_ge (by (exact (nl (.leaf (h2.objs.size)) [] 1 (.var 0) (.add (.var 0) (.num 1)) rfl))))).1.updZ (neN (by (exact (Nat.ne_of_lt (nl (.leaf (h2.objs.size)) [] 1 (.add (.add (.var 0) (.num 1)) (.num 1)) (.add (.var 0) (.num 2)) rfl))))), (S2.freshΦ (fresh_ge (by (exact (nl (.leaf (h2.objs.size)) [] 1 (.var 0) (.add (.var 0) (.num 1)) rfl))))).2⟩
end
end Mine
namespace Mine
open PySem PySem.Calls

theorem lookup_zip_rev {mg : Str → Option Value} {z : PH} : ∀ {names : List Str} {vals : List Value} {args : List V}, names.Nodup → HoldsL mg z vals args → ∀ {x : Str} {X : V}, (x, X) ∈ names.zip args → ∃ v, (names.zip vals).reverse.lookup x = some v ∧ Holds mg z v X
  | [], _, _, _, _, x, X, h => by simp at h
  | n :: ns, _, _, hn, .nil, x, X, h => by simp at h
  | n :: ns, v :: vs, y :: ys, hn, .cons rv r, x, X, h => by
    simp only [List.zip_cons_cons, List.mem_cons] at h
    simp only [List.nodup_cons] at hn
    simp only [List.zip_cons_cons, List.reverse_cons, List.lookup_append]
    rcases h with h | h
    · cases h
      refine ⟨v, ?_, rv⟩
      have : ((ns.zip vs).reverse).lookup n = none := by
        rw [List.lookup_eq_none_iff]
        intro p hp
        have := (List.of_mem_zip (List.mem_reverse.mp hp)).1
        simp only [bne_iff_ne, ne_eq]
        rintro rfl; exact hn.1 this
      rw [this]
      simp
    · refine hideG fun gHid hHid => ?_
      obtain ⟨v', e, r'⟩ := lookup_zip_rev hn.2 r h
      refine hHid ?_; clear hHid gHid
      exact ⟨v', by rw [e]; rfl, r'⟩

theorem zip_map_fst {α β : Type} : ∀ {l : List α} {m : List β}, l.length = m.length → (l.zip m).map (·.1) = l := fun h => List.map_fst_zip (Nat.le_of_eq h)

/-- what is asked of a def of the text, by computation -/
structure DefOk (d : DefRec) (names locals : List Str) : Prop where
  bind : ∀ pm cd doc vals, vals.length = names.length → bindArgs (docDef d.name d.params d.body d.scope pm cd doc) ⟨vals, []⟩ = pure (names.zip vals)
  cell : ∀ x ∈ d.scope.names, x.2 ≠ .cell
  loc : ∀ x ∈ names ++ locals, d.scope.names.lookup x = some .local
  nodup : (names ++ locals).Nodup
  dbg : ∀ x ∈ names ++ locals, (x == ("__debug__" : Str)) = false ∧ (x == ("__classdict__" : Str)) = false
  co : d.scope.isCoroutine = false
  gen : d.scope.isGenerator = false
  kind : d.scope.kind = .function

def row0 (names locals : List Str) (args : List V) : Row := (names.zip args).map (fun p => (p.1, Bnd.val p.2)) ++ locals.map fun x => (x, Bnd.un)
/-- the first argument is a list that the def turns -/
def rowM (l : Addr) (xs : List V) : List Str → List Str → List V → Row
  | n :: ns, locals, args => (n, Bnd.mown l xs) :: row0 ns locals args
  | [], _, _ => []

theorem row0_keys {names locals : List Str} {args : List V} (h : names.length = args.length) : (row0 names locals args).map (·.1) = names ++ locals := by
  simp only [row0, List.map_append, List.map_map]
  congr 1
  · show List.map (fun p => p.1) (names.zip args) = names
    exact zip_map_fst h
  · exact List.map_id _
theorem row0_addrs {names locals : List Str} {args : List V} : (row0 names locals args).addrs = [] := by
  simp only [Row.addrs, row0, List.flatMap_append, List.append_eq_nil_iff, List.flatMap_eq_nil_iff, List.mem_map]
  constructor
  · rintro _ ⟨p, _, rfl⟩; rfl
  · rintro _ ⟨p, _, rfl⟩; rfl

section
variable {mg mb : Str → Option Value} {g₀ : Heap} {recs : List DefRec} {prog : Program} {w : World}

theorem OkC.deeper {k : Nat} {A : Around} {d : DefRec} {L a : Addr} {cd : Value} (h : OkC (k + 1) A) (hk : d.scope.kind = .function) : OkA (envOf d.name d.scope L a cd) k (A.deeper (envOf d.name d.scope L a cd)) :=
  ⟨⟨h.handled, by have := h.depth; show A.depth + 1 + k < _; (exact (nl (.branch 1 (.leaf (A.depth)) (.branch 2 (.leaf k) (.leaf recursionLimit))) [(1, (.add (.add (.var 0) (.add (.var 1) (.num 1))) (.num 1)), (.var 2))] 1 (.add (.add (.add (.var 0) (.num 1)) (.var 1)) (.num 1)) (.var 2) rfl this)), by have := h.units; show A.units + 3 + _ + _ < _; (exact (nl (.branch 1 (.leaf (A.units)) (.branch 2 (.leaf k) (.leaf cLine))) [(1, (.add (.add (.add (.var 0) (.mulL 10 (.add (.var 1) (.num 1)))) (.num 200)) (.num 1)), (.var 2))] 1 (.add (.add (.add (.add (.var 0) (.num 3)) (.mulL 10 (.var 1))) (.num 200)) (.num 1)) (.var 2) rfl this))⟩, hk, rfl, rfl⟩

theorem row0_mem {names locals : List Str} {args : List V} {x : Str} {B : Bnd} (h : (x, B) ∈ row0 names locals args) : (∃ X, B = .val X ∧ (x, X) ∈ names.zip args) ∨ (B = .un ∧ x ∈ locals) := by
  simp only [row0, List.mem_append, List.mem_map] at h
  rcases h with ⟨p, hp, e⟩ | ⟨y, hy, e⟩
  · cases e; exact .inl ⟨_, rfl, hp⟩
  · cases e; exact .inr ⟨rfl, hy⟩

theorem Returns.intro (G : Gl mg mb g₀ recs) {d : DefRec} (hd : d ∈ recs) {names locals : List Str} (D : DefOk d names locals) {args : List V} {r : V} {k : Nat} (hlen : names.length = args.length)
    (h : ∀ L a cd, ExS mg g₀ prog w (envOf d.name d.scope L a cd) k d.body (row0 names locals args) fun o _ => o = .ret r ∨ (o = .next ∧ r = .none)) : Returns mg g₀ prog w d.name (k + 1) args r := by
  intro A z s vals a Q E ok root zin hv hf hQ
  refine hideG fun gHid hHid => ?_
  obtain ⟨a', o, pm, code, doc, e1, e2, e3, e4⟩ := G.fn d hd
  refine hHid ?_; clear hHid gHid
  rw [hf] at e1; cases e1
  have hl : vals.length = names.length := by rw [hv.length, hlen]
  refine wpAny_call (call_plain (by have := ok.depth; (exact (nl (.branch 1 (.leaf (A.depth)) (.branch 2 (.leaf recursionLimit) (.leaf k))) [(1, (.add (.add (.var 0) (.add (.var 2) (.num 1))) (.num 1)), (.var 1))] 1 (.add (.var 0) (.num 1)) (.var 1) rfl this))) (root _ _ e2) e3 (G.nolimit.keeps root) (e4.keeps root) (D.bind _ _ _ _ hl) (fun x hx => ?_) (fun h₁ F => ?_) D.co D.gen D.kind D.cell)
  · exact D.loc _ (List.mem_append_left _ (List.of_mem_zip hx).1)
  · have zin1 : Le z h₁.get? := fun b o e => F.keep _ _ (zin _ _ e)
    have S : St mg g₀ (envOf d.name d.scope s.heap.objs.size a code) s.heap.get? (fun b => (∃ o, s.heap.get? b = some o) ∧ z b = none) (row0 names locals args) z h₁ := by
      refine ⟨root, F.keep, zin1, fun b hb => hb.2, fresh_size _, none_of_le zin (fresh_size _), ⟨_, F.ns, fun x B hm => ?_⟩, by rw [row0_addrs]; exact .nil, (fun x y c e => by cases e), by rw [row0_keys hlen]; exact D.nodup, by rw [row0_keys hlen]; exact D.dbg, fun b hb => let ⟨o, e⟩ := hb.1; ⟨o, F.keep _ _ e⟩⟩
      rcases row0_mem hm with ⟨X, rfl, hz⟩ | ⟨rfl, hx⟩
      · refine hideG fun gHid hHid => ?_
        obtain ⟨v, e, rv⟩ := lookup_zip_rev (List.nodup_append.mp D.nodup).1 hv hz
        refine hHid ?_; clear hHid gHid
        exact ⟨some v, .inl ⟨D.loc x (List.mem_append_left _ (List.of_mem_zip hz).1), e.symm⟩, v, rfl, rv⟩
      · exact ⟨_, .inl ⟨D.loc x (List.mem_append_right _ hx), rfl⟩, trivial⟩
    refine (h _ _ _).run _ _ _ z _ _ _ (ok.deeper D.kind) S ?_
    intro fl o ρ' z' h' tk ho hz S' r'
    have fin : ∀ v, Holds mg z' v r → Q v { s with heap := h', toks := tk } := fun v hv => hQ v z' h' tk hz S'.zin (fun b o e => by
      cases q : s.heap.get? b with
      | none => exact .inr rfl
      | some o' =>
        left
        cases q' : z b with
        | none => rw [S'.zoff b ⟨⟨_, q⟩, q'⟩] at e; cases e
        | some o2 => have := hz _ _ q'; rw [e] at this; rw [this]) S'.kept hv
    rcases ho with rfl | ⟨rfl, rfl⟩
    · cases fl <;> simp only [FlowR] at r'
      exact fin _ r'
    · cases fl <;> simp only [FlowR] at r'
      exact fin _ .none

theorem Turns.intro (G : Gl mg mb g₀ recs) {d : DefRec} (hd : d ∈ recs) {n0 : Str} {names locals : List Str} (D : DefOk d (n0 :: names) locals) {xs : List V} {args : List V} {P : List V → V → Prop} {k : Nat} (hlen : names.length = args.length)
    (h : ∀ L a cd l, ExS mg g₀ prog w (envOf d.name d.scope L a cd) k d.body (rowM l xs (n0 :: names) locals args) fun o ρ' => ∃ ys r, P ys r ∧ (o = .ret r ∨ (o = .next ∧ r = .none)) ∧ (n0, Bnd.mown l ys) ∈ ρ') : Turns mg g₀ prog w d.name (k + 1) xs args P := by
  intro A z s vals a l vs n Q E ok root zin el rl zl gl hv hf hQ
  refine hideG fun gHid hHid => ?_
  obtain ⟨a', o, pm, code, doc, e1, e2, e3, e4⟩ := G.fn d hd
  refine hHid ?_; clear hHid gHid
  rw [hf] at e1; cases e1
  have hl : (Value.ref l :: vals).length = (n0 :: names).length := by simp [hv.length, hlen]
  refine wpAny_call (call_plain (by have := ok.depth; (exact (nl (.branch 1 (.leaf (A.depth)) (.branch 2 (.leaf recursionLimit) (.leaf k))) [(1, (.add (.add (.var 0) (.add (.var 2) (.num 1))) (.num 1)), (.var 1))] 1 (.add (.var 0) (.num 1)) (.var 1) rfl this))) (root _ _ e2) e3 (G.nolimit.keeps root) (e4.keeps root) (D.bind _ _ _ _ hl) (fun x hx => ?_) (fun h₁ F => ?_) D.co D.gen D.kind D.cell)
  · exact D.loc _ (List.mem_append_left _ (List.of_mem_zip hx).1)
  · have zin1 : Le z h₁.get? := fun b o e => F.keep _ _ (zin _ _ e)
    have hnd := D.nodup
    simp only [List.cons_append, List.nodup_cons] at hnd
    have nl : l ≠ s.heap.objs.size := Nat.ne_of_lt (Heap.lt_size el)
    have S : St mg g₀ (envOf d.name d.scope s.heap.objs.size a code) (fun b => if b = l then none else s.heap.get? b) (fun b => (∃ o, s.heap.get? b = some o) ∧ z b = none) (rowM l xs (n0 :: names) locals args) z h₁ := by
      refine ⟨fun b o e => ?_, fun b o e => ?_, zin1, fun b hb => hb.2, ?_, none_of_le zin (fresh_size _), ⟨_, F.ns, fun x B hm => ?_⟩, ?_, (fun x y c e => by cases e), ?_, ?_, fun b hb => let ⟨o, e⟩ := hb.1; ⟨o, F.keep _ _ e⟩⟩
      · show (if b = l then none else s.heap.get? b) = some o
        rw [if_neg (fun q => by rw [q, gl] at e; cases e)]; exact root _ _ e
      · split at e
        · cases e
        · exact F.keep _ _ e
      · show (if s.heap.objs.size = l then none else s.heap.get? s.heap.objs.size) = none
        rw [if_neg (Ne.symm nl)]; exact fresh_size _
      · rcases List.mem_cons.mp hm with e | hm
        · cases e
          refine ⟨some (.ref l), .inl ⟨D.loc n0 (by simp), ?_⟩, rfl, ⟨⟨vs, n, F.keep _ _ el, rl⟩, ?_, zl⟩⟩
          · show _ = ((n0 :: names).zip (Value.ref l :: vals)).reverse.lookup n0
            simp only [List.zip_cons_cons, List.reverse_cons, List.lookup_append]
            have : ((names.zip vals).reverse).lookup n0 = none := by
              rw [List.lookup_eq_none_iff]
              intro p hp
              have := (List.of_mem_zip (List.mem_reverse.mp hp)).1
              simp only [bne_iff_ne, ne_eq]
              rintro rfl; exact hnd.1 (List.mem_append_left _ this)
            rw [this]; simp
          · simp
        · rcases row0_mem hm with ⟨X, rfl, hz⟩ | ⟨rfl, hx⟩
          · refine hideG fun gHid hHid => ?_
            obtain ⟨v, e, rv⟩ := lookup_zip_rev (List.nodup_append.mp hnd.2).1 hv hz
            refine hHid ?_; clear hHid gHid
            refine ⟨some v, .inl ⟨D.loc x (by simp [(List.of_mem_zip hz).1]), ?_⟩, v, rfl, rv⟩
            show _ = ((n0 :: names).zip (Value.ref l :: vals)).reverse.lookup x
            simp only [List.zip_cons_cons, List.reverse_cons, List.lookup_append]
            rw [e]; rfl
          · exact ⟨_, .inl ⟨D.loc x (by simp [hx]), rfl⟩, trivial⟩
      · show (Bnd.addrs (.mown l xs) ++ (row0 names locals args).addrs).Nodup
        rw [row0_addrs]; simp [Bnd.addrs]
      · show (n0 :: (row0 names locals args).map (·.1)).Nodup
        rw [row0_keys hlen]; exact D.nodup
      · show ∀ x ∈ n0 :: (row0 names locals args).map (·.1), _
        rw [row0_keys hlen]; exact D.dbg
    refine (h _ _ _ l).run _ _ _ z _ _ _ (ok.deeper D.kind) S ?_
    intro fl o ρ' z' h' tk hI1 hz S' r'
    refine hideG fun gHid hHid => ?_
    obtain ⟨ys, r, hP, ho, hm⟩ := hI1
    refine hHid ?_; clear hHid gHid
    refine hideG fun gHid hHid => ?_
    obtain ⟨m, _, f⟩ := S'.frame
    refine hHid ?_; clear hHid gHid
    refine hideG fun gHid hHid => ?_
    obtain ⟨_, _, _, ⟨vs', n', el', rl'⟩, _, zl'⟩ := f _ _ hm
    refine hHid ?_; clear hHid gHid
    have fin : ∀ v, Holds mg z' v r → Q v { s with heap := h', toks := tk } := fun v hv => hQ v z' h' tk vs' n' ys r hP hz S'.zin (fun b o e => by
      cases q : s.heap.get? b with
      | none => exact .inr rfl
      | some o' =>
        left
        cases q' : z b with
        | none => rw [S'.zoff b ⟨⟨_, q⟩, q'⟩] at e; cases e
        | some o2 => have := hz _ _ q'; rw [e] at this; rw [this]) (fun b o hb e => S'.kept b o (by simp only [if_neg hb]; exact e)) el' rl' zl' hv
    rcases ho with rfl | ⟨rfl, rfl⟩
    · cases fl <;> simp only [FlowR] at r'
      exact fin _ r'
    · cases fl <;> simp only [FlowR] at r'
      exact fin _ .none
end
end Mine
namespace Mine
open PySem PySem.Calls

/-- the text's defs, by their place -/
def dOf : Stmt → DefRec
  | .FunctionDef name args body _ _ _ scope _ _ pos => ⟨name, args, body, scope, pos⟩
  | _ => ⟨Str.empty, ⟨[], [], none, [], [], none, []⟩, [], ⟨.function, [], false, false, []⟩, ⟨0, 0, 0, 0⟩⟩
def dAt (i : Nat) : DefRec := dOf (PySem.Challenge.pw_tk0051_01.main.body.getD i (.Pass ⟨0, 0, 0, 0⟩))
def recs : List DefRec := ([5, 6, 7, 8, 9, 10, 11, 12, 13, 14, 16, 17, 18, 19, 20, 21, 22, 23, 24, 25, 27, 28, 30, 31, 32, 33, 34, 35, 37, 38, 39, 40, 41, 42, 43, 45, 46, 47, 48, 49, 50, 51] : List Nat).map dAt

theorem dName : recs.map (·.name) = (["normal", "compare", "add", "sub", "add_limb", "divrem_limb", "shift_left", "shift_right", "bits", "low", "signed", "s_neg", "s_abs", "s_add", "s_sub", "s_mul", "tdiv", "fdiv", "s_mod", "s_shift",
  "gcd_ext", "inverse_mod", "level_above", "product_tree", "remainder_tree", "crossed_above", "crossed", "chinese", "mul_school", "divrem_small", "guessed_limb", "take_away", "put_back", "divide_rows", "divrem_school",
  "_law_sifted", "_law_limbs", "_law_signed", "_law_inverse", "_law_done", "_law_due", "law"] : List String).map Str.ofString := by decide +kernel

end Mine
namespace Mine
open PySem PySem.Calls
/-! plain mathematics: digits to a base -/

def val (B : Nat) : List Nat → Nat
  | [] => 0
  | d :: r => d + B * val B r

def dig (B n : Nat) : List Nat := if h : 2 ≤ B ∧ 0 < n then (n % B) :: dig B (n / B) else []
termination_by n
decreasing_by exact Nat.div_lt_self h.2 h.1

/-- the last noughts go -/
def nrm : List Nat → List Nat
  | [] => []
  | d :: r => match nrm r with
    | [] => if d = 0 then [] else [d]
    | r' => d :: r'

def Ds (B : Nat) (l : List Nat) : Prop := ∀ d ∈ l, d < B

theorem Ds.nil {B : Nat} : Ds B [] := fun _ h => by cases h
theorem Ds.cons {B d : Nat} {l : List Nat} (h : d < B) (r : Ds B l) : Ds B (d :: l) := fun x hx => by
  rcases List.mem_cons.mp hx with rfl | hx
  · exact h
  · exact r x hx
theorem Ds.head {B d : Nat} {l : List Nat} (h : Ds B (d :: l)) : d < B := h d (by simp)
theorem Ds.tail {B d : Nat} {l : List Nat} (h : Ds B (d :: l)) : Ds B l := fun x hx => h x (by simp [hx])
theorem Ds.append {B : Nat} {l m : List Nat} (h : Ds B l) (k : Ds B m) : Ds B (l ++ m) := fun x hx => by
  rcases List.mem_append.mp hx with hx | hx
  · exact h x hx
  · exact k x hx
theorem Ds.left {B : Nat} {l m : List Nat} (h : Ds B (l ++ m)) : Ds B l := fun x hx => h x (by simp [hx])
theorem Ds.right {B : Nat} {l m : List Nat} (h : Ds B (l ++ m)) : Ds B m := fun x hx => h x (by simp [hx])
theorem Ds.get {B i d : Nat} {l : List Nat} (h : Ds B l) (e : l[i]? = some d) : d < B := h d (List.mem_of_getElem? e)
theorem Ds.take {B i : Nat} {l : List Nat} (h : Ds B l) : Ds B (l.take i) := fun x hx => h x (List.mem_of_mem_take hx)
theorem Ds.drop {B i : Nat} {l : List Nat} (h : Ds B l) : Ds B (l.drop i) := fun x hx => h x (List.mem_of_mem_drop hx)
theorem Ds.set {B i d : Nat} {l : List Nat} (h : Ds B l) (k : d < B) : Ds B (l.set i d) := fun x hx => by
  rcases List.mem_or_eq_of_mem_set hx with hx | rfl
  · exact h x hx
  · exact k
theorem Ds.replicate {B n : Nat} (h : 0 < B) : Ds B (List.replicate n 0) := fun x hx => by
  rw [(List.mem_replicate.mp hx).2]; exact h

theorem val_append (B : Nat) (l m : List Nat) : val B (l ++ m) = val B l + B ^ l.length * val B m := by
  induction l with
  | nil => simp [val]
  | cons d r ih => simp only [List.cons_append, val, ih, List.length_cons, Nat.pow_succ]; grind
theorem val_one (B d : Nat) : val B [d] = d := by simp [val]
theorem val_snoc (B d : Nat) (l : List Nat) : val B (l ++ [d]) = val B l + B ^ l.length * d := by rw [val_append, val_one]
theorem val_take_succ {B i d : Nat} {l : List Nat} (h : l[i]? = some d) : val B (l.take (i + 1)) = val B (l.take i) + B ^ i * d := by
  have hi := (List.getElem?_eq_some_iff.mp h).1
  rw [List.take_add_one, h]
  show val B (l.take i ++ [d]) = _
  rw [val_snoc, List.length_take, Nat.min_eq_left (Nat.le_of_lt hi)]
theorem val_take_all (B : Nat) (l : List Nat) : val B (l.take l.length) = val B l := by rw [List.take_length]
theorem val_drop {B i d : Nat} {l : List Nat} (h : l[i]? = some d) : val B (l.drop i) = d + B * val B (l.drop (i + 1)) := by
  have hi := (List.getElem?_eq_some_iff.mp h)
  rw [List.drop_eq_getElem_cons hi.1, hi.2]; rfl
theorem val_split (B i : Nat) (l : List Nat) (h : i ≤ l.length) : val B l = val B (l.take i) + B ^ i * val B (l.drop i) := by
  have := val_append B (l.take i) (l.drop i)
  rw [List.take_append_drop, List.length_take, Nat.min_eq_left h] at this
  exact this
theorem val_lt {B : Nat} (hB : 0 < B) : ∀ {l : List Nat}, Ds B l → val B l < B ^ l.length
  | [], _ => by simp [val]
  | d :: r, h => by
    have ih := val_lt hB h.tail
    have hd := h.head
    simp only [val, List.length_cons, Nat.pow_succ]
    have h1 : B * (val B r + 1) ≤ B * B ^ r.length := Nat.mul_le_mul_left B ih
    rw [Nat.mul_add, Nat.mul_one] at h1
    rw [Nat.mul_comm (B ^ r.length) B]
    (exact (nl (.branch 2 (.branch 1 (.leaf d) (.leaf (B * val B r))) (.branch 3 (.leaf (B * B ^ r.length)) (.leaf B))) [(1, (.add (.var 0) (.num 1)), (.var 3)), (1, (.add (.var 1) (.var 3)), (.var 2))] 1 (.add (.add (.var 0) (.var 1)) (.num 1)) (.var 2) rfl hd h1))
theorem val_zeros (B n : Nat) : val B (List.replicate n 0) = 0 := by
  induction n with
  | zero => rfl
  | succ n ih => simp [List.replicate_succ, val, ih]
theorem val_set {B i v d : Nat} {l : List Nat} (h : l[i]? = some d) : val B (l.set i v) + B ^ i * d = val B l + B ^ i * v := by
  induction l generalizing i with
  | nil => simp at h
  | cons x r ih =>
    cases i with
    | zero => simp at h; subst h; simp [val]; (exact (Nat.le_antisymm (nl (.branch 1 (.leaf v) (.branch 2 (.leaf (B * val B r)) (.leaf x))) [] 1 (.add (.add (.var 0) (.var 1)) (.var 2)) (.add (.add (.var 2) (.var 1)) (.var 0)) rfl) (nl (.branch 1 (.leaf x) (.branch 2 (.leaf (B * val B r)) (.leaf v))) [] 1 (.add (.add (.var 0) (.var 1)) (.var 2)) (.add (.add (.var 2) (.var 1)) (.var 0)) rfl)))
    | succ i =>
      simp at h
      have := ih h
      simp only [List.set_cons_succ, val, Nat.pow_succ]
      grind

theorem dig_zero (B : Nat) : dig B 0 = [] := by rw [dig]; simp
theorem dig_pos {B n : Nat} (hB : 2 ≤ B) (hn : 0 < n) : dig B n = (n % B) :: dig B (n / B) := by rw [dig, dif_pos ⟨hB, hn⟩]
theorem dig_val {B : Nat} (hB : 2 ≤ B) (n : Nat) : val B (dig B n) = n := by
  induction n using Nat.strongRecOn with
  | ind n ih =>
    by_cases hn : 0 < n
    · rw [dig_pos hB hn, val, ih _ (Nat.div_lt_self hn hB)]
      exact Nat.mod_add_div n B
    · have : n = 0 := by (exact (Nat.le_antisymm (nl (.leaf n) [(1, (.var 0), (.num 0))] 1 (.var 0) (.num 0) rfl (Nat.le_of_not_lt hn)) (nl (.leaf n) [] 1 (.num 0) (.var 0) rfl)))
      subst this; rw [dig_zero]; rfl
theorem dig_Ds {B : Nat} (hB : 2 ≤ B) (n : Nat) : Ds B (dig B n) := by
  induction n using Nat.strongRecOn with
  | ind n ih =>
    by_cases hn : 0 < n
    · rw [dig_pos hB hn]
      exact .cons (Nat.mod_lt _ (by (exact Nat.le_of_lt (by assumption)))) (ih _ (Nat.div_lt_self hn hB))
    · have : n = 0 := by omega
      subst this; rw [dig_zero]; exact .nil
theorem dig_eq_nil {B : Nat} (hB : 2 ≤ B) {n : Nat} : dig B n = [] ↔ n = 0 := by
  constructor
  · intro h
    have := dig_val hB n
    rw [h] at this; exact this.symm
  · rintro rfl; exact dig_zero B
theorem dig_cons {B d n : Nat} (hB : 2 ≤ B) (hd : d < B) (h : 0 < d + B * n) : dig B (d + B * n) = d :: dig B n := by
  rw [dig_pos hB h]
  congr 1
  · rw [Nat.add_mul_mod_self_left, Nat.mod_eq_of_lt hd]
  · rw [Nat.add_mul_div_left _ _ (by (exact Nat.le_of_lt (by assumption))), Nat.div_eq_of_lt hd, Nat.zero_add]

theorem nrm_dig {B : Nat} (hB : 2 ≤ B) : ∀ {l : List Nat}, Ds B l → nrm l = dig B (val B l)
  | [], _ => by simp [nrm, val, dig_zero]
  | d :: r, h => by
    have ih := nrm_dig hB h.tail
    simp only [nrm, val]
    cases hr : nrm r with
    | nil =>
      rw [hr] at ih
      have hv : val B r = 0 := (dig_eq_nil hB).mp ih.symm
      simp only [hv, Nat.mul_zero, Nat.add_zero]
      by_cases hd : d = 0
      · simp [hd, dig_zero]
      · rw [if_neg hd]
        have := dig_cons (n := 0) hB h.head (by (exact (nl (.branch 1 (.leaf d) (.leaf B)) [(1, (.add (.num 0) (.num 1)), (.var 0))] 1 (.add (.num 0) (.num 1)) (.add (.var 0) (.mulR (.var 1) 0)) rfl (Nat.pos_of_ne_zero hd))))
        simpa [dig_zero] using this.symm
    | cons x t =>
      rw [hr] at ih
      have hv : val B r ≠ 0 := fun q => by rw [q, dig_zero] at ih; cases ih
      rw [dig_cons hB h.head (by have := Nat.mul_pos (show 0 < B by (exact Nat.le_of_lt (by assumption))) (Nat.pos_of_ne_zero hv); (exact (nl (.branch 1 (.leaf d) (.leaf (B * val B r))) [(1, (.add (.num 0) (.num 1)), (.var 1))] 1 (.add (.num 0) (.num 1)) (.add (.var 0) (.var 1)) rfl this))), ← ih]
theorem nrm_snoc_zero (l : List Nat) : nrm (l ++ [0]) = nrm l := by
  induction l with
  | nil => rfl
  | cons d r ih => simp only [List.cons_append, nrm, ih]
theorem nrm_snoc {l : List Nat} {x : Nat} (h : x ≠ 0) : nrm (l ++ [x]) = l ++ [x] := by
  induction l with
  | nil => simp [nrm, h]
  | cons d r ih =>
    simp only [List.cons_append, nrm, ih]
    cases hr : r ++ [x] with
    | nil => simp at hr
    | cons y t => rfl
theorem nrm_length (l : List Nat) : (nrm l).length ≤ l.length := by
  induction l with
  | nil => simp [nrm]
  | cons d r ih =>
    simp only [nrm]
    cases hr : nrm r with
    | nil => dsimp only; split <;> simp
    | cons y t => rw [hr] at ih; simpa using ih

/-- digits whose last is no nought are the number's own -/
theorem dig_canon {B : Nat} (hB : 2 ≤ B) {l : List Nat} {x : Nat} (h : Ds B (l ++ [x])) (hx : x ≠ 0) : l ++ [x] = dig B (val B (l ++ [x])) := by
  rw [← nrm_dig hB h, nrm_snoc hx]
/-- digits whose number is as great as their count are the number's own -/
theorem dig_bounds {B : Nat} (hB : 2 ≤ B) {l : List Nat} {n : Nat} (h : Ds B l) (hv : val B l = n) (hl : l = [] ∨ B ^ (l.length - 1) ≤ n) : l = dig B n := by
  rcases List.eq_nil_or_concat l with rfl | ⟨m, x, rfl⟩
  · subst hv; simp [val, dig_zero]
  · rcases hl with hl | hl
    · simp at hl
    · by_cases hx : x = 0
      · exfalso
        subst hx
        simp only [List.concat_eq_append] at h hv hl
        rw [val_snoc, Nat.mul_zero, Nat.add_zero] at hv
        have := val_lt (by (exact Nat.le_of_lt (by assumption))) h.left
        simp at hl
        (exact (Nat.not_succ_le_zero 0 (nl (.branch 1 (.leaf (val B m)) (.branch 2 (.leaf n) (.leaf (B ^ m.length)))) [(1, (.var 1), (.var 0)), (1, (.add (.var 0) (.num 1)), (.var 2)), (1, (.var 2), (.var 1))] 0 (.num 1) (.num 0) rfl (nge hv) this hl)))
      · rw [← hv]
        simp only [List.concat_eq_append] at h ⊢
        exact dig_canon hB h hx
theorem dig_snoc {B n : Nat} (hB : 2 ≤ B) (hn : 0 < n) : ∃ l x, dig B n = l ++ [x] ∧ x ≠ 0 := by
  rcases List.eq_nil_or_concat (dig B n) with h | ⟨m, x, h⟩
  · rw [dig_eq_nil hB] at h; (exact (False.elim (Nat.not_succ_le_zero 0 (nl (.leaf n) [(1, (.add (.num 0) (.num 1)), (.var 0)), (1, (.var 0), (.num 0))] 0 (.num 1) (.num 0) rfl hn (Nat.le_of_eq h)))))
  · refine ⟨m, x, by simpa using h, ?_⟩
    rintro rfl
    have h1 := nrm_dig hB (dig_Ds hB n)
    rw [dig_val hB] at h1
    simp only [List.concat_eq_append] at h
    rw [h, nrm_snoc_zero] at h1
    have h2 := nrm_length m
    rw [h1] at h2
    simp at h2
    (exact (Nat.not_succ_le_zero 0 (nl (.leaf (m.length)) [(1, (.add (.var 0) (.num 1)), (.var 0))] 0 (.num 1) (.num 0) rfl h2)))
/-- a number lies between the powers of its count of digits -/
theorem dig_le {B n : Nat} (hB : 2 ≤ B) (hn : 0 < n) : B ^ ((dig B n).length - 1) ≤ n := by
  refine hideG fun gHid hHid => ?_
  obtain ⟨l, x, h, hx⟩ := dig_snoc hB hn
  refine hHid ?_; clear hHid gHid
  have hv := dig_val hB n
  rw [h, val_snoc] at hv
  rw [h]
  simp only [List.length_append, List.length_cons, List.length_nil, Nat.zero_add, Nat.add_sub_cancel]
  have : B ^ l.length * 1 ≤ B ^ l.length * x := Nat.mul_le_mul_left _ (by (exact (nl (.leaf x) [(1, (.add (.num 0) (.num 1)), (.var 0))] 1 (.num 1) (.var 0) rfl (Nat.pos_of_ne_zero hx))))
  (exact (nl (.branch 2 (.branch 1 (.leaf (B ^ l.length)) (.leaf n)) (.branch 3 (.leaf (val B l)) (.leaf (B ^ l.length * x)))) [(1, (.add (.var 2) (.var 3)), (.var 1)), (1, (.mulR (.var 0) 1), (.var 3))] 1 (.var 0) (.var 1) rfl (Nat.le_of_eq hv) this))
theorem dig_lt {B : Nat} (hB : 2 ≤ B) (n : Nat) : n < B ^ (dig B n).length := by
  have := val_lt (by (exact Nat.le_of_lt (by assumption))) (dig_Ds hB n)
  rwa [dig_val hB] at this
theorem dig_length_le {B n k : Nat} (hB : 2 ≤ B) (h : n < B ^ k) : (dig B n).length ≤ k := by
  by_cases hn : 0 < n
  · have h1 := dig_le hB hn
    have h2 : B ^ ((dig B n).length - 1) < B ^ k := by (exact Nat.lt_of_le_of_lt (by assumption) (by assumption))
    have := (Nat.pow_lt_pow_iff_right (by assumption : 1 < B)).mp h2
    (exact (nl (.branch 1 (.leaf ((dig B n).length)) (.branch 2 (.leaf k) (.leaf ((dig B n).length - 1)))) [(1, (.add (.var 2) (.num 1)), (.var 1)), (1, (.var 0), (.add (.var 2) (.num 1)))] 1 (.var 0) (.var 1) rfl this (nsa ((dig B n).length) (1))))
  · have : n = 0 := by (exact (Nat.le_antisymm (nl (.leaf n) [(1, (.var 0), (.num 0))] 1 (.var 0) (.num 0) rfl (Nat.le_of_not_lt hn)) (nl (.leaf n) [] 1 (.num 0) (.var 0) rfl)))
    subst this; simp [dig_zero]
theorem dig_inj {B : Nat} (hB : 2 ≤ B) {n m : Nat} (h : dig B n = dig B m) : n = m := by rw [← dig_val hB n, ← dig_val hB m, h]
end Mine
namespace Mine
open PySem PySem.Calls
theorem len_succ {n : Nat} {l : List Value} (h : l.length = n + 1) : ∃ a r, l = a :: r ∧ r.length = n := by
  cases l with
  | nil => cases h
  | cons a r => exact ⟨a, r, rfl, Nat.succ.inj h⟩
theorem len1 {l : List Value} (h : l.length = 1) : ∃ a, l = [a] := by
  obtain ⟨a, r, rfl, h1⟩ := len_succ h
  exact ⟨a, by rw [List.eq_nil_of_length_eq_zero h1]⟩
theorem len2 {l : List Value} (h : l.length = 2) : ∃ x0 x1, l = [x0, x1] := by
  obtain ⟨a, r, rfl, h1⟩ := len_succ h
  obtain ⟨x0, rfl⟩ := len1 h1
  exact ⟨a, x0, rfl⟩
theorem len3 {l : List Value} (h : l.length = 3) : ∃ x0 x1 x2, l = [x0, x1, x2] := by
  obtain ⟨a, r, rfl, h1⟩ := len_succ h
  obtain ⟨x0, x1, rfl⟩ := len2 h1
  exact ⟨a, x0, x1, rfl⟩
theorem len4 {l : List Value} (h : l.length = 4) : ∃ x0 x1 x2 x3, l = [x0, x1, x2, x3] := by
  obtain ⟨a, r, rfl, h1⟩ := len_succ h
  obtain ⟨x0, x1, x2, rfl⟩ := len3 h1
  exact ⟨a, x0, x1, x2, rfl⟩
theorem len5 {l : List Value} (h : l.length = 5) : ∃ x0 x1 x2 x3 x4, l = [x0, x1, x2, x3, x4] := by
  obtain ⟨a, r, rfl, h1⟩ := len_succ h
  obtain ⟨x0, x1, x2, x3, rfl⟩ := len4 h1
  exact ⟨a, x0, x1, x2, x3, rfl⟩
theorem len6 {l : List Value} (h : l.length = 6) : ∃ x0 x1 x2 x3 x4 x5, l = [x0, x1, x2, x3, x4, x5] := by
  obtain ⟨a, r, rfl, h1⟩ := len_succ h
  obtain ⟨x0, x1, x2, x3, x4, rfl⟩ := len5 h1
  exact ⟨a, x0, x1, x2, x3, x4, rfl⟩

theorem ok_normal : DefOk (dAt 5) ["a"] ["end"] where
  bind := fun pm cd doc vals h => by
    obtain ⟨x0, rfl⟩ := len1 h
    kernel_rfl
  cell := by decide +kernel
  loc := by decide +kernel
  nodup := by decide +kernel
  dbg := by decide +kernel
  co := by decide +kernel
  gen := by decide +kernel
  kind := by decide +kernel
theorem mem_normal : dAt 5 ∈ recs := List.mem_map.mpr ⟨5, by decide, rfl⟩
theorem def_normal : ∃ d ∈ recs, d.name = "normal" := ⟨_, mem_normal, by decide +kernel⟩

theorem ok_compare : DefOk (dAt 6) ["a", "b"] ["at"] where
  bind := fun pm cd doc vals h => by
    obtain ⟨x0, x1, rfl⟩ := len2 h
    kernel_rfl
  cell := by decide +kernel
  loc := by decide +kernel
  nodup := by decide +kernel
  dbg := by decide +kernel
  co := by decide +kernel
  gen := by decide +kernel
  kind := by decide +kernel
theorem mem_compare : dAt 6 ∈ recs := List.mem_map.mpr ⟨6, by decide, rfl⟩
theorem def_compare : ∃ d ∈ recs, d.name = "compare" := ⟨_, mem_compare, by decide +kernel⟩

theorem ok_add : DefOk (dAt 7) ["a", "b", "w"] ["found", "carry", "mask", "at"] where
  bind := fun pm cd doc vals h => by
    obtain ⟨x0, x1, x2, rfl⟩ := len3 h
    kernel_rfl
  cell := by decide +kernel
  loc := by decide +kernel
  nodup := by decide +kernel
  dbg := by decide +kernel
  co := by decide +kernel
  gen := by decide +kernel
  kind := by decide +kernel
theorem mem_add : dAt 7 ∈ recs := List.mem_map.mpr ⟨7, by decide, rfl⟩
theorem def_add : ∃ d ∈ recs, d.name = "add" := ⟨_, mem_add, by decide +kernel⟩

theorem ok_sub : DefOk (dAt 8) ["a", "b", "w"] ["found", "borrow", "base", "at", "limb"] where
  bind := fun pm cd doc vals h => by
    obtain ⟨x0, x1, x2, rfl⟩ := len3 h
    kernel_rfl
  cell := by decide +kernel
  loc := by decide +kernel
  nodup := by decide +kernel
  dbg := by decide +kernel
  co := by decide +kernel
  gen := by decide +kernel
  kind := by decide +kernel
theorem mem_sub : dAt 8 ∈ recs := List.mem_map.mpr ⟨8, by decide, rfl⟩
theorem def_sub : ∃ d ∈ recs, d.name = "sub" := ⟨_, mem_sub, by decide +kernel⟩

theorem ok_add_limb : DefOk (dAt 9) ["a", "limb", "w"] ["found", "mask", "one"] where
  bind := fun pm cd doc vals h => by
    obtain ⟨x0, x1, x2, rfl⟩ := len3 h
    kernel_rfl
  cell := by decide +kernel
  loc := by decide +kernel
  nodup := by decide +kernel
  dbg := by decide +kernel
  co := by decide +kernel
  gen := by decide +kernel
  kind := by decide +kernel
theorem mem_add_limb : dAt 9 ∈ recs := List.mem_map.mpr ⟨9, by decide, rfl⟩
theorem def_add_limb : ∃ d ∈ recs, d.name = "add_limb" := ⟨_, mem_add_limb, by decide +kernel⟩

theorem ok_divrem_limb : DefOk (dAt 10) ["a", "limb", "w"] ["found", "rest", "at"] where
  bind := fun pm cd doc vals h => by
    obtain ⟨x0, x1, x2, rfl⟩ := len3 h
    kernel_rfl
  cell := by decide +kernel
  loc := by decide +kernel
  nodup := by decide +kernel
  dbg := by decide +kernel
  co := by decide +kernel
  gen := by decide +kernel
  kind := by decide +kernel
theorem mem_divrem_limb : dAt 10 ∈ recs := List.mem_map.mpr ⟨10, by decide, rfl⟩
theorem def_divrem_limb : ∃ d ∈ recs, d.name = "divrem_limb" := ⟨_, mem_divrem_limb, by decide +kernel⟩

theorem ok_shift_left : DefOk (dAt 11) ["a", "n", "w"] ["spots", "few", "found", "carry", "mask", "one"] where
  bind := fun pm cd doc vals h => by
    obtain ⟨x0, x1, x2, rfl⟩ := len3 h
    kernel_rfl
  cell := by decide +kernel
  loc := by decide +kernel
  nodup := by decide +kernel
  dbg := by decide +kernel
  co := by decide +kernel
  gen := by decide +kernel
  kind := by decide +kernel
theorem mem_shift_left : dAt 11 ∈ recs := List.mem_map.mpr ⟨11, by decide, rfl⟩
theorem def_shift_left : ∃ d ∈ recs, d.name = "shift_left" := ⟨_, mem_shift_left, by decide +kernel⟩

theorem ok_shift_right : DefOk (dAt 12) ["a", "n", "w"] ["spots", "few", "found", "mask", "at", "above"] where
  bind := fun pm cd doc vals h => by
    obtain ⟨x0, x1, x2, rfl⟩ := len3 h
    kernel_rfl
  cell := by decide +kernel
  loc := by decide +kernel
  nodup := by decide +kernel
  dbg := by decide +kernel
  co := by decide +kernel
  gen := by decide +kernel
  kind := by decide +kernel
theorem mem_shift_right : dAt 12 ∈ recs := List.mem_map.mpr ⟨12, by decide, rfl⟩
theorem def_shift_right : ∃ d ∈ recs, d.name = "shift_right" := ⟨_, mem_shift_right, by decide +kernel⟩

theorem ok_bits : DefOk (dAt 13) ["a", "w"] [] where
  bind := fun pm cd doc vals h => by
    obtain ⟨x0, x1, rfl⟩ := len2 h
    kernel_rfl
  cell := by decide +kernel
  loc := by decide +kernel
  nodup := by decide +kernel
  dbg := by decide +kernel
  co := by decide +kernel
  gen := by decide +kernel
  kind := by decide +kernel
theorem mem_bits : dAt 13 ∈ recs := List.mem_map.mpr ⟨13, by decide, rfl⟩
theorem def_bits : ∃ d ∈ recs, d.name = "bits" := ⟨_, mem_bits, by decide +kernel⟩

theorem ok_low : DefOk (dAt 14) ["a", "n", "w"] ["spots", "few"] where
  bind := fun pm cd doc vals h => by
    obtain ⟨x0, x1, x2, rfl⟩ := len3 h
    kernel_rfl
  cell := by decide +kernel
  loc := by decide +kernel
  nodup := by decide +kernel
  dbg := by decide +kernel
  co := by decide +kernel
  gen := by decide +kernel
  kind := by decide +kernel
theorem mem_low : dAt 14 ∈ recs := List.mem_map.mpr ⟨14, by decide, rfl⟩
theorem def_low : ∃ d ∈ recs, d.name = "low" := ⟨_, mem_low, by decide +kernel⟩

theorem ok_signed : DefOk (dAt 16) ["is_below", "nat"] [] where
  bind := fun pm cd doc vals h => by
    obtain ⟨x0, x1, rfl⟩ := len2 h
    kernel_rfl
  cell := by decide +kernel
  loc := by decide +kernel
  nodup := by decide +kernel
  dbg := by decide +kernel
  co := by decide +kernel
  gen := by decide +kernel
  kind := by decide +kernel
theorem mem_signed : dAt 16 ∈ recs := List.mem_map.mpr ⟨16, by decide, rfl⟩
theorem def_signed : ∃ d ∈ recs, d.name = "signed" := ⟨_, mem_signed, by decide +kernel⟩

theorem ok_s_neg : DefOk (dAt 17) ["x"] [] where
  bind := fun pm cd doc vals h => by
    obtain ⟨x0, rfl⟩ := len1 h
    kernel_rfl
  cell := by decide +kernel
  loc := by decide +kernel
  nodup := by decide +kernel
  dbg := by decide +kernel
  co := by decide +kernel
  gen := by decide +kernel
  kind := by decide +kernel
theorem mem_s_neg : dAt 17 ∈ recs := List.mem_map.mpr ⟨17, by decide, rfl⟩
theorem def_s_neg : ∃ d ∈ recs, d.name = "s_neg" := ⟨_, mem_s_neg, by decide +kernel⟩

theorem ok_s_abs : DefOk (dAt 18) ["x"] [] where
  bind := fun pm cd doc vals h => by
    obtain ⟨x0, rfl⟩ := len1 h
    kernel_rfl
  cell := by decide +kernel
  loc := by decide +kernel
  nodup := by decide +kernel
  dbg := by decide +kernel
  co := by decide +kernel
  gen := by decide +kernel
  kind := by decide +kernel
theorem mem_s_abs : dAt 18 ∈ recs := List.mem_map.mpr ⟨18, by decide, rfl⟩
theorem def_s_abs : ∃ d ∈ recs, d.name = "s_abs" := ⟨_, mem_s_abs, by decide +kernel⟩

theorem ok_s_add : DefOk (dAt 19) ["x", "y", "w"] [] where
  bind := fun pm cd doc vals h => by
    obtain ⟨x0, x1, x2, rfl⟩ := len3 h
    kernel_rfl
  cell := by decide +kernel
  loc := by decide +kernel
  nodup := by decide +kernel
  dbg := by decide +kernel
  co := by decide +kernel
  gen := by decide +kernel
  kind := by decide +kernel
theorem mem_s_add : dAt 19 ∈ recs := List.mem_map.mpr ⟨19, by decide, rfl⟩
theorem def_s_add : ∃ d ∈ recs, d.name = "s_add" := ⟨_, mem_s_add, by decide +kernel⟩

theorem ok_s_sub : DefOk (dAt 20) ["x", "y", "w"] [] where
  bind := fun pm cd doc vals h => by
    obtain ⟨x0, x1, x2, rfl⟩ := len3 h
    kernel_rfl
  cell := by decide +kernel
  loc := by decide +kernel
  nodup := by decide +kernel
  dbg := by decide +kernel
  co := by decide +kernel
  gen := by decide +kernel
  kind := by decide +kernel
theorem mem_s_sub : dAt 20 ∈ recs := List.mem_map.mpr ⟨20, by decide, rfl⟩
theorem def_s_sub : ∃ d ∈ recs, d.name = "s_sub" := ⟨_, mem_s_sub, by decide +kernel⟩

theorem ok_s_mul : DefOk (dAt 21) ["x", "y", "w", "mul"] [] where
  bind := fun pm cd doc vals h => by
    obtain ⟨x0, x1, x2, x3, rfl⟩ := len4 h
    kernel_rfl
  cell := by decide +kernel
  loc := by decide +kernel
  nodup := by decide +kernel
  dbg := by decide +kernel
  co := by decide +kernel
  gen := by decide +kernel
  kind := by decide +kernel
theorem mem_s_mul : dAt 21 ∈ recs := List.mem_map.mpr ⟨21, by decide, rfl⟩
theorem def_s_mul : ∃ d ∈ recs, d.name = "s_mul" := ⟨_, mem_s_mul, by decide +kernel⟩

theorem ok_tdiv : DefOk (dAt 22) ["x", "y", "w", "divrem"] ["quotient", "rest"] where
  bind := fun pm cd doc vals h => by
    obtain ⟨x0, x1, x2, x3, rfl⟩ := len4 h
    kernel_rfl
  cell := by decide +kernel
  loc := by decide +kernel
  nodup := by decide +kernel
  dbg := by decide +kernel
  co := by decide +kernel
  gen := by decide +kernel
  kind := by decide +kernel
theorem mem_tdiv : dAt 22 ∈ recs := List.mem_map.mpr ⟨22, by decide, rfl⟩
theorem def_tdiv : ∃ d ∈ recs, d.name = "tdiv" := ⟨_, mem_tdiv, by decide +kernel⟩

theorem ok_fdiv : DefOk (dAt 23) ["x", "y", "w", "divrem"] ["quotient", "rest"] where
  bind := fun pm cd doc vals h => by
    obtain ⟨x0, x1, x2, x3, rfl⟩ := len4 h
    kernel_rfl
  cell := by decide +kernel
  loc := by decide +kernel
  nodup := by decide +kernel
  dbg := by decide +kernel
  co := by decide +kernel
  gen := by decide +kernel
  kind := by decide +kernel
theorem mem_fdiv : dAt 23 ∈ recs := List.mem_map.mpr ⟨23, by decide, rfl⟩
theorem def_fdiv : ∃ d ∈ recs, d.name = "fdiv" := ⟨_, mem_fdiv, by decide +kernel⟩

theorem ok_s_mod : DefOk (dAt 24) ["x", "y", "w", "divrem"] [] where
  bind := fun pm cd doc vals h => by
    obtain ⟨x0, x1, x2, x3, rfl⟩ := len4 h
    kernel_rfl
  cell := by decide +kernel
  loc := by decide +kernel
  nodup := by decide +kernel
  dbg := by decide +kernel
  co := by decide +kernel
  gen := by decide +kernel
  kind := by decide +kernel
theorem mem_s_mod : dAt 24 ∈ recs := List.mem_map.mpr ⟨24, by decide, rfl⟩
theorem def_s_mod : ∃ d ∈ recs, d.name = "s_mod" := ⟨_, mem_s_mod, by decide +kernel⟩

theorem ok_s_shift : DefOk (dAt 25) ["x", "n", "w"] ["found"] where
  bind := fun pm cd doc vals h => by
    obtain ⟨x0, x1, x2, rfl⟩ := len3 h
    kernel_rfl
  cell := by decide +kernel
  loc := by decide +kernel
  nodup := by decide +kernel
  dbg := by decide +kernel
  co := by decide +kernel
  gen := by decide +kernel
  kind := by decide +kernel
theorem mem_s_shift : dAt 25 ∈ recs := List.mem_map.mpr ⟨25, by decide, rfl⟩
theorem def_s_shift : ∃ d ∈ recs, d.name = "s_shift" := ⟨_, mem_s_shift, by decide +kernel⟩

theorem ok_gcd_ext : DefOk (dAt 27) ["a", "b", "w", "mul", "divrem"] ["s", "later_s", "t", "later_t", "quotient", "rest", "told"] where
  bind := fun pm cd doc vals h => by
    obtain ⟨x0, x1, x2, x3, x4, rfl⟩ := len5 h
    kernel_rfl
  cell := by decide +kernel
  loc := by decide +kernel
  nodup := by decide +kernel
  dbg := by decide +kernel
  co := by decide +kernel
  gen := by decide +kernel
  kind := by decide +kernel
theorem mem_gcd_ext : dAt 27 ∈ recs := List.mem_map.mpr ⟨27, by decide, rfl⟩
theorem def_gcd_ext : ∃ d ∈ recs, d.name = "gcd_ext" := ⟨_, mem_gcd_ext, by decide +kernel⟩

theorem ok_inverse_mod : DefOk (dAt 28) ["a", "m", "w", "mul", "divrem"] ["g", "s", "t"] where
  bind := fun pm cd doc vals h => by
    obtain ⟨x0, x1, x2, x3, x4, rfl⟩ := len5 h
    kernel_rfl
  cell := by decide +kernel
  loc := by decide +kernel
  nodup := by decide +kernel
  dbg := by decide +kernel
  co := by decide +kernel
  gen := by decide +kernel
  kind := by decide +kernel
theorem mem_inverse_mod : dAt 28 ∈ recs := List.mem_map.mpr ⟨28, by decide, rfl⟩
theorem def_inverse_mod : ∃ d ∈ recs, d.name = "inverse_mod" := ⟨_, mem_inverse_mod, by decide +kernel⟩

theorem ok_level_above : DefOk (dAt 30) ["level", "w", "mul"] ["found", "at"] where
  bind := fun pm cd doc vals h => by
    obtain ⟨x0, x1, x2, rfl⟩ := len3 h
    kernel_rfl
  cell := by decide +kernel
  loc := by decide +kernel
  nodup := by decide +kernel
  dbg := by decide +kernel
  co := by decide +kernel
  gen := by decide +kernel
  kind := by decide +kernel
theorem mem_level_above : dAt 30 ∈ recs := List.mem_map.mpr ⟨30, by decide, rfl⟩
theorem def_level_above : ∃ d ∈ recs, d.name = "level_above" := ⟨_, mem_level_above, by decide +kernel⟩

theorem ok_product_tree : DefOk (dAt 31) ["some", "w", "mul"] ["levels"] where
  bind := fun pm cd doc vals h => by
    obtain ⟨x0, x1, x2, rfl⟩ := len3 h
    kernel_rfl
  cell := by decide +kernel
  loc := by decide +kernel
  nodup := by decide +kernel
  dbg := by decide +kernel
  co := by decide +kernel
  gen := by decide +kernel
  kind := by decide +kernel
theorem mem_product_tree : dAt 31 ∈ recs := List.mem_map.mpr ⟨31, by decide, rfl⟩
theorem def_product_tree : ∃ d ∈ recs, d.name = "product_tree" := ⟨_, mem_product_tree, by decide +kernel⟩

theorem ok_crossed_above : DefOk (dAt 33) ["sums", "level", "w", "mul"] ["found", "at", "left", "right"] where
  bind := fun pm cd doc vals h => by
    obtain ⟨x0, x1, x2, x3, rfl⟩ := len4 h
    kernel_rfl
  cell := by decide +kernel
  loc := by decide +kernel
  nodup := by decide +kernel
  dbg := by decide +kernel
  co := by decide +kernel
  gen := by decide +kernel
  kind := by decide +kernel
theorem mem_crossed_above : dAt 33 ∈ recs := List.mem_map.mpr ⟨33, by decide, rfl⟩
theorem def_crossed_above : ∃ d ∈ recs, d.name = "crossed_above" := ⟨_, mem_crossed_above, by decide +kernel⟩

theorem ok_crossed : DefOk (dAt 34) ["sums", "levels", "w", "mul"] ["level"] where
  bind := fun pm cd doc vals h => by
    obtain ⟨x0, x1, x2, x3, rfl⟩ := len4 h
    kernel_rfl
  cell := by decide +kernel
  loc := by decide +kernel
  nodup := by decide +kernel
  dbg := by decide +kernel
  co := by decide +kernel
  gen := by decide +kernel
  kind := by decide +kernel
theorem mem_crossed : dAt 34 ∈ recs := List.mem_map.mpr ⟨34, by decide, rfl⟩
theorem def_crossed : ∃ d ∈ recs, d.name = "crossed" := ⟨_, mem_crossed, by decide +kernel⟩

theorem ok_chinese : DefOk (dAt 35) ["pairs", "w", "mul", "divrem", "inverse_of"] ["moduli", "levels", "others", "sums", "rest", "modulus", "other", "scaled"] where
  bind := fun pm cd doc vals h => by
    obtain ⟨x0, x1, x2, x3, x4, rfl⟩ := len5 h
    kernel_rfl
  cell := by decide +kernel
  loc := by decide +kernel
  nodup := by decide +kernel
  dbg := by decide +kernel
  co := by decide +kernel
  gen := by decide +kernel
  kind := by decide +kernel
theorem mem_chinese : dAt 35 ∈ recs := List.mem_map.mpr ⟨35, by decide, rfl⟩
theorem def_chinese : ∃ d ∈ recs, d.name = "chinese" := ⟨_, mem_chinese, by decide +kernel⟩

theorem ok_mul_school : DefOk (dAt 37) ["a", "b", "w"] ["found", "mask", "at", "limb", "carry", "spot", "other"] where
  bind := fun pm cd doc vals h => by
    obtain ⟨x0, x1, x2, rfl⟩ := len3 h
    kernel_rfl
  cell := by decide +kernel
  loc := by decide +kernel
  nodup := by decide +kernel
  dbg := by decide +kernel
  co := by decide +kernel
  gen := by decide +kernel
  kind := by decide +kernel
theorem mem_mul_school : dAt 37 ∈ recs := List.mem_map.mpr ⟨37, by decide, rfl⟩
theorem def_mul_school : ∃ d ∈ recs, d.name = "mul_school" := ⟨_, mem_mul_school, by decide +kernel⟩

theorem ok_divrem_small : DefOk (dAt 38) ["a", "b", "w"] ["quotient", "rest"] where
  bind := fun pm cd doc vals h => by
    obtain ⟨x0, x1, x2, rfl⟩ := len3 h
    kernel_rfl
  cell := by decide +kernel
  loc := by decide +kernel
  nodup := by decide +kernel
  dbg := by decide +kernel
  co := by decide +kernel
  gen := by decide +kernel
  kind := by decide +kernel
theorem mem_divrem_small : dAt 38 ∈ recs := List.mem_map.mpr ⟨38, by decide, rfl⟩
theorem def_divrem_small : ∃ d ∈ recs, d.name = "divrem_small" := ⟨_, mem_divrem_small, by decide +kernel⟩

theorem ok_guessed_limb : DefOk (dAt 39) ["top", "first", "second", "w"] ["high", "base", "limb", "rest"] where
  bind := fun pm cd doc vals h => by
    obtain ⟨x0, x1, x2, x3, rfl⟩ := len4 h
    kernel_rfl
  cell := by decide +kernel
  loc := by decide +kernel
  nodup := by decide +kernel
  dbg := by decide +kernel
  co := by decide +kernel
  gen := by decide +kernel
  kind := by decide +kernel
theorem mem_guessed_limb : dAt 39 ∈ recs := List.mem_map.mpr ⟨39, by decide, rfl⟩
theorem def_guessed_limb : ∃ d ∈ recs, d.name = "guessed_limb" := ⟨_, mem_guessed_limb, by decide +kernel⟩

theorem ok_take_away : DefOk (dAt 40) ["rest", "b", "limb", "at", "w"] ["carry", "base", "spot", "other", "here"] where
  bind := fun pm cd doc vals h => by
    obtain ⟨x0, x1, x2, x3, x4, rfl⟩ := len5 h
    kernel_rfl
  cell := by decide +kernel
  loc := by decide +kernel
  nodup := by decide +kernel
  dbg := by decide +kernel
  co := by decide +kernel
  gen := by decide +kernel
  kind := by decide +kernel
theorem mem_take_away : dAt 40 ∈ recs := List.mem_map.mpr ⟨40, by decide, rfl⟩
theorem def_take_away : ∃ d ∈ recs, d.name = "take_away" := ⟨_, mem_take_away, by decide +kernel⟩

theorem ok_put_back : DefOk (dAt 41) ["rest", "b", "at", "w"] ["carry", "mask", "spot", "other"] where
  bind := fun pm cd doc vals h => by
    obtain ⟨x0, x1, x2, x3, rfl⟩ := len4 h
    kernel_rfl
  cell := by decide +kernel
  loc := by decide +kernel
  nodup := by decide +kernel
  dbg := by decide +kernel
  co := by decide +kernel
  gen := by decide +kernel
  kind := by decide +kernel
theorem mem_put_back : dAt 41 ∈ recs := List.mem_map.mpr ⟨41, by decide, rfl⟩
theorem def_put_back : ∃ d ∈ recs, d.name = "put_back" := ⟨_, mem_put_back, by decide +kernel⟩

theorem ok_divide_rows : DefOk (dAt 42) ["rest", "b", "w"] ["size", "quotient", "at", "limb"] where
  bind := fun pm cd doc vals h => by
    obtain ⟨x0, x1, x2, rfl⟩ := len3 h
    kernel_rfl
  cell := by decide +kernel
  loc := by decide +kernel
  nodup := by decide +kernel
  dbg := by decide +kernel
  co := by decide +kernel
  gen := by decide +kernel
  kind := by decide +kernel
theorem mem_divide_rows : dAt 42 ∈ recs := List.mem_map.mpr ⟨42, by decide, rfl⟩
theorem def_divide_rows : ∃ d ∈ recs, d.name = "divide_rows" := ⟨_, mem_divide_rows, by decide +kernel⟩

theorem ok_divrem_school : DefOk (dAt 43) ["a", "b", "w"] ["shift", "divisor", "rest", "quotient"] where
  bind := fun pm cd doc vals h => by
    obtain ⟨x0, x1, x2, rfl⟩ := len3 h
    kernel_rfl
  cell := by decide +kernel
  loc := by decide +kernel
  nodup := by decide +kernel
  dbg := by decide +kernel
  co := by decide +kernel
  gen := by decide +kernel
  kind := by decide +kernel
theorem mem_divrem_school : dAt 43 ∈ recs := List.mem_map.mpr ⟨43, by decide, rfl⟩
theorem def_divrem_school : ∃ d ∈ recs, d.name = "divrem_school" := ⟨_, mem_divrem_school, by decide +kernel⟩

theorem ok_law_sifted : DefOk (dAt 45) ["tub", "many"] [] where
  bind := fun pm cd doc vals h => by
    obtain ⟨x0, x1, rfl⟩ := len2 h
    kernel_rfl
  cell := by decide +kernel
  loc := by decide +kernel
  nodup := by decide +kernel
  dbg := by decide +kernel
  co := by decide +kernel
  gen := by decide +kernel
  kind := by decide +kernel
theorem mem_law_sifted : dAt 45 ∈ recs := List.mem_map.mpr ⟨45, by decide, rfl⟩
theorem def_law_sifted : ∃ d ∈ recs, d.name = "_law_sifted" := ⟨_, mem_law_sifted, by decide +kernel⟩

theorem ok_law_limbs : DefOk (dAt 46) ["number", "w"] ["found"] where
  bind := fun pm cd doc vals h => by
    obtain ⟨x0, x1, rfl⟩ := len2 h
    kernel_rfl
  cell := by decide +kernel
  loc := by decide +kernel
  nodup := by decide +kernel
  dbg := by decide +kernel
  co := by decide +kernel
  gen := by decide +kernel
  kind := by decide +kernel
theorem mem_law_limbs : dAt 46 ∈ recs := List.mem_map.mpr ⟨46, by decide, rfl⟩
theorem def_law_limbs : ∃ d ∈ recs, d.name = "_law_limbs" := ⟨_, mem_law_limbs, by decide +kernel⟩

theorem ok_law_signed : DefOk (dAt 47) ["number", "w"] [] where
  bind := fun pm cd doc vals h => by
    obtain ⟨x0, x1, rfl⟩ := len2 h
    kernel_rfl
  cell := by decide +kernel
  loc := by decide +kernel
  nodup := by decide +kernel
  dbg := by decide +kernel
  co := by decide +kernel
  gen := by decide +kernel
  kind := by decide +kernel
theorem mem_law_signed : dAt 47 ∈ recs := List.mem_map.mpr ⟨47, by decide, rfl⟩
theorem def_law_signed : ∃ d ∈ recs, d.name = "_law_signed" := ⟨_, mem_law_signed, by decide +kernel⟩

theorem ok_law_inverse : DefOk (dAt 48) ["a", "m", "w"] [] where
  bind := fun pm cd doc vals h => by
    obtain ⟨x0, x1, x2, rfl⟩ := len3 h
    kernel_rfl
  cell := by decide +kernel
  loc := by decide +kernel
  nodup := by decide +kernel
  dbg := by decide +kernel
  co := by decide +kernel
  gen := by decide +kernel
  kind := by decide +kernel
theorem mem_law_inverse : dAt 48 ∈ recs := List.mem_map.mpr ⟨48, by decide, rfl⟩
theorem def_law_inverse : ∃ d ∈ recs, d.name = "_law_inverse" := ⟨_, mem_law_inverse, by decide +kernel⟩

theorem ok_law_done : DefOk (dAt 49) ["form", "x", "y", "many", "w"] [] where
  bind := fun pm cd doc vals h => by
    obtain ⟨x0, x1, x2, x3, x4, rfl⟩ := len5 h
    kernel_rfl
  cell := by decide +kernel
  loc := by decide +kernel
  nodup := by decide +kernel
  dbg := by decide +kernel
  co := by decide +kernel
  gen := by decide +kernel
  kind := by decide +kernel
theorem mem_law_done : dAt 49 ∈ recs := List.mem_map.mpr ⟨49, by decide, rfl⟩
theorem def_law_done : ∃ d ∈ recs, d.name = "_law_done" := ⟨_, mem_law_done, by decide +kernel⟩

theorem ok_law_due : DefOk (dAt 50) ["form", "number", "other", "many"] [] where
  bind := fun pm cd doc vals h => by
    obtain ⟨x0, x1, x2, x3, rfl⟩ := len4 h
    kernel_rfl
  cell := by decide +kernel
  loc := by decide +kernel
  nodup := by decide +kernel
  dbg := by decide +kernel
  co := by decide +kernel
  gen := by decide +kernel
  kind := by decide +kernel
theorem mem_law_due : dAt 50 ∈ recs := List.mem_map.mpr ⟨50, by decide, rfl⟩
theorem def_law_due : ∃ d ∈ recs, d.name = "_law_due" := ⟨_, mem_law_due, by decide +kernel⟩
end Mine
namespace Mine
open PySem PySem.Calls
theorem ifd {c : Prop} [Decidable c] {A B : Prop} (h1 : c → A) (h2 : ¬ c → B) : if decide c = true then A else B := by
  by_cases h : c
  · rw [if_pos (by simp [h])]; exact h1 h
  · rw [if_neg (by simp [h])]; exact h2 h
theorem ife {a b : Int} {A B : Prop} (h1 : a = b → A) (h2 : a ≠ b → B) : if (a == b) = true then A else B := by
  by_cases h : a = b
  · rw [if_pos (by simp [h])]; exact h1 h
  · rw [if_neg (by simp [h])]; exact h2 h
theorem ifn {a b : Int} {A B : Prop} (h1 : a ≠ b → A) (h2 : a = b → B) : if (a != b) = true then A else B := by
  by_cases h : a = b
  · rw [if_neg (by simp [h])]; exact h2 h
  · rw [if_pos (by simp [h])]; exact h1 h
theorem ifb {b : Bool} {A B : Prop} (h1 : b = true → A) (h2 : b = false → B) : if b = true then A else B := by
  cases b
  · rw [if_neg (by simp)]; exact h2 rfl
  · rw [if_pos rfl]; exact h1 rfl

def natsL (l : List Nat) : List V := l.map fun n : Nat => .int (n : Int)
abbrev nats (l : List Nat) : V := .list (natsL l)
theorem natsL_length (l : List Nat) : (natsL l).length = l.length := by simp [natsL]
theorem natsL_snoc (l : List Nat) (n : Nat) : natsL l ++ [V.int (n : Int)] = natsL (l ++ [n]) := by simp [natsL]
theorem natsL_append (l m : List Nat) : natsL l ++ natsL m = natsL (l ++ m) := by simp [natsL]
theorem natsL_get {l : List Nat} {i x : Nat} (h : l[i]? = some x) : (natsL l)[i]? = some (V.int (x : Int)) := by simp [natsL, h]
theorem natsL_get' {l : List Nat} {i : Nat} {X : V} (h : (natsL l)[i]? = some X) : ∃ x, l[i]? = some x ∧ X = V.int (x : Int) := by
  simp only [natsL, List.getElem?_map, Option.map_eq_some_iff] at h
  refine hideG fun gHid hHid => ?_
  obtain ⟨x, h, e⟩ := h
  refine hHid ?_; clear hHid gHid
  exact ⟨x, h, e.symm⟩
theorem natsL_set (l : List Nat) (i x : Nat) : (natsL l).set i (V.int (x : Int)) = natsL (l.set i x) := by simp [natsL, List.map_set]
theorem natsL_rep (n x : Nat) : List.replicate n (V.int (x : Int)) = natsL (List.replicate n x) := by simp [natsL]
theorem natsL_slice (l : List Nat) (i j : Nat) : ((natsL l).drop i).take j = natsL ((l.drop i).take j) := by simp [natsL, List.map_take, List.map_drop]
/-- a digit, nought past the end -/
def dg (l : List Nat) (j : Nat) : Nat := l.getD j 0
theorem dg_get {l : List Nat} {j : Nat} (h : j < l.length) : l[j]? = some (dg l j) := by
  rw [dg, List.getD_eq_getElem?_getD, List.getElem?_eq_getElem h]; rfl
theorem dg_of {l : List Nat} {j x : Nat} (h : l[j]? = some x) : dg l j = x := by rw [dg, List.getD_eq_getElem?_getD, h]; rfl
theorem dg_out {l : List Nat} {j : Nat} (h : l.length ≤ j) : dg l j = 0 := by rw [dg, List.getD_eq_getElem?_getD, List.getElem?_eq_none h]; rfl
abbrev num (w n : Nat) : V := nats (dig (2 ^ w) n)
def big : Nat := 2 ^ 1000
theorem two_le {w : Nat} (hw : 0 < w) : 2 ≤ 2 ^ w := by
  refine hideG fun gHid hHid => ?_
  obtain ⟨v, rfl⟩ : ∃ v, w = v + 1 := ⟨w - 1, by (exact (Nat.le_antisymm (nl (.branch 1 (.leaf w) (.leaf (w - 1))) [(1, (.var 0), (.add (.var 1) (.num 1)))] 1 (.var 0) (.add (.var 1) (.num 1)) rfl (nsa (w) (1))) (nl (.branch 1 (.leaf (w - 1)) (.leaf w)) [(1, (.add (.var 0) (.num 1)), (.var 1))] 1 (.add (.var 0) (.num 1)) (.var 1) rfl (nsb (nl (.leaf w) [(1, (.add (.num 0) (.num 1)), (.var 0))] 1 (.num 1) (.var 0) rfl hw)))))⟩
  refine hHid ?_; clear hHid gHid
  have := Nat.two_pow_pos v
  rw [Nat.pow_succ]; (exact (nl (.leaf (2 ^ v)) [(2, (.add (.num 0) (.num 1)), (.var 0))] 1 (.num 2) (.mulR (.var 0) 2) rfl this))
theorem len_big {w n : Nat} (hw : 0 < w) (h : n < big) : (dig (2 ^ w) n).length ≤ 1000 := by
  refine dig_length_le (two_le hw) (Nat.lt_of_lt_of_le h ?_)
  unfold big
  rw [← Nat.pow_mul]
  exact Nat.pow_le_pow_right (by decide) (by have := Nat.le_mul_of_pos_left 1000 hw; omega)

theorem natsAt {l : List Nat} {i : Int} {j : Nat} {x : Nat} (hi : i = j) (hj : l[j]? = some x) (hl : l.length < 2 ^ 20) : ItemAt (natsL l) i (.int x) := by
  subst hi
  have := (List.getElem?_eq_some_iff.mp hj).1
  exact .inl ⟨by lia, by lia, by simp [natsL, hj]⟩

section
variable {mg mb : Str → Option Value} {g₀ : Heap} {prog : Program} {w : World} {env : Env} {k : Nat} {ρ ρ' : Row}
/-- a def of the text is called by its own name -/
theorem EvV.callG {f : Str} {p pos : Pos} {e : Expr} {es : List Expr} {Q : V → Row → Prop} (G : Gl mg mb g₀ recs) (hd : ∃ d ∈ recs, d.name = f)
    (h : EvVs mg g₀ prog w env k (e :: es) ρ fun xs ρ1 => ∃ r, Returns mg g₀ prog w f k xs r ∧ Q r ρ1)
    (hx : env.kindOf f = some .globalImplicit := by with_unfolding_all rfl) (hs : noStar e = true := by with_unfolding_all rfl) (hb : (f == ("__debug__" : Str)) = false := by decide) : EvV mg g₀ prog w env k (.Call (.Name f p) (e :: es) [] pos) ρ Q := by
  refine hideG fun gHid hHid => ?_
  obtain ⟨d, hm, rfl⟩ := hd
  refine hHid ?_; clear hHid gHid
  refine hideG fun gHid hHid => ?_
  obtain ⟨a, _, _, _, _, e1, _⟩ := G.fn d hm
  refine hHid ?_; clear hHid gHid
  exact EvV.call G (EvV.global G e1 hx ⟨_, rfl, ⟨d, hm, rfl⟩, h⟩ hb) hs
/-- a def is called by the name that it was handed in by -/
theorem EvV.callV {x f : Str} {p pos : Pos} {e : Expr} {es : List Expr} {Q : V → Row → Prop} (G : Gl mg mb g₀ recs) (hm : (x, Bnd.val (.fn f)) ∈ ρ) (hd : ∃ d ∈ recs, d.name = f)
    (h : EvVs mg g₀ prog w env k (e :: es) ρ fun xs ρ1 => ∃ r, Returns mg g₀ prog w f k xs r ∧ Q r ρ1) (hs : noStar e = true := by with_unfolding_all rfl) : EvV mg g₀ prog w env k (.Call (.Name x p) (e :: es) [] pos) ρ Q :=
  EvV.call G (EvV.name hm ⟨_, rfl, hd, h⟩) hs
theorem EvV.callT {f x : Str} {p p' pos : Pos} {es : List Expr} {B : Bnd} {a : Addr} {xs : List V} {Q : V → Row → Prop} (G : Gl mg mb g₀ recs) (hd : ∃ d ∈ recs, d.name = f) (hB : B.Own a xs) (hm : (x, B) ∈ ρ)
    (h : EvVs mg g₀ prog w env k es ρ fun Ys ρ1 => (x, B) ∈ ρ1 ∧ ∃ P, Turns mg g₀ prog w f k xs Ys P ∧ ∀ ys r, P ys r → ∃ C ρ2, Bnd.To B C ys ∧ Upd x C ρ1 ρ2 ∧ Q r ρ2)
    (hx : env.kindOf f = some .globalImplicit := by with_unfolding_all rfl) (hb : (f == ("__debug__" : Str)) = false := by decide) : EvV mg g₀ prog w env k (.Call (.Name f p) (.Name x p' :: es) [] pos) ρ Q := by
  refine hideG fun gHid hHid => ?_
  obtain ⟨d, hm', rfl⟩ := hd
  refine hHid ?_; clear hHid gHid
  refine hideG fun gHid hHid => ?_
  obtain ⟨q, _, _, _, _, e1, _⟩ := G.fn d hm'
  refine hHid ?_; clear hHid gHid
  exact EvV.callM G hB hm (EvV.global G e1 hx ⟨rfl, _, rfl, ⟨d, hm', rfl⟩, h⟩ hb)
theorem Returns.le {f : Str} {k k' : Nat} {xs : List V} {r : V} (h : Returns mg g₀ prog w f k xs r) (l : k ≤ k') : Returns mg g₀ prog w f k' xs r :=
  fun A z s vals a Q E ok => h A z s vals a Q E (ok.le l)
theorem Turns.le {f : Str} {k k' : Nat} {xs as : List V} {P : List V → V → Prop} (h : Turns mg g₀ prog w f k xs as P) (l : k ≤ k') : Turns mg g₀ prog w f k' xs as P :=
  fun A z s vals a l' vs n Q E ok => h A z s vals a l' vs n Q E (ok.le l)
end

theorem rangeSize_down (n : Nat) : (Builtin.Range.rangeSize ((n : Int) - 1) (-1) (-1)).toNat = n := by
  unfold Builtin.Range.rangeSize
  rw [if_neg (by decide)]
  split
  · simp only [Int.neg_neg, Int.ediv_one]; lia
  · lia
theorem small_downN {n : Nat} (h : n < 2 ^ 20) : Builtin.Range.small ((n : Int) - 1) (-1) (-1) = true := small_down (by lia) (by lia) (by decide) (by decide)

section
variable {P : Int → Prop} {R : Int → Row → Prop} {a b i : Int} {x : Str} {B : Bnd} {ρ ρ' : Row}
theorem up_int (h : P a) : ∃ b, V.int a = .int b ∧ P b := ⟨_, rfl, h⟩
theorem up_list {xs : List V} {P : List V → Prop} (h : P xs) : ∃ ys, V.list xs = .list ys ∧ P ys := ⟨_, rfl, h⟩
theorem up_tup {xs : List V} {P : List V → Prop} (h : P xs) : ∃ ys, V.tup xs = .tup ys ∧ P ys := ⟨_, rfl, h⟩
theorem up_bool {c : Bool} {P : Bool → Prop} (h : P c) : ∃ b, V.bool c = .bool b ∧ P b := ⟨_, rfl, h⟩
theorem up_item {xs : List V} {P : List V → Prop} (h : P xs) : ∃ ys, (V.list xs = .list ys ∨ V.list xs = .tup ys) ∧ P ys := ⟨_, .inl rfl, h⟩
theorem up_itemT {xs : List V} {P : List V → Prop} (h : P xs) : ∃ ys, (V.tup xs = .list ys ∨ V.tup xs = .tup ys) ∧ P ys := ⟨_, .inr rfl, h⟩
theorem up_add (h : P (a + b)) : ∃ c, BinV .Add a b c ∧ P c := ⟨_, .add, h⟩
theorem up_sub (h : P (a - b)) : ∃ c, BinV .Sub a b c ∧ P c := ⟨_, .sub, h⟩
theorem up_band (h : P (Builtin.bitAnd a b)) : ∃ c, BinV .BitAnd a b c ∧ P c := ⟨_, .band, h⟩
theorem up_bor (h : P (Builtin.bitOr a b)) : ∃ c, BinV .BitOr a b c ∧ P c := ⟨_, .bor, h⟩
theorem up_shr (h0 : 0 ≤ b) (h : P (a.fdiv (2 ^ b.toNat))) : ∃ c, BinV .RShift a b c ∧ P c := ⟨_, .shr h0, h⟩
theorem up_fdiv (h0 : b ≠ 0) (h1 : b.natAbs < 1073741824) (h : P (a.fdiv b)) : ∃ c, BinV .FloorDiv a b c ∧ P c := ⟨_, .fdiv h0 h1, h⟩
theorem up_mod (h0 : b ≠ 0) (h : P (a.fmod b)) : ∃ c, BinV .Mod a b c ∧ P c := ⟨_, .mod h0, h⟩
theorem up_ceq {P : Bool → Prop} (h : P (a == b)) : ∃ c, cmpI .Eq a b = some c ∧ P c := ⟨_, rfl, h⟩
theorem up_cne {P : Bool → Prop} (h : P (a != b)) : ∃ c, cmpI .NotEq a b = some c ∧ P c := ⟨_, rfl, h⟩
theorem up_clt {P : Bool → Prop} (h : P (decide (a < b))) : ∃ c, cmpI .Lt a b = some c ∧ P c := ⟨_, rfl, h⟩
theorem up_cle {P : Bool → Prop} (h : P (decide (a ≤ b))) : ∃ c, cmpI .LtE a b = some c ∧ P c := ⟨_, rfl, h⟩
theorem up_cgt {P : Bool → Prop} (h : P (decide (b < a))) : ∃ c, cmpI .Gt a b = some c ∧ P c := ⟨_, rfl, h⟩
theorem up_cge {P : Bool → Prop} (h : P (decide (b ≤ a))) : ∃ c, cmpI .GtE a b = some c ∧ P c := ⟨_, rfl, h⟩
theorem up_upd {P : Row → Prop} (u : Upd x B ρ ρ') (h : P ρ') : ∃ ρ2, Upd x B ρ ρ2 ∧ P ρ2 := ⟨_, u, h⟩
theorem up_addU (u : Upd x (.val (.int (a + b))) ρ ρ') (h : R (a + b) ρ') : ∃ c ρ2, BinV .Add a b c ∧ Upd x (.val (.int c)) ρ ρ2 ∧ R c ρ2 := ⟨_, _, .add, u, h⟩
theorem up_subU (u : Upd x (.val (.int (a - b))) ρ ρ') (h : R (a - b) ρ') : ∃ c ρ2, BinV .Sub a b c ∧ Upd x (.val (.int c)) ρ ρ2 ∧ R c ρ2 := ⟨_, _, .sub, u, h⟩
theorem up_borU (u : Upd x (.val (.int (Builtin.bitOr a b))) ρ ρ') (h : R (Builtin.bitOr a b) ρ') : ∃ c ρ2, BinV .BitOr a b c ∧ Upd x (.val (.int c)) ρ ρ2 ∧ R c ρ2 := ⟨_, _, .bor, u, h⟩
theorem up_shrU (h0 : 0 ≤ b) (u : Upd x (.val (.int (a.fdiv (2 ^ b.toNat)))) ρ ρ') (h : R (a.fdiv (2 ^ b.toNat)) ρ') : ∃ c ρ2, BinV .RShift a b c ∧ Upd x (.val (.int c)) ρ ρ2 ∧ R c ρ2 := ⟨_, _, .shr h0, u, h⟩
theorem up_modU (h0 : b ≠ 0) (u : Upd x (.val (.int (a.fmod b))) ρ ρ') (h : R (a.fmod b) ρ') : ∃ c ρ2, BinV .Mod a b c ∧ Upd x (.val (.int c)) ρ ρ2 ∧ R c ρ2 := ⟨_, _, .mod h0, u, h⟩
theorem up_as {X : V} {P : V → Prop} (h : P X) : ∃ x, Bnd.As (.val X) x ∧ P x := ⟨_, .val _, h⟩
theorem up_toO {d : Addr} {xs ys : List V} {P : Row → Prop} (u : Upd x (.own d ys) ρ ρ') (h : P ρ') : ∃ C ρ2, Bnd.To (.own d xs) C ys ∧ Upd x C ρ ρ2 ∧ P ρ2 := ⟨_, _, .own, u, h⟩
theorem up_toM {d : Addr} {xs ys : List V} {P : Row → Prop} (u : Upd x (.mown d ys) ρ ρ') (h : P ρ') : ∃ C ρ2, Bnd.To (.mown d xs) C ys ∧ Upd x C ρ ρ2 ∧ P ρ2 := ⟨_, _, .mown, u, h⟩
end

section
variable {mg mb : Str → Option Value} {g₀ : Heap} {prog : Program} {w : World} {env : Env} {k : Nat} {ρ ρ' : Row}
theorem EvE.name {x : Str} {pos : Pos} {X : V} {Q : Bnd → Row → Prop} (hm : (x, Bnd.val X) ∈ ρ) (hq : Q (.val X) ρ) : EvE mg g₀ prog w env k (.Name x pos) ρ Q := EvE.ofV (EvV.name hm hq)
theorem EvE.int {i : Int} {kd pos} {Q : Bnd → Row → Prop} (hq : Q (.val (.int i)) ρ) : EvE mg g₀ prog w env k (.Constant (.int i) kd pos) ρ Q := EvE.ofV (EvV.int hq)
theorem EvE.bin {l r : Expr} {op : Operator} {pos : Pos} {Q : Bnd → Row → Prop}
    (h : EvV mg g₀ prog w env k l ρ fun X ρ1 => ∃ a, X = .int a ∧ EvV mg g₀ prog w env k r ρ1 fun Y ρ2 => ∃ b, Y = .int b ∧ ∃ c, BinV op a b c ∧ Q (.val (.int c)) ρ2) : EvE mg g₀ prog w env k (.BinOp l op r pos) ρ Q := EvE.ofV (EvV.bin h)
theorem EvV.listV {es : List Expr} {pos : Pos} {Q : V → Row → Prop} (h : EvVs mg g₀ prog w env k es ρ fun xs ρ1 => xs.length ≤ 100 ∧ Q (.list xs) ρ1) : EvV mg g₀ prog w env k (.List es pos) ρ Q :=
  EvV.ofE (EvE.list ⟨fun A κ Φ z s K E pos ok S c => h.run A κ Φ z s K E pos ok S fun vs xs ρ' z' h' tk hq => c vs xs ρ' z' h' tk ⟨hq.1, fun _ => ⟨_, .own _ _, hq.2⟩⟩⟩)
theorem EvP.some {e : Expr} {Q : Option Int → Row → Prop} (h : EvV mg g₀ prog w env k e ρ fun X ρ1 => ∃ i, X = .int i ∧ Q (some i) ρ1) : EvP mg g₀ prog w env k (Option.some e) ρ Q := h
theorem EvP.none {Q : Option Int → Row → Prop} (h : Q Option.none ρ) : EvP mg g₀ prog w env k Option.none ρ Q := h
theorem EvP.imp {o : Option Expr} {Q Q' : Option Int → Row → Prop} (h : EvP mg g₀ prog w env k o ρ Q) (q : ∀ i ρ', Q i ρ' → Q' i ρ') : EvP mg g₀ prog w env k o ρ Q' := by
  cases o with
  | none => exact q _ _ h
  | some e => exact EvV.mono h fun x ρ' ⟨i, e, hq⟩ => ⟨i, e, q _ _ hq⟩
theorem EvV.sliceV {value : Expr} {lo hi : Option Expr} {p pos : Pos} {Q : V → Row → Prop}
    (h : EvV mg g₀ prog w env k value ρ fun X ρ1 => ∃ xs, X = .list xs ∧ xs.length ≤ 2 ^ 24 ∧ EvP mg g₀ prog w env k lo ρ1 fun i ρ2 => EvP mg g₀ prog w env k hi ρ2 fun j ρ3 =>
      Q (.list ((xs.drop (clipI i 0 xs.length)).take (clipI j xs.length xs.length - clipI i 0 xs.length))) ρ3)
    (ht : ∀ o r, letTemporaryGo value o r = pure () := by intro _ _; with_unfolding_all rfl) : EvV mg g₀ prog w env k (.Subscript value (.Slice lo hi none p) pos) ρ Q :=
  EvV.ofE (EvE.slice (h.mono fun X ρ1 ⟨xs, e, l, h1⟩ => ⟨xs, e, l, EvP.imp h1 fun i ρ2 h2 => EvP.imp h2 fun j ρ3 hq a => ⟨_, .own _ _, hq⟩⟩) ht)
theorem Ex1.assignL {x : Str} {p pos p' : Pos} {es : List Expr} {Q : Out → Row → Prop} (h : EvVs mg g₀ prog w env k es ρ fun xs ρ1 => xs.length ≤ 100 ∧ ∀ a, ∃ ρ2, Upd x (.own a xs) ρ1 ρ2 ∧ Q .next ρ2)
    (hs : swapsWith (.List es p') (some (.Name x p)) pos.line env = pure false := by with_unfolding_all rfl) : Ex1 mg g₀ prog w env k (.Assign [.Name x p] (.List es p') pos) ρ Q := Ex1.assign (EvE.list h) hs
theorem Ex1.assignR {x : Str} {p pos p' p'' : Pos} {es : List Expr} {r : Expr} {Q : Out → Row → Prop}
    (h : EvV mg g₀ prog w env k (.List es p'') ρ fun X ρ1 => ∃ x', X = .list [x'] ∧ EvV mg g₀ prog w env k r ρ1 fun Y ρ2 => ∃ i, Y = .int i ∧ 0 ≤ i ∧ i ≤ 2 ^ 24 ∧ ∀ a, ∃ ρ3, Upd x (.own a (List.replicate i.toNat x')) ρ2 ρ3 ∧ Q .next ρ3)
    (hs : swapsWith (.BinOp (.List es p'') .Mult r p') (some (.Name x p)) pos.line env = pure false := by with_unfolding_all rfl) : Ex1 mg g₀ prog w env k (.Assign [.Name x p] (.BinOp (.List es p'') .Mult r p') pos) ρ Q := Ex1.assign (EvE.rep h) hs
end
end Mine
namespace Mine
open PySem PySem.Calls
theorem lor_add {a b k : Nat} (h : b < 2 ^ k) : (a * 2 ^ k) ||| b = a * 2 ^ k + b := by
  rw [Nat.mul_comm, Nat.two_pow_add_eq_or_of_lt h]
theorem bitOr_nat (a b : Nat) : Builtin.bitOr (a : Int) (b : Int) = ((a ||| b : Nat) : Int) := by
  rw [bitOr_and, bitAnd_pp (by lia) (by omega)]
  simp only [Int.toNat_natCast]
  have h : a + b = (a &&& b) + (a ||| b) := by
    induction a using Nat.strongRecOn generalizing b with
    | _ a ih =>
      rcases Nat.eq_zero_or_pos a with rfl | ha
      · simp
      · have h1 := ih (a / 2) (by lia) (b / 2)
        have e1 : (a &&& b) / 2 = a / 2 &&& b / 2 := Nat.and_div_two
        have e2 : (a ||| b) / 2 = a / 2 ||| b / 2 := Nat.or_div_two
        have e3 : (a &&& b) % 2 = (a % 2) &&& (b % 2) := Nat.and_mod_two_pow (n := 1)
        have e4 : (a ||| b) % 2 = (a % 2) ||| (b % 2) := Nat.or_mod_two_pow (n := 1)
        have t : ∀ x : Nat, x < 2 → ∀ y : Nat, y < 2 → x + y = (x &&& y) + (x ||| y) := by decide
        have e5 := t (a % 2) (by lia) (b % 2) (by lia)
        rw [← e3, ← e4] at e5
        lia
  lia
theorem bitAnd_nat (a k : Nat) : Builtin.bitAnd (a : Int) ((2 ^ k - 1 : Nat) : Int) = ((a % 2 ^ k : Nat) : Int) := by
  rw [bitAnd_pp (by omega) (by lia)]
  simp only [Int.toNat_natCast]
  rw [Nat.and_two_pow_sub_one_eq_mod]

section
variable {P : Int → Prop} {a b k : Nat} {l : List Nat}
theorem up_addN (h : P ((a + b : Nat) : Int)) : ∃ c, BinV .Add (a : Int) (b : Int) c ∧ P c := ⟨_, .add, by rw [← Int.natCast_add]; exact h⟩
theorem up_subN (l : b ≤ a) (h : P ((a - b : Nat) : Int)) : ∃ c, BinV .Sub (a : Int) (b : Int) c ∧ P c := ⟨_, .sub, by rw [← Int.ofNat_sub l]; exact h⟩
theorem up_mulN (l : a < 2 ^ 60) (h : P ((a * b : Nat) : Int)) : ∃ c, BinV .Mult (a : Int) (b : Int) c ∧ P c := ⟨_, .mul (.inl (by (exact Nat.lt_of_lt_of_le (by assumption) (by decide)))), by rw [← Int.natCast_mul]; exact h⟩
theorem up_fdivN (h0 : 0 < b) (h1 : b < 2 ^ 29) (h : P ((a / b : Nat) : Int)) : ∃ c, BinV .FloorDiv (a : Int) (b : Int) c ∧ P c :=
  ⟨_, .fdiv (by lia) (by (exact Nat.lt_of_lt_of_le (by assumption) (by decide))), by rw [Int.fdiv_eq_ediv_of_nonneg _ (by (clear h h1 h0; omega)), ← Int.natCast_ediv]; exact h⟩
theorem up_modN (h0 : 0 < b) (h : P ((a % b : Nat) : Int)) : ∃ c, BinV .Mod (a : Int) (b : Int) c ∧ P c :=
  ⟨_, .mod (by lia), by rw [Int.fmod_eq_emod_of_nonneg _ (by (clear h h0; omega)), ← Int.natCast_emod]; exact h⟩
theorem up_shlN (h1 : b ≤ 1000000) (h2 : a < 2 ^ 60) (h : P ((a * 2 ^ b : Nat) : Int)) : ∃ c, BinV .LShift (a : Int) (b : Int) c ∧ P c :=
  ⟨_, .shl (by (clear h h2 h1; omega)) (by lia) (by (exact Nat.lt_of_lt_of_le (by assumption) (by decide))), by rw [Int.toNat_natCast, Int.natCast_mul, Int.natCast_pow] at *; exact h⟩
theorem up_shl1 (h1 : b ≤ 1000000) (h : P ((2 ^ b : Nat) : Int)) : ∃ c, BinV .LShift ((1 : Nat) : Int) (b : Int) c ∧ P c :=
  up_shlN h1 (by decide) (by rw [Nat.one_mul]; exact h)
theorem up_powN (h1 : b ≤ 1000000) (h2 : a < 2 ^ 60) (h : P ((a ^ b : Nat) : Int)) : ∃ c, BinV .Pow (a : Int) (b : Int) c ∧ P c :=
  ⟨_, .pow (by (clear h h2 h1; omega)) (by omega) (by (clear h h1; omega)), by rw [Int.toNat_natCast, ← Int.natCast_pow]; exact h⟩
theorem up_shrN (h : P ((a / 2 ^ b : Nat) : Int)) : ∃ c, BinV .RShift (a : Int) (b : Int) c ∧ P c :=
  ⟨_, .shr (by omega), by
    rw [Int.toNat_natCast, Int.fdiv_eq_ediv_of_nonneg _ (by have : (0 : Int) < 2 ^ b := Int.pow_pos (by decide); lia)]
    rw [Int.natCast_ediv, Int.natCast_pow] at h; exact h⟩
theorem up_maskN (h : P ((a % 2 ^ k : Nat) : Int)) : ∃ c, BinV .BitAnd (a : Int) ((2 ^ k - 1 : Nat) : Int) c ∧ P c := ⟨_, .band, by rw [bitAnd_nat]; exact h⟩
theorem up_borHi (l : b < 2 ^ k) (h : P ((a * 2 ^ k + b : Nat) : Int)) : ∃ c, BinV .BitOr ((a * 2 ^ k : Nat) : Int) (b : Int) c ∧ P c := ⟨_, .bor, by rw [bitOr_nat, lor_add l]; exact h⟩
theorem up_borLo (l : b < 2 ^ k) (h : P ((b + a * 2 ^ k : Nat) : Int)) : ∃ c, BinV .BitOr (b : Int) ((a * 2 ^ k : Nat) : Int) c ∧ P c := ⟨_, .bor, by rw [bitOr_nat, Nat.or_comm, lor_add l, Nat.add_comm]; exact h⟩
theorem up_ceqN {P : Bool → Prop} (h : P (decide (a = b))) : ∃ c, cmpI .Eq (a : Int) (b : Int) = some c ∧ P c := ⟨_, rfl, by
  have : ((a : Int) == (b : Int)) = decide (a = b) := by by_cases q : a = b <;> simp [q] <;> lia
  rw [this]; exact h⟩
theorem up_cneN {P : Bool → Prop} (h : P (decide (a ≠ b))) : ∃ c, cmpI .NotEq (a : Int) (b : Int) = some c ∧ P c := ⟨_, rfl, by
  have : ((a : Int) != (b : Int)) = decide (a ≠ b) := by by_cases q : a = b <;> simp [q] <;> omega
  rw [this]; exact h⟩
theorem up_cltN {P : Bool → Prop} (h : P (decide (a < b))) : ∃ c, cmpI .Lt (a : Int) (b : Int) = some c ∧ P c := ⟨_, rfl, by
  have : decide ((a : Int) < (b : Int)) = decide (a < b) := by simp
  rw [this]; exact h⟩
theorem up_cleN {P : Bool → Prop} (h : P (decide (a ≤ b))) : ∃ c, cmpI .LtE (a : Int) (b : Int) = some c ∧ P c := ⟨_, rfl, by
  have : decide ((a : Int) ≤ (b : Int)) = decide (a ≤ b) := by simp
  rw [this]; exact h⟩
theorem up_cgtN {P : Bool → Prop} (h : P (decide (b < a))) : ∃ c, cmpI .Gt (a : Int) (b : Int) = some c ∧ P c := ⟨_, rfl, by
  have : decide ((b : Int) < (a : Int)) = decide (b < a) := by simp
  rw [this]; exact h⟩
theorem up_cgeN {P : Bool → Prop} (h : P (decide (b ≤ a))) : ∃ c, cmpI .GtE (a : Int) (b : Int) = some c ∧ P c := ⟨_, rfl, by
  have : decide ((b : Int) ≤ (a : Int)) = decide (b ≤ a) := by simp
  rw [this]; exact h⟩
theorem up_eqB {c d : Bool} {P : Bool → Prop} (h : P (c == d)) : ∃ r, ((CmpOp.Eq = .Eq ∧ r = (c == d)) ∨ (CmpOp.Eq = .NotEq ∧ r = (c != d))) ∧ P r := ⟨_, .inl ⟨rfl, rfl⟩, h⟩
theorem up_neB {c d : Bool} {P : Bool → Prop} (h : P (c != d)) : ∃ r, ((CmpOp.NotEq = .Eq ∧ r = (c == d)) ∨ (CmpOp.NotEq = .NotEq ∧ r = (c != d))) ∧ P r := ⟨_, .inr ⟨rfl, rfl⟩, h⟩
theorem up_nat {P : Nat → Prop} (h : P a) : ∃ b : Nat, V.int (a : Int) = .int (b : Int) ∧ P b := ⟨_, rfl, h⟩
theorem up_nats {P : List Nat → Prop} (h : P l) : ∃ m, nats l = nats m ∧ P m := ⟨_, rfl, h⟩
/-- the item that stands at an index -/
theorem up_atN {P : Int → V → Prop} (hj : a < l.length) (hl : l.length < 2 ^ 60) (h : P a (.int (dg l a))) : ∃ i Z, V.int (a : Int) = .int i ∧ ItemAt (natsL l) i Z ∧ P i Z :=
  ⟨_, _, rfl, .inl ⟨by (clear h hl hj; omega), by lia, natsL_get (dg_get (by simpa using hj))⟩, h⟩
theorem up_atEnd {P : Int → V → Prop} (hj : 0 < l.length) (hl : l.length < 2 ^ 60) (h : P (-((1 : Nat) : Int)) (.int (dg l (l.length - 1)))) : ∃ i Z, V.int (-((1 : Nat) : Int)) = .int i ∧ ItemAt (natsL l) i Z ∧ P i Z :=
  ⟨_, _, rfl, .inr ⟨by decide, by rw [natsL_length]; lia, by decide, by
    rw [natsL_length, show (-((1 : Nat) : Int) + (l.length : Int)).toNat = l.length - 1 by (clear h hl hj; lia)]; exact natsL_get (dg_get (by (exact (nl (.branch 1 (.leaf (l.length - 1)) (.leaf (l.length))) [(1, (.add (.var 0) (.num 1)), (.var 1))] 1 (.add (.var 0) (.num 1)) (.var 1) rfl (nsb (nl (.leaf (l.length)) [(1, (.add (.num 0) (.num 1)), (.var 0))] 1 (.num 1) (.var 0) rfl hj))))))⟩, h⟩
theorem up_at0 {x : V} {xs : List V} {P : Int → V → Prop} (h : P ((0 : Nat) : Int) x) : ∃ i Z, V.int ((0 : Nat) : Int) = .int i ∧ ItemAt (x :: xs) i Z ∧ P i Z := ⟨_, _, rfl, .inl ⟨by decide, by decide, rfl⟩, h⟩
theorem up_at1 {x y : V} {xs : List V} {P : Int → V → Prop} (h : P ((1 : Nat) : Int) y) : ∃ i Z, V.int ((1 : Nat) : Int) = .int i ∧ ItemAt (x :: y :: xs) i Z ∧ P i Z := ⟨_, _, rfl, .inl ⟨by decide, by decide, rfl⟩, h⟩
theorem up_at2 {x y u : V} {xs : List V} {P : Int → V → Prop} (h : P ((2 : Nat) : Int) u) : ∃ i Z, V.int ((2 : Nat) : Int) = .int i ∧ ItemAt (x :: y :: u :: xs) i Z ∧ P i Z := ⟨_, _, rfl, .inl ⟨by decide, by decide, rfl⟩, h⟩
variable {x : Str} {B : Bnd} {ρ ρ' : Row} {d : Addr} {n : Nat}
theorem up_toON {P : Row → Prop} (u : Upd x (.own d (natsL (l ++ [n]))) ρ ρ') (h : P ρ') : ∃ C ρ2, Bnd.To (.own d (natsL l)) C (natsL l ++ [V.int (n : Int)]) ∧ Upd x C ρ ρ2 ∧ P ρ2 := ⟨_, _, natsL_snoc l n ▸ .own, u, h⟩
theorem up_toSN {P : Row → Prop} (u : Upd x (.own d (natsL (l.set a n))) ρ ρ') (h : P ρ') : ∃ C ρ2, Bnd.To (.own d (natsL l)) C ((natsL l).set (a : Int).toNat (V.int (n : Int))) ∧ Upd x C ρ ρ2 ∧ P ρ2 := ⟨_, _, natsL_set l a n ▸ .own, u, h⟩
theorem up_toSM {P : Row → Prop} (u : Upd x (.mown d (natsL (l.set a n))) ρ ρ') (h : P ρ') : ∃ C ρ2, Bnd.To (.mown d (natsL l)) C ((natsL l).set (a : Int).toNat (V.int (n : Int))) ∧ Upd x C ρ ρ2 ∧ P ρ2 := ⟨_, _, natsL_set l a n ▸ .mown, u, h⟩
/-- the place of a store -/
theorem up_setN {P : Int → Prop} (h1 : a < l.length) (h2 : l.length < 2 ^ 60) (h : P (a : Int)) : ∃ j, V.int (a : Int) = .int j ∧ 0 ≤ j ∧ j < ((natsL l).length : Int) ∧ j < 2 ^ 63 ∧ P j := ⟨_, rfl, by (clear h h2 h1; omega), by rw [natsL_length]; lia, by omega, h⟩
end

/-- the numbers a, a + 1, ..., n of them -/
def rngN (a n : Nat) : List V := (List.range n).map fun i => V.int ((a + i : Nat) : Int)
/-- n - 1 down to 0 -/
def rngD (n : Nat) : List V := (List.range n).map fun i => V.int ((n - 1 - i : Nat) : Int)
theorem rngN_length (a n : Nat) : (rngN a n).length = n := by simp [rngN]
theorem rngD_length (n : Nat) : (rngD n).length = n := by simp [rngD]
theorem rngN_get {a n i : Nat} {X : V} (h : (rngN a n)[i]? = some X) : i < n ∧ X = .int ((a + i : Nat) : Int) := by
  have hi : i < n := by
    rcases Nat.lt_or_ge i n with h1 | h1
    · exact h1
    · rw [List.getElem?_eq_none (by rw [rngN_length]; exact h1)] at h; cases h
  simp only [rngN, List.getElem?_map, List.getElem?_range hi] at h
  exact ⟨hi, by cases h; rfl⟩
theorem rngD_get {n i : Nat} {X : V} (h : (rngD n)[i]? = some X) : i < n ∧ X = .int ((n - 1 - i : Nat) : Int) := by
  have hi : i < n := by
    rcases Nat.lt_or_ge i n with h1 | h1
    · exact h1
    · rw [List.getElem?_eq_none (by rw [rngD_length]; exact h1)] at h; cases h
  simp only [rngD, List.getElem?_map, List.getElem?_range hi] at h
  exact ⟨hi, by cases h; rfl⟩
theorem rng_up (a n : Nat) : rng (a : Int) 1 n = rngN a n := by
  unfold rng rngN
  refine List.map_congr_left fun i _ => ?_
  congr 1; lia
theorem rng_down (n : Nat) : rng ((n : Int) - 1) (-1) n = rngD n := by
  unfold rng rngD
  refine List.map_congr_left fun i h => ?_
  have := List.mem_range.mp h
  congr 1; omega

theorem enum_get {l : List Nat} {i : Nat} {X : V} (h : (enumV (natsL l))[i]? = some X) : i < l.length ∧ X = .tup [.int (i : Int), .int (dg l i : Int)] := by
  simp only [enumV, List.getElem?_map, List.getElem?_zipIdx, Option.map_eq_some_iff] at h
  refine hideG fun gHid hHid => ?_
  obtain ⟨p, ⟨y, h, rfl⟩, rfl⟩ := h
  refine hHid ?_; clear hHid gHid
  refine hideG fun gHid hHid => ?_
  obtain ⟨x, h1, rfl⟩ := natsL_get' h
  refine hHid ?_; clear hHid gHid
  exact ⟨(List.getElem?_eq_some_iff.mp h1).1, by rw [dg_of h1]; simp⟩
theorem enum_length (l : List V) : (enumV l).length = l.length := by simp [enumV]

section
variable {mg mb : Str → Option Value} {g₀ : Heap} {prog : Program} {w : World} {env : Env} {k : Nat} {ρ ρ' : Row}
theorem EvV.int0 {kd pos} {Q : V → Row → Prop} (hq : Q (.int ((0 : Nat) : Int)) ρ) : EvV mg g₀ prog w env k (.Constant (.int 0) kd pos) ρ Q := EvV.int hq
theorem EvV.int1 {kd pos} {Q : V → Row → Prop} (hq : Q (.int ((1 : Nat) : Int)) ρ) : EvV mg g₀ prog w env k (.Constant (.int 1) kd pos) ρ Q := EvV.int hq
theorem EvV.int2 {kd pos} {Q : V → Row → Prop} (hq : Q (.int ((2 : Nat) : Int)) ρ) : EvV mg g₀ prog w env k (.Constant (.int 2) kd pos) ρ Q := EvV.int hq
theorem EvE.int0 {kd pos} {Q : Bnd → Row → Prop} (hq : Q (.val (.int ((0 : Nat) : Int))) ρ) : EvE mg g₀ prog w env k (.Constant (.int 0) kd pos) ρ Q := EvE.int hq
theorem EvE.int1 {kd pos} {Q : Bnd → Row → Prop} (hq : Q (.val (.int ((1 : Nat) : Int))) ρ) : EvE mg g₀ prog w env k (.Constant (.int 1) kd pos) ρ Q := EvE.int hq
/-- two ways that give the same value -/
theorem EvV.meet {c : Prop} [Decidable c] {e1 e2 : Expr} {Q : V → Row → Prop} (X : V) (h1 : c → EvV mg g₀ prog w env k e1 ρ fun Y ρ' => Y = X ∧ ρ' = ρ) (h2 : ¬ c → EvV mg g₀ prog w env k e2 ρ fun Y ρ' => Y = X ∧ ρ' = ρ) (hq : Q X ρ) :
    if decide c = true then EvV mg g₀ prog w env k e1 ρ Q else EvV mg g₀ prog w env k e2 ρ Q :=
  ifd (fun h => (h1 h).mono fun Y ρ' ⟨a, b⟩ => by subst a b; exact hq) (fun h => (h2 h).mono fun Y ρ' ⟨a, b⟩ => by subst a b; exact hq)
theorem EvV.lenN {p pos : Pos} {e : Expr} {Q : V → Row → Prop} (G : Gl mg mb g₀ recs)
    (h : EvV mg g₀ prog w env k e ρ fun X ρ1 => ∃ l, X = nats l ∧ l.length < 2 ^ 60 ∧ Q (.int (l.length : Int)) ρ1)
    (hs : noStar e = true := by with_unfolding_all rfl) (hx : env.kindOf "len" = some .globalImplicit := by with_unfolding_all rfl) : EvV mg g₀ prog w env k (.Call (.Name "len" p) [e] [] pos) ρ Q :=
  EvV.len G (h.mono fun X ρ1 ⟨l, e, hl, hq⟩ => ⟨_, e, by rw [natsL_length]; lia, by rw [natsL_length]; exact hq⟩) hs hx
theorem EvV.lenOwnN {x : Str} {p p' pos : Pos} {B : Bnd} {a : Addr} {l : List Nat} {Q : V → Row → Prop} (G : Gl mg mb g₀ recs) (hB : B.Own a (natsL l)) (hm : (x, B) ∈ ρ) (hl : l.length < 2 ^ 60) (hq : Q (.int (l.length : Int)) ρ)
    (hx : env.kindOf "len" = some .globalImplicit := by with_unfolding_all rfl) : EvV mg g₀ prog w env k (.Call (.Name "len" p) [.Name x p'] [] pos) ρ Q :=
  EvV.lenOwn G hB hm (by rw [natsL_length]; lia) (by rw [natsL_length]; exact hq) hx
theorem EvI.up1 {x : Str} {p pr pos : Pos} {e : Expr} {Q : List V → Row → Prop} (G : Gl mg mb g₀ recs)
    (h : EvV mg g₀ prog w env k e ρ fun X ρ1 => ∃ n : Nat, X = .int (n : Int) ∧ n < 2 ^ 60 ∧ Q (rngN 0 n) ρ1)
    (hs : noStar e = true := by with_unfolding_all rfl) (hx : env.kindOf "range" = some .globalImplicit := by with_unfolding_all rfl) : EvI mg g₀ prog w env k (.Name x p) (.Call (.Name "range" pr) [e] [] pos) ρ Q :=
  EvI.range1 G (h.mono fun X ρ1 ⟨n, e, hl, hq⟩ => ⟨n, e, by lia, by lia, by rw [Int.toNat_natCast]; rw [← rng_up] at hq; exact hq⟩) hs hx
theorem EvI.up2 {x : Str} {p pr pos : Pos} {e f : Expr} {Q : List V → Row → Prop} (G : Gl mg mb g₀ recs)
    (h : EvV mg g₀ prog w env k e ρ fun X ρ1 => ∃ a : Nat, X = .int (a : Int) ∧ a < 2 ^ 60 ∧ EvV mg g₀ prog w env k f ρ1 fun Y ρ2 => ∃ n : Nat, Y = .int (n : Int) ∧ n < 2 ^ 60 ∧ Q (rngN a (n - a)) ρ2)
    (hs : noStar e = true := by with_unfolding_all rfl) (hs' : noStar f = true := by with_unfolding_all rfl) (hx : env.kindOf "range" = some .globalImplicit := by with_unfolding_all rfl) : EvI mg g₀ prog w env k (.Name x p) (.Call (.Name "range" pr) [e, f] [] pos) ρ Q :=
  EvI.range2 G (h.mono fun X ρ1 ⟨a, e, hl, h⟩ => ⟨a, e, by lia, by lia, h.mono fun Y ρ2 ⟨n, e, hl', hq⟩ => ⟨n, e, by lia, by lia, by rw [show ((n : Int) - (a : Int)).toNat = n - a by (clear hq hl' e h hl hx hs' hs G; lia), rng_up]; exact hq⟩⟩) hs hs' hx
/-- range(n - 1, -1, -1) -/
theorem EvI.down {x : Str} {p pr pos p1 p2 p3 p4 p5 p6 : Pos} {k1 k2 k3 : Nat} {e : Expr} {Q : List V → Row → Prop} (G : Gl mg mb g₀ recs)
    (h : EvV mg g₀ prog w env k e ρ fun X ρ1 => ∃ n : Nat, X = .int (n : Int) ∧ n < 2 ^ 60 ∧ Q (rngD n) ρ1)
    (hx : env.kindOf "range" = some .globalImplicit := by with_unfolding_all rfl) :
    EvI mg g₀ prog w env k (.Name x p) (.Call (.Name "range" pr) [.BinOp e .Sub (.Constant (.int 1) k1 p1) p2, .UnaryOp .USub (.Constant (.int 1) k2 p3) p4, .UnaryOp .USub (.Constant (.int 1) k3 p5) p6] [] pos) ρ Q :=
  EvI.range3 G (EvV.bin (h.mono fun X ρ1 ⟨n, e, hl, hq⟩ => ⟨_, e, EvV.int ⟨_, rfl, _, .sub, _, rfl, EvV.neg (EvV.int ⟨_, rfl, _, rfl, EvV.neg (EvV.int ⟨_, rfl, _, rfl, by decide, by decide, small_down (by lia) (by lia) (by decide) (by decide), by
    rw [rangeSize_down, rng_down]; exact hq⟩)⟩)⟩⟩)) rfl rfl rfl hx
theorem EvV.repN {l r : Expr} {x : Nat} {pos : Pos} {Q : Bnd → Row → Prop}
    (h : EvV mg g₀ prog w env k l ρ fun X ρ1 => ∃ x : Nat, X = .list [.int (x : Int)] ∧ EvV mg g₀ prog w env k r ρ1 fun Y ρ2 => ∃ n : Nat, Y = .int (n : Int) ∧ n ≤ 2 ^ 24 ∧ ∀ a, Q (.own a (natsL (List.replicate n x))) ρ2) : EvE mg g₀ prog w env k (.BinOp l .Mult r pos) ρ Q :=
  EvE.rep (h.mono fun X ρ1 ⟨x, e, h1⟩ => ⟨_, e, h1.mono fun Y ρ2 ⟨n, e, hl, hq⟩ => ⟨_, e, by lia, by lia, fun a => by rw [Int.toNat_natCast, natsL_rep]; exact hq a⟩⟩)
theorem EvE.nilN {pos : Pos} {Q : Bnd → Row → Prop} (h : ∀ a, Q (.own a (natsL [])) ρ) : EvE mg g₀ prog w env k (.List [] pos) ρ Q := EvE.list (EvVs.nil ⟨by decide, h⟩)
theorem EvV.nilN {pos : Pos} {Q : V → Row → Prop} (h : Q (nats []) ρ) : EvV mg g₀ prog w env k (.List [] pos) ρ Q := EvV.listV (EvVs.nil ⟨by decide, h⟩)
theorem Ex1.assignNil {x : Str} {p pos p' : Pos} {Q : Out → Row → Prop} (h : ∀ a, ∃ ρ2, Upd x (.own a (natsL [])) ρ ρ2 ∧ Q .next ρ2)
    (hs : swapsWith (.List [] p') (some (.Name x p)) pos.line env = pure false := by with_unfolding_all rfl) : Ex1 mg g₀ prog w env k (.Assign [.Name x p] (.List [] p') pos) ρ Q := Ex1.assign (EvE.nilN h) hs
theorem Ex1.assignRN {x : Str} {p pos p' p'' p3 : Pos} {c : Nat} {r : Expr} {Q : Out → Row → Prop}
    (h : EvV mg g₀ prog w env k r ρ fun Y ρ2 => ∃ n : Nat, Y = .int (n : Int) ∧ n ≤ 2 ^ 24 ∧ ∀ a, ∃ ρ3, Upd x (.own a (natsL (List.replicate n 0))) ρ2 ρ3 ∧ Q .next ρ3)
    (hs : swapsWith (.BinOp (.List [.Constant (.int 0) c p3] p'') .Mult r p') (some (.Name x p)) pos.line env = pure false := by with_unfolding_all rfl) : Ex1 mg g₀ prog w env k (.Assign [.Name x p] (.BinOp (.List [.Constant (.int 0) c p3] p'') .Mult r p') pos) ρ Q :=
  Ex1.assign (EvV.repN (x := 0) (EvV.listV (EvVs.cons (EvV.int (EvVs.nil ⟨by decide, 0, rfl, h⟩)) rfl))) hs
theorem EvE.repN0 {p' p'' p3 : Pos} {c : Nat} {r : Expr} {Q : Bnd → Row → Prop}
    (h : EvV mg g₀ prog w env k r ρ fun Y ρ2 => ∃ n : Nat, Y = .int (n : Int) ∧ n ≤ 2 ^ 24 ∧ ∀ a, Q (.own a (natsL (List.replicate n 0))) ρ2) : EvE mg g₀ prog w env k (.BinOp (.List [.Constant (.int 0) c p3] p'') .Mult r p') ρ Q :=
  EvV.repN (x := 0) (EvV.listV (EvVs.cons (EvV.int (EvVs.nil ⟨by decide, 0, rfl, h⟩)) rfl))
theorem Ex1.augV {x : Str} {p pos : Pos} {op : Operator} {value : Expr} {a : Int} {Q : Out → Row → Prop} (hm : (x, Bnd.val (.int a)) ∈ ρ)
    (h : EvV mg g₀ prog w env k value ρ fun Y ρ1 => ∃ b, Y = .int b ∧ ∃ c, BinV op a b c ∧ ∃ ρ2, Upd x (.val (.int c)) ρ1 ρ2 ∧ Q .next ρ2) : Ex1 mg g₀ prog w env k (.AugAssign (.Name x p) op value pos) ρ Q :=
  Ex1.aug hm (h.mono fun Y ρ1 ⟨b, e, c, v, ρ2, u, hq⟩ => ⟨b, e, c, ρ2, v, u, hq⟩)
/-- as setItem; the list is named first -/
theorem Ex1.setItemN {x : Str} {p p' pos : Pos} {i value : Expr} {B : Bnd} {a : Addr} {xs : List V} {Q : Out → Row → Prop} (hm : (x, B) ∈ ρ) (hB : B.Own a xs)
    (h : EvV mg g₀ prog w env k value ρ fun Y ρ1 => (x, B) ∈ ρ1 ∧ EvV mg g₀ prog w env k i ρ1 fun I ρ2 => (x, B) ∈ ρ2 ∧ ∃ j, I = .int j ∧ 0 ≤ j ∧ j < xs.length ∧ j < 2 ^ 63 ∧ ∃ C ρ3, Bnd.To B C (xs.set j.toNat Y) ∧ Upd x C ρ2 ρ3 ∧ Q .next ρ3)
    (hs : swapsWith value (some (.Subscript (.Name x p) i p')) pos.line env = pure false := by with_unfolding_all rfl) : Ex1 mg g₀ prog w env k (.Assign [.Subscript (.Name x p) i p'] value pos) ρ Q := Ex1.setItem hB h hs
end
end Mine
namespace Mine
open PySem PySem.Calls
theorem val_push {B c : Nat} (f : List Nat) : val B (f ++ [c % B]) + B ^ (f.length + 1) * (c / B) = val B f + B ^ f.length * c := by
  rw [val_snoc]
  have h := Nat.div_add_mod c B
  have : B ^ f.length * c = B ^ f.length * (B * (c / B) + c % B) := by rw [h]
  rw [this]
  grind
theorem Ds.push {B c : Nat} {f : List Nat} (hB : 0 < B) (h : Ds B f) : Ds B (f ++ [c % B]) := h.append (Ds.cons (Nat.mod_lt _ hB) Ds.nil)
theorem take_dg {l : List Nat} {j : Nat} (h : j < l.length) : l.take (j + 1) = l.take j ++ [dg l j] := by rw [List.take_add_one, dg_get h]; rfl
theorem val_take_dg {B j : Nat} {l : List Nat} (h : j < l.length) : val B (l.take (j + 1)) = val B (l.take j) + B ^ j * dg l j := val_take_succ (dg_get h)
theorem drop_dg {l : List Nat} {j : Nat} (h : j < l.length) : l.drop j = dg l j :: l.drop (j + 1) := by
  rw [List.drop_eq_getElem_cons h]
  congr 1
  exact (dg_of (List.getElem?_eq_getElem h)).symm
theorem val_drop_dg {B j : Nat} {l : List Nat} (h : j < l.length) : val B (l.drop j) = dg l j + B * val B (l.drop (j + 1)) := val_drop (dg_get h)
theorem Ds.dg {B j : Nat} {l : List Nat} (hB : 0 < B) (h : Ds B l) : dg l j < B := by
  rcases Nat.lt_or_ge j l.length with q | q
  · exact h.get (dg_get q)
  · rw [dg_out q]; exact hB
theorem Ds.rep {B n : Nat} (hB : 0 < B) : Ds B (List.replicate n 0) := Ds.replicate hB
/-- a number's limbs, the top one nonzero -/
theorem dig_top {B x : Nat} (hB : 2 ≤ B) : dig B x = [] ∨ B ^ ((dig B x).length - 1) ≤ x := by
  rcases Nat.eq_zero_or_pos x with rfl | h
  · exact .inl (dig_zero B)
  · exact .inr (dig_le hB h)
theorem dig_add {B S c : Nat} {f A : List Nat} (hB : 2 ≤ B) (hf : Ds B f) (hl : f.length = A.length) (hA : A = [] ∨ B ^ (A.length - 1) ≤ S) (hc : c < B) (h : val B f + B ^ f.length * c = S) :
    (if 0 < c then f ++ [c] else f) = dig B S := by
  split
  · rename_i h0
    rw [dig_canon hB (hf.append (Ds.cons hc Ds.nil)) (by (exact Nat.ne_of_gt (by assumption))), val_snoc, h]
  · have : c = 0 := by (exact (Nat.le_antisymm (nl (.leaf c) [(1, (.var 0), (.num 0))] 1 (.var 0) (.num 0) rfl (Nat.le_of_not_lt (by assumption))) (nl (.leaf c) [] 1 (.num 0) (.var 0) rfl)))
    subst this
    refine dig_bounds hB hf (by simpa using h) ?_
    rw [hl]
    rcases hA with rfl | hA
    · exact .inl (List.eq_nil_of_length_eq_zero hl)
    · exact .inr hA
end Mine
namespace Mine
open PySem PySem.Calls
theorem pow_le10 {v : Nat} (h : v ≤ 10) : 2 ^ v ≤ 1024 := by
  have := Nat.pow_le_pow_right (show 2 > 0 by decide) h
  simpa using this
theorem val_take_all_dg {B j : Nat} {l : List Nat} : val B (l.take (j + 1)) = val B (l.take j) + B ^ j * dg l j := by
  rcases Nat.lt_or_ge j l.length with h | h
  · exact val_take_dg h
  · rw [List.take_of_length_le (by (exact (nl (.branch 1 (.leaf (l.length)) (.leaf j)) [(1, (.var 0), (.var 1))] 1 (.var 0) (.add (.var 1) (.num 1)) rfl h))), List.take_of_length_le h, dg_out h]; rfl
theorem dg_replicate {n j : Nat} : dg (List.replicate n 0) j = 0 := by
  unfold dg; rw [List.getD_eq_getElem?_getD, List.getElem?_replicate]; split <;> rfl
theorem drop_set {l : List Nat} {j x : Nat} (h : j < l.length) : (l.set j x).drop j = x :: l.drop (j + 1) := by
  rw [List.drop_eq_getElem_cons (by simpa using h), List.drop_set, if_pos (by (exact Nat.le_refl _))]
  simp
/-- shifting: a limb of the number moved down by n bits -/
theorem shr_limb {v n a c R : Nat} (hn : n < v) (ha : a < 2 ^ v) :
    ((a + 2 ^ v * (c + 2 ^ v * R)) / 2 ^ n) % 2 ^ v = (a / 2 ^ n + c * 2 ^ (v - n)) % 2 ^ v := by
  have e : 2 ^ v = 2 ^ n * 2 ^ (v - n) := by rw [← Nat.pow_add]; congr 1; (exact (Nat.le_antisymm (nl (.branch 1 (.leaf v) (.branch 2 (.leaf n) (.leaf (v - n)))) [(1, (.var 0), (.add (.var 2) (.var 1)))] 1 (.var 0) (.add (.var 1) (.var 2)) rfl (nsa (v) (n))) (nl (.branch 1 (.leaf n) (.branch 2 (.leaf (v - n)) (.leaf v))) [(1, (.add (.var 1) (.var 0)), (.var 2))] 1 (.add (.var 0) (.var 1)) (.var 2) rfl (nsb (nl (.branch 1 (.leaf n) (.leaf v)) [(1, (.add (.var 0) (.num 1)), (.var 1))] 1 (.var 0) (.var 1) rfl hn)))))
  have hp := Nat.two_pow_pos n
  have e2 : a + 2 ^ v * (c + 2 ^ v * R) = a + 2 ^ n * (2 ^ (v - n) * (c + 2 ^ v * R)) := by rw [e]; grind
  rw [e2, Nat.add_mul_div_left _ _ hp]
  have e3 : a / 2 ^ n + 2 ^ (v - n) * (c + 2 ^ v * R) = (a / 2 ^ n + c * 2 ^ (v - n)) + 2 ^ v * (2 ^ (v - n) * R) := by grind
  rw [e3, Nat.add_mul_mod_self_left]
theorem mod_pow_succ' {B Y i : Nat} : Y % B ^ (i + 1) = Y % B ^ i + B ^ i * (Y / B ^ i % B) := by rw [Nat.pow_succ, Nat.mod_mul]
theorem intBits_nat {d : Nat} (h : 0 < d) : Builtin.Int.intBits (d : Int) = d.log2 + 1 := by
  unfold Builtin.Int.intBits
  rw [if_neg (by simp; (exact Nat.ne_of_gt (by assumption))), Int.natAbs_natCast]
theorem div_pow_pow {Y n v i : Nat} : Y / 2 ^ n / (2 ^ v) ^ i = Y / (2 ^ v) ^ i / 2 ^ n := by
  rw [Nat.div_div_eq_div_mul, Nat.div_div_eq_div_mul, Nat.mul_comm]
theorem val_div {B i : Nat} {l : List Nat} (hB : 0 < B) (h : Ds B l) (hi : i ≤ l.length) : val B l / B ^ i = val B (l.drop i) := by
  have h1 := val_lt hB (h.take (i := i))
  rw [List.length_take, Nat.min_eq_left hi] at h1
  rw [val_split B i l hi, Nat.add_mul_div_left _ _ (Nat.pow_pos hB), Nat.div_eq_of_lt h1, Nat.zero_add]
end Mine
namespace Mine
open PySem PySem.Calls
section
variable {mg mb : Str → Option Value} {g₀ : Heap} {prog : Program} {w : World} {env : Env} {k : Nat} {ρ ρ' : Row}
/-- a slice of a list that a name owns -/
theorem EvE.sliceOwn {x : Str} {lo hi : Option Expr} {p p' pos : Pos} {B : Bnd} {a : Addr} {xs : List V} {Q : Bnd → Row → Prop} (hm : (x, B) ∈ ρ) (hB : B.Own a xs) (hl : xs.length ≤ 2 ^ 24)
    (h : EvP mg g₀ prog w env k lo ρ fun i ρ2 => EvP mg g₀ prog w env k hi ρ2 fun j ρ3 => (x, B) ∈ ρ3 ∧
      ∀ b, Q (.own b ((xs.drop (clipI i 0 xs.length)).take (clipI j xs.length xs.length - clipI i 0 xs.length))) ρ3)
    (ht : ∀ o r, letTemporaryGo (.Name x p') o r = pure () := by intro _ _; with_unfolding_all rfl) : EvE mg g₀ prog w env k (.Subscript (.Name x p') (.Slice lo hi none p) pos) ρ Q := by
  refine ⟨?_⟩
  intro A κ Φ z s K E ok S c
  refine hideG fun gHid hHid => ?_
  obtain ⟨m, hn, bd⟩ := S.ownRef hB hm
  refine hHid ?_; clear hHid gHid
  refine wpAny_Subscript_list_slice (wpAny_Name (S.load ok.kind hm hn bd ?_) (S.dbg x (List.mem_map.mpr ⟨_, hm, rfl⟩)).1) ht
  refine h.run ok S ?_
  rintro vl i ρ2 z2 h2 tk2 h'' hz2 S2 pl
  refine h''.run ok S2 ?_
  intro vu j ρ3 z3 h3 tk3 hI1 hz3 S3 pu
  refine hideG fun gHid hHid => ?_
  obtain ⟨hm3, hq⟩ := hI1
  refine hHid ?_; clear hHid gHid
  refine hideG fun gHid hHid => ?_
  obtain ⟨⟨vs, n, e, r⟩, _, _⟩ := S3.ownAt hB hm3
  refine hHid ?_; clear hHid gHid
  have hlen := r.length
  refine ⟨_, _, i, j, rfl, isListO e, by simpa [hlen, sizeLine] using hl, pl, pu, ?_⟩
  rw [slicePick_clip, hlen]
  have S4 := S3.grow (Grow.push h3 { cls := .type "slice", data := .fields #[vl, vu, .none] })
  have hsz : (h3.push { cls := .type "slice", data := .fields #[vl, vu, .none] }).objs.size = h3.objs.size + 1 := Heap.size_push ..
  refine hideG fun gHid hHid => ?_
  obtain ⟨S5, R5, d5, n5⟩ := S4.fresh (vs := (List.drop (clipI i 0 xs.length) _).take (clipI j xs.length xs.length - clipI i 0 xs.length)) r.drop.take
  refine hHid ?_; clear hHid gHid
  rw [hsz] at R5 d5 n5
  exact c _ _ _ _ _ tk3 (hq (h3.objs.size + 1)) (hz2.trans hz3) S5 R5 d5 n5
theorem EvV.sliceOwn {x : Str} {lo hi : Option Expr} {p p' pos : Pos} {B : Bnd} {a : Addr} {xs : List V} {Q : V → Row → Prop} (hm : (x, B) ∈ ρ) (hB : B.Own a xs) (hl : xs.length ≤ 2 ^ 24)
    (h : EvP mg g₀ prog w env k lo ρ fun i ρ2 => EvP mg g₀ prog w env k hi ρ2 fun j ρ3 => (x, B) ∈ ρ3 ∧ Q (.list ((xs.drop (clipI i 0 xs.length)).take (clipI j xs.length xs.length - clipI i 0 xs.length))) ρ3)
    (ht : ∀ o r, letTemporaryGo (.Name x p') o r = pure () := by intro _ _; with_unfolding_all rfl) : EvV mg g₀ prog w env k (.Subscript (.Name x p') (.Slice lo hi none p) pos) ρ Q :=
  EvV.ofE (EvE.sliceOwn hm hB hl (EvP.imp h fun i ρ2 h2 => EvP.imp h2 fun j ρ3 ⟨hm3, hq⟩ => ⟨hm3, fun b => ⟨_, .own _ _, hq⟩⟩) ht)
theorem EvV.minN {p pos : Pos} {e f : Expr} {Q : V → Row → Prop} (G : Gl mg mb g₀ recs)
    (h : EvV mg g₀ prog w env k e ρ fun X ρ1 => ∃ i : Nat, X = .int (i : Int) ∧ EvV mg g₀ prog w env k f ρ1 fun Y ρ2 => ∃ j : Nat, Y = .int (j : Int) ∧ Q (.int ((min i j : Nat) : Int)) ρ2)
    (hs : noStar e = true := by with_unfolding_all rfl) (hs' : noStar f = true := by with_unfolding_all rfl) (hx : env.kindOf "min" = some .globalImplicit := by with_unfolding_all rfl) : EvV mg g₀ prog w env k (.Call (.Name "min" p) [e, f] [] pos) ρ Q :=
  EvV.min2 G (h.mono fun X ρ1 ⟨i, e, h⟩ => ⟨_, e, h.mono fun Y ρ2 ⟨j, e, hq⟩ => ⟨_, e, by
    have : (if (j : Int) < (i : Int) then (j : Int) else (i : Int)) = ((min i j : Nat) : Int) := by split <;> omega
    rw [this]; exact hq⟩⟩) hs hs' hx
/-- a tuple target of two names -/
theorem AsX.two {x y : Str} {p q r : Pos} {kd : Nat} {X Y : V} {ρ1 ρ2 : Row} {Q : Row → Prop} (u : Upd x (.val X) ρ ρ1) (u' : Upd y (.val Y) ρ1 ρ2) (hq : Q ρ2) : AsX mg g₀ prog w env k (.Tuple [.Name x p, .Name y q] kd r) (.tup [X, Y]) ρ Q :=
  AsX.tup (AsXs.cons (AsX.name u (AsXs.cons (AsX.name u' (AsXs.nil hq)))))
end
end Mine
namespace Mine
open PySem PySem.Calls
section
variable {mg mb : Str → Option Value} {g₀ : Heap} {prog : Program} {w : World} {env cenv : Env} {k : Nat} {ρ ρ' : Row}

theorem EvI.listT {t : Expr} {iter : Expr} {Q : List V → Row → Prop} (h : EvV mg g₀ prog w env k iter ρ fun X ρ1 => ∃ xs, X = .list xs ∧ Q xs ρ1) : EvI mg g₀ prog w env k t iter ρ Q := by
  refine ⟨?_⟩
  intro A κ Φ z s K E ok S c
  refine h.run A κ Φ z s _ E ok S ?_
  intro v X ρ1 z1 h1 tk1 hI1 hz1 S1 r1
  refine hideG fun gHid hHid => ?_
  obtain ⟨xs, rfl, hq⟩ := hI1
  refine hHid ?_; clear hHid gHid
  cases r1 with
  | @list a vs n _ e r =>
    have eh := S1.zin _ _ e
    refine wpAny_pyIter_list (isListO eh) ?_
    have hne : a ≠ h1.objs.size := Nat.ne_of_lt (Heap.lt_size eh)
    have W := Walks.list (prog := prog) (w := w) ok.handled h1.objs.size a hne vs.toArray
    refine c _ [h1.objs.size] _ xs _ z1 _ tk1 hq hz1 (S1.grow (Grow.push h1 _)) (Wk.of_walks W (by simp [r.length]) (fun i v X hv hX => ?_) (fun b hb => ?_) (fun i h hS b hb => ?_) (fun i v s Q E hS hq => ?_)) ⟨⟨_, Heap.get?_push_size _ rfl, rfl, rfl⟩, isListO (Heap.get?_push_of_some _ eh)⟩ (fun b hb => ?_)
    · refine hideG fun gHid hHid => ?_
      obtain ⟨v', hv', rv⟩ := r.get hX
      refine hHid ?_; clear hHid gHid
      have : vs[i]? = some v := by simpa using hv
      rw [this] at hv'; cases hv'; exact rv
    · simp only [List.mem_cons, List.not_mem_nil, or_false] at hb
      rcases hb with rfl | rfl
      · exact .inl (by simp)
      · exact .inr ⟨_, e⟩
    · simp only [List.mem_cons, List.not_mem_nil, or_false] at hb; subst hb
      obtain ⟨o, ho, _⟩ := hS.1; exact ⟨o, ho⟩
    · refine hideG fun gHid hHid => ?_
      obtain ⟨o, ho, hc, hd⟩ := hS.1
      refine hHid ?_; clear hHid gHid
      unfold letOwnedTupleGo
      split
      all_goals first
        | exact wpAny_pure hq
        | (split
           · rename_i a' _ _
             rename_i e1; cases e1
             refine wpAny_bind (wpAny_load ho ?_)
             rw [hc, hd]
             show wpAny _ _ (if (["enumerate", "zip", "dict_itemiterator", "dict_reverseitemiterator", "odict_iterator", "itertools.zip_longest", "itertools.pairwise"].contains "list_iterator" && _) = true then _ else pure ()) Q E s
             rw [show (["enumerate", "zip", "dict_itemiterator", "dict_reverseitemiterator", "odict_iterator", "itertools.zip_longest", "itertools.pairwise"].contains "list_iterator") = false from by decide, Bool.false_and, if_neg Bool.false_ne_true]
             exact wpAny_pure hq
           · exact wpAny_pure hq)
    · simp only [List.mem_cons, List.not_mem_nil, or_false] at hb; subst hb
      exact S1.freshΦ (fresh_size h1)

/-- what a comprehension is lent: the cells of the names F -/
structure Lend (env cenv : Env) (F : List Str) : Prop where
  cells : ∀ x c, cenv.cells.lookup x = some c → env.cells.lookup x = some c
  lent : ∀ x ∈ F, cenv.cells.lookup x = env.cells.lookup x ∧ (env.kindOf x = some .cell ∨ env.kindOf x = some .free) ∧ (cenv.kindOf x = some .cell ∨ cenv.kindOf x = some .free)

/-- what stays untouched meanwhile -/
def Held (env : Env) (ρ : Row) (F : List Str) (b : Addr) : Prop :=
  b = env.locals ∨ ∃ x B, (x, B) ∈ ρ ∧ x ∉ F ∧ (b ∈ B.addrs ∨ (env.cells.lookup x = some b ∧ (env.kindOf x = some .cell ∨ env.kindOf x = some .free)))
open Classical in
noncomputable def heldK (κ : PH) (h : Heap) (H : Addr → Prop) : PH := fun b => if H b then h.get? b else κ b

theorem heldK_yes {κ : PH} {h : Heap} {H : Addr → Prop} {b : Addr} (p : H b) : heldK κ h H b = h.get? b := by unfold heldK; rw [if_pos p]
theorem heldK_no {κ : PH} {h : Heap} {H : Addr → Prop} {b : Addr} (p : ¬ H b) : heldK κ h H b = κ b := by unfold heldK; rw [if_neg p]
theorem heldK_of {κ : PH} {h : Heap} {H : Addr → Prop} {b : Addr} {o : Obj} (e : κ b = some o) (e' : h.get? b = some o) : heldK κ h H b = some o := by
  unfold heldK; split
  · exact e'
  · exact e

theorem Row.addrs_sub : ∀ {a b : Row}, a.Sublist b → a.addrs.Sublist b.addrs
  | _, _, .slnil => .slnil
  | _, _, .cons (l₂ := b) p s => by
    have := Row.addrs_sub s
    simp only [Row.addrs, List.flatMap_cons] at this ⊢
    exact this.trans (List.sublist_append_right _ _)
  | _, _, .cons_cons p s => by
    have := Row.addrs_sub s
    simp only [Row.addrs, List.flatMap_cons] at this ⊢
    exact List.Sublist.append_left this _

/-- what is held is of the heap -/
theorem Held.ex {κ z : PH} {Φ : Addr → Prop} {h : Heap} {F : List Str} (S : St mg g₀ env κ Φ ρ z h) {b : Addr} (H : Held env ρ F b) : (∃ o, h.get? b = some o) ∧ z b = none := by
  refine hideG fun gHid hHid => ?_
  obtain ⟨m, ⟨oL, es, ep, hL, hd, r⟩, f⟩ := S.frame
  refine hHid ?_; clear hHid gHid
  rcases H with rfl | ⟨x, B, hm, hx, hb | ⟨hc, hk⟩⟩
  · exact ⟨⟨_, hL⟩, S.zL⟩
  · refine hideG fun gHid hHid => ?_
    obtain ⟨ov, bd, R⟩ := f x B hm
    refine hHid ?_; clear hHid gHid
    refine hideG fun gHid hHid => ?_
    obtain ⟨⟨vs, n, e⟩, _, e2⟩ := R.at b hb
    refine hHid ?_; clear hHid gHid
    exact ⟨⟨_, e⟩, e2⟩
  · refine hideG fun gHid hHid => ?_
    obtain ⟨ov, bd, R⟩ := f x B hm
    refine hHid ?_; clear hHid gHid
    rcases bd with ⟨k, _⟩ | ⟨_, c', e, ⟨o, ho, _⟩, _, k2⟩
    · rcases hk with hk | hk <;> · rw [k] at hk; cases hk
    · rw [hc] at e; cases e
      exact ⟨⟨_, ho⟩, k2⟩

theorem St.lend {κ z : PH} {Φ : Addr → Prop} {h h₀ : Heap} {F locs : List Str} {ρf : Row} {C : Addr} {m : Str → Option Value} (S : St mg g₀ env κ Φ ρ z h₀) (hC : h₀.get? C = none) (g : ∀ b o, h₀.get? b = some o → h.get? b = some o)
    (hn : h.Ns C m) (L : Lend env cenv F) (eC : cenv.locals = C) (hsub : ρf.Sublist ρ) (hF : ∀ p ∈ ρf, p.1 ∈ F) (hl : ∀ x ∈ locs, cenv.kindOf x = some .local) (hk : (locs ++ ρf.map (·.1)).Nodup)
    (hd : ∀ x ∈ locs, (x == ("__debug__" : Str)) = false ∧ (x == ("__classdict__" : Str)) = false) :
    St mg g₀ cenv (heldK κ h (Held env ρ F)) (fun b => Held env ρ F b ∨ Φ b) ((locs.map fun x => (x, Bnd.un)) ++ ρf) z h := by
  refine hideG fun gHid hHid => ?_
  obtain ⟨m0, hn0, f⟩ := S.frame
  refine hHid ?_; clear hHid gHid
  have nH : ¬ Held env ρ F C := fun H => by obtain ⟨⟨o, e⟩, _⟩ := Held.ex S H; rw [e] at hC; cases hC
  have kn : ∀ b, κ b = none → ¬ Held env ρ F b → heldK κ h (Held env ρ F) b = none := fun b e n => by rw [heldK_no n]; exact e
  have isL : ∀ c v, h₀.IsCell c v → c ≠ env.locals := fun c v ic q => by
    obtain ⟨o, ho, hd⟩ := ic; obtain ⟨oL, _, _, hL, hdL, _⟩ := hn0
    rw [q, hL] at ho; cases ho; rw [hdL] at hd; cases hd
  have keysEq : (locs.map (fun x => (x, Bnd.un)) ++ ρf).map (·.1) = locs ++ ρf.map (·.1) := by simp [Function.comp_def]
  refine ⟨fun b o e => ?_, fun b o e => ?_, fun b o e => g _ _ (S.zin _ _ e), fun b hb => ?_, ?_, ?_, ⟨m, by rw [eC]; exact hn, fun x B hm => ?_⟩, ?_, fun x y c hx hy => S.cinj x y c (L.cells _ _ hx) (L.cells _ _ hy), by rw [keysEq]; exact hk, fun x hx => ?_, fun b hb => ?_⟩
  · exact heldK_of (S.root _ _ e) (g _ _ (S.kept _ _ (S.root _ _ e)))
  · unfold heldK at e
    split at e
    · exact e
    · exact g _ _ (S.kept _ _ e)
  · rcases hb with hb | hb
    · exact (Held.ex S hb).2
    · exact S.zoff _ hb
  · rw [eC]; exact kn C (none_of_le S.kept hC) nH
  · rw [eC]; exact none_of_le S.zin hC
  · rcases List.mem_append.mp hm with hm | hm
    · refine hideG fun gHid hHid => ?_
      obtain ⟨y, hy, e⟩ := List.mem_map.mp hm
      refine hHid ?_; clear hHid gHid
      cases e
      exact ⟨_, .inl ⟨hl _ hy, rfl⟩, trivial⟩
    · have hmρ := hsub.subset hm
      have hxF := hF _ hm
      refine hideG fun gHid hHid => ?_
      obtain ⟨ov, bd, R⟩ := f x B hmρ
      refine hHid ?_; clear hHid gHid
      refine hideG fun gHid hHid => ?_
      obtain ⟨e1, e2, e3⟩ := L.lent x hxF
      refine hHid ?_; clear hHid gHid
      refine ⟨ov, .inr ⟨e3, ?_⟩, R.change (fun a _ o e => g _ _ e) (Le.refl _) fun a ha k1 k2 => ?_⟩
      · rcases bd with ⟨q, _⟩ | ⟨_, c, ec, ic, k1, k2⟩
        · rcases e2 with e2 | e2 <;> · rw [q] at e2; cases e2
        · refine ⟨c, by rw [e1]; exact ec, ic.keeps g, kn c k1 ?_, k2⟩
          rintro (q | ⟨y, B', hy, hyF, hb | ⟨hc, _⟩⟩)
          · exact isL _ _ ic q
          · refine hideG fun gHid hHid => ?_
            obtain ⟨ov', _, R'⟩ := f y B' hy
            refine hHid ?_; clear hHid gHid
            refine hideG fun gHid hHid => ?_
            obtain ⟨⟨vs, n, e⟩, _⟩ := R'.at c hb
            refine hHid ?_; clear hHid gHid
            refine hideG fun gHid hHid => ?_
            obtain ⟨o, ho, hd⟩ := ic
            refine hHid ?_; clear hHid gHid
            rw [e] at ho; cases ho; cases hd
          · exact hyF (S.cinj x y c ec hc ▸ hxF)
      · have nh : ¬ Held env ρ F a := by
          rintro (q | ⟨y, B', hy, hyF, hb | ⟨hc, hk'⟩⟩)
          · refine hideG fun gHid hHid => ?_
            obtain ⟨⟨vs, n, e⟩, _⟩ := R.at a ha
            refine hHid ?_; clear hHid gHid
            refine hideG fun gHid hHid => ?_
            obtain ⟨oL, _, _, hL, hdL, _⟩ := hn0
            refine hHid ?_; clear hHid gHid
            rw [q, hL] at e; cases e; cases hdL
          · have := Row.addrs_one S.nodup hmρ hy ha hb
            cases this
            exact hyF hxF
          · refine hideG fun gHid hHid => ?_
            obtain ⟨ov', bd', _⟩ := f y B' hy
            refine hHid ?_; clear hHid gHid
            rcases bd' with ⟨q, _⟩ | ⟨_, c', ec', ⟨o, ho, hd⟩, _⟩
            · rcases hk' with hk' | hk' <;> · rw [q] at hk'; cases hk'
            · rw [hc] at ec'; cases ec'
              refine hideG fun gHid hHid => ?_
              obtain ⟨⟨vs, n, e⟩, _⟩ := R.at a ha
              refine hHid ?_; clear hHid gHid
              rw [e] at ho; cases ho; cases hd
        exact ⟨kn a k1 nh, k2, fun q r => r.elim nh q⟩
  · have : Row.addrs (locs.map (fun x => (x, Bnd.un)) ++ ρf) = ρf.addrs := by
      simp only [Row.addrs, List.flatMap_append, List.flatMap_map]
      rw [show List.flatMap (fun a => (Bnd.un).addrs) locs = [] by simp [Bnd.addrs]]
      rfl
    rw [this]; exact (Row.addrs_sub hsub).nodup S.nodup
  · rw [keysEq] at hx
    rcases List.mem_append.mp hx with hx | hx
    · exact hd x hx
    · exact S.dbg x ((hsub.map _).subset hx)
  · rcases hb with hb | hb
    · obtain ⟨o, e⟩ := (Held.ex S hb).1; exact ⟨o, g _ _ e⟩
    · obtain ⟨o, e⟩ := S.offIn _ hb; exact ⟨o, g _ _ e⟩

/-- the rows before and after: what was lent may have turned -/
structure Back (F : List Str) (ρ ρ2 ρ' : Row) : Prop where
  keys : ρ'.map (·.1) = ρ.map (·.1)
  addrs : ρ'.addrs = ρ.addrs
  mem : ∀ x B, (x, B) ∈ ρ' → (x ∈ F ∧ (x, B) ∈ ρ2) ∨ (x ∉ F ∧ (x, B) ∈ ρ)

theorem St.back {κ z z2 : PH} {Φ : Addr → Prop} {h h₀ h2 : Heap} {F : List Str} {ρ2 : Row} (S0 : St mg g₀ env κ Φ ρ z h₀) (g : ∀ b o, h₀.get? b = some o → h.get? b = some o) (L : ∀ x ∈ F, cenv.cells.lookup x = env.cells.lookup x ∧ (env.kindOf x = some .cell ∨ env.kindOf x = some .free) ∧ (cenv.kindOf x = some .cell ∨ cenv.kindOf x = some .free))
    (S : St mg g₀ cenv (heldK κ h (Held env ρ F)) (fun b => Held env ρ F b ∨ Φ b) ρ2 z2 h2) (hz : Le z z2) (b : Back F ρ ρ2 ρ') : St mg g₀ env κ Φ ρ' z2 h2 := by
  refine hideG fun gHid hHid => ?_
  obtain ⟨m, hn, f⟩ := S0.frame
  refine hHid ?_; clear hHid gHid
  have keep : ∀ a o, Held env ρ F a → h₀.get? a = some o → h2.get? a = some o := fun a o H e => S.kept _ _ (by rw [heldK_yes H]; exact g _ _ e)
  have kle : Le κ (heldK κ h (Held env ρ F)) := fun a o e => heldK_of e (g _ _ (S0.kept _ _ e))
  refine ⟨S0.root, fun a o e => S.kept _ _ (kle _ _ e), S.zin, fun a ha => S.zoff _ (.inr ha), S0.kL, S.zoff _ (.inl (.inl rfl)), ⟨m, hn.at' fun o e => keep _ _ (.inl rfl) e, fun x B hm => ?_⟩, by rw [b.addrs]; exact S0.nodup, S0.cinj, by rw [b.keys]; exact S0.keys, by rw [b.keys]; exact S0.dbg, fun a ha => S.offIn _ (.inr ha)⟩
  rcases b.mem x B hm with ⟨hxF, hm2⟩ | ⟨hxF, hm0⟩
  · refine hideG fun gHid hHid => ?_
    obtain ⟨m2, _, f2⟩ := S.frame
    refine hHid ?_; clear hHid gHid
    refine hideG fun gHid hHid => ?_
    obtain ⟨ov, bd, R⟩ := f2 x B hm2
    refine hHid ?_; clear hHid gHid
    refine hideG fun gHid hHid => ?_
    obtain ⟨e1, e2, e3⟩ := L x hxF
    refine hHid ?_; clear hHid gHid
    refine ⟨ov, .inr ⟨e2, ?_⟩, R.change (fun a _ o e => e) (Le.refl _) fun a ha k1 k2 => ⟨none_of_le kle k1, k2, fun q r => q (.inr r)⟩⟩
    rcases bd with ⟨q, _⟩ | ⟨_, c, ec, ic, k1, k2⟩
    · rcases e3 with e3 | e3 <;> · rw [q] at e3; cases e3
    · exact ⟨c, by rw [← e1]; exact ec, ic, none_of_le kle k1, k2⟩
  · refine hideG fun gHid hHid => ?_
    obtain ⟨ov, bd, R⟩ := f x B hm0
    refine hHid ?_; clear hHid gHid
    refine ⟨ov, ?_, R.change (fun a ha o e => keep _ _ (.inr ⟨x, B, hm0, hxF, .inl ha⟩) e) hz fun a ha k1 k2 => ⟨k1, S.zoff _ (.inl (.inr ⟨x, B, hm0, hxF, .inl ha⟩)), id⟩⟩
    rcases bd with ⟨q, e⟩ | ⟨kk, c, ec, ⟨o, ho, hd⟩, k1, k2⟩
    · exact .inl ⟨q, e⟩
    · have H : Held env ρ F c := .inr ⟨x, B, hm0, hxF, .inr ⟨ec, kk⟩⟩
      exact .inr ⟨kk, c, ec, ⟨o, keep _ _ H ho, hd⟩, k1, S.zoff _ (.inl H)⟩

/-- what nothing uses turns -/
theorem St.other {κ z : PH} {Φ : Addr → Prop} {h h' : Heap} {C : Addr} (S : St mg g₀ env κ Φ ρ z h) (U : Unused env κ ρ z C) (hf : ¬ Φ C) (hx : ∃ o, h.get? C = some o) (g : ∀ b o, b ≠ C → h.get? b = some o → h'.get? b = some o) : St mg g₀ env κ Φ ρ z h' := by
  have H : ∀ a ∈ [C], Unused env κ ρ z a := fun a ha => by simp only [List.mem_singleton] at ha; subst ha; exact U
  have Hx : ∀ a ∈ [C], ∃ o, h.get? a = some o := fun a ha => by simp only [List.mem_singleton] at ha; subst ha; exact hx
  exact (S.pinU H Hx).outside (fun a ha => (H a ha).nk) Hx S.root (fun b hb q => by simp only [List.mem_singleton] at q; subst q; exact hf hb) fun b o hb e => g b o (fun q => hb (by simp [q])) e
end
end Mine
namespace Mine
open PySem PySem.Calls
theorem compLoop_any {prog : Program} {w : World} {A : Around} {R : Result → Shared → Prop} {s : Shared} {elt t iter : Expr} {scope : Scope} {pos : Pos} {it acc : Value} {env : Env} (I : Nat → Shared → Prop)
    (turn : ∀ n s, I n s → wpAny (model prog w) A (pyNext it) (fun r s₁ => match r with
      | none => R (.ok .next) s₁
      | some v => wpAny (model prog w) A (letOwnedTupleGo t it v) (fun _ s₁' => wpAny (model prog w) A (assign t env v) (fun _ s₂ =>
          wpAny (model prog w) A (eval elt env) (fun x s₄ =>
              wpAny (model prog w) A (call (.builtin "list.append") [acc, x]) (fun _ s₅ => ∃ m, m < n ∧ I m s₅) (notedBy (model prog w) A env fun e s' => R (.error e) s') s₄) (notedBy (model prog w) A env fun e s' => R (.error e) s') s₂)
          (notedBy (model prog w) A env fun e s' => R (.error e) s') s₁') (notedBy (model prog w) A env fun e s' => R (.error e) s') s₁) (notedBy (model prog w) A env fun e s' => R (.error e) s') s)
    (n : Nat) (h : I n s) : codeAny (model prog w) A (.compLoop (.ListComp elt [⟨t, iter, [], 0⟩] scope pos) 0 it acc env) R s := by
  refine codeAny_loop rfl I (fun n s hI => ?_) n h
  show wpAny _ A ((compTurn (.ListComp elt [⟨t, iter, [], 0⟩] scope pos) 0 it acc env).onRaise (fun x => do noteFrame x env; theTreesLotGoes x)) _ _ s
  refine wpAny_noted ?_
  rw [compTurn_list1]
  refine wpAny_bind (wpAny_standAt (wpAny_bind (wpAny_mono (turn n s hI) (fun r s₁ h₁ => ?_) fun _ _ h' => h')))
  cases r with
  | none => exact wpAny_pure h₁
  | some v =>
    refine wpAny_bind (wpAny_mono h₁ (fun _ s₁' h₁' => ?_) fun _ _ h' => h')
    exact wpAny_bind (wpAny_mono h₁' (fun _ s₂ h₂ => wpAny_bind (wpAny_bind (wpAny_mono h₂ (fun x s₄ h₄ => wpAny_bind (wpAny_mono h₄ (fun _ s₅ h₅ => wpAny_pure (wpAny_pure ⟨rfl, h₅⟩)) fun _ _ h' => h')) fun _ _ h' => h'))) fun _ _ h' => h')

section
variable {mg mb : Str → Option Value} {g₀ : Heap} {prog : Program} {w : World} {env : Env} {k : Nat} {ρ ρ' : Row}

/-- a source for a comprehension: it may be a list of one's own, which is then only read -/
structure EvC (mg : Str → Option Value) (g₀ : Heap) (prog : Program) (w : World) (env : Env) (k : Nat) (src : List Str) (t iter : Expr) (ρ : Row) (Q : List V → Row → Prop) : Prop where
  run : ∀ A κ Φ z s (K : Value → Shared → Prop) E, OkA env k A → St mg g₀ env κ Φ ρ z s.heap →
    (∀ I wr rd SI Xs ρ' z' h' tk, Q Xs ρ' → Le z z' → St mg g₀ env κ Φ ρ' z' h' → Wk prog w A mg I t wr z' Xs SI rd → SI 0 h' → (∀ b ∈ wr, Unused env κ ρ' z' b ∧ ¬ Φ b) → (∀ b ∈ rd, ∃ x ∈ src, ∃ B, (x, B) ∈ ρ' ∧ b ∈ B.addrs) → K (.ref I) { s with heap := h', toks := tk }) →
    wpAny (model prog w) A (eval iter env) (fun x s1 => wpAny (model prog w) A (pyIter x) K E s1) E s
theorem EvC.ofI {t iter : Expr} {Q : List V → Row → Prop} (h : EvI mg g₀ prog w env k t iter ρ Q) : EvC mg g₀ prog w env k [] t iter ρ Q :=
  ⟨fun A κ Φ z s K E ok S c => h.run A κ Φ z s K E ok S fun I wr SI Xs ρ' z' h' tk hq hz S' W hSI U => c I wr [] SI Xs ρ' z' h' tk hq hz S' W hSI U fun b hb => by cases hb⟩

/-- what is asked of a comprehension's turns -/
structure Turning (mg : Str → Option Value) (g₀ : Heap) (prog : Program) (w : World) (env : Env) (k : Nat) (src : List Str) (scope : Scope) (cl : List (Str × Addr)) (t elt : Expr) (Xs : List V) (ρ1 : Row) (Q : List V → Row → Prop) : Prop where
  go : Xs.length ≤ 2 ^ 20 ∧ ∀ C, ∃ (F locs : List Str) (ρf : Row) (inv : Nat → List V → Row → Prop), Lend env (compEnvC scope cl C env) F ∧ ρf.Sublist ρ1 ∧ (∀ p ∈ ρf, p.1 ∈ F) ∧ (∀ x ∈ src, x ∉ F) ∧
    (∀ x ∈ locs, (compEnvC scope cl C env).kindOf x = some .local) ∧ (locs ++ ρf.map (·.1)).Nodup ∧ (∀ x ∈ locs, (x == ("__debug__" : Str)) = false ∧ (x == ("__classdict__" : Str)) = false) ∧
    inv 0 [] ((locs.map fun x => (x, Bnd.un)) ++ ρf) ∧
    (∀ i X ys ρ2, Xs[i]? = some X → ys.length = i → inv i ys ρ2 → AsX mg g₀ prog w (compEnvC scope cl C env) k t X ρ2 fun ρ3 => EvV mg g₀ prog w (compEnvC scope cl C env) k elt ρ3 fun Y ρ4 => inv (i + 1) (ys ++ [Y]) ρ4) ∧
    ((ρ1.map (·.1)).Nodup → ∀ ys ρ2, inv Xs.length ys ρ2 → ∃ ρ', Back F ρ1 ρ2 ρ' ∧ Q ys ρ')

theorem comp_block {A : Around} {E : Value → Shared → Prop} {κ z1 : PH} {Φ : Addr → Prop} {s : Shared} {t elt iter : Expr} {scope : Scope} {cl : List (Str × Addr)} {pos : Pos} {I : Addr} {wr : List Addr} {Xs : List V} {SI : Nat → Heap → Prop} {ρ1 : Row} {Q : List V → Row → Prop} {rd : List Addr} {src : List Str}
    (ok : OkA env k A) (S1 : St mg g₀ env κ Φ ρ1 z1 s.heap) (W : Wk prog w A mg I t wr z1 Xs SI rd) (hSI : SI 0 s.heap) (U : ∀ b ∈ wr, Unused env κ ρ1 z1 b ∧ ¬ Φ b) (hrd : ∀ b ∈ rd, ∃ x ∈ src, ∃ B, (x, B) ∈ ρ1 ∧ b ∈ B.addrs) (T : Turning mg g₀ prog w env k src scope cl t elt Xs ρ1 Q)
    (hcell : ∀ y ∈ scope.names, y.2 ≠ .cell) (hkind : scope.kind = .function) {RR : Value → Addr → Result → Shared → Prop}
    (hRR : ∀ D C h' tk ys ρ' z', Q ys ρ' → Le z1 z' → St mg g₀ env κ Φ ρ' z' h' → RelB mg κ z' Φ h' (some (.ref D)) (.own D ys) → D ∉ ρ'.addrs → (∃ m, h'.Ns C m) → Unused env κ ρ' z' C → ¬ Φ C → D ≠ C → RR (.ref D) C (.ok .next) { s with heap := h', toks := tk }) :
    wpAny (model prog w) A (newList []) (fun acc s₃ => wpAny (model prog w) A (newFunctionEnv scope env.globals cl [] env.qual none .none (some env)) (fun cenv s₄ =>
      codeAny (model prog w) A (.compStart (.ListComp elt [⟨t, iter, [], 0⟩] scope pos) 0 (.ref I) acc { cenv with scope := relabel scope env }) (RR acc cenv.locals) s₄) E s₃) E s := by
  have hlen := T.go.1
  refine wpAny_newObj_type (wpAny_newFunctionEnv hcell (by intro y hy; simp at hy) (fun h₁ hns₁ hsb₁ => ?_) hkind)
  dsimp only at hns₁ hsb₁ ⊢
  generalize hH2 : s.heap.push { cls := .type "list", dict := none, data := .seq ([] : List Value).toArray } = H2 at hns₁ hsb₁ ⊢
  have hC : H2.objs.size = s.heap.objs.size + 1 := by rw [← hH2, Heap.size_push]
  generalize hCe : H2.objs.size = C at *
  generalize hDe : s.heap.objs.size = D at *
  refine hideG fun gHid hHid => ?_
  obtain ⟨F, locs, ρf, inv, hL, hsub, hF, hsrc, hlocs, hnd, hdb, i0, turn, fin⟩ := T.go.2 C
  refine hHid ?_; clear hHid gHid
  have rdH : ∀ b ∈ rd, Held env ρ1 F b := fun b hb => let ⟨x, hx, B, hm, ha⟩ := hrd b hb; .inr ⟨x, B, hm, hsrc x hx, .inl ha⟩
  have hDC : D ≠ C := by rw [hC]; exact Nat.ne_of_lt (Nat.lt_succ_self _)
  have freshD : s.heap.get? D = none := hDe ▸ fresh_size s.heap
  have freshC : s.heap.get? C = none := fresh_ge (by rw [hDe, hC]; exact Nat.le_succ _)
  have ltD : ∀ b o, s.heap.get? b = some o → b ≠ D ∧ b ≠ C := fun b o e => by
    have : b < D := hDe ▸ Heap.lt_size e
    exact ⟨Nat.ne_of_lt this, by rw [hC]; exact Nat.ne_of_lt (Nat.lt_succ_of_lt this)⟩
  have old : ∀ b o, s.heap.get? b = some o → h₁.get? b = some o := fun b o e => hsb₁.extBut b o (ltD b o e).2 (Heap.get?_push_of_some _ (hH2 ▸ Heap.get?_push_of_some _ e))
  have hD1 : h₁.get? D = some (listO [] 0) := hsb₁.extBut _ _ hDC (Heap.get?_push_of_some _ (by rw [← hH2, ← hDe]; exact Heap.get?_push_size _ rfl))
  have UD := S1.freshΦ freshD
  have UC := S1.freshΦ freshC
  have Hx1 := W.ex 0 _ hSI
  -- the turns' own state
  have Sc := S1.lend (cenv := compEnvC scope cl C env) freshC old hns₁ hL rfl hsub hF hlocs hnd hdb
  have heldS : ∀ b, Held env ρ1 F b → ∃ o, s.heap.get? b = some o := fun b hb => (Held.ex S1 hb).1
  have nHw : ∀ b ∈ wr, ¬ Held env ρ1 F b := fun b hb H => by
    rcases H with q | ⟨x, B, hm, _, q | ⟨q1, q2⟩⟩
    · exact (U b hb).1.nL q
    · exact (U b hb).1.nA (Row.addrs_mem hm q)
    · exact (U b hb).1.nC x b (List.mem_map.mpr ⟨_, hm, rfl⟩) q1 q2 rfl
  have nHD : ¬ Held env ρ1 F D := fun H => by obtain ⟨o, e⟩ := heldS D H; rw [freshD] at e; cases e
  have okc : OkA (compEnvC scope cl C env) k A := ⟨ok.toOkC, hkind, ok.globs, ok.bns⟩
  have fAddrs : Row.addrs (locs.map (fun x => (x, Bnd.un)) ++ ρf) = ρf.addrs := by
    simp only [Row.addrs, List.flatMap_append, List.flatMap_map]
    rw [show List.flatMap (fun a => (Bnd.un).addrs) locs = [] by simp [Bnd.addrs]]
    rfl
  have Uc : ∀ b, Unused env κ ρ1 z1 b → b ≠ C → ¬ Held env ρ1 F b → Unused (compEnvC scope cl C env) (heldK κ h₁ (Held env ρ1 F)) (locs.map (fun x => (x, Bnd.un)) ++ ρf) z1 b := fun b u n1 n2 => by
    refine ⟨n1, fun x c hx hc hk => ?_, ?_, u.nz, by rw [heldK_no n2]; exact u.nk⟩
    · rw [List.map_append, List.mem_append] at hx
      rcases hx with hx | hx
      · have : x ∈ locs := by simpa [Function.comp_def] using hx
        have e := hlocs x this
        rcases hk with hk | hk <;> · rw [e] at hk; cases hk
      · refine hideG fun gHid hHid => ?_
        obtain ⟨p, hp, rfl⟩ := List.mem_map.mp hx
        refine hHid ?_; clear hHid gHid
        refine hideG fun gHid hHid => ?_
        obtain ⟨e1, e2, _⟩ := hL.lent _ (hF p hp)
        refine hHid ?_; clear hHid gHid
        exact u.nC p.1 c (List.mem_map.mpr ⟨p, hsub.subset hp, rfl⟩) (hL.cells _ _ hc) e2
    · rw [fAddrs]; exact fun q => u.nA ((Row.addrs_sub hsub).subset q)
  have wrC : ∀ b ∈ wr, b ≠ C ∧ b ≠ D := fun b hb => by obtain ⟨o, e⟩ := Hx1 b hb; exact ⟨(ltD b o e).2, (ltD b o e).1⟩
  have HU : ∀ a ∈ D :: wr, Unused (compEnvC scope cl C env) (heldK κ h₁ (Held env ρ1 F)) (locs.map (fun x => (x, Bnd.un)) ++ ρf) z1 a := fun a ha => by
    rcases List.mem_cons.mp ha with rfl | ha
    · exact Uc _ UD.1 hDC nHD
    · exact Uc _ (U a ha).1 (wrC a ha).1 (nHw a ha)
  have HX : ∀ a ∈ D :: wr, ∃ o, h₁.get? a = some o := fun a ha => by
    rcases List.mem_cons.mp ha with rfl | ha
    · exact ⟨_, hD1⟩
    · obtain ⟨o, e⟩ := Hx1 a ha; exact ⟨o, old _ _ e⟩
  have P1 := Sc.pinU HU HX
  have Hk : ∀ a ∈ D :: wr, heldK κ h₁ (Held env ρ1 F) a = none := fun a ha => (HU a ha).nk
  have Hf : ∀ b, (Held env ρ1 F b ∨ Φ b) → b ∉ D :: wr := fun b hb q => by
    rcases List.mem_cons.mp q with rfl | q
    · rcases hb with hb | hb
      · exact nHD hb
      · exact UD.2 hb
    · rcases hb with hb | hb
      · exact nHw b q hb
      · exact (U b q).2 hb
  have SI1 : SI 0 h₁ := W.frame _ _ _ hSI S1.zin (fun b _ o e => old _ _ e) (fun b _ o e => old _ _ e) (fun b o e => old _ _ (S1.zin _ _ e))
  have rdk : ∀ b ∈ rd, ∀ (ha hh : Heap), Le (pinK (heldK κ h₁ (Held env ρ1 F)) hh (D :: wr)) ha.get? → ha.get? b = h₁.get? b := fun b hb ha hh l => by
    have H := rdH b hb
    refine hideG fun gHid hHid => ?_
    obtain ⟨o, e⟩ := heldS b H
    refine hHid ?_; clear hHid gHid
    have e1 := old _ _ e
    have nb : b ∉ D :: wr := fun q => by
      rcases List.mem_cons.mp q with rfl | q
      · exact nHD H
      · exact nHw b q H
    have e2 : pinK (heldK κ h₁ (Held env ρ1 F)) hh (D :: wr) b = some o := by unfold pinK; rw [if_neg nb, heldK_yes H, e1]
    rw [l _ _ e2, e1]
  have loop : ∀ s₃ : Shared, s₃ = { s with heap := h₁, toks := s.toks + ([] : List (Str × Value)).length } →
      codeAny (model prog w) A (.compLoop (.ListComp elt [⟨t, iter, [], 0⟩] scope pos) 0 (.ref I) (.ref D) (compEnvC scope cl C env)) (RR (.ref D) C) s₃ := by
    rintro s₃ rfl
    refine compLoop_any (fun m s' => ∃ i h2 tk2 ρ2 z2 ys vs n, s' = { s with heap := h2, toks := tk2 } ∧ m = Xs.length + 1 - i ∧ i ≤ Xs.length ∧ ys.length = i ∧ inv i ys ρ2 ∧ Le z1 z2 ∧
      St mg g₀ (compEnvC scope cl C env) (pinK (heldK κ h₁ (Held env ρ1 F)) h2 (D :: wr)) (fun b => b ∈ D :: wr ∨ (Held env ρ1 F b ∨ Φ b)) ρ2 z2 h2 ∧ SI i h2 ∧ h2.get? D = some (listO vs n) ∧ HoldsL mg z2 vs ys) ?_
      (Xs.length + 1) ⟨0, h₁, _, _, z1, [], [], 0, rfl, rfl, Nat.zero_le _, rfl, i0, Le.refl _, P1, SI1, hD1, .nil⟩
    intro m _ hI1
    refine el_8_10 hI1 ?_
    intro i h2 tk2 ρ2 z2 ys vs n hρ0 hρ1 hi hys hinv hz2 S2 hS eD rD
    clear hI1
    subst hρ0
    subst hρ1
    have zin2 : Le z1 h2.get? := hz2.trans S2.zin
    have Hx : ∀ a ∈ D :: wr, ∃ o, h2.get? a = some o := fun a ha => by
      rcases List.mem_cons.mp ha with rfl | ha
      · exact ⟨_, eD⟩
      · exact W.ex i h2 hS a ha
    have Dw : D ∉ wr := fun q => (wrC D q).2 rfl
    by_cases hlt : i < Xs.length
    · have hX : Xs[i]? = some Xs[i] := List.getElem?_eq_getElem hlt
      refine W.step i Xs[i] _ _ _ _ hX hS zin2 (fun v s1 hr => hr) ?_
      intro v h3 tk3 hS3 g3 r3
      have eD3 : h3.get? D = some (listO vs n) := g3 _ _ Dw eD
      have Hx3 : ∀ a ∈ D :: wr, ∃ o, h3.get? a = some o := fun a ha => by
        rcases List.mem_cons.mp ha with rfl | ha
        · exact ⟨_, eD3⟩
        · exact W.ex _ h3 hS3 a ha
      have S3' := S2.outside (h' := h3) Hk Hx Sc.root Hf fun b o hb e => g3 b o (fun q => hb (List.mem_cons_of_mem _ q)) e
      have S3 := S3'.pinU (fun a ha => S2.pinned Hk Hx a ha) Hx3
      have r3' : ItemR mg z2 h3 t v Xs[i] := by
        rcases r3 with r | ⟨e, T, vals, xs, e1, e2, it, r⟩
        · exact .inl (r.mono hz2)
        · exact .inr ⟨e, T, vals, xs, e1, e2, it, r.mono hz2⟩
      refine (turn i Xs[i] ys ρ2 hX hys hinv).run A _ _ z2 _ _ _ v okc S3 r3' ?_
      intro ρ3 z3 h4 tk4 hbody hz3 S4
      refine hbody.run A _ _ z3 _ _ _ okc S4 ?_
      intro y Y ρ4 z4 h5 tk5 hq hz4 S5 r5
      have keep5 : ∀ b ∈ D :: wr, ∀ o, h3.get? b = some o → h5.get? b = some o := fun b hb o e => S5.kept _ _ (by unfold pinK; rw [if_pos hb]; exact e)
      have eD5 : h5.get? D = some (listO vs n) := keep5 D List.mem_cons_self _ eD3
      have hz14 : Le z1 z4 := (hz2.trans hz3).trans hz4
      have SI5 : SI (i + 1) h5 := W.frame _ _ _ hS3 (hz2.trans S3.zin) (fun b hb o e => keep5 b (List.mem_cons_of_mem _ hb) o e) (fun b hb o e => by rw [rdk b hb _ _ S5.kept, ← rdk b hb _ _ S3.kept]; exact e) (hz14.trans S5.zin)
      have Hx5 : ∀ a ∈ D :: wr, ∃ o, h5.get? a = some o := fun a ha => let ⟨o, e⟩ := Hx3 a ha; ⟨o, keep5 a ha o e⟩
      have eqpin : pinK (heldK κ h₁ (Held env ρ1 F)) h3 (D :: wr) = pinK (heldK κ h₁ (Held env ρ1 F)) h5 (D :: wr) := by
        funext b
        unfold pinK
        split
        · rename_i hb
          refine hideG fun gHid hHid => ?_
          obtain ⟨o, e⟩ := Hx3 b hb
          refine hHid ?_; clear hHid gHid
          rw [e, keep5 b hb o e]
        · rfl
      rw [eqpin] at S5
      refine wpAny_list_append_plain (hsz := by rw [List.size_toArray, rD.length, hys]; exact Nat.le_trans hi (Nat.le_trans hlen (by decide))) ⟨n, eD5⟩ fun h6 hpl hsb => ?_
      refine hideG fun gHid hHid => ?_
      obtain ⟨n6, e6⟩ := hpl
      refine hHid ?_; clear hHid gHid
      have e6' : h6.get? D = some (listO (vs ++ [y]) n6) := by rw [e6]; simp [listO]
      have S6' := S5.outside (h' := h6) Hk Hx5 Sc.root Hf fun b o hb e => hsb.extBut b o (fun q => hb (by rw [q]; exact List.mem_cons_self)) e
      have Hx6 : ∀ a ∈ D :: wr, ∃ o, h6.get? a = some o := fun a ha => by
        by_cases q : a = D
        · exact ⟨_, q ▸ e6'⟩
        · obtain ⟨o, e⟩ := Hx5 a ha; exact ⟨o, hsb.extBut a o q e⟩
      have S6 := S6'.pinU (fun a ha => S5.pinned Hk Hx5 a ha) Hx6
      refine ⟨Xs.length + 1 - (i + 1), by (exact (nl (.branch 2 (.branch 1 (.leaf (Xs.length + 1 - (i + 1))) (.leaf (Xs.length + 1 - i))) (.branch 3 (.leaf i) (.leaf (Xs.length)))) [(1, (.add (.var 3) (.num 1)), (.add (.var 1) (.var 2))), (1, (.add (.var 0) (.add (.var 2) (.num 1))), (.add (.var 3) (.num 1)))] 1 (.add (.var 0) (.num 1)) (.var 1) rfl (nsa (Xs.length + 1) (i)) (nsb (nl (.branch 1 (.leaf i) (.leaf (Xs.length))) [(1, (.var 0), (.var 1))] 1 (.add (.var 0) (.num 1)) (.add (.var 1) (.num 1)) rfl hi)))), i + 1, h6, tk5, ρ4, z4, ys ++ [Y], vs ++ [y], n6, rfl, rfl, hlt, by simp [hys], hq, hz14, S6, ?_, e6', ((rD.mono hz3).mono hz4).append (.cons r5 .nil)⟩
      exact W.frame _ _ _ SI5 (hz14.trans S5.zin) (fun b hb o e => hsb.extBut b o (wrC b hb).2 e) (fun b hb o e => hsb.extBut b o (fun q => nHD (q ▸ rdH b hb)) e) (hz14.trans S6'.zin)
    · have he : i = Xs.length := by (exact (Nat.le_antisymm (nl (.branch 1 (.leaf i) (.leaf (Xs.length))) [(1, (.var 0), (.var 1))] 1 (.var 0) (.var 1) rfl hi) (nl (.branch 1 (.leaf (Xs.length)) (.leaf i)) [(1, (.var 0), (.var 1))] 1 (.var 0) (.var 1) rfl (Nat.le_of_not_lt hlt))))
      subst he
      refine W.done _ _ _ hS zin2 ?_
      intro h3 tk3 g3
      have S3 := S2.outside (h' := h3) Hk Hx Sc.root Hf fun b o hb e => g3 b o (fun q => hb (List.mem_cons_of_mem _ q)) e
      have eD3 : h3.get? D = some (listO vs n) := g3 _ _ Dw eD
      refine hideG fun gHid hHid => ?_
      obtain ⟨ρ', bk, hq⟩ := fin S1.keys ys ρ2 hinv
      refine hHid ?_; clear hHid gHid
      have S4 := S1.back (ρ' := ρ') old hL.lent S3 hz2 bk
      have nA : ∀ b, s.heap.get? b = none → b ∉ ρ'.addrs := fun b hb q => by
        rw [bk.addrs] at q
        refine hideG fun gHid hHid => ?_
        obtain ⟨⟨vs, n, e⟩, _⟩ := S1.addrs_at b q
        refine hHid ?_; clear hHid gHid
        rw [hb] at e; cases e
      have zD : z2 D = none := S2.zoff D (.inl List.mem_cons_self)
      refine hideG fun gHid hHid => ?_
      obtain ⟨mC, hnC, _⟩ := S3.frame
      refine hHid ?_; clear hHid gHid
      refine hRR D C h3 tk3 ys ρ' z2 hq hz2 S4 ⟨rfl, ⟨⟨vs, n, eD3, rD⟩, UD.1.nk, zD⟩, UD.2⟩ (nA D freshD) ⟨mC, hnC⟩ ⟨UC.1.nL, fun x c hx hc hk => ?_, nA C freshC, S3.zL, UC.1.nk⟩ UC.2 hDC
      rw [bk.keys] at hx
      exact UC.1.nC x c hx hc hk
  exact codeAny_compStart_list (loop _ rfl) (W.self 0 _ _ _ SI1 (loop _ rfl))

/-- a list comprehension -/
theorem EvE.compS {elt t iter : Expr} {scope : Scope} {pos : Pos} {Q : Bnd → Row → Prop} (src : List Str) (cl : List (Str × Addr))
    (h : EvC mg g₀ prog w env k src t iter ρ fun Xs ρ1 => Turning mg g₀ prog w env k src scope cl t elt Xs ρ1 fun ys ρ' => ∀ a, Q (.own a ys) ρ')
    (hclos : closureFor scope env = pure cl) (hcell : ∀ y ∈ scope.names, y.2 ≠ .cell := by decide +kernel) (hkind : scope.kind = .function := by with_unfolding_all rfl)
    (hnames : ∀ y ∈ scope.names, y.2 = .local → scope.names.lookup y.1 = some .local := by decide +kernel)
    (hs : ∀ x, foldedSetIterable iter env x = pure x := by intro _; with_unfolding_all rfl) :
    EvE mg g₀ prog w env k (.ListComp elt [⟨t, iter, [], 0⟩] scope pos) ρ Q := by
  refine ⟨?_⟩
  intro A κ Φ z s K E ok S c
  rw [eval_ListComp]
  refine wpAny_comprehension_free (use := none) rfl hs hclos hkind hnames (h.run A κ Φ z s _ E ok S ?_)
  intro I wr rd SI Xs ρ1 z1 h1 tk1 T hz1 S1 W hSI U hrd
  refine comp_block (s := { s with heap := h1, toks := tk1 }) (RR := fun acc C => compPost (model prog w) A E none K acc C) ok S1 W hSI U hrd T hcell hkind ?_
  intro D C h2 tk2 ys ρ' z2 hq hz2 S2 RD nD ⟨m, hn⟩ UC fC hDC
  refine ⟨m, hn, fun h3 hsb => ?_⟩
  have S3 := S2.other UC fC (let ⟨o, _, _, e, _⟩ := hn; ⟨o, e⟩) hsb.extBut
  exact c (.ref D) (.own D ys) ρ' z2 h3 tk2 (hq D) (hz1.trans hz2) S3 (RD.change (fun a ha o e => hsb.extBut a o (by simp [Bnd.addrs] at ha; subst ha; exact hDC) e) (Le.refl _) fun a _ k1 k2 => ⟨k1, k2, id⟩) (fun a ha => by simp [Bnd.addrs] at ha; subst ha; exact nD) (by simp [Bnd.addrs])

theorem EvE.comp {elt t iter : Expr} {scope : Scope} {pos : Pos} {Q : Bnd → Row → Prop} (cl : List (Str × Addr))
    (h : EvI mg g₀ prog w env k t iter ρ fun Xs ρ1 => Turning mg g₀ prog w env k [] scope cl t elt Xs ρ1 fun ys ρ' => ∀ a, Q (.own a ys) ρ')
    (hclos : closureFor scope env = pure cl) (hcell : ∀ y ∈ scope.names, y.2 ≠ .cell := by decide +kernel) (hkind : scope.kind = .function := by with_unfolding_all rfl)
    (hnames : ∀ y ∈ scope.names, y.2 = .local → scope.names.lookup y.1 = some .local := by decide +kernel)
    (hs : ∀ x, foldedSetIterable iter env x = pure x := by intro _; with_unfolding_all rfl) :
    EvE mg g₀ prog w env k (.ListComp elt [⟨t, iter, [], 0⟩] scope pos) ρ Q := EvE.compS [] cl (EvC.ofI h) hclos hcell hkind hnames hs

/-- a name is bound to a list comprehension, which is let go after -/
theorem ex_assignComp {elt t iter : Expr} {scope : Scope} {pos p pos' : Pos} {x : Str} {Q : Out → Row → Prop} (cl : List (Str × Addr))
    (h : EvI mg g₀ prog w env k t iter ρ fun Xs ρ1 => Turning mg g₀ prog w env k [] scope cl t elt Xs ρ1 fun ys ρ' => ∀ a, ∃ ρ2, Upd x (.own a ys) ρ' ρ2 ∧ Q .next ρ2)
    (hsw : swapsWith (.ListComp elt [⟨t, iter, [], 0⟩] scope pos) (some (.Name x p)) pos'.line env = pure true)
    (hclos : closureFor scope env = pure cl) (hcell : ∀ y ∈ scope.names, y.2 ≠ .cell := by decide +kernel) (hkind : scope.kind = .function := by with_unfolding_all rfl)
    (hnames : ∀ y ∈ scope.names, y.2 = .local → scope.names.lookup y.1 = some .local := by decide +kernel)
    (hs : ∀ x, foldedSetIterable iter env x = pure x := by intro _; with_unfolding_all rfl) :
    Ex1 mg g₀ prog w env k (.Assign [.Name x p] (.ListComp elt [⟨t, iter, [], 0⟩] scope pos) pos') ρ Q := by
  refine ⟨?_⟩
  intro A κ Φ z s K E ok S c
  rw [exec_Assign_Name_used _ _ _ _ hsw]
  refine wpAny_bind (wpAny_standAt (wpAny_bind ?_))
  show wpAny _ A (do let _ ← comprehension (.ListComp elt [⟨t, iter, [], 0⟩] scope pos) scope env _ (newList []) false (eval iter env) (some (assign (.Name x p) env))) _ _ s
  refine wpAny_bind (wpAny_mono (wpAny_comprehension_free (use := some (assign (.Name x p) env)) (Q := fun _ s' => K .next s') rfl hs hclos hkind hnames (h.run A κ Φ z s _ E ok S ?_)) (fun _ s' hq => wpAny_pure (wpAny_pure hq)) fun _ _ e => e)
  intro I wr SI Xs ρ1 z1 h1 tk1 T hz1 S1 W hSI U
  refine comp_block (s := { s with heap := h1, toks := tk1 }) (RR := fun acc C => compPost (model prog w) A E (some (assign (.Name x p) env)) (fun _ s' => K .next s') acc C) ok S1 W hSI U (fun b hb => by cases hb) T hcell hkind ?_
  intro D C h2 tk2 ys ρ' z2 hq hz2 S2 RD nD ⟨m, hn⟩ UC fC hDC
  refine hideG fun gHid hHid => ?_
  obtain ⟨ρ2, u, hq'⟩ := hq D
  refine hHid ?_; clear hHid gHid
  show wpAny _ A (assign (.Name x p) env (.ref D)) _ _ _
  have pins : ∀ a ∈ [C], Unused env κ ρ' z2 a := fun a ha => by simp only [List.mem_singleton] at ha; subst ha; exact UC
  have pinx : ∀ a ∈ [C], ∃ o, h2.get? a = some o := fun a ha => by simp only [List.mem_singleton] at ha; subst ha; obtain ⟨o, _, _, e, _⟩ := hn; exact ⟨o, e⟩
  have SP := S2.pinU pins pinx
  have RP : RelB mg (pinK κ h2 [C]) z2 (fun b => b ∈ [C] ∨ Φ b) h2 (some (.ref D)) (.own D ys) := RD.change (fun a _ o e => e) (Le.refl _) fun a ha k1 k2 => by
    simp [Bnd.addrs] at ha; subst ha
    have nc : a ∉ [C] := by simp [hDC]
    exact ⟨by unfold pinK; rw [if_neg nc]; exact k1, k2, fun q r => r.elim nc q⟩
  refine wpAny_assign_Name (store_run (s := { s with heap := h2, toks := tk2 }) ok SP u RP (fun a ha => by simp [Bnd.addrs] at ha; subst ha; exact nD) (by simp [Bnd.addrs]) fun h3 tk3 S3 _ => ?_)
  have Hk : ∀ a ∈ [C], κ a = none := fun a ha => (pins a ha).nk
  have kC : h2.get? C = h3.get? C := by
    refine hideG fun gHid hHid => ?_
    obtain ⟨o, _, _, e, _⟩ := hn
    refine hHid ?_; clear hHid gHid
    rw [e, S3.kept C o (by unfold pinK; rw [if_pos (by simp)]; exact e)]
  refine ⟨m, hn.at' fun o e => by rw [← kC]; exact e, fun h4 hsb => ?_⟩
  have S4 := S3.outside (h' := h4) Hk pinx S2.root (fun b hb q => by simp only [List.mem_singleton] at q; subst q; exact fC hb) fun b o hb e => hsb.extBut b o (fun q => hb (by simp [q])) e
  exact c _ .next ρ2 z2 h4 tk3 hq' (hz1.trans hz2) S4 trivial
/-- for y in x, x a list of one's own, which is only read meanwhile -/
theorem EvC.listOwn {x y : Str} {p p' : Pos} {B : Bnd} {a : Addr} {xs : List V} {Q : List V → Row → Prop} (hm : (x, B) ∈ ρ) (hB : B.Own a xs) (hq : Q xs ρ) : EvC mg g₀ prog w env k [x] (.Name y p') (.Name x p) ρ Q := by
  refine ⟨?_⟩
  intro A κ Φ z s K E ok S c
  refine hideG fun gHid hHid => ?_
  obtain ⟨m, hn, bd⟩ := S.ownRef hB hm
  refine hHid ?_; clear hHid gHid
  refine hideG fun gHid hHid => ?_
  obtain ⟨⟨vs, n, ea, r⟩, ka, za⟩ := S.ownAt hB hm
  refine hHid ?_; clear hHid gHid
  refine wpAny_Name (S.load ok.kind hm hn bd ?_) (S.dbg x (List.mem_map.mpr ⟨_, hm, rfl⟩)).1
  refine wpAny_pyIter_list (isListO ea) ?_
  have hne : a ≠ s.heap.objs.size := Nat.ne_of_lt (Heap.lt_size ea)
  have W := Walks.list (prog := prog) (w := w) ok.handled s.heap.objs.size a hne vs.toArray
  refine c _ [s.heap.objs.size] [a] _ xs ρ z _ s.toks hq (Le.refl _) (S.grow (Grow.push s.heap _)) ⟨fun i h h' hs hz hk hr hz' => W.frame i h h' hs fun b hb o e => ?_, fun i X s' Pp Q' E' hX hS hz hp hq' => ?_, fun s' Pp E' hS hz hq' => W.done s' Pp E' (by simpa [r.length] using hS) hq', fun i h hS b hb => ?_, W.self⟩
    ⟨⟨_, Heap.get?_push_size _ rfl, rfl, rfl⟩, isListO (Heap.get?_push_of_some _ ea)⟩ (fun b hb => ?_) (fun b hb => ?_)
  · simp only [List.mem_cons, List.not_mem_nil, or_false] at hb
    rcases hb with rfl | rfl
    · exact hk _ (by simp) o e
    · exact hr _ (by simp) o e
  · have hi : i < vs.toArray.size := by
      have := (List.getElem?_eq_some_iff.mp hX).1
      simpa [r.length] using this
    refine W.item i s' Pp E' hi hS fun v h' tk hv hS' hk => hp v _ (wpAny_pure (hq' v h' tk hS' hk (.inl ?_)))
    refine hideG fun gHid hHid => ?_
    obtain ⟨v', hv', rv⟩ := r.get hX
    refine hHid ?_; clear hHid gHid
    have : vs[i]? = some v := by simpa using hv
    rw [this] at hv'; cases hv'; exact rv
  · simp only [List.mem_cons, List.not_mem_nil, or_false] at hb; subst hb
    obtain ⟨o, ho, _⟩ := hS.1; exact ⟨o, ho⟩
  · simp only [List.mem_cons, List.not_mem_nil, or_false] at hb; subst hb
    exact S.freshΦ (fresh_size s.heap)
  · simp only [List.mem_cons, List.not_mem_nil, or_false] at hb; subst hb
    exact ⟨x, by simp, B, hm, by cases hB <;> simp [Bnd.addrs]⟩
end
end Mine
namespace Mine
open PySem PySem.Calls
theorem bindL_out {k : Str → Option NameKind} : ∀ {l : List (Str × Value)} {m : Str → Option Value} {x : Str}, x ∉ l.map (·.1) → bindL k l m x = m x ∧ bindC k l m x = m x
  | [], _, _, _ => ⟨rfl, rfl⟩
  | (n, v) :: r, m, x, h => by
    simp only [List.map_cons, List.mem_cons, not_or] at h
    unfold bindL bindC
    rw [(bindL_out h.2).1, (bindL_out h.2).2]
    constructor
    · split
      · exact if_neg h.1
      · rfl
    · split
      · rfl
      · exact if_neg h.1
theorem bind_get {mg : Str → Option Value} {z : PH} {k : Str → Option NameKind} : ∀ {names : List Str} {vals : List Value} {args : List V} {m : Str → Option Value}, names.Nodup → HoldsL mg z vals args → ∀ {x : Str} {X : V}, (x, X) ∈ names.zip args →
    ∃ v, (k x = some .local → bindL k (names.zip vals) m x = some v) ∧ (k x = some .cell → bindC k (names.zip vals) m x = some v) ∧ Holds mg z v X
  | [], _, _, _, _, _, x, X, h => by simp at h
  | n :: ns, _, _, _, _, .nil, x, X, h => by simp at h
  | n :: ns, v :: vs, y :: ys, m, hn, .cons rv r, x, X, h => by
    simp only [List.zip_cons_cons, List.mem_cons] at h
    simp only [List.nodup_cons] at hn
    simp only [List.zip_cons_cons]
    unfold bindL bindC
    rcases h with h | h
    · cases h
      have ho : n ∉ (ns.zip vs).map (·.1) := fun q => by
        refine hideG fun gHid hHid => ?_
        obtain ⟨p, hp, e⟩ := List.mem_map.mp q
        refine hHid ?_; clear hHid gHid
        exact hn.1 (e ▸ (List.of_mem_zip hp).1)
      refine ⟨v, fun e => ?_, fun e => ?_, rv⟩
      · rw [(bindL_out ho).1, if_pos e]; exact if_pos rfl
      · rw [(bindL_out ho).2, if_neg (by rw [e]; decide)]; exact if_pos rfl
    · refine hideG fun gHid hHid => ?_
      obtain ⟨v', a, b, c⟩ := bind_get (k := k) (m := if k n = some NameKind.local then fun y => if y = n then some v else m y else m) hn.2 r h
      refine hHid ?_; clear hHid gHid
      refine hideG fun gHid hHid => ?_
      obtain ⟨v2, a2, b2, c2⟩ := bind_get (k := k) (m := if k n = some NameKind.local then m else fun y => if y = n then some v else m y) hn.2 r h
      refine hHid ?_; clear hHid gHid
      cases hk : k x with
      | none => exact ⟨v', fun e => (by cases e), fun e => (by cases e), c⟩
      | some kk =>
        by_cases e1 : kk = .local
        · subst e1; exact ⟨v', fun _ => a hk, fun e => (by cases e), c⟩
        · exact ⟨v2, fun e => (by cases e; exact absurd rfl e1), fun e => b2 (by rw [hk]; exact e), c2⟩

/-- a def with cells -/
structure DefOkC (d : DefRec) (names locals : List Str) : Prop where
  bind : ∀ pm cd doc vals, vals.length = names.length → bindArgs (docDef d.name d.params d.body d.scope pm cd doc) ⟨vals, []⟩ = pure (names.zip vals)
  loc : ∀ x ∈ names ++ locals, d.scope.names.lookup x = some .local ∨ (d.scope.names.lookup x = some .cell ∧ ∀ n, ((cellsFrom n d.scope.names []).lookup x).isSome = true)
  nodup : (names ++ locals).Nodup
  dbg : ∀ x ∈ names ++ locals, (x == ("__debug__" : Str)) = false ∧ (x == ("__classdict__" : Str)) = false
  co : d.scope.isCoroutine = false
  gen : d.scope.isGenerator = false
  kind : d.scope.kind = .function

theorem mem_of_lookup {cs : List (Str × Addr)} {x : Str} {c : Addr} (h : cs.lookup x = some c) : (x, c) ∈ cs := by
  induction cs with
  | nil => cases h
  | cons p r ih =>
    refine hideG fun gHid hHid => ?_
    obtain ⟨n, a⟩ := p
    refine hHid ?_; clear hHid gHid
    rw [List.lookup_cons] at h
    cases hb : x == n with
    | true => rw [hb] at h; cases h; rw [eq_of_beq hb]; exact List.mem_cons_self
    | false => rw [hb] at h; exact List.mem_cons_of_mem _ (ih h)
theorem apart_inj {cs : List (Str × Addr)} (h : cs.Pairwise fun x y => x.2 ≠ y.2) {x y : Str} {c : Addr} (a : (x, c) ∈ cs) (b : (y, c) ∈ cs) : x = y := by
  induction cs with
  | nil => cases a
  | cons p r ih =>
    rw [List.pairwise_cons] at h
    rcases List.mem_cons.mp a with e1 | a'
    · rcases List.mem_cons.mp b with e2 | b'
      · rw [← e1] at e2; cases e2; rfl
      · exact absurd (by rw [← e1]) (h.1 _ b')
    · rcases List.mem_cons.mp b with e2 | b'
      · exact absurd (by rw [← e2]) (h.1 _ a')
      · exact ih h.2 a' b'

section
variable {mg mb : Str → Option Value} {g₀ : Heap} {recs : List DefRec} {prog : Program} {w : World}

theorem St.cells {d : DefRec} {names locals : List Str} {vals : List Value} {args : List V} {z : PH} {h h₁ : Heap} {a : Addr} {cd : Value} (D : DefOkC d names locals) (hlen : names.length = args.length) (root : ∀ b o, g₀.get? b = some o → h.get? b = some o) (zin : Le z h.get?) (hv : HoldsL mg z vals args)
    (F : Fr h h.objs.size h₁ (bindL (envOfC d.name d.scope h.objs.size a cd).kindOf (names.zip vals) fun _ => none))
    (X : Cl h.objs.size (cellsFrom (h.objs.size + 1) d.scope.names []) h₁ (bindC (envOfC d.name d.scope h.objs.size a cd).kindOf (names.zip vals) fun _ => none)) :
    St mg g₀ (envOfC d.name d.scope h.objs.size a cd) h.get? (fun b => (∃ o, h.get? b = some o) ∧ z b = none) (row0 names locals args) z h₁ := by
  have zin1 : Le z h₁.get? := fun b o e => F.keep _ _ (zin _ _ e)
  have cellNone : ∀ n c, (cellsFrom (h.objs.size + 1) d.scope.names []).lookup n = some c → h.get? c = none := fun n c e => fresh_ge (Nat.le_of_lt (X.above n c (mem_of_lookup e)))
  refine ⟨root, F.keep, zin1, fun b hb => hb.2, fresh_size _, none_of_le zin (fresh_size _), ⟨_, F.ns, fun x B hm => ?_⟩, by rw [row0_addrs]; exact .nil, fun x y c hx hy => apart_inj X.apart (mem_of_lookup hx) (mem_of_lookup hy), by rw [row0_keys hlen]; exact D.nodup, by rw [row0_keys hlen]; exact D.dbg, fun b hb => let ⟨o, e⟩ := hb.1; ⟨o, F.keep _ _ e⟩⟩
  have hx : x ∈ names ++ locals := by
    rw [← row0_keys (locals := locals) hlen]; exact List.mem_map.mpr ⟨_, hm, rfl⟩
  have bd : ∀ ov, (d.scope.names.lookup x = some .local → ov = bindL (envOfC d.name d.scope h.objs.size a cd).kindOf (names.zip vals) (fun _ => none) x) → (d.scope.names.lookup x = some .cell → ov = bindC (envOfC d.name d.scope h.objs.size a cd).kindOf (names.zip vals) (fun _ => none) x) →
      Bound (envOfC d.name d.scope h.objs.size a cd) h.get? z h₁ (bindL (envOfC d.name d.scope h.objs.size a cd).kindOf (names.zip vals) fun _ => none) x ov := fun ov e1 e2 => by
    rcases D.loc x hx with k | ⟨k, hc⟩
    · exact .inl ⟨k, e1 k⟩
    · refine hideG fun gHid hHid => ?_
      obtain ⟨c, ec⟩ := Option.isSome_iff_exists.mp (hc (h.objs.size + 1))
      refine hHid ?_; clear hHid gHid
      exact .inr ⟨.inl k, c, ec, by rw [e2 k]; exact X.cell x c ec, cellNone x c ec, none_of_le zin (cellNone x c ec)⟩
  rcases row0_mem hm with ⟨Y, rfl, hz⟩ | ⟨rfl, hx'⟩
  · refine hideG fun gHid hHid => ?_
    obtain ⟨v, e1, e2, rv⟩ := bind_get (k := (envOfC d.name d.scope h.objs.size a cd).kindOf) (m := fun _ => none) (List.nodup_append.mp D.nodup).1 hv hz
    refine hHid ?_; clear hHid gHid
    refine hideG fun gHid hHid => ?_
    obtain ⟨v2, e3, e4, rv2⟩ := bind_get (k := (envOfC d.name d.scope h.objs.size a cd).kindOf) (m := fun _ => none) (List.nodup_append.mp D.nodup).1 hv hz
    refine hHid ?_; clear hHid gHid
    exact ⟨some v, bd _ (fun k => (e1 k).symm) (fun k => (e2 k).symm), v, rfl, rv⟩
  · rcases D.loc x hx with k | ⟨k, _⟩
    · exact ⟨_, bd (bindL (envOfC d.name d.scope h.objs.size a cd).kindOf (names.zip vals) (fun _ => none) x) (fun _ => rfl) (fun q => by rw [k] at q; cases q), trivial⟩
    · exact ⟨_, bd (bindC (envOfC d.name d.scope h.objs.size a cd).kindOf (names.zip vals) (fun _ => none) x) (fun q => by rw [k] at q; cases q) (fun _ => rfl), trivial⟩

theorem OkC.deeperC {k : Nat} {A : Around} {d : DefRec} {L a : Addr} {cd : Value} (h : OkC (k + 1) A) (hk : d.scope.kind = .function) : OkA (envOfC d.name d.scope L a cd) k (A.deeper (envOfC d.name d.scope L a cd)) :=
  ⟨⟨h.handled, by have := h.depth; show A.depth + 1 + k < _; (exact (nl (.branch 1 (.leaf (A.depth)) (.branch 2 (.leaf k) (.leaf recursionLimit))) [(1, (.add (.add (.var 0) (.add (.var 1) (.num 1))) (.num 1)), (.var 2))] 1 (.add (.add (.add (.var 0) (.num 1)) (.var 1)) (.num 1)) (.var 2) rfl this)), by have := h.units; show A.units + 3 + _ + _ < _; (exact (nl (.branch 1 (.leaf (A.units)) (.branch 2 (.leaf k) (.leaf cLine))) [(1, (.add (.add (.add (.var 0) (.mulL 10 (.add (.var 1) (.num 1)))) (.num 200)) (.num 1)), (.var 2))] 1 (.add (.add (.add (.add (.var 0) (.num 3)) (.mulL 10 (.var 1))) (.num 200)) (.num 1)) (.var 2) rfl this))⟩, hk, rfl, rfl⟩

theorem Returns.introC (G : Gl mg mb g₀ recs) {d : DefRec} (hd : d ∈ recs) {names locals : List Str} (D : DefOkC d names locals) {args : List V} {r : V} {k : Nat} (hlen : names.length = args.length)
    (h : ∀ L a cd, ExS mg g₀ prog w (envOfC d.name d.scope L a cd) k d.body (row0 names locals args) fun o _ => o = .ret r ∨ (o = .next ∧ r = .none)) : Returns mg g₀ prog w d.name (k + 1) args r := by
  intro A z s vals a Q E ok root zin hv hf hQ
  refine hideG fun gHid hHid => ?_
  obtain ⟨a', o, pm, code, doc, e1, e2, e3, e4⟩ := G.fn d hd
  refine hHid ?_; clear hHid gHid
  rw [hf] at e1; cases e1
  have hl : vals.length = names.length := by rw [hv.length, hlen]
  refine wpAny_call (call_cells_ret (by have := ok.depth; (exact (nl (.branch 1 (.leaf (A.depth)) (.branch 2 (.leaf recursionLimit) (.leaf k))) [(1, (.add (.add (.var 0) (.add (.var 2) (.num 1))) (.num 1)), (.var 1))] 1 (.add (.var 0) (.num 1)) (.var 1) rfl this))) (root _ _ e2) e3 (G.nolimit.keeps root) (e4.keeps root) (D.bind _ _ _ _ hl) (fun x hx => ?_) (fun h₁ tk F X => ?_) D.co D.gen D.kind)
  · rcases D.loc x.1 (List.mem_append_left _ (List.of_mem_zip hx).1) with k | ⟨k, hc⟩
    · exact .inl k
    · exact .inr ⟨k, hc _⟩
  · have S := St.cells D hlen root zin hv F X
    refine (h _ _ _).run _ _ _ z { s with heap := h₁, toks := tk } _ _ (ok.deeperC D.kind) S ?_
    intro fl o ρ' z' h' tk ho hz S' r'
    have fin : ∀ v, Holds mg z' v r → Q v { s with heap := h', toks := tk } := fun v hv => hQ v z' h' tk hz S'.zin (fun b o e => by
      cases q : s.heap.get? b with
      | none => exact .inr rfl
      | some o' =>
        left
        cases q' : z b with
        | none => rw [S'.zoff b ⟨⟨_, q⟩, q'⟩] at e; cases e
        | some o2 => have := hz _ _ q'; rw [e] at this; rw [this]) S'.kept hv
    rcases ho with rfl | ⟨rfl, rfl⟩
    · cases fl <;> simp only [FlowR] at r'
      exact fin _ r'
    · cases fl <;> simp only [FlowR] at r'
      exact fin _ .none
end

mutual
def V.d : V → PyData
  | .none => .none
  | .bool b => .bool b
  | .int i => .int i
  | .fn _ => .none
  | .list xs => .list (V.dL xs)
  | .tup xs => .tuple (V.dL xs)
def V.dL : List V → List PyData
  | [] => []
  | x :: xs => V.d x :: V.dL xs
end
mutual
/-- data of a depth -/
inductive OkV : Nat → V → Prop
  | none {n : Nat} : OkV n .none
  | bool {n : Nat} {b : Bool} : OkV n (.bool b)
  | int {n : Nat} {i : Int} : OkV n (.int i)
  | list {n : Nat} {xs : List V} : OkVs n xs → OkV (n + 1) (.list xs)
  | tup {n : Nat} {xs : List V} : OkVs n xs → OkV (n + 1) (.tup xs)
inductive OkVs : Nat → List V → Prop
  | nil {n : Nat} : OkVs n []
  | cons {n : Nat} {x : V} {xs : List V} : OkV n x → OkVs n xs → OkVs n (x :: xs)
end
mutual
theorem OkV.lay : ∀ {n : Nat} {x : V}, OkV n x → x.d.canLay0 = true ∧ x.d.depth ≤ n
  | _, _, .none => by simp [V.d, PyData.canLay0, PyData.depth]
  | _, _, .bool => by simp [V.d, PyData.canLay0, PyData.depth]
  | _, _, .int => by simp [V.d, PyData.canLay0, PyData.depth]
  | _, _, .list h => by
    refine hideG fun gHid hHid => ?_
    obtain ⟨a, b⟩ := OkVs.lay h
    refine hHid ?_; clear hHid gHid
    simp only [V.d, PyData.canLay0, PyData.depth]; exact ⟨a, by lia⟩
  | _, _, .tup h => by
    refine hideG fun gHid hHid => ?_
    obtain ⟨a, b⟩ := OkVs.lay h
    refine hHid ?_; clear hHid gHid
    simp only [V.d, PyData.canLay0, PyData.depth]; exact ⟨a, by omega⟩
theorem OkVs.lay : ∀ {n : Nat} {xs : List V}, OkVs n xs → PyData.canLayAll0 (V.dL xs) = true ∧ PyData.depthAll (V.dL xs) ≤ n
  | _, _, .nil => by simp [V.dL, PyData.canLayAll0, PyData.depthAll]
  | _, _, .cons h r => by
    refine hideG fun gHid hHid => ?_
    obtain ⟨a, b⟩ := OkV.lay h
    refine hHid ?_; clear hHid gHid
    refine hideG fun gHid hHid => ?_
    obtain ⟨c, d⟩ := OkVs.lay r
    refine hHid ?_; clear hHid gHid
    simp only [V.dL, PyData.canLayAll0, PyData.depthAll, a, c, Bool.and_self, true_and]; lia
end
mutual
theorem Holds.reads {mg : Str → Option Value} {z : PH} {h : Heap} (l : Le z h.get?) : ∀ {v : Value} {x : V} {n : Nat}, Holds mg z v x → OkV n x → ∃ as, Reads h v x.d as
  | _, _, _, .none, _ => ⟨_, by simp only [V.d]; exact .none⟩
  | _, _, _, .bool b, _ => ⟨_, by simp only [V.d]; exact .bool b⟩
  | _, _, _, .int i t, _ => ⟨_, by simp only [V.d]; exact .int i t⟩
  | _, _, _, .list e r, .list k => by
    refine hideG fun gHid hHid => ?_
    obtain ⟨as, h'⟩ := HoldsL.reads l r k
    refine hHid ?_; clear hHid gHid
    exact ⟨_, by simp only [V.d]; exact .list (l _ _ e) rfl rfl (by simpa using h')⟩
  | _, _, _, .tup e r, .tup k => by
    refine hideG fun gHid hHid => ?_
    obtain ⟨as, h'⟩ := HoldsL.reads l r k
    refine hHid ?_; clear hHid gHid
    exact ⟨_, by simp only [V.d]; exact .tuple (l _ _ e) rfl rfl (by simpa using h')⟩
theorem HoldsL.reads {mg : Str → Option Value} {z : PH} {h : Heap} (l : Le z h.get?) : ∀ {vs : List Value} {xs : List V} {n : Nat}, HoldsL mg z vs xs → OkVs n xs → ∃ as, ReadsAll h vs (V.dL xs) as
  | _, _, _, .nil, _ => ⟨_, by simp only [V.dL]; exact .nil⟩
  | _, _, _, .cons a r, .cons k q => by
    refine hideG fun gHid hHid => ?_
    obtain ⟨as, h1⟩ := Holds.reads l a k
    refine hHid ?_; clear hHid gHid
    refine hideG fun gHid hHid => ?_
    obtain ⟨bs, h2⟩ := HoldsL.reads l r q
    refine hHid ?_; clear hHid gHid
    exact ⟨_, by simp only [V.dL]; exact .cons h1 h2⟩
end

section
variable {mg mb : Str → Option Value} {g₀ : Heap} {recs : List DefRec} {prog : Program} {w : World} {env : Env} {k : Nat} {ρ ρ' : Row}

theorem ne_run {A : Around} {E : Value → Shared → Prop} {s : Shared} {a b : Value} {x : V} {n : Nat} {as bs : List Addr} {Q : Value → Shared → Prop} (ra : Reads s.heap a x.d as) (rb : Reads s.heap b x.d bs) (hx : OkV n x) (hn : n ≤ 64) (hu : A.units + 64 < cLine) (h : Q (.bool false) s) :
    wpAny (model prog w) A (compareOp .NotEq a b) Q E s := by
  refine hideG fun gHid hHid => ?_
  obtain ⟨l1, l2⟩ := hx.lay
  refine hHid ?_; clear hHid gHid
  have hs : SeqAt.shaped x.d = true := by unfold SeqAt.shaped; rw [l1]; simp; (exact Nat.le_trans (by assumption) (by assumption))
  refine ne_dataH ra rb hs hs hu ?_
  rw [SeqAt.eqv_refl _ l1]; exact h

/-- two values that are the same are not unequal -/
theorem EvT.neSame {l r : Expr} {pos : Pos} {Q : Bool → Row → Prop} (n : Nat)
    (h : EvV mg g₀ prog w env k l ρ fun X ρ1 => EvV mg g₀ prog w env k r ρ1 fun Y ρ2 => Y = X ∧ OkV n X ∧ n ≤ 64 ∧ Q false ρ2) (hm : behindInMarks .NotEq r = false := by with_unfolding_all rfl) : EvT mg g₀ prog w env k (.Compare l [.NotEq] [r] pos) ρ Q := by
  refine ⟨?_⟩
  intro A κ Φ z s K E ok S c
  refine wpAny_isTrue_Compare1 (h.run A κ Φ z s _ E ok S ?_) hm
  intro v X ρ1 z1 h1 tk1 h' hz1 S1 r1
  refine h'.run A κ Φ z1 _ _ E ok S1 ?_
  intro v' Y ρ2 z2 h2 tk2 hI1 hz2 S2 r2
  refine hideG fun gHid hHid => ?_
  obtain ⟨rfl, hx, hn, hq⟩ := hI1
  refine hHid ?_; clear hHid gHid
  refine hideG fun gHid hHid => ?_
  obtain ⟨as, ra⟩ := (r1.mono hz2).reads S2.zin hx
  refine hHid ?_; clear hHid gHid
  refine hideG fun gHid hHid => ?_
  obtain ⟨bs, rb⟩ := r2.reads S2.zin hx
  refine hHid ?_; clear hHid gHid
  exact ne_run (s := { s with heap := h2, toks := tk2 }) ra rb hx hn (by have := ok.units; (exact (nl (.branch 1 (.leaf (A.units)) (.branch 2 (.leaf cLine) (.leaf k))) [(1, (.add (.add (.add (.var 0) (.mulL 10 (.var 2))) (.num 200)) (.num 1)), (.var 1))] 1 (.add (.add (.var 0) (.num 64)) (.num 1)) (.var 1) rfl this))) (wpAny_truthy_bool (c _ _ _ _ tk2 hq (hz1.trans hz2) S2))
theorem EvT.neOwn {x : Str} {p : Pos} {r : Expr} {pos : Pos} {B : Bnd} {a : Addr} {xs : List V} {Q : Bool → Row → Prop} (n : Nat) (hm : (x, B) ∈ ρ) (hB : B.Own a xs) (ho : OkV n (.list xs)) (hn : n ≤ 64)
    (h : EvV mg g₀ prog w env k r ρ fun Y ρ2 => (x, B) ∈ ρ2 ∧ Y = .list xs ∧ Q false ρ2) (hb : behindInMarks .NotEq r = false := by with_unfolding_all rfl) : EvT mg g₀ prog w env k (.Compare (.Name x p) [.NotEq] [r] pos) ρ Q := by
  refine ⟨?_⟩
  intro A κ Φ z s K E ok S c
  refine hideG fun gHid hHid => ?_
  obtain ⟨m, hns, bd⟩ := S.ownRef hB hm
  refine hHid ?_; clear hHid gHid
  refine wpAny_isTrue_Compare1 (wpAny_Name (S.load ok.kind hm hns bd ?_) (S.dbg x (List.mem_map.mpr ⟨_, hm, rfl⟩)).1) hb
  refine h.run A κ Φ z s _ E ok S ?_
  intro v' Y ρ2 z2 h2 tk2 hI1 hz2 S2 r2
  refine hideG fun gHid hHid => ?_
  obtain ⟨hm2, rfl, hq⟩ := hI1
  refine hHid ?_; clear hHid gHid
  refine hideG fun gHid hHid => ?_
  obtain ⟨⟨vs, n0, ea, ra⟩, _, _⟩ := S2.ownAt hB hm2
  refine hHid ?_; clear hHid gHid
  refine hideG fun gHid hHid => ?_
  obtain ⟨bs, rb⟩ := r2.reads S2.zin ho
  refine hHid ?_; clear hHid gHid
  cases ho with
  | list ho' =>
    refine hideG fun gHid hHid => ?_
    obtain ⟨as, rs⟩ := ra.reads S2.zin ho'
    refine hHid ?_; clear hHid gHid
    exact ne_run (s := { s with heap := h2, toks := tk2 }) (x := .list xs) (as := a :: as) (by simp only [V.d]; exact .list ea rfl rfl (by simpa using rs)) rb (.list ho') hn (by have := ok.units; (exact (nl (.branch 1 (.leaf (A.units)) (.branch 2 (.leaf cLine) (.leaf k))) [(1, (.add (.add (.add (.var 0) (.mulL 10 (.var 2))) (.num 200)) (.num 1)), (.var 1))] 1 (.add (.add (.var 0) (.num 64)) (.num 1)) (.var 1) rfl this))) (wpAny_truthy_bool (c _ _ _ _ tk2 hq hz2 S2))

/-- the items backwards -/
theorem EvE.rev {value e : Expr} {p pos : Pos} {Q : Bnd → Row → Prop}
    (h : EvV mg g₀ prog w env k value ρ fun X ρ1 => ∃ xs, X = .list xs ∧ xs.length ≤ 2 ^ 24 ∧ EvV mg g₀ prog w env k e ρ1 fun Y ρ2 => Y = .int (-1) ∧ ∀ a, Q (.own a xs.reverse) ρ2)
    (ht : ∀ o r, letTemporaryGo value o r = pure () := by intro _ _; with_unfolding_all rfl)
    (hs : ∀ o i, ∃ ops, subscripted (.Slice none none (some e) p) false (.ref o) (.ref i) = operate ops (getItem (.ref o) (.ref i)) := by intro _ _; exact ⟨_, by with_unfolding_all rfl⟩) : EvE mg g₀ prog w env k (.Subscript value (.Slice none none (some e) p) pos) ρ Q := by
  refine ⟨?_⟩
  intro A κ Φ z s K E ok S c
  refine Subscript_ (h.run A κ Φ z s _ E ok S ?_)
  intro v X ρ1 z1 h1 tk1 hI1 hz1 S1 r1
  refine hideG fun gHid hHid => ?_
  obtain ⟨xs, rfl, hl, h'⟩ := hI1
  refine hHid ?_; clear hHid gHid
  refine wpAny_Slice ?_
  rw [evalPart_none]
  refine wpAny_pure (wpAny_pure ?_)
  rw [evalPart_some]
  refine h'.run A κ Φ z1 _ _ E ok S1 ?_
  intro v' Y ρ2 z2 h2 tk2 hI1 hz2 S2 r2
  refine hideG fun gHid hHid => ?_
  obtain ⟨rfl, hq⟩ := hI1
  refine hHid ?_; clear hHid gHid
  have r1' := r1.mono hz2
  cases r2
  rename_i t2
  cases r1' with
  | @list a vs n _ ea r =>
    have hL := isListO (S2.zin _ _ ea)
    have S3 := S2.grow (Grow.push h2 { cls := .type "slice", data := .fields #[.none, .none, .int (-1) t2] })
    have hsz : (h2.push { cls := .type "slice", data := .fields #[.none, .none, .int (-1) t2] }).objs.size = h2.objs.size + 1 := Heap.size_push ..
    refine hideG fun gHid hHid => ?_
    obtain ⟨S4, R4, d4, n4⟩ := S3.fresh (vs := vs.reverse) r.reverse
    refine hHid ?_; clear hHid gHid
    refine hideG fun gHid hHid => ?_
    obtain ⟨ops, hops⟩ := hs a h2.objs.size
    refine hHid ?_; clear hHid gHid
    refine subscriptTail_ops (Heap.IsList.typeIs (s := { s with heap := h2.push { cls := .type "slice", data := .fields #[.none, .none, .int (-1) t2] }, toks := tk2 }) (hL.push _)) list_getitem_lookup
      (wpAny_getItem_list_slice (hL.push _) (Heap.IsSliceOf.new ..) .none .none (.int _ _) (by decide) ?_ (by simpa [r.length, sizeLine] using hl)) hops (ht _)
    have ep : slicePick vs.toArray none none (some (-1)) = vs.reverse.toArray := by rw [krv_pick]
    rw [ep]
    exact c _ _ _ _ _ tk2 (hq _) (hz1.trans hz2) S4 R4 d4 n4

theorem EvV.any {p pos : Pos} {e : Expr} {Q : V → Row → Prop} (G : Gl mg mb g₀ recs)
    (h : EvV mg g₀ prog w env k e ρ fun X ρ1 => ∃ bs : List Bool, X = .list (bs.map V.bool) ∧ Q (.bool (bs.any id)) ρ1)
    (hs : noStar e = true := by with_unfolding_all rfl) (hx : env.kindOf "any" = some .globalImplicit := by with_unfolding_all rfl) : EvV mg g₀ prog w env k (.Call (.Name "any" p) [e] [] pos) ρ Q := by
  refine ⟨?_⟩
  intro A κ Φ z s K E ok S c
  refine wpAny_Call_NameR (builtin_load G ok S G.any hx ?_)
  refine callWith_builtin1 ?_ (starEach_cons hs) rfl
  refine wpAny_items_cons (h.run A κ Φ z s _ E ok S ?_) (starEach_cons hs)
  intro v X ρ1 z1 h1 tk1 hI1 hz1 S1 r1
  refine hideG fun gHid hHid => ?_
  obtain ⟨bs, rfl, hq⟩ := hI1
  refine hHid ?_; clear hHid gHid
  refine wpAny_items_nil ?_
  cases r1 with
  | @list a vs n _ ea r =>
    have eh := S1.zin _ _ ea
    have hlt : a < h1.objs.size := Heap.lt_size eh
    refine call_any_walk (wpAny_pyIter_list (isListO eh) ?_)
    refine ⟨h1.objs.size, [h1.objs.size, a], [h1.objs.size], vs.toArray.size, _, _, fun i => (bs[i]?).getD false, rfl, Walks.list (A := A.in1) ok.handled _ a (Nat.ne_of_lt hlt) vs.toArray,
      ⟨⟨_, Heap.get?_push_size _ rfl, rfl, rfl⟩, (isListO eh).push _⟩, fun i v s' Q' E' hP hQ => ?_, fun h' tk hk => ?_⟩
    · have hv : vs[i]? = some v := by simpa using hP
      refine hideG fun gHid hHid => ?_
      obtain ⟨y, hy, ry⟩ := r.get' hv
      refine hHid ?_; clear hHid gHid
      simp only [List.getElem?_map, Option.map_eq_some_iff] at hy
      refine hideG fun gHid hHid => ?_
      obtain ⟨b, hb, rfl⟩ := hy
      refine hHid ?_; clear hHid gHid
      cases ry
      simp only [hb, Option.getD_some] at hQ
      exact wpAny_truthy_bool hQ
    · have e : ((List.range vs.toArray.size).any fun i => (bs[i]?).getD false) = bs.any id := by
        rw [List.size_toArray, r.length, List.length_map]; exact LSm.range_any bs
      rw [e]
      exact c _ _ _ _ _ tk hq hz1 (S1.grow fun b x e => hk b x (fun hm => by rw [List.mem_singleton.mp hm] at e; exact Nat.lt_irrefl _ (Heap.lt_size e)) (Heap.get?_push_of_some _ e)) (.bool _)
end
end Mine
namespace Mine
open PySem PySem.Calls
section
variable {mg mb : Str → Option Value} {g₀ : Heap} {prog : Program} {w : World} {env : Env} {k : Nat} {ρ ρ' : Row}

/-- a for loop, turn by turn -/
def Runs (mg : Str → Option Value) (g₀ : Heap) (prog : Program) (w : World) (env : Env) (k : Nat) (t : Expr) (body : List Stmt) (Q : Out → Row → Prop) : List V → Row → Prop
  | [], ρ => Q .next ρ
  | X :: Xs, ρ => AsX mg g₀ prog w env k t X ρ fun ρ3 => ExS mg g₀ prog w env k body ρ3 fun o ρ4 => match o with
    | .next | .cont => Runs mg g₀ prog w env k t body Q Xs ρ4
    | .brk => Q .next ρ4
    | .ret Y => Q (.ret Y) ρ4
theorem Ex1.forRuns {t iter : Expr} {body : List Stmt} {pos : Pos} {Q : Out → Row → Prop} (h : EvI mg g₀ prog w env k t iter ρ fun Xs ρ1 => Runs mg g₀ prog w env k t body Q Xs ρ1)
    (hs : ∀ x, foldedSetIterable iter env x = pure x := by intro _; with_unfolding_all rfl) : Ex1 mg g₀ prog w env k (.For t iter body [] pos) ρ Q := by
  refine Ex1.for ⟨fun A κ Φ z s K E ok S c => h.run A κ Φ z s K E ok S fun I wr SI Xs ρ1 z' h' tk hr => c I wr SI Xs ρ1 z' h' tk ⟨fun i ρ2 => Runs mg g₀ prog w env k t body Q (Xs.drop i) ρ2, hr, fun i X ρ2 hX hi => ?_, fun ρ2 hi => ?_⟩⟩ hs
  · have e : Xs.drop i = X :: Xs.drop (i + 1) := by
      have := (List.getElem?_eq_some_iff.mp hX)
      rw [List.drop_eq_getElem_cons this.1, this.2]
    dsimp only at hi
    rw [e] at hi
    exact hi
  · dsimp only at hi; rw [List.drop_length] at hi; exact hi

/-- a comprehension, turn by turn -/
def CompRuns (mg : Str → Option Value) (g₀ : Heap) (prog : Program) (w : World) (env : Env) (k : Nat) (t elt : Expr) (Q : List V → Row → Prop) : List V → List V → Row → Prop
  | [], ys, ρ => Q ys ρ
  | X :: Xs, ys, ρ => AsX mg g₀ prog w env k t X ρ fun ρ3 => EvV mg g₀ prog w env k elt ρ3 fun Y ρ4 => CompRuns mg g₀ prog w env k t elt Q Xs (ys ++ [Y]) ρ4

theorem AsX.mono {t : Expr} {X : V} {Q Q' : Row → Prop} (h : AsX mg g₀ prog w env k t X ρ Q) (q : ∀ ρ', Q ρ' → Q' ρ') : AsX mg g₀ prog w env k t X ρ Q' :=
  ⟨fun A κ Φ z s K E v ok S r c => h.run A κ Φ z s K E v ok S r fun ρ' z' h' tk hq => c ρ' z' h' tk (q _ hq)⟩

theorem keys_one {ρ : Row} {x : Str} {B C : Bnd} (hn : (ρ.map (·.1)).Nodup) (h1 : (x, B) ∈ ρ) (h2 : (x, C) ∈ ρ) : B = C := by
  induction ρ with
  | nil => cases h1
  | cons p r ih =>
    simp only [List.map_cons, List.nodup_cons] at hn
    rcases List.mem_cons.mp h1 with e1 | m1
    · rcases List.mem_cons.mp h2 with e2 | m2
      · rw [← e1] at e2; cases e2; rfl
      · exact absurd (List.mem_map.mpr ⟨_, m2, by rw [← e1]⟩) hn.1
    · rcases List.mem_cons.mp h2 with e2 | m2
      · exact absurd (List.mem_map.mpr ⟨_, m1, by rw [← e2]⟩) hn.1
      · exact ih hn.2 m1 m2

theorem Turning.runs {src : List Str} {scope : Scope} {cl : List (Str × Addr)} {t elt : Expr} {Xs : List V} {ρ1 : Row} {Q : List V → Row → Prop} (hlen : Xs.length ≤ 2 ^ 20) (locs F : List Str) (ρf : Row) (eF : ρf.map (·.1) = F) (hL : ∀ C, Lend env (compEnvC scope cl C env) F) (hsub : ρf.Sublist ρ1)
    (hlocs : ∀ C, ∀ x ∈ locs, (compEnvC scope cl C env).kindOf x = some .local) (hnd : (locs ++ F).Nodup) (hdb : ∀ x ∈ locs, (x == ("__debug__" : Str)) = false ∧ (x == ("__classdict__" : Str)) = false)
    (h : ∀ C, CompRuns mg g₀ prog w (compEnvC scope cl C env) k t elt (fun ys ρ2 => (ρ1.map (·.1)).Nodup → ∃ ρ', Back F ρ1 ρ2 ρ' ∧ Q ys ρ') Xs [] ((locs.map fun x => (x, Bnd.un)) ++ ρf)) (hsrc : ∀ x ∈ src, x ∉ F := by decide +kernel) :
    Turning mg g₀ prog w env k src scope cl t elt Xs ρ1 Q := by
  subst eF
  refine ⟨hlen, fun C => ⟨ρf.map (·.1), locs, ρf, fun i ys ρ2 => CompRuns mg g₀ prog w (compEnvC scope cl C env) k t elt (fun ys ρ2 => (ρ1.map (·.1)).Nodup → ∃ ρ', Back (ρf.map (·.1)) ρ1 ρ2 ρ' ∧ Q ys ρ') (Xs.drop i) ys ρ2, hL C, hsub, fun p hp => List.mem_map.mpr ⟨p, hp, rfl⟩, hsrc, hlocs C, hnd, hdb, h C, fun i X ys ρ2 hX _ hi => ?_, fun hk ys ρ2 hi => ?_⟩⟩
  · have e : Xs.drop i = X :: Xs.drop (i + 1) := by
      have := (List.getElem?_eq_some_iff.mp hX)
      rw [List.drop_eq_getElem_cons this.1, this.2]
    dsimp only at hi
    rw [e] at hi
    exact hi
  · dsimp only at hi; rw [List.drop_length] at hi; exact hi hk
/-- what was lent came back as it was -/
theorem Back.same {ρf ρ1 ρ2 : Row} {F : List Str} (hk : (ρ1.map (·.1)).Nodup) (eF : ρf.map (·.1) = F) (hsub : ρf.Sublist ρ1) (h : ∀ p ∈ ρf, p ∈ ρ2) : Back F ρ1 ρ2 ρ1 := by
  subst eF
  refine ⟨rfl, rfl, fun x B hm => ?_⟩
  by_cases hx : x ∈ ρf.map (·.1)
  · refine hideG fun gHid hHid => ?_
    obtain ⟨⟨y, C⟩, hp, rfl⟩ := List.mem_map.mp hx
    refine hHid ?_; clear hHid gHid
    have := keys_one hk hm (hsub.subset hp)
    subst this
    exact .inl ⟨hx, h _ hp⟩
  · exact .inr ⟨hx, hm⟩
end
end Mine
namespace Mine
open PySem PySem.Calls
section
variable {mg mb : Str → Option Value} {g₀ : Heap} {prog : Program} {w : World} {env : Env} {k : Nat} {ρ ρ' : Row}

theorem intsAre_holds {mg : Str → Option Value} {z : PH} : ∀ {vs : List Value} {ns : List Int}, IntsAre vs ns → HoldsL mg z vs (ns.map V.int)
  | [], [], _ => .nil
  | v :: vs, n :: ns, h => by
    cases h with
    | cons n t r => exact .cons (.int _ _) (intsAre_holds r)

/-- x[a:b] of a list of ints known from the start -/
theorem EvE.sliceRaw {x : Str} {lo hi : Option Expr} {p p' pos : Pos} {l : Addr} {vs : List Value} {ns : List Int} {Q : Bnd → Row → Prop} (hm : (x, Bnd.is (.ref l)) ∈ ρ) (hl : g₀.IsList l vs.toArray) (hI : IntsAre vs ns) (hlen : ns.length ≤ 2 ^ 24)
    (h : EvP mg g₀ prog w env k lo ρ fun i ρ2 => EvP mg g₀ prog w env k hi ρ2 fun j ρ3 => ∀ b, Q (.own b ((((ns.map V.int).drop (clipI i 0 ns.length)).take (clipI j ns.length ns.length - clipI i 0 ns.length)))) ρ3)
    (ht : ∀ o r, letTemporaryGo (.Name x p') o r = pure () := by intro _ _; with_unfolding_all rfl) : EvE mg g₀ prog w env k (.Subscript (.Name x p') (.Slice lo hi none p) pos) ρ Q := by
  refine ⟨?_⟩
  intro A κ Φ z s K E ok S c
  refine hideG fun gHid hHid => ?_
  obtain ⟨m, hn, f⟩ := S.frame
  refine hHid ?_; clear hHid gHid
  refine hideG fun gHid hHid => ?_
  obtain ⟨ov, bd, rfl⟩ := f _ _ hm
  refine hHid ?_; clear hHid gHid
  refine wpAny_Subscript_list_slice (wpAny_Name (S.load ok.kind hm hn bd ?_) (S.dbg x (List.mem_map.mpr ⟨_, hm, rfl⟩)).1) ht
  refine h.run ok S ?_
  rintro vl i ρ2 z2 h2 tk2 h'' hz2 S2 pl
  refine h''.run ok S2 ?_
  rintro vu j ρ3 z3 h3 tk3 hq hz3 S3 pu
  have r : HoldsL mg z3 vs (ns.map V.int) := intsAre_holds hI
  have hlen' : vs.length = ns.length := by rw [r.length, List.length_map]
  have hL : h3.IsList l vs.toArray := by
    refine hideG fun gHid hHid => ?_
    obtain ⟨o, ho, hr⟩ := hl
    refine hHid ?_; clear hHid gHid
    exact ⟨o, S3.kept _ _ (S3.root _ _ ho), hr⟩
  refine ⟨_, _, i, j, rfl, hL, by simpa [hlen', sizeLine] using hlen, pl, pu, ?_⟩
  rw [slicePick_clip, hlen']
  have S4 := S3.grow (Grow.push h3 { cls := .type "slice", data := .fields #[vl, vu, .none] })
  have hsz : (h3.push { cls := .type "slice", data := .fields #[vl, vu, .none] }).objs.size = h3.objs.size + 1 := Heap.size_push ..
  refine hideG fun gHid hHid => ?_
  obtain ⟨S5, R5, d5, n5⟩ := S4.fresh (vs := (List.drop (clipI i 0 ns.length) vs).take (clipI j ns.length ns.length - clipI i 0 ns.length)) r.drop.take
  refine hHid ?_; clear hHid gHid
  rw [hsz] at R5 d5 n5
  exact c _ _ _ _ _ tk3 (hq (h3.objs.size + 1)) (hz2.trans hz3) S5 R5 d5 n5

theorem setRaw {prog : Program} {w : World} {A : Around} {E : Value → Shared → Prop} {s : Shared} {a : Addr} {vs : List Value} {n : Nat} {i : Int} {t : Tok} {v : Value} {Q : Unit → Shared → Prop} (ea : s.heap.get? a = some (listO vs n)) (h0 : 0 ≤ i) (hi : i.toNat < vs.length) (h2 : i < 2 ^ 63)
    (fin : Q () { s with heap := s.heap.update a (Obj.mapSeq (·.setIfInBounds i.toNat v)) }) : wpAny (model prog w) A (setItem (.ref a) (.int i t) v) Q E s := by
  unfold setItem
  try with_reducible refine wpAny_holding ?_
  first | refine wpAny_bind (wpAny_pure ?_) | skip
  refine wpAny_bind (wpAny_sequenceKey (isListO ea).typeIs (by decide) ?_)
  refine wpAny_bind (wpAny_callSpecial?_slot (name := Str.ofString "__setitem__") (isListO ea).typeIs slot_list_setitem
    (wpAny_call_entry slot_list_setitem (isListO ea).typeIs entry_list_setitem ?_ (args_list_setitem _ _ _)))
  show wpAny _ _ (Builtin.List.listSubscript? (.int i t) >>= _) _ _ s
  refine wpAny_bind (wpAny_listSubscript_int (fitsIndex_of h0 h2) ?_)
  clear h2
  refine hideG fun gHid hHid => ?_
  obtain ⟨q, rfl⟩ := Int.eq_ofNat_of_zero_le h0
  refine hHid ?_; clear hHid gHid
  have hj : q < vs.toArray.size := by simpa using hi
  have hx' : vs.toArray[q]? = some vs.toArray[q] := Array.getElem?_eq_getElem hj
  show wpAny _ _ ((seqItemAt a q >>= fun r => pure (r.map (q, ·))) >>= _) _ _ s
  refine wpAny_bind (wpAny_bind (wpAny_seqItemAt ea rfl (wpAny_pure ?_)))
  rw [hx']
  show wpAny _ _ (setSeqItemAt a q v >>= _) _ _ s
  refine wpAny_bind (wpAny_setSeqItemAt ea rfl ?_)
  first
    | exact wpAny_bind (wpAny_pure (wpAny_pure ⟨.none, rfl, wpAny_pure fin⟩))
    | exact wpAny_pure ⟨.none, rfl, wpAny_pure fin⟩
/-- x[i][j], the rows of x one's own -/
theorem EvV.item2 {x : Str} {p p1 p2 : Pos} {i j : Expr} {a : Addr} {rows : List (Addr × List V)} {Q : V → Row → Prop} (hm : (x, Bnd.own2 a rows) ∈ ρ)
    (h : EvV mg g₀ prog w env k i ρ fun I ρ1 => (x, Bnd.own2 a rows) ∈ ρ1 ∧ ∃ n : Nat, I = .int (n : Int) ∧ ∃ r, rows[n]? = some r ∧ EvV mg g₀ prog w env k j ρ1 fun J ρ2 => (x, Bnd.own2 a rows) ∈ ρ2 ∧ ∃ q Z, J = .int q ∧ ItemAt r.2 q Z ∧ Q Z ρ2)
    (hr : rows.length < 2 ^ 60)
    (hs1 : ∀ o n u, subscripted i false (.ref o) (.int n u) = operate [.ref o, .int n u] (getItem (.ref o) (.int n u)) := by intro _ _ _; with_unfolding_all rfl)
    (hs2 : ∀ o n u, subscripted j false (.ref o) (.int n u) = operate [.ref o, .int n u] (getItem (.ref o) (.int n u)) := by intro _ _ _; with_unfolding_all rfl) :
    EvV mg g₀ prog w env k (.Subscript (.Subscript (.Name x p) i p1) j p2) ρ Q := by
  refine ⟨?_⟩
  intro A κ Φ z s K E ok S c
  refine hideG fun gHid hHid => ?_
  obtain ⟨m, hns, f⟩ := S.frame
  refine hHid ?_; clear hHid gHid
  refine hideG fun gHid hHid => ?_
  obtain ⟨ov, bd, R⟩ := f _ _ hm
  refine hHid ?_; clear hHid gHid
  refine hideG fun gHid hHid => ?_
  obtain ⟨rfl, _⟩ := R
  refine hHid ?_; clear hHid gHid
  refine Subscript_ (Subscript_ (wpAny_Name (S.load ok.kind hm hns bd ?_) (S.dbg x (List.mem_map.mpr ⟨_, hm, rfl⟩)).1))
  refine h.run A κ Φ z s _ E ok S ?_
  intro u I ρ1 z1 h1 tk1 hI1 hz1 S1 r1
  refine hideG fun gHid hHid => ?_
  obtain ⟨hm1, n, rfl, r, hn, h'⟩ := hI1
  refine hHid ?_; clear hHid gHid
  refine hideG fun gHid hHid => ?_
  obtain ⟨m1, _, f1⟩ := S1.frame
  refine hHid ?_; clear hHid gHid
  refine hideG fun gHid hHid => ?_
  obtain ⟨_, _, _, ⟨⟨n1, e1⟩, _⟩, _⟩ := f1 _ _ hm1
  refine hHid ?_; clear hHid gHid
  cases r1
  have hlt := (List.getElem?_eq_some_iff.mp hn).1
  refine tail_any (isListO e1).typeIs slot_list_getitem.lookup (wpAny_getItem_list (s := { s with heap := h1, toks := tk1 }) (k := (n : Int)) (x := .ref r.1) (isListO e1) (by lia) (by lia) (by simp [hn]) ?_) (hs1 _ _ _)
  refine h'.run A κ Φ z1 _ _ E ok S1 ?_
  intro u2 J ρ2 z2 h2 tk2 hI1 hz2 S2 r2
  refine hideG fun gHid hHid => ?_
  obtain ⟨hm2, q, Z, rfl, it, hq⟩ := hI1
  refine hHid ?_; clear hHid gHid
  refine hideG fun gHid hHid => ?_
  obtain ⟨m2, _, f2⟩ := S2.frame
  refine hHid ?_; clear hHid gHid
  refine hideG fun gHid hHid => ?_
  obtain ⟨_, _, _, _, _, hrows⟩ := f2 _ _ hm2
  refine hHid ?_; clear hHid gHid
  refine hideG fun gHid hHid => ?_
  obtain ⟨⟨⟨vs, n2, e2, rr⟩, _⟩, _⟩ := hrows r (List.mem_of_getElem? hn)
  refine hHid ?_; clear hHid gHid
  cases r2
  exact tail_any (isListO e2).typeIs slot_list_getitem.lookup (getList (s := { s with heap := h2, toks := tk2 }) e2 rr it fun v rv => c _ _ _ _ _ tk2 hq (hz1.trans hz2) S2 rv) (hs2 _ _ _)

theorem own2_change {z κ : PH} {Φ : Addr → Prop} {h h' : Heap} {ov : Option Value} {a : Addr} {rows : List (Addr × List V)} {n : Nat} {r : Addr × List V} {ys : List V} {vs' : List Value} {n' : Nat} (R : RelB mg κ z Φ h ov (.own2 a rows)) (hn : rows[n]? = some r)
    (nd : (Bnd.own2 a rows).addrs.Nodup) (g : ∀ b o, b ≠ r.1 → h.get? b = some o → h'.get? b = some o) (e : h'.get? r.1 = some (listO vs' n')) (hv : HoldsL mg z vs' ys) : RelB mg κ z Φ h' ov (.own2 a (rows.set n (r.1, ys))) := by
  refine hideG fun gHid hHid => ?_
  obtain ⟨hov, ⟨⟨m, ea⟩, ka, za⟩, fa, hr⟩ := R
  refine hHid ?_; clear hHid gHid
  simp only [Bnd.addrs, List.nodup_cons] at nd
  have hlt := (List.getElem?_eq_some_iff.mp hn).1
  have hrn : rows[n] = r := (List.getElem?_eq_some_iff.mp hn).2
  have hmem : r ∈ rows := List.mem_of_getElem? hn
  have ar : a ≠ r.1 := fun q => nd.1 (q ▸ List.mem_map.mpr ⟨r, hmem, rfl⟩)
  have em : (rows.set n (r.1, ys)).map (fun q => Value.ref q.1) = rows.map fun q => Value.ref q.1 := by
    rw [List.map_set]
    refine List.ext_getElem (by simp) fun i h1 h2 => ?_
    rw [List.getElem_set]
    split
    · rename_i q; subst q; simp [hrn]
    · rfl
  refine ⟨hov, ⟨⟨m, by rw [em]; exact g _ _ ar ea⟩, ka, za⟩, fa, fun p hp => ?_⟩
  refine hideG fun gHid hHid => ?_
  obtain ⟨i, hi, rfl⟩ := List.getElem_of_mem hp
  refine hHid ?_; clear hHid gHid
  have hi' : i < rows.length := by simpa using hi
  rw [List.getElem_set]
  split
  · refine hideG fun gHid hHid => ?_
    obtain ⟨⟨_, k1, k2⟩, f1⟩ := hr r hmem
    refine hHid ?_; clear hHid gHid
    exact ⟨⟨⟨vs', n', e, hv⟩, k1, k2⟩, f1⟩
  · rename_i q
    refine hideG fun gHid hHid => ?_
    obtain ⟨⟨⟨vs, m2, e2, r2⟩, k1, k2⟩, f1⟩ := hr rows[i] (List.getElem_mem hi')
    refine hHid ?_; clear hHid gHid
    refine ⟨⟨⟨vs, m2, g _ _ (fun e3 => ?_) e2, r2⟩, k1, k2⟩, f1⟩
    have h1 : (rows.map (·.1))[i]'(by simpa using hi') = (rows.map (·.1))[n]'(by simpa using hlt) := by simp [e3, hrn]
    have pw := List.pairwise_iff_getElem.mp nd.2
    rcases Nat.lt_trichotomy i n with h2 | h2 | h2
    · exact pw i n (by simpa using hi') (by simpa using hlt) h2 h1
    · exact q h2.symm
    · exact pw n i (by simpa using hlt) (by simpa using hi') h2 h1.symm

/-- x[i][j] = value, the rows of x one's own -/
theorem Ex1.setItem2 {x : Str} {p p1 p2 pos : Pos} {i j value : Expr} {a : Addr} {rows : List (Addr × List V)} {Q : Out → Row → Prop}
    (h : EvV mg g₀ prog w env k value ρ fun Y ρ1 => (x, Bnd.own2 a rows) ∈ ρ1 ∧ EvV mg g₀ prog w env k i ρ1 fun I ρ2 => (x, Bnd.own2 a rows) ∈ ρ2 ∧ ∃ n : Nat, I = .int (n : Int) ∧ ∃ r, rows[n]? = some r ∧
      EvV mg g₀ prog w env k j ρ2 fun J ρ3 => (x, Bnd.own2 a rows) ∈ ρ3 ∧ ∃ q : Nat, J = .int (q : Int) ∧ q < r.2.length ∧ q < 2 ^ 60 ∧ ∃ ρ4, Upd x (.own2 a (rows.set n (r.1, r.2.set q Y))) ρ3 ρ4 ∧ Q .next ρ4)
    (hr : rows.length < 2 ^ 60)
    (hs1 : ∀ o n u, subscripted i false (.ref o) (.int n u) = operate [.ref o, .int n u] (getItem (.ref o) (.int n u)) := by intro _ _ _; with_unfolding_all rfl)
    (hs : swapsWith value (some (.Subscript (.Subscript (.Name x p) i p1) j p2)) pos.line env = pure false := by with_unfolding_all rfl) :
    Ex1 mg g₀ prog w env k (.Assign [.Subscript (.Subscript (.Name x p) i p1) j p2] value pos) ρ Q := by
  refine ⟨?_⟩
  intro A κ Φ z s K E ok S c
  refine wpAny_Assign_Subscript (h.run A κ Φ z s _ E ok S ?_) hs
  intro v Y ρ1 z1 h1 tk1 hI1 hz1 S1 r1
  refine hideG fun gHid hHid => ?_
  obtain ⟨hm1, h'⟩ := hI1
  refine hHid ?_; clear hHid gHid
  refine hideG fun gHid hHid => ?_
  obtain ⟨m1, hns1, f1⟩ := S1.frame
  refine hHid ?_; clear hHid gHid
  refine hideG fun gHid hHid => ?_
  obtain ⟨ov, bd, R⟩ := f1 _ _ hm1
  refine hHid ?_; clear hHid gHid
  refine hideG fun gHid hHid => ?_
  obtain ⟨rfl, _⟩ := R
  refine hHid ?_; clear hHid gHid
  refine Subscript_ (wpAny_Name (S1.load (s := { s with heap := h1, toks := tk1 }) ok.kind hm1 hns1 bd ?_) (S1.dbg x (List.mem_map.mpr ⟨_, hm1, rfl⟩)).1)
  refine h'.run A κ Φ z1 _ _ E ok S1 ?_
  intro u I ρ2 z2 h2 tk2 hI1 hz2 S2 r2
  refine hideG fun gHid hHid => ?_
  obtain ⟨hm2, n, rfl, r, hn, h''⟩ := hI1
  refine hHid ?_; clear hHid gHid
  refine hideG fun gHid hHid => ?_
  obtain ⟨m2, _, f2⟩ := S2.frame
  refine hHid ?_; clear hHid gHid
  refine hideG fun gHid hHid => ?_
  obtain ⟨_, _, _, ⟨⟨n2, e2⟩, _⟩, _⟩ := f2 _ _ hm2
  refine hHid ?_; clear hHid gHid
  cases r2
  have hlt := (List.getElem?_eq_some_iff.mp hn).1
  refine tail_any (isListO e2).typeIs slot_list_getitem.lookup (wpAny_getItem_list (s := { s with heap := h2, toks := tk2 }) (k := (n : Int)) (x := .ref r.1) (isListO e2) (by omega) (by omega) (by simp [hn]) ?_) (hs1 _ _ _)
  refine h''.run A κ Φ z2 _ _ E ok S2 ?_
  intro u3 J ρ3 z3 h3 tk3 hI1 hz3 S3 r3
  refine hideG fun gHid hHid => ?_
  obtain ⟨hm3, q, rfl, hq1, hq2, ρ4, up, hq⟩ := hI1
  refine hHid ?_; clear hHid gHid
  cases r3
  refine hideG fun gHid hHid => ?_
  obtain ⟨m3, _, f3⟩ := S3.frame
  refine hHid ?_; clear hHid gHid
  refine hideG fun gHid hHid => ?_
  obtain ⟨ov3, _, R3⟩ := f3 _ _ hm3
  refine hHid ?_; clear hHid gHid
  refine hideG fun gHid hHid => ?_
  obtain ⟨⟨⟨vs, n3, ea, ra⟩, ka, za⟩, fa⟩ := R3.2.2.2 r (List.mem_of_getElem? hn)
  refine hHid ?_; clear hHid gHid
  have ym := (r1.mono hz2).mono hz3
  have hi : q < vs.length := by rw [ra.length]; omega
  have nd : (Bnd.own2 a rows).addrs.Nodup := by
    have : ∀ {ρ : Row}, ρ.addrs.Nodup → (x, Bnd.own2 a rows) ∈ ρ → (Bnd.own2 a rows).addrs.Nodup := by
      intro ρ hn hm
      induction ρ with
      | nil => cases hm
      | cons p l ih =>
        simp only [Row.addrs, List.flatMap_cons] at hn
        rw [List.nodup_append] at hn
        rcases List.mem_cons.mp hm with e | hm
        · rw [← e] at hn; exact hn.1
        · exact ih hn.2.1 hm
    exact this S3.nodup hm3
  have e3 : ∃ n', (h3.update r.1 (Obj.mapSeq (·.setIfInBounds q v))).get? r.1 = some (listO (vs.set q v) n') := by
    rw [Heap.get?_update_self _ ea rfl]
    simp [Obj.mapSeq, listO]
  refine hideG fun gHid hHid => ?_
  obtain ⟨n', e3⟩ := e3
  refine hHid ?_; clear hHid gHid
  have fin : K .next { s with heap := h3.update r.1 (Obj.mapSeq (·.setIfInBounds q v)), toks := tk3 } := by
    refine c _ .next _ _ _ tk3 hq ((hz1.trans hz2).trans hz3) (S3.mut up hm3 (a := r.1) ?_ ?_ (Heap.SameBut.update ..).extBut (by rw [e3]; rfl) fun ov R => own2_change R hn nd (fun b o hb e => (Heap.SameBut.update ..).extBut b o hb e) e3 (ra.set ym)) trivial
    · simp only [Bnd.addrs]; exact List.mem_cons_of_mem _ (List.mem_map.mpr ⟨r, List.mem_of_getElem? hn, rfl⟩)
    · simp only [Bnd.addrs]
      congr 1
      rw [List.map_set]
      refine List.ext_getElem (by simp) fun i h1 h2 => ?_
      rw [List.getElem_set]
      split
      · rename_i e; subst e; simp [(List.getElem?_eq_some_iff.mp hn).2]
      · rfl
  exact setRaw (s := { s with heap := h3, toks := tk3 }) ea (by lia) (by simpa using hi) (by lia) fin
end
end Mine
namespace Mine
open PySem PySem.Calls
theorem new_env_cells {M : Model} {A : Around} {E : Value → Shared → Prop} {s : Shared} {scope : Scope} {globals : Addr} {cl : List (Str × Addr)} {qual : Str} {code : Value} {env : Env} {builtins : Addr} {Q : Env → Shared → Prop}
    (hQ : Q (newEnv scope s.heap.objs.size globals (cellsFrom (s.heap.objs.size + 1) scope.names cl) qual none code (some env) builtins) { s with heap := pushCells (s.heap.push { cls := .type "dict", data := .dict #[] }) scope.names }) :
    wpAny M A (newFunctionEnv scope globals cl [] qual none code (some env) builtins) Q E s := by
  simp only [newFunctionEnv, Option.isSome_some, if_true]
  refine wpAny_bind (wpAny_alloc ?_)
  refine wpAny_bind (wpAny_layCells _ (fun name kind cells => by cases hkc : kind == NameKind.cell <;> simp [hkc]) _ _ _ _ ?_)
  rw [show ({ s with heap := s.heap.push { cls := .type "dict", data := .dict #[] } } : Shared).heap.objs.size = s.heap.objs.size + 1 from Heap.size_push ..]
  exact wpAny_bind (wpAny_pure (wpAny_pure hQ))

/-- the frame of a comprehension with one cell of its own, m -/
def compEnvM (scope : Scope) (m : Str) (cl : List (Str × Addr)) (C : Addr) (env : Env) : Env := { compEnvC scope cl C env with cells := (m, C + 1) :: cl }

section
variable {mg mb : Str → Option Value} {g₀ : Heap} {prog : Program} {w : World} {env : Env} {k : Nat} {ρ ρ' : Row}
theorem St.withCell {κ z : PH} {Φ : Addr → Prop} {h : Heap} {scope : Scope} {cl : List (Str × Addr)} {C : Addr} {m : Str} (S : St mg g₀ (compEnvC scope cl C env) κ Φ ρ z h) (hm : m ∉ ρ.map (·.1)) (hk : (compEnvC scope cl C env).kindOf m = some .cell)
    (ic : h.IsCell (C + 1) none) (k1 : κ (C + 1) = none) (z1 : z (C + 1) = none) (hcl : ∀ y c, cl.lookup y = some c → c ≠ C + 1) (hd : (m == ("__debug__" : Str)) = false ∧ (m == ("__classdict__" : Str)) = false) :
    St mg g₀ (compEnvM scope m cl C env) κ Φ ((m, Bnd.un) :: ρ) z h := by
  refine hideG fun gHid hHid => ?_
  obtain ⟨m0, hn, f⟩ := S.frame
  refine hHid ?_; clear hHid gHid
  have look : ∀ x, x ≠ m → (compEnvM scope m cl C env).cells.lookup x = cl.lookup x := fun x hx => by
    show List.lookup x ((m, C + 1) :: cl) = _
    rw [List.lookup_cons, beq_eq_false_iff_ne.mpr hx]
  have lookm : (compEnvM scope m cl C env).cells.lookup m = some (C + 1) := by
    show List.lookup m ((m, C + 1) :: cl) = _
    simp
  refine ⟨S.root, S.kept, S.zin, S.zoff, S.kL, S.zL, ⟨m0, hn, fun x B hmem => ?_⟩, ?_, fun x y c hx hy => ?_, ?_, fun x hx => ?_, S.offIn⟩
  · rcases List.mem_cons.mp hmem with e | hmem
    · cases e
      exact ⟨_, .inr ⟨.inl hk, C + 1, lookm, ic, k1, z1⟩, trivial⟩
    · refine hideG fun gHid hHid => ?_
      obtain ⟨ov, bd, R⟩ := f x B hmem
      refine hHid ?_; clear hHid gHid
      have hx : x ≠ m := fun q => hm (List.mem_map.mpr ⟨_, hmem, q⟩)
      refine ⟨ov, ?_, R⟩
      rcases bd with q | ⟨q, c, ec, r⟩
      · exact .inl q
      · exact .inr ⟨q, c, by rw [look x hx]; exact ec, r⟩
  · show (Bnd.addrs .un ++ ρ.addrs).Nodup
    exact S.nodup
  · by_cases ex : x = m
    · by_cases ey : y = m
      · rw [ex, ey]
      · rw [ex, lookm] at hx; cases hx
        rw [look y ey] at hy
        exact absurd rfl (hcl y _ hy)
    · by_cases ey : y = m
      · rw [ey, lookm] at hy; cases hy
        rw [look x ex] at hx
        exact absurd rfl (hcl x _ hx)
      · rw [look x ex] at hx; rw [look y ey] at hy
        exact S.cinj x y c hx hy
  · show (m :: ρ.map (·.1)).Nodup
    exact List.nodup_cons.mpr ⟨hm, S.keys⟩
  · rcases List.mem_cons.mp hx with rfl | hx
    · exact hd
    · exact S.dbg x hx
end
end Mine
namespace Mine
open PySem PySem.Calls
section
variable {mg mb : Str → Option Value} {g₀ : Heap} {prog : Program} {w : World} {env : Env} {k : Nat} {ρ ρ' : Row}

theorem own_unused {κ z : PH} {Φ : Addr → Prop} {h : Heap} {ov : Option Value} {a : Addr} {xs : List V} (S : St mg g₀ env κ Φ ρ z h) (R : RelB mg κ z Φ h ov (.own a xs)) (hd : a ∉ ρ.addrs) : Unused env κ ρ z a := by
  refine hideG fun gHid hHid => ?_
  obtain ⟨_, ⟨⟨vs, n, ea, r⟩, ka, za⟩, fa⟩ := R
  refine hHid ?_; clear hHid gHid
  refine hideG fun gHid hHid => ?_
  obtain ⟨m, ⟨oL, es, ep, hL, hdL, _⟩, f⟩ := S.frame
  refine hHid ?_; clear hHid gHid
  refine ⟨?_, ?_, hd, za, ka⟩
  · rintro rfl; rw [ea] at hL; cases hL; cases hdL
  · rintro x c hx hc hk rfl
    refine hideG fun gHid hHid => ?_
    obtain ⟨⟨y, B⟩, hm, rfl⟩ := List.mem_map.mp hx
    refine hHid ?_; clear hHid gHid
    refine hideG fun gHid hHid => ?_
    obtain ⟨ov, bd, _⟩ := f y B hm
    refine hHid ?_; clear hHid gHid
    rcases bd with ⟨k, _⟩ | ⟨_, c', e, ⟨o, ho, hd⟩, _⟩
    · rcases hk with hk | hk <;> · simp only at hk k; rw [k] at hk; cases hk
    · simp only at hc e; rw [hc] at e; cases e; rw [ea] at ho; cases ho; cases hd

theorem nodup_snoc {D a : Addr} {l : List Addr} (h : (D :: l).Nodup) (h1 : a ≠ D) (h2 : a ∉ l) : (D :: (l ++ [a])).Nodup := by
  rw [List.nodup_cons] at h ⊢
  refine ⟨fun q => ?_, ?_⟩
  · rcases List.mem_append.mp q with q | q
    · exact h.1 q
    · exact h1 (List.mem_singleton.mp q).symm
  · rw [List.nodup_append]
    refine ⟨h.2, by simp, fun b hb c hc q => ?_⟩
    rw [List.mem_singleton.mp hc] at q
    exact h2 (q ▸ hb)

/-- what is asked of the turns of a comprehension whose items are lists, one name of its scope a cell -/
structure Turning2 (mg : Str → Option Value) (g₀ : Heap) (prog : Program) (w : World) (env : Env) (k : Nat) (src : List Str) (scope : Scope) (m : Str) (cl : List (Str × Addr)) (t elt : Expr) (Xs : List V) (ρ1 : Row) (Q : List (List V) → Row → Prop) : Prop where
  go : Xs.length ≤ 2 ^ 20 ∧ ∀ C, ∃ (F : List Str) (ρf : Row) (inv : Nat → List (List V) → Row → Prop), Lend env (compEnvC scope cl C env) F ∧
    (∀ x ∈ F, (compEnvM scope m cl C env).cells.lookup x = env.cells.lookup x ∧ (env.kindOf x = some .cell ∨ env.kindOf x = some .free) ∧ ((compEnvM scope m cl C env).kindOf x = some .cell ∨ (compEnvM scope m cl C env).kindOf x = some .free)) ∧
    ρf.Sublist ρ1 ∧ (∀ p ∈ ρf, p.1 ∈ F) ∧ (∀ x ∈ src, x ∉ F) ∧ m ∉ ρf.map (·.1) ∧ (compEnvC scope cl C env).kindOf m = some .cell ∧ (∀ y c, cl.lookup y = some c → y ∈ ρf.map (·.1)) ∧ (ρf.map (·.1)).Nodup ∧
    ((m == ("__debug__" : Str)) = false ∧ (m == ("__classdict__" : Str)) = false) ∧ inv 0 [] ((m, Bnd.un) :: ρf) ∧
    (∀ i X ys ρ2, Xs[i]? = some X → ys.length = i → inv i ys ρ2 → AsX mg g₀ prog w (compEnvM scope m cl C env) k t X ρ2 fun ρ3 => EvE mg g₀ prog w (compEnvM scope m cl C env) k elt ρ3 fun B ρ4 => ∃ a Y, B = .own a Y ∧ inv (i + 1) (ys ++ [Y]) ρ4) ∧
    ((ρ1.map (·.1)).Nodup → ∀ ys ρ2, inv Xs.length ys ρ2 → ∃ ρ', Back F ρ1 ρ2 ρ' ∧ Q ys ρ')

set_option maxHeartbeats 2000000 in
theorem comp_block2 {m : Str} {A : Around} {E : Value → Shared → Prop} {κ z1 : PH} {Φ : Addr → Prop} {s : Shared} {t elt iter : Expr} {scope : Scope} {cl : List (Str × Addr)} {pos : Pos} {I : Addr} {wr : List Addr} {Xs : List V} {SI : Nat → Heap → Prop} {ρ1 : Row} {Q : List (List V) → Row → Prop} {rd : List Addr} {src : List Str}
    (ok : OkA env k A) (S1 : St mg g₀ env κ Φ ρ1 z1 s.heap) (W : Wk prog w A mg I t wr z1 Xs SI rd) (hSI : SI 0 s.heap) (U : ∀ b ∈ wr, Unused env κ ρ1 z1 b ∧ ¬ Φ b) (hrd : ∀ b ∈ rd, ∃ x ∈ src, ∃ B, (x, B) ∈ ρ1 ∧ b ∈ B.addrs) (T : Turning2 mg g₀ prog w env k src scope m cl t elt Xs ρ1 Q)
    (hcf : ∀ n, cellsFrom n scope.names cl = (m, n) :: cl) (hpc : ∀ h, pushCells h scope.names = h.push { cls := .type "cell", data := .cell none }) (hkind : scope.kind = .function) {RR : Value → Addr → Result → Shared → Prop}
    (hRR : ∀ D C h' tk rows ρ' z', Q (rows.map (·.2)) ρ' → Le z1 z' → St mg g₀ env κ Φ ρ' z' h' → RelB mg κ z' Φ h' (some (.ref D)) (.own2 D rows) → (∀ a ∈ (Bnd.own2 D rows).addrs, a ∉ ρ'.addrs) → (Bnd.own2 D rows).addrs.Nodup → C ∉ (Bnd.own2 D rows).addrs → (∃ m, h'.Ns C m) → Unused env κ ρ' z' C → ¬ Φ C → RR (.ref D) C (.ok .next) { s with heap := h', toks := tk }) :
    wpAny (model prog w) A (newList []) (fun acc s₃ => wpAny (model prog w) A (newFunctionEnv scope env.globals cl [] env.qual none .none (some env)) (fun cenv s₄ =>
      codeAny (model prog w) A (.compStart (.ListComp elt [⟨t, iter, [], 0⟩] scope pos) 0 (.ref I) acc { cenv with scope := relabel scope env }) (RR acc cenv.locals) s₄) E s₃) E s := by
  have hlen := T.go.1
  refine wpAny_newObj_type (new_env_cells ?_)
  dsimp only
  generalize hH2 : s.heap.push { cls := .type "list", dict := none, data := .seq ([] : List Value).toArray } = H2
  have hC : H2.objs.size = s.heap.objs.size + 1 := by rw [← hH2, Heap.size_push]
  rw [hcf, hpc]
  generalize hCe : H2.objs.size = C at *
  generalize hDe : s.heap.objs.size = D at *
  have hH3 : (H2.push { cls := .type "dict", data := .dict #[] }).objs.size = C + 1 := by rw [Heap.size_push, hCe]
  have hns₁ : ((H2.push { cls := .type "dict", data := .dict #[] }).push { cls := .type "cell", data := .cell none }).Ns C (fun _ => none) := by
    rw [← hCe]; exact (Heap.Ns.new H2 (.type "dict")).keeps fun b o e => Heap.get?_push_of_some _ e
  have old2 : ∀ b o, H2.get? b = some o → ((H2.push { cls := .type "dict", data := .dict #[] }).push { cls := .type "cell", data := .cell none }).get? b = some o := fun b o e => Heap.get?_push_of_some _ (Heap.get?_push_of_some _ e)
  have ic₁ : ((H2.push { cls := .type "dict", data := .dict #[] }).push { cls := .type "cell", data := .cell none }).IsCell (C + 1) none := ⟨_, by rw [← hH3]; exact Heap.get?_push_size _ rfl, rfl⟩
  generalize hh₁ : (H2.push { cls := .type "dict", data := .dict #[] }).push { cls := .type "cell", data := .cell none } = h₁ at *
  refine hideG fun gHid hHid => ?_
  obtain ⟨F, ρf, inv, hL, hL2, hsub, hF, hsrc, hmF, hkm, hclF, hnd, hdb, i0, turn, fin⟩ := T.go.2 C
  refine hHid ?_; clear hHid gHid
  have rdH : ∀ b ∈ rd, Held env ρ1 F b := fun b hb => let ⟨x, hx, B, hm, ha⟩ := hrd b hb; .inr ⟨x, B, hm, hsrc x hx, .inl ha⟩
  have hDC : D ≠ C := by rw [hC]; exact Nat.ne_of_lt (Nat.lt_succ_self _)
  have freshD : s.heap.get? D = none := hDe ▸ fresh_size s.heap
  have freshC : s.heap.get? C = none := fresh_ge (by rw [hDe, hC]; exact Nat.le_succ _)
  have freshM : s.heap.get? (C + 1) = none := fresh_ge (by rw [hDe, hC]; exact Nat.le_of_lt (Nat.lt_succ_of_lt (Nat.lt_succ_self _)))
  have ltD : ∀ b o, s.heap.get? b = some o → b ≠ D ∧ b ≠ C ∧ b ≠ C + 1 := fun b o e => by
    refine ⟨?_, ?_, ?_⟩ <;> rintro rfl
    · rw [freshD] at e; cases e
    · rw [freshC] at e; cases e
    · rw [freshM] at e; cases e
  have old : ∀ b o, s.heap.get? b = some o → h₁.get? b = some o := fun b o e => old2 b o (hH2 ▸ Heap.get?_push_of_some _ e)
  have hD1 : h₁.get? D = some (listO [] 0) := old2 _ _ (by rw [← hH2, ← hDe]; exact Heap.get?_push_size _ rfl)
  have UD := S1.freshΦ freshD
  have UC := S1.freshΦ freshC
  have UM := S1.freshΦ freshM
  have Hx1 := W.ex 0 _ hSI
  have heldS : ∀ b, Held env ρ1 F b → ∃ o, s.heap.get? b = some o := fun b hb => (Held.ex S1 hb).1
  have nHw : ∀ b ∈ wr, ¬ Held env ρ1 F b := fun b hb H => by
    rcases H with q | ⟨x, B, hm, _, q | ⟨q1, q2⟩⟩
    · exact (U b hb).1.nL q
    · exact (U b hb).1.nA (Row.addrs_mem hm q)
    · exact (U b hb).1.nC x b (List.mem_map.mpr ⟨_, hm, rfl⟩) q1 q2 rfl
  have nHD : ¬ Held env ρ1 F D := fun H => by obtain ⟨o, e⟩ := heldS D H; rw [freshD] at e; cases e
  have nHM : ¬ Held env ρ1 F (C + 1) := fun H => by obtain ⟨o, e⟩ := heldS _ H; rw [freshM] at e; cases e
  have kM : heldK κ h₁ (Held env ρ1 F) (C + 1) = none := by rw [heldK_no nHM]; exact UM.1.nk
  -- the turns' own state
  have Sc0 := S1.lend (cenv := compEnvC scope cl C env) (locs := []) freshC old hns₁ hL rfl hsub hF (fun x hx => by cases hx) (by simpa using hnd) (fun x hx => by cases hx)
  simp only [List.map_nil, List.nil_append] at Sc0
  have cellOld : ∀ y c, cl.lookup y = some c → c ≠ C + 1 := fun y c e q => by
    refine hideG fun gHid hHid => ?_
    obtain ⟨⟨y', B⟩, hp, rfl⟩ := List.mem_map.mp (hclF y c e)
    refine hHid ?_; clear hHid gHid
    refine hideG fun gHid hHid => ?_
    obtain ⟨m0, _, f⟩ := S1.frame
    refine hHid ?_; clear hHid gHid
    refine hideG fun gHid hHid => ?_
    obtain ⟨ov, bd, _⟩ := f _ _ (hsub.subset hp)
    refine hHid ?_; clear hHid gHid
    refine hideG fun gHid hHid => ?_
    obtain ⟨e1, e2, _⟩ := hL.lent _ (hF _ hp)
    refine hHid ?_; clear hHid gHid
    have e' : env.cells.lookup y' = some c := hL.cells _ _ e
    rcases bd with ⟨q, _⟩ | ⟨_, c', ec, ⟨o, ho, _⟩, _⟩
    · rcases e2 with e2 | e2 <;> · simp only at q e2; rw [q] at e2; cases e2
    · rw [e'] at ec; cases ec
      exact (ltD c o ho).2.2 q
  have Sc := Sc0.withCell (m := m) hmF hkm ic₁ kM UM.1.nz cellOld hdb
  have okc : OkA (compEnvM scope m cl C env) k A := ⟨ok.toOkC, hkind, ok.globs, ok.bns⟩
  have kle : Le κ (heldK κ h₁ (Held env ρ1 F)) := fun a o e => heldK_of e (old _ _ (S1.kept _ _ e))
  have Uc : ∀ b, Unused env κ ρ1 z1 b → b ≠ C → b ≠ C + 1 → ¬ Held env ρ1 F b → Unused (compEnvM scope m cl C env) (heldK κ h₁ (Held env ρ1 F)) ((m, Bnd.un) :: ρf) z1 b := fun b u n1 nM n2 => by
    refine ⟨n1, fun x c hx hc hk => ?_, ?_, u.nz, by rw [heldK_no n2]; exact u.nk⟩
    · rcases List.mem_cons.mp hx with ex | hx
      · have : List.lookup x ((m, C + 1) :: cl) = some c := hc
        rw [ex] at this
        simp at this
        rw [← this]; exact fun q => nM q.symm
      · refine hideG fun gHid hHid => ?_
        obtain ⟨p, hp, rfl⟩ := List.mem_map.mp hx
        refine hHid ?_; clear hHid gHid
        refine hideG fun gHid hHid => ?_
        obtain ⟨e1, e2, _⟩ := hL2 _ (hF p hp)
        refine hHid ?_; clear hHid gHid
        exact u.nC p.1 c (List.mem_map.mpr ⟨p, hsub.subset hp, rfl⟩) (by rw [← e1]; exact hc) e2
    · show b ∉ Bnd.addrs .un ++ ρf.addrs
      exact fun q => u.nA ((Row.addrs_sub hsub).subset q)
  have wrC : ∀ b ∈ wr, b ≠ D ∧ b ≠ C ∧ b ≠ C + 1 := fun b hb => by obtain ⟨o, e⟩ := Hx1 b hb; exact ltD b o e
  have HU : ∀ a ∈ D :: wr, Unused (compEnvM scope m cl C env) (heldK κ h₁ (Held env ρ1 F)) ((m, Bnd.un) :: ρf) z1 a := fun a ha => by
    rcases List.mem_cons.mp ha with rfl | ha
    · exact Uc _ UD.1 hDC (by rw [hC]; exact Nat.ne_of_lt (Nat.lt_succ_of_lt (Nat.lt_succ_self _))) nHD
    · exact Uc _ (U a ha).1 (wrC a ha).2.1 (wrC a ha).2.2 (nHw a ha)
  have HX : ∀ a ∈ D :: wr, ∃ o, h₁.get? a = some o := fun a ha => by
    rcases List.mem_cons.mp ha with rfl | ha
    · exact ⟨_, hD1⟩
    · obtain ⟨o, e⟩ := Hx1 a ha; exact ⟨o, old _ _ e⟩
  have P1 := Sc.pinU HU HX
  have SI1 : SI 0 h₁ := W.frame _ _ _ hSI S1.zin (fun b _ o e => old _ _ e) (fun b _ o e => old _ _ e) (fun b o e => old _ _ (S1.zin _ _ e))
  have nHall : ∀ (rows : List (Addr × List V)), (∀ r ∈ rows, heldK κ h₁ (Held env ρ1 F) r.1 = none) → ∀ b ∈ D :: (rows.map (·.1) ++ wr), ¬ Held env ρ1 F b := fun rows hr b hb H => by
    rcases List.mem_cons.mp hb with rfl | hb
    · exact nHD H
    · rcases List.mem_append.mp hb with hb | hb
      · refine hideG fun gHid hHid => ?_
        obtain ⟨r, hr', rfl⟩ := List.mem_map.mp hb
        refine hHid ?_; clear hHid gHid
        refine hideG fun gHid hHid => ?_
        obtain ⟨o, e⟩ := heldS _ H
        refine hHid ?_; clear hHid gHid
        have := hr r hr'
        rw [heldK_yes H, old _ _ e] at this; cases this
      · exact nHw b hb H
  have Hf : ∀ (rows : List (Addr × List V)), (∀ r ∈ rows, heldK κ h₁ (Held env ρ1 F) r.1 = none ∧ ¬ Φ r.1) → ∀ b, (Held env ρ1 F b ∨ Φ b) → b ∉ D :: (rows.map (·.1) ++ wr) := fun rows hr b hb q => by
    rcases hb with hb | hb
    · exact nHall rows (fun r h => (hr r h).1) b q hb
    · rcases List.mem_cons.mp q with rfl | q
      · exact UD.2 hb
      · rcases List.mem_append.mp q with q | q
        · refine hideG fun gHid hHid => ?_
          obtain ⟨r, hr', rfl⟩ := List.mem_map.mp q
          refine hHid ?_; clear hHid gHid
          exact (hr r hr').2 hb
        · exact (U b q).2 hb
  have Hk : ∀ (rows : List (Addr × List V)), (∀ r ∈ rows, heldK κ h₁ (Held env ρ1 F) r.1 = none) → ∀ a ∈ D :: (rows.map (·.1) ++ wr), heldK κ h₁ (Held env ρ1 F) a = none := fun rows hr a ha => by
    rcases List.mem_cons.mp ha with rfl | ha
    · exact (HU _ List.mem_cons_self).nk
    · rcases List.mem_append.mp ha with ha | ha
      · obtain ⟨r, hr', rfl⟩ := List.mem_map.mp ha; exact hr r hr'
      · exact (HU _ (List.mem_cons_of_mem _ ha)).nk
  have rdk : ∀ (as : List Addr), (∀ b ∈ as, ¬ Held env ρ1 F b) → ∀ b ∈ rd, ∀ (ha hh : Heap), Le (pinK (heldK κ h₁ (Held env ρ1 F)) hh as) ha.get? → ha.get? b = h₁.get? b := fun as has b hb ha hh l => by
    have H := rdH b hb
    refine hideG fun gHid hHid => ?_
    obtain ⟨o, e⟩ := heldS b H
    refine hHid ?_; clear hHid gHid
    have e1 := old _ _ e
    have nb : b ∉ as := fun q => has b q H
    have e2 : pinK (heldK κ h₁ (Held env ρ1 F)) hh as b = some o := by unfold pinK; rw [if_neg nb, heldK_yes H, e1]
    rw [l _ _ e2, e1]
  have Dw : D ∉ wr := fun q => (wrC D q).1 rfl
  have loop : ∀ s₃ : Shared, s₃ = { s with heap := h₁ } →
      codeAny (model prog w) A (.compLoop (.ListComp elt [⟨t, iter, [], 0⟩] scope pos) 0 (.ref I) (.ref D) (compEnvM scope m cl C env)) (RR (.ref D) C) s₃ := by
    rintro s₃ rfl
    refine compLoop_any (fun q s' => ∃ i h2 tk2 ρ2 z2 n, ∃ rows : List (Addr × List V), s' = { s with heap := h2, toks := tk2 } ∧ q = Xs.length + 1 - i ∧ i ≤ Xs.length ∧ rows.length = i ∧ inv i (rows.map (·.2)) ρ2 ∧ Le z1 z2 ∧
      St mg g₀ (compEnvM scope m cl C env) (pinK (heldK κ h₁ (Held env ρ1 F)) h2 (D :: (rows.map (·.1) ++ wr))) (fun b => b ∈ D :: (rows.map (·.1) ++ wr) ∨ (Held env ρ1 F b ∨ Φ b)) ρ2 z2 h2 ∧ SI i h2 ∧
      h2.get? D = some (listO (rows.map fun r => .ref r.1) n) ∧ (∀ r ∈ rows, heldK κ h₁ (Held env ρ1 F) r.1 = none ∧ ¬ Φ r.1 ∧ r.1 ∉ wr ∧ ∃ vs n, h2.get? r.1 = some (listO vs n) ∧ HoldsL mg z2 vs r.2) ∧ (D :: rows.map (·.1)).Nodup) ?_
      (Xs.length + 1) ⟨0, h₁, s.toks, _, z1, 0, [], rfl, rfl, Nat.zero_le _, rfl, i0, Le.refl _, P1, SI1, hD1, (fun r hr => by cases hr), by simp⟩
    intro q _ hI1
    refine el_7_11 hI1 ?_
    intro i h2 tk2 ρ2 z2 n rows hρ0 hρ1 hi hlen2 hinv hz2 S2 hS eD hrows hnd2
    clear hI1
    subst hρ0
    subst hρ1
    have zin2 : Le z1 h2.get? := hz2.trans S2.zin
    have rk : ∀ r ∈ rows, heldK κ h₁ (Held env ρ1 F) r.1 = none := fun r hr => (hrows r hr).1
    have rk2 : ∀ r ∈ rows, heldK κ h₁ (Held env ρ1 F) r.1 = none ∧ ¬ Φ r.1 := fun r hr => ⟨(hrows r hr).1, (hrows r hr).2.1⟩
    have Hx : ∀ a ∈ D :: (rows.map (·.1) ++ wr), ∃ o, h2.get? a = some o := fun a ha => by
      rcases List.mem_cons.mp ha with rfl | ha
      · exact ⟨_, eD⟩
      · rcases List.mem_append.mp ha with ha | ha
        · refine hideG fun gHid hHid => ?_
          obtain ⟨r, hr, rfl⟩ := List.mem_map.mp ha
          refine hHid ?_; clear hHid gHid
          obtain ⟨vs, n, e, _⟩ := (hrows r hr).2.2.2; exact ⟨_, e⟩
        · exact W.ex i h2 hS a ha
    by_cases hlt : i < Xs.length
    · have hX : Xs[i]? = some Xs[i] := List.getElem?_eq_getElem hlt
      refine W.step i Xs[i] _ _ _ _ hX hS zin2 (fun v s1 hr => hr) ?_
      intro v h3 tk3 hS3 g3 r3
      have eD3 : h3.get? D = some (listO (rows.map fun r => .ref r.1) n) := g3 _ _ Dw eD
      have Hx3 : ∀ a ∈ D :: (rows.map (·.1) ++ wr), ∃ o, h3.get? a = some o := fun a ha => by
        rcases List.mem_cons.mp ha with rfl | ha
        · exact ⟨_, eD3⟩
        · rcases List.mem_append.mp ha with ha | ha
          · refine hideG fun gHid hHid => ?_
            obtain ⟨r, hr, rfl⟩ := List.mem_map.mp ha
            refine hHid ?_; clear hHid gHid
            obtain ⟨_, _, nw, vs, n, e, _⟩ := hrows r hr; exact ⟨_, g3 _ _ nw e⟩
          · exact W.ex _ h3 hS3 a ha
      have S3' := S2.outside (h' := h3) (Hk rows rk) Hx Sc.root (Hf rows rk2) fun b o hb e => g3 b o (fun q => hb (List.mem_cons_of_mem _ (List.mem_append_right _ q))) e
      have S3 := S3'.pinU (fun a ha => S2.pinned (Hk rows rk) Hx a ha) Hx3
      have r3' : ItemR mg z2 h3 t v Xs[i] := by
        rcases r3 with r | ⟨e, T, vals, xs, e1, e2, it, r⟩
        · exact .inl (r.mono hz2)
        · exact .inr ⟨e, T, vals, xs, e1, e2, it, r.mono hz2⟩
      refine (turn i Xs[i] _ ρ2 hX (by simpa using hlen2) hinv).run A _ _ z2 _ _ _ v okc S3 r3' ?_
      intro ρ3 z3 h4 tk4 hbody hz3 S4
      refine hbody.run A _ _ z3 _ _ _ okc S4 ?_
      intro y _ ρ4 z4 h5 tk5 hI1 hz4 S5 R5 hd5 _
      refine hideG fun gHid hHid => ?_
      obtain ⟨a, Y, rfl, hq⟩ := hI1
      refine hHid ?_; clear hHid gHid
      have hda : a ∉ ρ4.addrs := hd5 a (by simp [Bnd.addrs])
      have Ua := own_unused S5 R5 hda
      have keep5 : ∀ b ∈ D :: (rows.map (·.1) ++ wr), ∀ o, h3.get? b = some o → h5.get? b = some o := fun b hb o e => S5.kept _ _ (by unfold pinK; rw [if_pos hb]; exact e)
      have eD5 := keep5 D List.mem_cons_self _ eD3
      have hz14 : Le z1 z4 := (hz2.trans hz3).trans hz4
      have SI5 : SI (i + 1) h5 := W.frame _ _ _ hS3 (hz2.trans S3.zin) (fun b hb o e => keep5 b (List.mem_cons_of_mem _ (List.mem_append_right _ hb)) o e)
        (fun b hb o e => by rw [rdk _ (nHall rows rk) b hb _ _ S5.kept, ← rdk _ (nHall rows rk) b hb _ _ S3.kept]; exact e) (hz14.trans S5.zin)
      have Hx5 : ∀ b ∈ D :: (rows.map (·.1) ++ wr), ∃ o, h5.get? b = some o := fun b hb => let ⟨o, e⟩ := Hx3 b hb; ⟨o, keep5 b hb o e⟩
      have na : a ∉ D :: (rows.map (·.1) ++ wr) := fun q => by
        refine hideG fun gHid hHid => ?_
        obtain ⟨o, e⟩ := Hx3 a q
        refine hHid ?_; clear hHid gHid
        have := Ua.nk
        unfold pinK at this; rw [if_pos q, e] at this; cases this
      have aH : heldK κ h₁ (Held env ρ1 F) a = none := by
        have := Ua.nk
        unfold pinK at this; rw [if_neg na] at this; exact this
      have eqpin : pinK (heldK κ h₁ (Held env ρ1 F)) h3 (D :: (rows.map (·.1) ++ wr)) = pinK (heldK κ h₁ (Held env ρ1 F)) h5 (D :: (rows.map (·.1) ++ wr)) := by
        funext b
        unfold pinK
        split
        · rename_i hb
          refine hideG fun gHid hHid => ?_
          obtain ⟨o, e⟩ := Hx3 b hb
          refine hHid ?_; clear hHid gHid
          rw [e, keep5 b hb o e]
        · rfl
      rw [eqpin] at S5
      refine hideG fun gHid hHid => ?_
      obtain ⟨eY, ⟨⟨vsY, nY, eYa, rY⟩, _, zYa⟩, fY⟩ := R5
      refine hHid ?_; clear hHid gHid
      cases eY
      have aD : a ≠ D := fun q => na (q ▸ List.mem_cons_self)
      refine wpAny_list_append_plain (hsz := by rw [List.size_toArray, List.length_map, hlen2]; exact Nat.le_trans hi (Nat.le_trans hlen (by decide))) ⟨n, eD5⟩ fun h6 hpl hsb => ?_
      refine hideG fun gHid hHid => ?_
      obtain ⟨n6, e6⟩ := hpl
      refine hHid ?_; clear hHid gHid
      have e6' : h6.get? D = some (listO ((rows ++ [(a, Y)]).map fun r => .ref r.1) n6) := by rw [e6]; simp [listO]
      have S6' := S5.outside (h' := h6) (Hk rows rk) Hx5 Sc.root (Hf rows rk2) fun b o hb e => hsb.extBut b o (fun q => hb (by rw [q]; exact List.mem_cons_self)) e
      have mem' : ∀ b ∈ D :: ((rows ++ [(a, Y)]).map (·.1) ++ wr), b = a ∨ b ∈ D :: (rows.map (·.1) ++ wr) := fun b hb => by
        simp only [List.map_append, List.map_cons, List.map_nil, List.mem_cons, List.mem_append, List.not_mem_nil, or_false] at hb ⊢
        rcases hb with hb | (hb | hb) | hb
        · exact .inr (.inl hb)
        · exact .inr (.inr (.inl hb))
        · exact .inl hb
        · exact .inr (.inr (.inr hb))
      have U6 : ∀ b ∈ D :: ((rows ++ [(a, Y)]).map (·.1) ++ wr), Unused (compEnvM scope m cl C env) (heldK κ h₁ (Held env ρ1 F)) ρ4 z4 b := fun b hb => by
        rcases mem' b hb with rfl | hb
        · exact ⟨Ua.nL, Ua.nC, Ua.nA, Ua.nz, aH⟩
        · exact S5.pinned (Hk rows rk) Hx5 b hb
      have Hx6 : ∀ b ∈ D :: ((rows ++ [(a, Y)]).map (·.1) ++ wr), ∃ o, h6.get? b = some o := fun b hb => by
        by_cases q : b = D
        · exact ⟨_, q ▸ e6'⟩
        · rcases mem' b hb with rfl | hb
          · exact ⟨_, hsb.extBut _ _ q eYa⟩
          · obtain ⟨o, e⟩ := Hx5 b hb; exact ⟨o, hsb.extBut b o q e⟩
      have S6 := S6'.pinU U6 Hx6
      refine ⟨Xs.length + 1 - (i + 1), by (exact (nl (.branch 2 (.branch 1 (.leaf (Xs.length + 1 - (i + 1))) (.leaf (Xs.length + 1 - i))) (.branch 3 (.leaf i) (.leaf (Xs.length)))) [(1, (.add (.var 3) (.num 1)), (.add (.var 1) (.var 2))), (1, (.add (.var 0) (.add (.var 2) (.num 1))), (.add (.var 3) (.num 1)))] 1 (.add (.var 0) (.num 1)) (.var 1) rfl (nsa (Xs.length + 1) (i)) (nsb (nl (.branch 1 (.leaf i) (.leaf (Xs.length))) [(1, (.var 0), (.var 1))] 1 (.add (.var 0) (.num 1)) (.add (.var 1) (.num 1)) rfl hi)))), i + 1, h6, tk5, ρ4, z4, n6, rows ++ [(a, Y)], rfl, rfl, hlt, by simp [hlen2], by simpa using hq, hz14, S6, ?_, e6', fun r hr => ?_, ?_⟩
      · exact W.frame _ _ _ SI5 (hz14.trans S5.zin) (fun b hb o e => hsb.extBut b o (wrC b hb).1 e) (fun b hb o e => hsb.extBut b o (fun q => nHD (q ▸ rdH b hb)) e) (hz14.trans S6'.zin)
      · rcases List.mem_append.mp hr with hr | hr
        · refine hideG fun gHid hHid => ?_
          obtain ⟨k1, k2, k3, vs, n', e, rv⟩ := hrows r hr
          refine hHid ?_; clear hHid gHid
          have rD : r.1 ≠ D := fun q => by
            simp only [List.nodup_cons] at hnd2
            exact hnd2.1 (q ▸ List.mem_map.mpr ⟨r, hr, rfl⟩)
          exact ⟨k1, k2, k3, vs, n', hsb.extBut _ _ rD (keep5 r.1 (List.mem_cons_of_mem _ (List.mem_append_left _ (List.mem_map.mpr ⟨r, hr, rfl⟩))) _ (g3 _ _ k3 e)), rv.mono (hz3.trans hz4)⟩
        · simp only [List.mem_singleton] at hr; subst hr
          exact ⟨aH, fun q => fY (.inr (.inr q)), fun q => na (List.mem_cons_of_mem _ (List.mem_append_right _ q)), vsY, nY, hsb.extBut _ _ aD eYa, rY⟩
      · rw [List.map_append]
        exact nodup_snoc hnd2 aD fun q => na (List.mem_cons_of_mem _ (List.mem_append_left _ q))
    · have he : i = Xs.length := by (exact (Nat.le_antisymm (nl (.branch 1 (.leaf i) (.leaf (Xs.length))) [(1, (.var 0), (.var 1))] 1 (.var 0) (.var 1) rfl hi) (nl (.branch 1 (.leaf (Xs.length)) (.leaf i)) [(1, (.var 0), (.var 1))] 1 (.var 0) (.var 1) rfl (Nat.le_of_not_lt hlt))))
      subst he
      refine W.done _ _ _ hS zin2 ?_
      intro h3 tk3 g3
      have S3 := S2.outside (h' := h3) (Hk rows rk) Hx Sc.root (Hf rows rk2) fun b o hb e => g3 b o (fun q => hb (List.mem_cons_of_mem _ (List.mem_append_right _ q))) e
      have eD3 : h3.get? D = some (listO (rows.map fun r => .ref r.1) n) := g3 _ _ Dw eD
      refine hideG fun gHid hHid => ?_
      obtain ⟨ρ', bk, hq⟩ := fin S1.keys _ ρ2 hinv
      refine hHid ?_; clear hHid gHid
      have S4 := S1.back (ρ' := ρ') old hL2 S3 hz2 bk
      have nA : ∀ b, s.heap.get? b = none → b ∉ ρ'.addrs := fun b hb q => by
        rw [bk.addrs] at q
        refine hideG fun gHid hHid => ?_
        obtain ⟨⟨vs, n, e⟩, _⟩ := S1.addrs_at b q
        refine hHid ?_; clear hHid gHid
        rw [hb] at e; cases e
      have nR : ∀ r ∈ rows, r.1 ∉ ρ'.addrs := fun r hr q => by
        have hmem : r.1 ∈ D :: (rows.map (·.1) ++ wr) := List.mem_cons_of_mem _ (List.mem_append_left _ (List.mem_map.mpr ⟨r, hr, rfl⟩))
        refine hideG fun gHid hHid => ?_
        obtain ⟨⟨x, B⟩, hm, hb⟩ := List.mem_flatMap.mp q
        refine hHid ?_; clear hHid gHid
        rcases bk.mem x B hm with ⟨_, hm2⟩ | ⟨hx, hm1⟩
        · exact (S2.pinned (Hk rows rk) Hx r.1 hmem).nA (Row.addrs_mem hm2 hb)
        · exact nHall rows rk r.1 hmem (.inr ⟨x, B, hm1, hx, .inl hb⟩)
      refine hideG fun gHid hHid => ?_
      obtain ⟨mC, hnC, _⟩ := S3.frame
      refine hHid ?_; clear hHid gHid
      have zD : z2 D = none := S2.zoff D (.inl List.mem_cons_self)
      refine hRR D C h3 tk3 rows ρ' z2 hq hz2 S4 ⟨rfl, ⟨⟨n, eD3⟩, UD.1.nk, zD⟩, UD.2, fun r hr => ?_⟩ (fun a ha => ?_) hnd2 (fun q => ?_) ⟨mC, hnC⟩ ⟨UC.1.nL, fun x c hx hc hk => ?_, nA C freshC, S3.zL, UC.1.nk⟩ UC.2
      · refine hideG fun gHid hHid => ?_
        obtain ⟨k1, k2, k3, vs, n', e, rv⟩ := hrows r hr
        refine hHid ?_; clear hHid gHid
        exact ⟨⟨⟨vs, n', g3 _ _ k3 e, rv⟩, none_of_le kle k1, S2.zoff _ (.inl (List.mem_cons_of_mem _ (List.mem_append_left _ (List.mem_map.mpr ⟨r, hr, rfl⟩))))⟩, k2⟩
      · simp only [Bnd.addrs, List.mem_cons, List.mem_map] at ha
        rcases ha with rfl | ⟨r, hr, rfl⟩
        · exact nA _ freshD
        · exact nR r hr
      · simp only [Bnd.addrs, List.mem_cons, List.mem_map] at q
        rcases q with q | ⟨r, hr, q⟩
        · exact hDC q.symm
        · refine hideG fun gHid hHid => ?_
          obtain ⟨k1, k2, k3, vs, n', e, rv⟩ := hrows r hr
          refine hHid ?_; clear hHid gHid
          refine hideG fun gHid hHid => ?_
          obtain ⟨o, _, _, ho, hdo, _⟩ := hnC
          refine hHid ?_; clear hHid gHid
          have e2 := g3 _ _ k3 e
          rw [q] at e2
          have ho' : h3.get? C = some o := ho
          rw [ho'] at e2; cases e2; cases hdo
      · rw [bk.keys] at hx
        exact UC.1.nC x c hx hc hk
  exact codeAny_compStart_list (loop _ rfl) (W.self 0 _ _ _ SI1 (loop _ rfl))

/-- a list comprehension whose items are lists, one's own each -/
theorem EvE.comp2 {elt t iter : Expr} {scope : Scope} {pos : Pos} {Q : Bnd → Row → Prop} (src : List Str) (m : Str) (cl : List (Str × Addr))
    (h : EvC mg g₀ prog w env k src t iter ρ fun Xs ρ1 => Turning2 mg g₀ prog w env k src scope m cl t elt Xs ρ1 fun yss ρ' => ∀ D rows, rows.map (·.2) = yss → Q (.own2 D rows) ρ')
    (hclos : closureFor scope env = pure cl) (hcf : ∀ n, cellsFrom n scope.names cl = (m, n) :: cl := by intro _; with_unfolding_all rfl)
    (hpc : ∀ h, pushCells h scope.names = h.push { cls := .type "cell", data := .cell none } := by intro _; with_unfolding_all rfl) (hkind : scope.kind = .function := by with_unfolding_all rfl)
    (hnames : ∀ y ∈ scope.names, y.2 = .local → scope.names.lookup y.1 = some .local := by decide +kernel)
    (hs : ∀ x, foldedSetIterable iter env x = pure x := by intro _; with_unfolding_all rfl) :
    EvE mg g₀ prog w env k (.ListComp elt [⟨t, iter, [], 0⟩] scope pos) ρ Q := by
  refine ⟨?_⟩
  intro A κ Φ z s K E ok S c
  rw [eval_ListComp]
  refine wpAny_comprehension_free (use := none) rfl hs hclos hkind hnames (h.run A κ Φ z s _ E ok S ?_)
  intro I wr rd SI Xs ρ1 z1 h1 tk1 T hz1 S1 W hSI U hrd
  refine comp_block2 (s := { s with heap := h1, toks := tk1 }) (RR := fun acc C => compPost (model prog w) A E none K acc C) ok S1 W hSI U hrd T hcf hpc hkind ?_
  intro D C h2 tk2 rows ρ' z2 hq hz2 S2 RD nD ndD nC ⟨mm, hn⟩ UC fC
  refine ⟨mm, hn, fun h3 hsb => ?_⟩
  have S3 := S2.other UC fC (let ⟨o, _, _, e, _⟩ := hn; ⟨o, e⟩) hsb.extBut
  exact c (.ref D) (.own2 D rows) ρ' z2 h3 tk2 (hq D rows rfl) (hz1.trans hz2) S3 (RD.change (fun a ha o e => hsb.extBut a o (fun q => nC (q ▸ ha)) e) (Le.refl _) fun a _ k1 k2 => ⟨k1, k2, id⟩) nD ndD
end
end Mine
namespace Mine
open PySem PySem.Calls
section
variable {mg mb : Str → Option Value} {g₀ : Heap} {prog : Program} {w : World} {env : Env} {k : Nat} {ρ ρ' : Row}
/-- several stores into names, one behind the other, as targets -/
theorem stores_runT {κ z : PH} {Φ : Addr → Prop} {A : Around} {E : Value → Shared → Prop} (ok : OkA env k A) : ∀ {ps : List (Pos × Str × Bnd)} {ρ ρ' : Row} {s : Shared} {vs : List Value} {Q : Unit → Shared → Prop}, St mg g₀ env κ Φ ρ z s.heap →
    Upds (ps.map (·.2)) ρ ρ' → RelBs mg κ z Φ s.heap vs (ps.map (·.2.2)) → (Bnds.addrs (ps.map (·.2.2))).Nodup → (∀ a ∈ Bnds.addrs (ps.map (·.2.2)), a ∉ ρ.addrs) →
    (∀ h' tk, St mg g₀ env κ Φ ρ' z h' → Q () { s with heap := h', toks := tk }) → wpAny (model prog w) A (assignInOrder (ps.map fun q => assign (.Name q.2.1 q.1) env) vs) Q E s
  | [], ρ, _, s, vs, Q, S, .nil, R, _, _, c => by
    cases R
    exact wpAny_pure (c _ s.toks S)
  | (p, x, B) :: r, ρ, _, s, vs, Q, S, .cons u us, R, n, d, c => by
    cases R with
    | cons Rb Rr =>
      simp only [List.map_cons, Bnds.addrs, List.flatMap_cons] at n d
      rw [List.nodup_append] at n
      show wpAny _ _ (holding _ (assign (.Name x p) env _) >>= fun _ => assignInOrder _ _) _ _ _
      refine wpAny_bind (wpAny_holding (wpAny_assign_Name (store_run ok S u Rb (fun a ha => d a (List.mem_append.mpr (.inl ha))) n.1 fun h' tk S' keep => ?_)))
      refine stores_runT (s := { s with heap := h', toks := tk }) ok S' us ?_ n.2.1 (fun a ha q => ?_) fun h'' tk'' S'' => c _ _ S''
      · clear d n
        generalize r.map (·.2.2) = Bs at Rr
        induction Rr with
        | nil => exact .nil
        | cons R _ ih => exact .cons (keep _ _ R) ih
      · rcases u.addrs a q with h | h
        · exact n.2.2 a h a ha rfl
        · exact d a (List.mem_append.mpr (.inr ha)) h
/-- a, b = (x, y), the values bound in order, some of them one's own -/
theorem assign_tupB {x y : Str} {p1 p2 : Pos} {vs : List Expr} {kd kd' : Nat} {p p' pos : Pos} {Q : Out → Row → Prop}
    (h : EvBs mg g₀ prog w env k vs ρ fun Bs ρ1 => ∃ B C ρ2 ρ3, Bs = [B, C] ∧ Upd x B ρ1 ρ2 ∧ Upd y C ρ2 ρ3 ∧ Q .next ρ3)
    (hw : swappedStores [.Tuple [.Name x p1, .Name y p2] kd p] (.Tuple vs kd' p') env = pure none := by with_unfolding_all rfl)
    (hs : swapsWithSole [.Tuple [.Name x p1, .Name y p2] kd p] (.Tuple vs kd' p') pos.line env = pure false := by with_unfolding_all rfl) : Ex1 mg g₀ prog w env k (.Assign [.Tuple [.Name x p1, .Name y p2] kd p] (.Tuple vs kd' p') pos) ρ Q := by
  refine ⟨?_⟩
  intro A κ Φ z s K E ok S c
  refine Assign_Tuple ?_ hs hw
  refine wpAny_Tuple (h.run A κ Φ z s _ E p' ok S ?_)
  intro vals Bs ρ1 z1 h1 tk1 hI1 hz1 S1 R1 n1 d1
  refine hideG fun gHid hHid => ?_
  obtain ⟨B, C, ρ2, ρ3, rfl, u1, u2, hq⟩ := hI1
  refine hHid ?_; clear hHid gHid
  have hvl := R1.length
  refine ⟨by rw [hvl]; show 2 ≤ _; decide, ?_⟩
  have it : (h1.push (tupO vals 0)).IsTuple h1.objs.size vals.toArray := ⟨_, Heap.get?_push_size _ rfl, rfl, _, rfl⟩
  refine wpAny_assign_Tuple ok.handled it (by simp [hvl]; rfl) rfl fun h' ex => ?_
  have g : Grow h1 h' := fun b o e => ex b o (Nat.ne_of_lt (Heap.lt_size (Heap.get?_push_of_some _ e))) (Heap.get?_push_of_some _ e)
  have S2 := S1.grow g
  have R2 := R1.change (h' := h') (z' := z1) (κ' := κ) (Φ' := Φ) (fun a _ o e => g _ _ e) (Le.refl _) fun a _ k1 k2 => ⟨k1, k2, id⟩
  exact stores_runT (ps := [(p1, x, B), (p2, y, C)]) (s := { s with heap := h', toks := tk1 }) (prog := prog) (w := w) (E := E) (Q := fun _ => K .next) ok S2 (.cons u1 (.cons u2 .nil)) (vs := vals) R2 n1
    d1 fun h'' tk'' S3 => c _ .next _ _ _ _ hq hz1 S3 trivial
end
end Mine
namespace Mine
open PySem PySem.Calls
section
variable {mg mb : Str → Option Value} {g₀ : Heap} {prog : Program} {w : World} {env : Env} {k : Nat} {ρ ρ' : Row}
theorem EvV.int3 {kd pos} {Q : V → Row → Prop} (hq : Q (.int ((3 : Nat) : Int)) ρ) : EvV mg g₀ prog w env k (.Constant (.int 3) kd pos) ρ Q := EvV.int hq
theorem EvV.int4 {kd pos} {Q : V → Row → Prop} (hq : Q (.int ((4 : Nat) : Int)) ρ) : EvV mg g₀ prog w env k (.Constant (.int 4) kd pos) ρ Q := EvV.int hq
theorem EvV.int5 {kd pos} {Q : V → Row → Prop} (hq : Q (.int ((5 : Nat) : Int)) ρ) : EvV mg g₀ prog w env k (.Constant (.int 5) kd pos) ρ Q := EvV.int hq
theorem EvV.int7 {kd pos} {Q : V → Row → Prop} (hq : Q (.int ((7 : Nat) : Int)) ρ) : EvV mg g₀ prog w env k (.Constant (.int 7) kd pos) ρ Q := EvV.int hq
theorem EvV.int8 {kd pos} {Q : V → Row → Prop} (hq : Q (.int ((8 : Nat) : Int)) ρ) : EvV mg g₀ prog w env k (.Constant (.int 8) kd pos) ρ Q := EvV.int hq
theorem EvV.int9 {kd pos} {Q : V → Row → Prop} (hq : Q (.int ((9 : Nat) : Int)) ρ) : EvV mg g₀ prog w env k (.Constant (.int 9) kd pos) ρ Q := EvV.int hq
theorem EvV.int10 {kd pos} {Q : V → Row → Prop} (hq : Q (.int ((10 : Nat) : Int)) ρ) : EvV mg g₀ prog w env k (.Constant (.int 10) kd pos) ρ Q := EvV.int hq
theorem EvV.int11 {kd pos} {Q : V → Row → Prop} (hq : Q (.int ((11 : Nat) : Int)) ρ) : EvV mg g₀ prog w env k (.Constant (.int 11) kd pos) ρ Q := EvV.int hq
theorem EvV.int13 {kd pos} {Q : V → Row → Prop} (hq : Q (.int ((13 : Nat) : Int)) ρ) : EvV mg g₀ prog w env k (.Constant (.int 13) kd pos) ρ Q := EvV.int hq
theorem EvV.int16 {kd pos} {Q : V → Row → Prop} (hq : Q (.int ((16 : Nat) : Int)) ρ) : EvV mg g₀ prog w env k (.Constant (.int 16) kd pos) ρ Q := EvV.int hq
theorem EvV.int17 {kd pos} {Q : V → Row → Prop} (hq : Q (.int ((17 : Nat) : Int)) ρ) : EvV mg g₀ prog w env k (.Constant (.int 17) kd pos) ρ Q := EvV.int hq
theorem EvV.int19 {kd pos} {Q : V → Row → Prop} (hq : Q (.int ((19 : Nat) : Int)) ρ) : EvV mg g₀ prog w env k (.Constant (.int 19) kd pos) ρ Q := EvV.int hq
theorem EvV.int32 {kd pos} {Q : V → Row → Prop} (hq : Q (.int ((32 : Nat) : Int)) ρ) : EvV mg g₀ prog w env k (.Constant (.int 32) kd pos) ρ Q := EvV.int hq
theorem EvV.int99 {kd pos} {Q : V → Row → Prop} (hq : Q (.int ((99 : Nat) : Int)) ρ) : EvV mg g₀ prog w env k (.Constant (.int 99) kd pos) ρ Q := EvV.int hq
theorem EvV.int199 {kd pos} {Q : V → Row → Prop} (hq : Q (.int ((199 : Nat) : Int)) ρ) : EvV mg g₀ prog w env k (.Constant (.int 199) kd pos) ρ Q := EvV.int hq
theorem EvV.fnName {f : Str} {pos : Pos} {Q : V → Row → Prop} (G : Gl mg mb g₀ recs) (hd : ∃ d ∈ recs, d.name = f) (hq : Q (.fn f) ρ) (hx : env.kindOf f = some .globalImplicit := by with_unfolding_all rfl) (hb : (f == ("__debug__" : Str)) = false := by decide) : EvV mg g₀ prog w env k (.Name f pos) ρ Q := by
  obtain ⟨d, hm, rfl⟩ := hd
  obtain ⟨a, _, _, _, _, e1, _⟩ := G.fn d hm
  exact EvV.global G e1 hx hq hb
end
theorem up_mulI {P : Int → Prop} {a b : Int} (h0 : a.natAbs < 2 ^ 64 ∨ b.natAbs < 2 ^ 64) (h : P (a * b)) : ∃ c, BinV .Mult a b c ∧ P c := ⟨_, .mul h0, h⟩
end Mine
namespace Mine
open PySem PySem.Calls
section
variable {mg mb : Str → Option Value} {g₀ : Heap} {prog : Program} {w : World} {env : Env} {k : Nat} {ρ ρ' : Row}
/-- an expression that has one value and changes no binding -/
def DV (mg : Str → Option Value) (g₀ : Heap) (prog : Program) (w : World) (env : Env) (k : Nat) (ρ : Row) (e : Expr) (X : V) : Prop := EvV mg g₀ prog w env k e ρ fun Y ρ' => Y = X ∧ ρ' = ρ
def DT (mg : Str → Option Value) (g₀ : Heap) (prog : Program) (w : World) (env : Env) (k : Nat) (ρ : Row) (e : Expr) (c : Bool) : Prop := EvT mg g₀ prog w env k e ρ fun d ρ' => d = c ∧ ρ' = ρ
def DVs (mg : Str → Option Value) (g₀ : Heap) (prog : Program) (w : World) (env : Env) (k : Nat) (ρ : Row) (es : List Expr) (Xs : List V) : Prop := EvVs mg g₀ prog w env k es ρ fun Ys ρ' => Ys = Xs ∧ ρ' = ρ
theorem EvV.det {e : Expr} {X : V} {Q : V → Row → Prop} (h : DV mg g₀ prog w env k ρ e X) (hq : Q X ρ) : EvV mg g₀ prog w env k e ρ Q := EvV.mono h (by rintro _ _ ⟨rfl, rfl⟩; exact hq)
theorem EvT.det {e : Expr} {c : Bool} {Q : Bool → Row → Prop} (h : DT mg g₀ prog w env k ρ e c) (hq : Q c ρ) : EvT mg g₀ prog w env k e ρ Q :=
  ⟨fun A κ Φ z s K E ok S cc => EvT.run h A κ Φ z s K E ok S fun d ρ' z' h' tk q => cc d ρ' z' h' tk (by obtain ⟨rfl, rfl⟩ := q; exact hq)⟩
theorem EvVs.mono' {es : List Expr} {Q Q' : List V → Row → Prop} (h : EvVs mg g₀ prog w env k es ρ Q) (q : ∀ x ρ', Q x ρ' → Q' x ρ') : EvVs mg g₀ prog w env k es ρ Q' :=
  ⟨fun A κ Φ z s K E pos ok S c => h.run A κ Φ z s K E pos ok S fun v x ρ' z' h' tk hq => c v x ρ' z' h' tk (q _ _ hq)⟩
theorem EvVs.det {es : List Expr} {Xs : List V} {Q : List V → Row → Prop} (h : DVs mg g₀ prog w env k ρ es Xs) (hq : Q Xs ρ) : EvVs mg g₀ prog w env k es ρ Q := EvVs.mono' h (by rintro _ _ ⟨rfl, rfl⟩; exact hq)
theorem DVs.nil : DVs mg g₀ prog w env k ρ [] [] := EvVs.nil ⟨rfl, rfl⟩
theorem DVs.cons {e : Expr} {es : List Expr} {X : V} {Xs : List V} (h : DV mg g₀ prog w env k ρ e X) (h' : DVs mg g₀ prog w env k ρ es Xs) (hs : noStar e = true) : DVs mg g₀ prog w env k ρ (e :: es) (X :: Xs) :=
  EvVs.cons (EvV.det h (EvVs.det h' ⟨rfl, rfl⟩)) hs
theorem DV.name {x : Str} {pos : Pos} {X : V} (hm : (x, Bnd.val X) ∈ ρ) : DV mg g₀ prog w env k ρ (.Name x pos) X := EvV.name hm ⟨rfl, rfl⟩
theorem DV.int0 {kd pos} : DV mg g₀ prog w env k ρ (.Constant (.int 0) kd pos) (.int ((0 : Nat) : Int)) := EvV.int0 ⟨rfl, rfl⟩
theorem DV.int1 {kd pos} : DV mg g₀ prog w env k ρ (.Constant (.int 1) kd pos) (.int ((1 : Nat) : Int)) := EvV.int1 ⟨rfl, rfl⟩
theorem DV.int2 {kd pos} : DV mg g₀ prog w env k ρ (.Constant (.int 2) kd pos) (.int ((2 : Nat) : Int)) := EvV.int2 ⟨rfl, rfl⟩
theorem DV.bool {b : Bool} {kd pos} : DV mg g₀ prog w env k ρ (.Constant (.bool b) kd pos) (.bool b) := EvV.bool ⟨rfl, rfl⟩
theorem DV.bin {l r : Expr} {op : Operator} {pos : Pos} {a b c : Int} (hl : DV mg g₀ prog w env k ρ l (.int a)) (hr : DV mg g₀ prog w env k ρ r (.int b)) (hb : BinV op a b c) : DV mg g₀ prog w env k ρ (.BinOp l op r pos) (.int c) :=
  EvV.bin (EvV.det hl ⟨_, rfl, EvV.det hr ⟨_, rfl, _, hb, rfl, rfl⟩⟩)
theorem DV.cmp {l r : Expr} {op : CmpOp} {pos : Pos} {a b : Int} {c : Bool} (hl : DV mg g₀ prog w env k ρ l (.int a)) (hr : DV mg g₀ prog w env k ρ r (.int b)) (hc : cmpI op a b = some c) (hm : behindInMarks op r = false) : DV mg g₀ prog w env k ρ (.Compare l [op] [r] pos) (.bool c) :=
  EvV.cmp (EvV.det hl ⟨_, rfl, EvV.det hr ⟨_, rfl, _, hc, rfl, rfl⟩⟩) hm
theorem DT.cmp {l r : Expr} {op : CmpOp} {pos : Pos} {a b : Int} {c : Bool} (hl : DV mg g₀ prog w env k ρ l (.int a)) (hr : DV mg g₀ prog w env k ρ r (.int b)) (hc : cmpI op a b = some c) (hm : behindInMarks op r = false) : DT mg g₀ prog w env k ρ (.Compare l [op] [r] pos) c :=
  EvT.cmp (EvV.det hl ⟨_, rfl, EvV.det hr ⟨_, rfl, _, hc, rfl, rfl⟩⟩) hm
theorem DV.itemL {value slice : Expr} {pos : Pos} {xs : List V} {i : Int} {Z : V} (hv : DV mg g₀ prog w env k ρ value (.list xs)) (hi : DV mg g₀ prog w env k ρ slice (.int i)) (it : ItemAt xs i Z)
    (hs : ∀ o i u, subscripted slice false (.ref o) (.int i u) = operate [.ref o, .int i u] (getItem (.ref o) (.int i u))) : DV mg g₀ prog w env k ρ (.Subscript value slice pos) Z :=
  EvV.item (EvV.det hv ⟨_, .inl rfl, EvV.det hi ⟨_, _, rfl, it, rfl, rfl⟩⟩) hs
theorem DV.itemT {value slice : Expr} {pos : Pos} {xs : List V} {i : Int} {Z : V} (hv : DV mg g₀ prog w env k ρ value (.tup xs)) (hi : DV mg g₀ prog w env k ρ slice (.int i)) (it : ItemAt xs i Z)
    (hs : ∀ o i u, subscripted slice false (.ref o) (.int i u) = operate [.ref o, .int i u] (getItem (.ref o) (.int i u))) : DV mg g₀ prog w env k ρ (.Subscript value slice pos) Z :=
  EvV.item (EvV.det hv ⟨_, .inr rfl, EvV.det hi ⟨_, _, rfl, it, rfl, rfl⟩⟩) hs
theorem DV.itemOwn {x : Str} {p : Pos} {slice : Expr} {pos : Pos} {B : Bnd} {a : Addr} {xs : List V} {i : Int} {Z : V} (hm : (x, B) ∈ ρ) (hB : B.Own a xs) (hi : DV mg g₀ prog w env k ρ slice (.int i)) (it : ItemAt xs i Z)
    (hs : ∀ o i u, subscripted slice false (.ref o) (.int i u) = operate [.ref o, .int i u] (getItem (.ref o) (.int i u))) : DV mg g₀ prog w env k ρ (.Subscript (.Name x p) slice pos) Z :=
  EvV.itemOwn hB hm (EvV.det hi ⟨hm, _, _, rfl, it, rfl, rfl⟩) hs
theorem DV.lenN {p pos : Pos} {e : Expr} {l : List Nat} (G : Gl mg mb g₀ recs) (h : DV mg g₀ prog w env k ρ e (nats l)) (hl : l.length < 2 ^ 60) (hs : noStar e = true) (hx : env.kindOf "len" = some .globalImplicit) : DV mg g₀ prog w env k ρ (.Call (.Name "len" p) [e] [] pos) (.int (l.length : Int)) :=
  EvV.lenN G (EvV.det h ⟨_, rfl, hl, rfl, rfl⟩) hs hx
theorem DV.lenOwnN {x : Str} {p p' pos : Pos} {B : Bnd} {a : Addr} {l : List Nat} (G : Gl mg mb g₀ recs) (hm : (x, B) ∈ ρ) (hB : B.Own a (natsL l)) (hl : l.length < 2 ^ 60) (hx : env.kindOf "len" = some .globalImplicit) : DV mg g₀ prog w env k ρ (.Call (.Name "len" p) [.Name x p'] [] pos) (.int (l.length : Int)) :=
  EvV.lenOwnN G hB hm hl ⟨rfl, rfl⟩ hx
theorem DV.neg {x : Expr} {pos : Pos} {a : Int} (h : DV mg g₀ prog w env k ρ x (.int a)) : DV mg g₀ prog w env k ρ (.UnaryOp .USub x pos) (.int (-a)) := EvV.neg (EvV.det h ⟨_, rfl, rfl, rfl⟩)
theorem DV.tup {es : List Expr} {kd : Nat} {pos : Pos} {xs : List V} (h : DVs mg g₀ prog w env k ρ es xs) (hl : xs.length ≤ 100) : DV mg g₀ prog w env k ρ (.Tuple es kd pos) (.tup xs) := EvV.tup (EvVs.det h ⟨hl, rfl, rfl⟩)
theorem EvE.det {e : Expr} {X : V} {Q : Bnd → Row → Prop} (h : DV mg g₀ prog w env k ρ e X) (hq : Q (.val X) ρ) : EvE mg g₀ prog w env k e ρ Q := EvE.ofV (EvV.det h hq)
end
section
variable {a b k : Nat} {l : List Nat} {x y u : V} {xs : List V}
theorem BinV.addN : BinV .Add (a : Int) (b : Int) ((a + b : Nat) : Int) := by obtain ⟨c, h, rfl⟩ := up_addN (a := a) (b := b) (P := (· = ((a + b : Nat) : Int))) rfl; exact h
theorem BinV.subN (l : b ≤ a) : BinV .Sub (a : Int) (b : Int) ((a - b : Nat) : Int) := by obtain ⟨c, h, rfl⟩ := up_subN (P := (· = ((a - b : Nat) : Int))) l rfl; exact h
theorem BinV.mulN (l : a < 2 ^ 60) : BinV .Mult (a : Int) (b : Int) ((a * b : Nat) : Int) := by obtain ⟨c, h, rfl⟩ := up_mulN (b := b) (P := (· = ((a * b : Nat) : Int))) l rfl; exact h
theorem BinV.fdivN (h0 : 0 < b) (h1 : b < 2 ^ 29) : BinV .FloorDiv (a : Int) (b : Int) ((a / b : Nat) : Int) := by obtain ⟨c, h, rfl⟩ := up_fdivN (a := a) (P := (· = ((a / b : Nat) : Int))) h0 h1 rfl; exact h
theorem BinV.modN (h0 : 0 < b) : BinV .Mod (a : Int) (b : Int) ((a % b : Nat) : Int) := by obtain ⟨c, h, rfl⟩ := up_modN (a := a) (P := (· = ((a % b : Nat) : Int))) h0 rfl; exact h
theorem BinV.shl1 (h1 : b ≤ 1000000) : BinV .LShift ((1 : Nat) : Int) (b : Int) ((2 ^ b : Nat) : Int) := by obtain ⟨c, h, rfl⟩ := up_shl1 (P := (· = ((2 ^ b : Nat) : Int))) h1 rfl; exact h
theorem BinV.shlN (h1 : b ≤ 1000000) (h2 : a < 2 ^ 60) : BinV .LShift (a : Int) (b : Int) ((a * 2 ^ b : Nat) : Int) := by obtain ⟨c, h, rfl⟩ := up_shlN (P := (· = ((a * 2 ^ b : Nat) : Int))) h1 h2 rfl; exact h
theorem BinV.powN (h1 : b ≤ 1000000) (h2 : a < 2 ^ 60) : BinV .Pow (a : Int) (b : Int) ((a ^ b : Nat) : Int) := by obtain ⟨c, h, rfl⟩ := up_powN (P := (· = ((a ^ b : Nat) : Int))) h1 h2 rfl; exact h
theorem BinV.shrN : BinV .RShift (a : Int) (b : Int) ((a / 2 ^ b : Nat) : Int) := by obtain ⟨c, h, rfl⟩ := up_shrN (a := a) (b := b) (P := (· = ((a / 2 ^ b : Nat) : Int))) rfl; exact h
theorem BinV.maskN : BinV .BitAnd (a : Int) ((2 ^ k - 1 : Nat) : Int) ((a % 2 ^ k : Nat) : Int) := by obtain ⟨c, h, rfl⟩ := up_maskN (a := a) (k := k) (P := (· = ((a % 2 ^ k : Nat) : Int))) rfl; exact h
theorem BinV.borHi (l : b < 2 ^ k) : BinV .BitOr ((a * 2 ^ k : Nat) : Int) (b : Int) ((a * 2 ^ k + b : Nat) : Int) := by obtain ⟨c, h, rfl⟩ := up_borHi (a := a) (P := (· = ((a * 2 ^ k + b : Nat) : Int))) l rfl; exact h
theorem BinV.borLo (l : b < 2 ^ k) : BinV .BitOr (b : Int) ((a * 2 ^ k : Nat) : Int) ((b + a * 2 ^ k : Nat) : Int) := by obtain ⟨c, h, rfl⟩ := up_borLo (a := a) (P := (· = ((b + a * 2 ^ k : Nat) : Int))) l rfl; exact h
theorem cmpI.eqN : cmpI .Eq (a : Int) (b : Int) = some (decide (a = b)) := by obtain ⟨c, h, rfl⟩ := up_ceqN (a := a) (b := b) (P := (· = decide (a = b))) rfl; exact h
theorem cmpI.neN : cmpI .NotEq (a : Int) (b : Int) = some (decide (a ≠ b)) := by obtain ⟨c, h, rfl⟩ := up_cneN (a := a) (b := b) (P := (· = decide (a ≠ b))) rfl; exact h
theorem cmpI.ltN : cmpI .Lt (a : Int) (b : Int) = some (decide (a < b)) := by obtain ⟨c, h, rfl⟩ := up_cltN (a := a) (b := b) (P := (· = decide (a < b))) rfl; exact h
theorem cmpI.leN : cmpI .LtE (a : Int) (b : Int) = some (decide (a ≤ b)) := by obtain ⟨c, h, rfl⟩ := up_cleN (a := a) (b := b) (P := (· = decide (a ≤ b))) rfl; exact h
theorem cmpI.gtN : cmpI .Gt (a : Int) (b : Int) = some (decide (b < a)) := by obtain ⟨c, h, rfl⟩ := up_cgtN (a := a) (b := b) (P := (· = decide (b < a))) rfl; exact h
theorem cmpI.geN : cmpI .GtE (a : Int) (b : Int) = some (decide (b ≤ a)) := by obtain ⟨c, h, rfl⟩ := up_cgeN (a := a) (b := b) (P := (· = decide (b ≤ a))) rfl; exact h
theorem cmpI.eqI {a b : Int} : cmpI .Eq a b = some (a == b) := rfl
theorem cmpI.neI {a b : Int} : cmpI .NotEq a b = some (a != b) := rfl
theorem cmpI.ltI {a b : Int} : cmpI .Lt a b = some (decide (a < b)) := rfl
theorem cmpI.leI {a b : Int} : cmpI .LtE a b = some (decide (a ≤ b)) := rfl
theorem cmpI.gtI {a b : Int} : cmpI .Gt a b = some (decide (b < a)) := rfl
theorem cmpI.geI {a b : Int} : cmpI .GtE a b = some (decide (b ≤ a)) := rfl
theorem BinV.modI {a b : Int} (h0 : b ≠ 0) : BinV .Mod a b (a.fmod b) := .mod h0
theorem itemAt0 : ItemAt (x :: xs) ((0 : Nat) : Int) x := .inl ⟨by decide, by decide, rfl⟩
theorem itemAt1 : ItemAt (x :: y :: xs) ((1 : Nat) : Int) y := .inl ⟨by decide, by decide, rfl⟩
theorem itemAt2 : ItemAt (x :: y :: u :: xs) ((2 : Nat) : Int) u := .inl ⟨by decide, by decide, rfl⟩
theorem itemAtN (hj : a < l.length) (hl : l.length < 2 ^ 60) : ItemAt (natsL l) (a : Int) (.int (dg l a)) := by
  obtain ⟨_, _, h, it, rfl, rfl⟩ := up_atN (P := fun i Z => i = (a : Int) ∧ Z = .int (dg l a)) hj hl ⟨rfl, rfl⟩; exact it
theorem itemAtEnd (hj : 0 < l.length) (hl : l.length < 2 ^ 60) : ItemAt (natsL l) (-((1 : Nat) : Int)) (.int (dg l (l.length - 1))) := by
  obtain ⟨_, _, h, it, rfl, rfl⟩ := up_atEnd (P := fun i Z => i = (-((1 : Nat) : Int)) ∧ Z = .int (dg l (l.length - 1))) hj hl ⟨rfl, rfl⟩; exact it
end
section
variable {mg : Str → Option Value} {g₀ : Heap} {prog : Program} {w : World} {env : Env} {k : Nat} {ρ : Row}
/-- what is asked behind a loop's turn, given a name -/
theorem step_hide {t : Expr} {X : V} {body : List Stmt} {Q : Out → Row → Prop} (h : ∀ K : Out → Row → Prop, (∀ o ρ, Q o ρ → K o ρ) → AsX mg g₀ prog w env k t X ρ fun ρ3 => ExS mg g₀ prog w env k body ρ3 K) : AsX mg g₀ prog w env k t X ρ fun ρ3 => ExS mg g₀ prog w env k body ρ3 Q := h Q fun _ _ q => q
theorem ExS.hide {body : List Stmt} {Q : Out → Row → Prop} (h : ∀ K : Out → Row → Prop, (∀ o ρ, Q o ρ → K o ρ) → ExS mg g₀ prog w env k body ρ K) : ExS mg g₀ prog w env k body ρ Q := h Q fun _ _ q => q
end
end Mine
namespace Mine
open PySem PySem.Calls
section
variable {mg mb : Str → Option Value} {g₀ : Heap} {prog : Program} {w : World} {env : Env} {k : Nat} {ρ ρ' : Row} {rest : List Stmt} {Q : Out → Row → Prop}
/-- x = e, and on -/
theorem ExS.assignD {x : Str} {p pos : Pos} {value : Expr} {X : V} (h : DV mg g₀ prog w env k ρ value X) (u : Upd x (.val X) ρ ρ') (hs : swapsWith value (some (.Name x p)) pos.line env = pure false)
    (hq : ExS mg g₀ prog w env k rest ρ' Q) : ExS mg g₀ prog w env k (.Assign [.Name x p] value pos :: rest) ρ Q := ExS.cons (Ex1.assignV (EvV.det h ⟨_, u, hq⟩) hs)
theorem ExS.augD {x : Str} {p pos : Pos} {op : Operator} {value : Expr} {a b c : Int} (hm : (x, Bnd.val (.int a)) ∈ ρ) (h : DV mg g₀ prog w env k ρ value (.int b)) (hb : BinV op a b c) (u : Upd x (.val (.int c)) ρ ρ')
    (hq : ExS mg g₀ prog w env k rest ρ' Q) : ExS mg g₀ prog w env k (.AugAssign (.Name x p) op value pos :: rest) ρ Q := ExS.cons (Ex1.augV hm (EvV.det h ⟨_, rfl, _, hb, _, u, hq⟩))
theorem ExS.retD {e : Expr} {pos : Pos} {X : V} (h : DV mg g₀ prog w env k ρ e X) (hq : Q (.ret X) ρ) : ExS mg g₀ prog w env k (.Return (some e) pos :: rest) ρ Q := ExS.cons (Ex1.ret (EvV.det h hq))
theorem ExS.appendD {x : Str} {p apos pos pos' : Pos} {e : Expr} {d : Addr} {l : List Nat} {n : Nat} (hm : (x, Bnd.own d (natsL l)) ∈ ρ) (h : DV mg g₀ prog w env k ρ e (.int (n : Int))) (u : Upd x (.own d (natsL (l ++ [n]))) ρ ρ') (hsz : l.length ≤ 2 ^ 24)
    (hl : (apos.endLine == pos.line) = true) (hs : swapsWith (.Call (.Attribute (.Name x p) "append" apos) [e] [] pos) none pos'.line env = pure false) (hn : noStar e = true)
    (hq : ExS mg g₀ prog w env k rest ρ' Q) : ExS mg g₀ prog w env k (.Expr (.Call (.Attribute (.Name x p) "append" apos) [e] [] pos) pos' :: rest) ρ Q :=
  ExS.cons (Ex1.expr (EvV.append (Bnd.Own.own _ _) hm (by rw [natsL_length]; exact hsz) (EvV.det h ⟨hm, up_toON u ⟨rfl, hq⟩⟩) hn hl) hs)
theorem ExS.setD {x : Str} {p p' pos : Pos} {i value : Expr} {d : Addr} {l : List Nat} {a n : Nat} (hm : (x, Bnd.own d (natsL l)) ∈ ρ) (h : DV mg g₀ prog w env k ρ value (.int (n : Int))) (hi : DV mg g₀ prog w env k ρ i (.int (a : Int)))
    (u : Upd x (.own d (natsL (l.set a n))) ρ ρ') (h1 : a < l.length) (h2 : l.length < 2 ^ 60) (hs : swapsWith value (some (.Subscript (.Name x p) i p')) pos.line env = pure false)
    (hq : ExS mg g₀ prog w env k rest ρ' Q) : ExS mg g₀ prog w env k (.Assign [.Subscript (.Name x p) i p'] value pos :: rest) ρ Q :=
  ExS.cons (Ex1.setItemN hm (Bnd.Own.own _ _) (EvV.det h ⟨hm, EvV.det hi ⟨hm, up_setN h1 h2 (up_toSN u hq)⟩⟩) hs)
theorem ExS.setM {x : Str} {p p' pos : Pos} {i value : Expr} {d : Addr} {l : List Nat} {a n : Nat} (hm : (x, Bnd.mown d (natsL l)) ∈ ρ) (h : DV mg g₀ prog w env k ρ value (.int (n : Int))) (hi : DV mg g₀ prog w env k ρ i (.int (a : Int)))
    (u : Upd x (.mown d (natsL (l.set a n))) ρ ρ') (h1 : a < l.length) (h2 : l.length < 2 ^ 60) (hs : swapsWith value (some (.Subscript (.Name x p) i p')) pos.line env = pure false)
    (hq : ExS mg g₀ prog w env k rest ρ' Q) : ExS mg g₀ prog w env k (.Assign [.Subscript (.Name x p) i p'] value pos :: rest) ρ Q :=
  ExS.cons (Ex1.setItemN hm (Bnd.Own.mown _ _) (EvV.det h ⟨hm, EvV.det hi ⟨hm, up_setN h1 h2 (up_toSM u hq)⟩⟩) hs)
end
end Mine
namespace Mine
open PySem PySem.Calls
theorem elS_1_1 {β : Type} {α0 : Type} {R : α0 → β} {P0 : α0 → Prop} {G : Prop} {b : β} (h : ∃ x0, b = R x0 ∧ P0 x0) (k : ∀ x0, b = R x0 → P0 x0 → G) : G := by
  obtain ⟨x0, rfl, h0⟩ := h
  exact k x0 rfl h0
theorem elS_1_3 {β : Type} {α0 : Type} {R : α0 → β} {P0 : α0 → Prop} {P1 : α0 → Prop} {P2 : α0 → Prop} {G : Prop} {b : β} (h : ∃ x0, b = R x0 ∧ P0 x0 ∧ P1 x0 ∧ P2 x0) (k : ∀ x0, b = R x0 → P0 x0 → P1 x0 → P2 x0 → G) : G := by
  obtain ⟨x0, rfl, h0, h1, h2⟩ := h
  exact k x0 rfl h0 h1 h2
theorem elS_3_3 {β : Type} {α0 : Type} {α1 : Type} {α2 : Type} {R : α0 → α1 → α2 → β} {P0 : α0 → α1 → α2 → Prop} {P1 : α0 → α1 → α2 → Prop} {P2 : α0 → α1 → α2 → Prop} {G : Prop} {b : β} (h : ∃ x0 x1 x2, b = R x0 x1 x2 ∧ P0 x0 x1 x2 ∧ P1 x0 x1 x2 ∧ P2 x0 x1 x2) (k : ∀ x0 x1 x2, b = R x0 x1 x2 → P0 x0 x1 x2 → P1 x0 x1 x2 → P2 x0 x1 x2 → G) : G := by
  obtain ⟨x0, x1, x2, rfl, h0, h1, h2⟩ := h
  exact k x0 x1 x2 rfl h0 h1 h2
theorem elS_3_4 {β : Type} {α0 : Type} {α1 : Type} {α2 : Type} {R : α0 → α1 → α2 → β} {P0 : α0 → α1 → α2 → Prop} {P1 : α0 → α1 → α2 → Prop} {P2 : α0 → α1 → α2 → Prop} {P3 : α0 → α1 → α2 → Prop} {G : Prop} {b : β} (h : ∃ x0 x1 x2, b = R x0 x1 x2 ∧ P0 x0 x1 x2 ∧ P1 x0 x1 x2 ∧ P2 x0 x1 x2 ∧ P3 x0 x1 x2) (k : ∀ x0 x1 x2, b = R x0 x1 x2 → P0 x0 x1 x2 → P1 x0 x1 x2 → P2 x0 x1 x2 → P3 x0 x1 x2 → G) : G := by
  obtain ⟨x0, x1, x2, rfl, h0, h1, h2, h3⟩ := h
  exact k x0 x1 x2 rfl h0 h1 h2 h3
theorem elS_4_3 {β : Type} {α0 : Type} {α1 : Type} {α2 : Type} {α3 : Type} {R : α0 → α1 → α2 → α3 → β} {P0 : α0 → α1 → α2 → α3 → Prop} {P1 : α0 → α1 → α2 → α3 → Prop} {P2 : α0 → α1 → α2 → α3 → Prop} {G : Prop} {b : β} (h : ∃ x0 x1 x2 x3, b = R x0 x1 x2 x3 ∧ P0 x0 x1 x2 x3 ∧ P1 x0 x1 x2 x3 ∧ P2 x0 x1 x2 x3) (k : ∀ x0 x1 x2 x3, b = R x0 x1 x2 x3 → P0 x0 x1 x2 x3 → P1 x0 x1 x2 x3 → P2 x0 x1 x2 x3 → G) : G := by
  obtain ⟨x0, x1, x2, x3, rfl, h0, h1, h2⟩ := h
  exact k x0 x1 x2 x3 rfl h0 h1 h2
theorem elS_4_5 {β : Type} {α0 : Type} {α1 : Type} {α2 : Type} {α3 : Type} {R : α0 → α1 → α2 → α3 → β} {P0 : α0 → α1 → α2 → α3 → Prop} {P1 : α0 → α1 → α2 → α3 → Prop} {P2 : α0 → α1 → α2 → α3 → Prop} {P3 : α0 → α1 → α2 → α3 → Prop} {P4 : α0 → α1 → α2 → α3 → Prop} {G : Prop} {b : β} (h : ∃ x0 x1 x2 x3, b = R x0 x1 x2 x3 ∧ P0 x0 x1 x2 x3 ∧ P1 x0 x1 x2 x3 ∧ P2 x0 x1 x2 x3 ∧ P3 x0 x1 x2 x3 ∧ P4 x0 x1 x2 x3) (k : ∀ x0 x1 x2 x3, b = R x0 x1 x2 x3 → P0 x0 x1 x2 x3 → P1 x0 x1 x2 x3 → P2 x0 x1 x2 x3 → P3 x0 x1 x2 x3 → P4 x0 x1 x2 x3 → G) : G := by
  obtain ⟨x0, x1, x2, x3, rfl, h0, h1, h2, h3, h4⟩ := h
  exact k x0 x1 x2 x3 rfl h0 h1 h2 h3 h4
theorem elS_4_6 {β : Type} {α0 : Type} {α1 : Type} {α2 : Type} {α3 : Type} {R : α0 → α1 → α2 → α3 → β} {P0 : α0 → α1 → α2 → α3 → Prop} {P1 : α0 → α1 → α2 → α3 → Prop} {P2 : α0 → α1 → α2 → α3 → Prop} {P3 : α0 → α1 → α2 → α3 → Prop} {P4 : α0 → α1 → α2 → α3 → Prop} {P5 : α0 → α1 → α2 → α3 → Prop} {G : Prop} {b : β} (h : ∃ x0 x1 x2 x3, b = R x0 x1 x2 x3 ∧ P0 x0 x1 x2 x3 ∧ P1 x0 x1 x2 x3 ∧ P2 x0 x1 x2 x3 ∧ P3 x0 x1 x2 x3 ∧ P4 x0 x1 x2 x3 ∧ P5 x0 x1 x2 x3) (k : ∀ x0 x1 x2 x3, b = R x0 x1 x2 x3 → P0 x0 x1 x2 x3 → P1 x0 x1 x2 x3 → P2 x0 x1 x2 x3 → P3 x0 x1 x2 x3 → P4 x0 x1 x2 x3 → P5 x0 x1 x2 x3 → G) : G := by
  obtain ⟨x0, x1, x2, x3, rfl, h0, h1, h2, h3, h4, h5⟩ := h
  exact k x0 x1 x2 x3 rfl h0 h1 h2 h3 h4 h5
theorem elS_5_3 {β : Type} {α0 : Type} {α1 : Type} {α2 : Type} {α3 : Type} {α4 : Type} {R : α0 → α1 → α2 → α3 → α4 → β} {P0 : α0 → α1 → α2 → α3 → α4 → Prop} {P1 : α0 → α1 → α2 → α3 → α4 → Prop} {P2 : α0 → α1 → α2 → α3 → α4 → Prop} {G : Prop} {b : β} (h : ∃ x0 x1 x2 x3 x4, b = R x0 x1 x2 x3 x4 ∧ P0 x0 x1 x2 x3 x4 ∧ P1 x0 x1 x2 x3 x4 ∧ P2 x0 x1 x2 x3 x4) (k : ∀ x0 x1 x2 x3 x4, b = R x0 x1 x2 x3 x4 → P0 x0 x1 x2 x3 x4 → P1 x0 x1 x2 x3 x4 → P2 x0 x1 x2 x3 x4 → G) : G := by
  obtain ⟨x0, x1, x2, x3, x4, rfl, h0, h1, h2⟩ := h
  exact k x0 x1 x2 x3 x4 rfl h0 h1 h2
theorem elS_6_4 {β : Type} {α0 : Type} {α1 : Type} {α2 : Type} {α3 : Type} {α4 : Type} {α5 : Type} {R : α0 → α1 → α2 → α3 → α4 → α5 → β} {P0 : α0 → α1 → α2 → α3 → α4 → α5 → Prop} {P1 : α0 → α1 → α2 → α3 → α4 → α5 → Prop} {P2 : α0 → α1 → α2 → α3 → α4 → α5 → Prop} {P3 : α0 → α1 → α2 → α3 → α4 → α5 → Prop} {G : Prop} {b : β} (h : ∃ x0 x1 x2 x3 x4 x5, b = R x0 x1 x2 x3 x4 x5 ∧ P0 x0 x1 x2 x3 x4 x5 ∧ P1 x0 x1 x2 x3 x4 x5 ∧ P2 x0 x1 x2 x3 x4 x5 ∧ P3 x0 x1 x2 x3 x4 x5) (k : ∀ x0 x1 x2 x3 x4 x5, b = R x0 x1 x2 x3 x4 x5 → P0 x0 x1 x2 x3 x4 x5 → P1 x0 x1 x2 x3 x4 x5 → P2 x0 x1 x2 x3 x4 x5 → P3 x0 x1 x2 x3 x4 x5 → G) : G := by
  obtain ⟨x0, x1, x2, x3, x4, x5, rfl, h0, h1, h2, h3⟩ := h
  exact k x0 x1 x2 x3 x4 x5 rfl h0 h1 h2 h3
end Mine
namespace Mine
open PySem PySem.Calls
theorem el_1_3 {α0 : Type} {P0 : α0 → Prop} {P1 : α0 → Prop} {P2 : α0 → Prop} {G : Prop} (h : ∃ x0, P0 x0 ∧ P1 x0 ∧ P2 x0) (k : ∀ x0, P0 x0 → P1 x0 → P2 x0 → G) : G := by
  obtain ⟨x0, h0, h1, h2⟩ := h
  exact k x0 h0 h1 h2
theorem el_1_6 {α0 : Type} {P0 : α0 → Prop} {P1 : α0 → Prop} {P2 : α0 → Prop} {P3 : α0 → Prop} {P4 : α0 → Prop} {P5 : α0 → Prop} {G : Prop} (h : ∃ x0, P0 x0 ∧ P1 x0 ∧ P2 x0 ∧ P3 x0 ∧ P4 x0 ∧ P5 x0) (k : ∀ x0, P0 x0 → P1 x0 → P2 x0 → P3 x0 → P4 x0 → P5 x0 → G) : G := by
  obtain ⟨x0, h0, h1, h2, h3, h4, h5⟩ := h
  exact k x0 h0 h1 h2 h3 h4 h5
theorem el_1_8 {α0 : Type} {P0 : α0 → Prop} {P1 : α0 → Prop} {P2 : α0 → Prop} {P3 : α0 → Prop} {P4 : α0 → Prop} {P5 : α0 → Prop} {P6 : α0 → Prop} {P7 : α0 → Prop} {G : Prop} (h : ∃ x0, P0 x0 ∧ P1 x0 ∧ P2 x0 ∧ P3 x0 ∧ P4 x0 ∧ P5 x0 ∧ P6 x0 ∧ P7 x0) (k : ∀ x0, P0 x0 → P1 x0 → P2 x0 → P3 x0 → P4 x0 → P5 x0 → P6 x0 → P7 x0 → G) : G := by
  obtain ⟨x0, h0, h1, h2, h3, h4, h5, h6, h7⟩ := h
  exact k x0 h0 h1 h2 h3 h4 h5 h6 h7
theorem el_2_4 {α0 : Type} {α1 : Type} {P0 : α0 → α1 → Prop} {P1 : α0 → α1 → Prop} {P2 : α0 → α1 → Prop} {P3 : α0 → α1 → Prop} {G : Prop} (h : ∃ x0 x1, P0 x0 x1 ∧ P1 x0 x1 ∧ P2 x0 x1 ∧ P3 x0 x1) (k : ∀ x0 x1, P0 x0 x1 → P1 x0 x1 → P2 x0 x1 → P3 x0 x1 → G) : G := by
  obtain ⟨x0, x1, h0, h1, h2, h3⟩ := h
  exact k x0 x1 h0 h1 h2 h3
theorem el_2_5 {α0 : Type} {α1 : Type} {P0 : α0 → α1 → Prop} {P1 : α0 → α1 → Prop} {P2 : α0 → α1 → Prop} {P3 : α0 → α1 → Prop} {P4 : α0 → α1 → Prop} {G : Prop} (h : ∃ x0 x1, P0 x0 x1 ∧ P1 x0 x1 ∧ P2 x0 x1 ∧ P3 x0 x1 ∧ P4 x0 x1) (k : ∀ x0 x1, P0 x0 x1 → P1 x0 x1 → P2 x0 x1 → P3 x0 x1 → P4 x0 x1 → G) : G := by
  obtain ⟨x0, x1, h0, h1, h2, h3, h4⟩ := h
  exact k x0 x1 h0 h1 h2 h3 h4
theorem el_2_8 {α0 : Type} {α1 : Type} {P0 : α0 → α1 → Prop} {P1 : α0 → α1 → Prop} {P2 : α0 → α1 → Prop} {P3 : α0 → α1 → Prop} {P4 : α0 → α1 → Prop} {P5 : α0 → α1 → Prop} {P6 : α0 → α1 → Prop} {P7 : α0 → α1 → Prop} {G : Prop} (h : ∃ x0 x1, P0 x0 x1 ∧ P1 x0 x1 ∧ P2 x0 x1 ∧ P3 x0 x1 ∧ P4 x0 x1 ∧ P5 x0 x1 ∧ P6 x0 x1 ∧ P7 x0 x1) (k : ∀ x0 x1, P0 x0 x1 → P1 x0 x1 → P2 x0 x1 → P3 x0 x1 → P4 x0 x1 → P5 x0 x1 → P6 x0 x1 → P7 x0 x1 → G) : G := by
  obtain ⟨x0, x1, h0, h1, h2, h3, h4, h5, h6, h7⟩ := h
  exact k x0 x1 h0 h1 h2 h3 h4 h5 h6 h7
theorem el_9_3 {α0 : Type} {α1 : Type} {α2 : Type} {α3 : Type} {α4 : Type} {α5 : Type} {α6 : Type} {α7 : Type} {α8 : Type} {P0 : α0 → α1 → α2 → α3 → α4 → α5 → α6 → α7 → α8 → Prop} {P1 : α0 → α1 → α2 → α3 → α4 → α5 → α6 → α7 → α8 → Prop} {P2 : α0 → α1 → α2 → α3 → α4 → α5 → α6 → α7 → α8 → Prop} {G : Prop} (h : ∃ x0 x1 x2 x3 x4 x5 x6 x7 x8, P0 x0 x1 x2 x3 x4 x5 x6 x7 x8 ∧ P1 x0 x1 x2 x3 x4 x5 x6 x7 x8 ∧ P2 x0 x1 x2 x3 x4 x5 x6 x7 x8) (k : ∀ x0 x1 x2 x3 x4 x5 x6 x7 x8, P0 x0 x1 x2 x3 x4 x5 x6 x7 x8 → P1 x0 x1 x2 x3 x4 x5 x6 x7 x8 → P2 x0 x1 x2 x3 x4 x5 x6 x7 x8 → G) : G := by
  obtain ⟨x0, x1, x2, x3, x4, x5, x6, x7, x8, h0, h1, h2⟩ := h
  exact k x0 x1 x2 x3 x4 x5 x6 x7 x8 h0 h1 h2
theorem el_9_10 {α0 : Type} {α1 : Type} {α2 : Type} {α3 : Type} {α4 : Type} {α5 : Type} {α6 : Type} {α7 : Type} {α8 : Type} {P0 : α0 → α1 → α2 → α3 → α4 → α5 → α6 → α7 → α8 → Prop} {P1 : α0 → α1 → α2 → α3 → α4 → α5 → α6 → α7 → α8 → Prop} {P2 : α0 → α1 → α2 → α3 → α4 → α5 → α6 → α7 → α8 → Prop} {P3 : α0 → α1 → α2 → α3 → α4 → α5 → α6 → α7 → α8 → Prop} {P4 : α0 → α1 → α2 → α3 → α4 → α5 → α6 → α7 → α8 → Prop} {P5 : α0 → α1 → α2 → α3 → α4 → α5 → α6 → α7 → α8 → Prop} {P6 : α0 → α1 → α2 → α3 → α4 → α5 → α6 → α7 → α8 → Prop} {P7 : α0 → α1 → α2 → α3 → α4 → α5 → α6 → α7 → α8 → Prop} {P8 : α0 → α1 → α2 → α3 → α4 → α5 → α6 → α7 → α8 → Prop} {P9 : α0 → α1 → α2 → α3 → α4 → α5 → α6 → α7 → α8 → Prop} {G : Prop} (h : ∃ x0 x1 x2 x3 x4 x5 x6 x7 x8, P0 x0 x1 x2 x3 x4 x5 x6 x7 x8 ∧ P1 x0 x1 x2 x3 x4 x5 x6 x7 x8 ∧ P2 x0 x1 x2 x3 x4 x5 x6 x7 x8 ∧ P3 x0 x1 x2 x3 x4 x5 x6 x7 x8 ∧ P4 x0 x1 x2 x3 x4 x5 x6 x7 x8 ∧ P5 x0 x1 x2 x3 x4 x5 x6 x7 x8 ∧ P6 x0 x1 x2 x3 x4 x5 x6 x7 x8 ∧ P7 x0 x1 x2 x3 x4 x5 x6 x7 x8 ∧ P8 x0 x1 x2 x3 x4 x5 x6 x7 x8 ∧ P9 x0 x1 x2 x3 x4 x5 x6 x7 x8) (k : ∀ x0 x1 x2 x3 x4 x5 x6 x7 x8, P0 x0 x1 x2 x3 x4 x5 x6 x7 x8 → P1 x0 x1 x2 x3 x4 x5 x6 x7 x8 → P2 x0 x1 x2 x3 x4 x5 x6 x7 x8 → P3 x0 x1 x2 x3 x4 x5 x6 x7 x8 → P4 x0 x1 x2 x3 x4 x5 x6 x7 x8 → P5 x0 x1 x2 x3 x4 x5 x6 x7 x8 → P6 x0 x1 x2 x3 x4 x5 x6 x7 x8 → P7 x0 x1 x2 x3 x4 x5 x6 x7 x8 → P8 x0 x1 x2 x3 x4 x5 x6 x7 x8 → P9 x0 x1 x2 x3 x4 x5 x6 x7 x8 → G) : G := by
  obtain ⟨x0, x1, x2, x3, x4, x5, x6, x7, x8, h0, h1, h2, h3, h4, h5, h6, h7, h8, h9⟩ := h
  exact k x0 x1 x2 x3 x4 x5 x6 x7 x8 h0 h1 h2 h3 h4 h5 h6 h7 h8 h9
end Mine
namespace Mine
open PySem PySem.Calls
set_option hygiene false
-- lines of our own for the walk; they borrow names that the library keeps for such lines: k_memK (a name's binding), k_upd (its change), k_places (a size), cell_call (one step), got_up (a value's make), isplit (a statement), fin_run (as far as it goes)
local macro_rules | `(tactic| k_memK) => `(tactic| with_reducible first | exact List.mem_cons_self | (apply List.mem_cons_of_mem; k_memK))
local macro_rules | `(tactic| k_upd) => `(tactic| with_reducible first | exact Upd.here | (apply Upd.there; k_upd))
local macro_rules | `(tactic| k_places) => `(tactic| first | assumption | decide | (exact Nat.lt_of_le_of_lt (by assumption) (by decide)) | (exact Nat.le_trans (by assumption) (by decide)) | omega | ((simp only [List.length_append, List.length_cons, List.length_nil, List.length_replicate, List.length_set, List.length_take, List.length_drop, natsL_length]); omega))
local macro_rules | `(tactic| k_is_topread) => `(tactic| with_reducible first
  | (apply DV.name <;> k_is_topread)
  | apply DV.int0
  | apply DV.int1
  | apply DV.int2
  | apply DV.bool
  | (apply DV.bin <;> k_is_topread)
  | (apply DV.cmp <;> k_is_topread)
  | (apply DT.cmp <;> k_is_topread)
  | (apply DV.lenOwnN <;> k_is_topread)
  | (apply DV.lenN <;> k_is_topread)
  | (apply DV.itemOwn <;> k_is_topread)
  | (apply DV.itemL <;> k_is_topread)
  | (apply DV.itemT <;> k_is_topread)
  | (apply DV.neg <;> k_is_topread)
  | (apply DV.tup <;> k_is_topread)
  | (apply DVs.cons <;> k_is_topread)
  | apply DVs.nil
  | apply BinV.addN
  | (apply BinV.subN <;> k_is_topread)
  | (apply BinV.mulN <;> k_is_topread)
  | (apply BinV.fdivN <;> k_is_topread)
  | (apply BinV.modN <;> k_is_topread)
  | (apply BinV.shl1 <;> k_is_topread)
  | (apply BinV.shlN <;> k_is_topread)
  | (apply BinV.powN <;> k_is_topread)
  | apply BinV.shrN
  | apply BinV.maskN
  | (apply BinV.borHi <;> k_is_topread)
  | (apply BinV.borLo <;> k_is_topread)
  | apply cmpI.eqN
  | apply cmpI.neN
  | apply cmpI.ltN
  | apply cmpI.leN
  | apply cmpI.gtN
  | apply cmpI.geN
  | apply BinV.add
  | apply BinV.sub
  | apply cmpI.ltI
  | apply itemAt0
  | apply itemAt1
  | (apply itemAtN <;> k_is_topread)
  | (apply itemAtEnd <;> k_is_topread)
  | apply cmpI.geI
  | assumption
  | k_memK
  | apply Bnd.Own.own
  | apply Bnd.Own.mown
  | k_places
  | (with_unfolding_all exact rfl)
  | (intro _ _ _; with_unfolding_all rfl))
local macro_rules | `(tactic| got_up) => `(tactic| with_reducible first
  | (apply And.intro; case left => k_memK)
  | apply up_int
  | apply up_nat
  | apply up_list
  | apply up_addN
  | (apply up_subN; case l => k_places)
  | (apply up_mulN; case l => k_places)
  | (apply up_fdivN; (case h0 => k_places); (case h1 => k_places))
  | (apply up_modN; case h0 => k_places)
  | (apply up_shl1; case h1 => k_places)
  | (apply up_shlN; (case h1 => k_places); (case h2 => k_places))
  | (apply up_powN; (case h1 => k_places); (case h2 => k_places))
  | apply up_shrN
  | apply up_maskN
  | (apply up_borHi; case l => first | assumption | k_places)
  | (apply up_borLo; case l => first | assumption | k_places)
  | apply up_ceqN
  | apply up_cneN
  | apply up_cltN
  | apply up_cleN
  | apply up_cgtN
  | apply up_cgeN
  | apply up_sub
  | apply up_ceq
  | apply up_cne
  | apply up_clt
  | apply up_cgt
  | apply up_item
  | apply up_at0
  | apply up_at1
  | (apply up_atN; (case hj => k_places); (case hl => k_places))
  | (apply up_atEnd; (case hj => k_places); (case hl => k_places))
  | (apply up_upd; case u => k_upd)
  | (apply up_setN; (case h1 => k_places); (case h2 => k_places))
  | apply up_tup
  | apply up_bool
  | apply up_eqB
  | apply up_neB
  | apply up_itemT
  | (apply up_toON; case u => k_upd)
  | (apply up_toSN; case u => k_upd)
  | (apply up_toSM; case u => k_upd)
  | (apply up_toO; case u => k_upd)
  | (apply up_toM; case u => k_upd)
  | (apply And.intro; case left => exact rfl)
  | (apply And.intro; case left => k_places))
local macro_rules | `(tactic| cell_call) => `(tactic| with_reducible first
  | (apply EvV.det; case h => k_is_topread)
  | (apply EvT.det; case h => k_is_topread)
  | (apply EvVs.det; case h => k_is_topread)
  | (apply EvE.det; case h => k_is_topread)
  | (apply EvV.name; case hm => k_memK)
  | apply EvV.int0
  | apply EvV.int1
  | apply EvV.int2
  | apply EvV.int3
  | apply EvV.int4
  | apply EvV.int5
  | apply EvV.int7
  | apply EvV.int8
  | apply EvV.int9
  | apply EvV.int10
  | apply EvV.int11
  | apply EvV.int13
  | apply EvV.int16
  | apply EvV.int17
  | apply EvV.int19
  | apply EvV.int32
  | apply EvV.int99
  | apply EvV.int
  | apply EvV.bin
  | (apply EvT.cmp; case hm => with_unfolding_all rfl)
  | (apply EvV.cmp; case hm => with_unfolding_all rfl)
  | (apply EvV.sliceOwn; (case hm => k_memK); (case hB => first | apply Bnd.Own.own | apply Bnd.Own.mown); (case hl => k_places); (case ht => intro _ _; with_unfolding_all rfl))
  | (apply EvV.itemOwn; (case hm => k_memK); (case hB => first | apply Bnd.Own.own | apply Bnd.Own.mown); (case hs => intro _ _ _; with_unfolding_all rfl))
  | (apply EvV.sliceV; case ht => intro _ _; with_unfolding_all rfl)
  | (apply EvV.item; case hs => intro _ _ _; with_unfolding_all rfl)
  | (apply EvV.lenOwnN; (case G => assumption); (case hm => k_memK); (case hB => first | apply Bnd.Own.own | apply Bnd.Own.mown); (case hl => k_places); (case hx => with_unfolding_all rfl))
  | (apply EvV.lenN; (case G => assumption); (case hs => with_unfolding_all rfl); (case hx => with_unfolding_all rfl))
  | apply EvV.neg
  | (apply EvVs.cons; case hs => with_unfolding_all rfl)
  | apply EvVs.nil
  | (apply EvBs.cons; case hs => with_unfolding_all rfl)
  | apply EvBs.nil
  | (apply EvE.name; case hm => k_memK)
  | apply EvE.int0
  | apply EvE.int
  | (apply EvE.nilN; intro _)
  | apply EvE.list
  | apply EvE.repN0
  | apply EvV.tup
  | apply EvT.and2
  | apply EvT.or2
  | apply EvP.some
  | apply EvP.none
  | apply EvV.ife
  | apply EvV.not
  | apply EvV.and2
  | (apply EvV.nameOwn; (case hm => k_memK); (case u => k_upd))
  | (apply EvV.append; (case hm => k_memK); (case hB => first | apply Bnd.Own.own | apply Bnd.Own.mown); (case hsz => k_places); (case hs => with_unfolding_all rfl); (case hl => with_unfolding_all rfl))
  | apply EvV.bool
  | apply EvV.nilN
  | apply EvV.listV)
local macro_rules | `(tactic| isplit) => `(tactic| ((try with_reducible apply ExS.nil); with_reducible first
  | (apply ExS.assignD; (case h => k_is_topread); (case u => k_upd); (case hs => with_unfolding_all rfl))
  | (apply ExS.augD; (case hm => k_memK); (case h => k_is_topread); (case hb => k_is_topread); (case u => k_upd))
  | (apply ExS.appendD; (case hm => k_memK); (case h => k_is_topread); (case u => k_upd); (case hsz => k_places); (case hl => with_unfolding_all rfl); (case hs => with_unfolding_all rfl); (case hn => with_unfolding_all rfl))
  | (apply ExS.setD; (case hm => k_memK); (case h => k_is_topread); (case hi => k_is_topread); (case u => k_upd); (case h1 => k_places); (case h2 => k_places); (case hs => with_unfolding_all rfl))
  | (apply ExS.setM; (case hm => k_memK); (case h => k_is_topread); (case hi => k_is_topread); (case u => k_upd); (case h1 => k_places); (case h2 => k_places); (case hs => with_unfolding_all rfl))
  | (apply ExS.retD; case h => k_is_topread)
  | (apply ExS.cons; first
  | (apply Ex1.assignNil; (case hs => with_unfolding_all rfl); intro _)
  | (apply Ex1.assignL; (case hs => with_unfolding_all rfl))
  | (apply Ex1.assignRN; case hs => with_unfolding_all rfl)
  | (apply Ex1.assignV; case hs => with_unfolding_all rfl)
  | (apply Ex1.augV; case hm => k_memK)
  | apply Ex1.ite
  | apply Ex1.ret
  | (apply Ex1.setItemN; (case hm => k_memK); (case hB => first | apply Bnd.Own.own | apply Bnd.Own.mown); (case hs => with_unfolding_all rfl))
  | (apply Ex1.expr; case hs => with_unfolding_all rfl)
  | (apply Ex1.assignSwap; (case hw => with_unfolding_all rfl); (case hs => with_unfolding_all rfl)))))
local macro_rules | `(tactic| fin_run) => `(tactic| repeat (first | cell_call | got_up))
section
section
variable {mg mb : Str → Option Value} {g₀ : Heap} {prog : Program} {w : World}

theorem normal_list (G : Gl mg mb g₀ recs) {l : List Nat} (hl : l.length < 2 ^ 20) : Returns mg g₀ prog w "normal" 1 [nats l] (nats (nrm l)) := by
  refine Returns.intro (d := dAt 5) G mem_normal ok_normal rfl ?_
  intro L a cd
  conv in (dAt 5).body => whnf
  conv in (dAt 5).scope => whnf
  change ExS _ _ _ _ _ _ _ [("a", Bnd.val (nats l)), ("end", .un)] _
  ((try have kq1 : l.length < 2 ^ 60 := (nl (.leaf (l.length)) [(1, (.add (.var 0) (.num 1)), (.num (2 ^ 20)))] 1 (.add (.var 0) (.num 1)) (.num (2 ^ 60)) rfl hl)); isplit; all_goals (try clear kq1)); fin_run
  refine ExS.cons (Ex1.whileR (fun n ρ => n ≤ l.length ∧ ρ = ([("a", Bnd.val (nats l)), ("end", Bnd.val (.int n))] : Row) ∧ nrm (l.take n) = nrm l)
    (fun ρ => ∃ n : Nat, n ≤ l.length ∧ ρ = ([("a", Bnd.val (nats l)), ("end", Bnd.val (.int n))] : Row) ∧ nrm l = l.take n) l.length ⟨Nat.le_refl _, by simp, by simp⟩ ?_ ?_)
  · intro n _ hI1
    refine hideG fun gHid hHid => ?_
    obtain ⟨hn, rfl, hnrm⟩ := hI1
    refine hHid ?_; clear hHid gHid
    fin_run
    refine ifd (fun h0 => ?_) (fun h0 => ?_)
    · refine hideG fun gHid hHid => ?_
      obtain ⟨m, rfl⟩ : ∃ m, n = m + 1 := ⟨n - 1, by (exact (Nat.le_antisymm (nl (.branch 1 (.leaf n) (.leaf (n - 1))) [(1, (.var 0), (.add (.var 1) (.num 1)))] 1 (.var 0) (.add (.var 1) (.num 1)) rfl (nsa (n) (1))) (nl (.branch 1 (.leaf (n - 1)) (.leaf n)) [(1, (.add (.var 0) (.num 1)), (.var 1))] 1 (.add (.var 0) (.num 1)) (.var 1) rfl (nsb (nl (.leaf n) [(1, (.add (.num 0) (.num 1)), (.var 0))] 1 (.num 1) (.var 0) rfl h0)))))⟩
      refine hHid ?_; clear hHid gHid
      have hx : l[m]? = some (dg l m) := dg_get (by assumption)
      have ht : l.take (m + 1) = l.take m ++ [dg l m] := by rw [List.take_add_one, hx]; rfl
      ((try have kq1 : 1 ≤ m + 1 := (nl (.leaf m) [] 1 (.num 1) (.add (.var 0) (.num 1)) rfl)); (try have kq2 : m + 1 - 1 < l.length := (nl (.branch 1 (.leaf (m + 1 - 1)) (.branch 2 (.leaf (l.length)) (.leaf m))) [(1, (.add (.var 2) (.num 1)), (.var 1)), (1, (.add (.var 0) (.num 1)), (.add (.var 2) (.num 1)))] 1 (.add (.var 0) (.num 1)) (.var 1) rfl hn (nsb (nl (.leaf m) [] 1 (.num 1) (.add (.var 0) (.num 1)) rfl)))); (try have kq3 : l.length < 2 ^ 60 := (nl (.leaf (l.length)) [(1, (.add (.var 0) (.num 1)), (.num (2 ^ 20)))] 1 (.add (.var 0) (.num 1)) (.num (2 ^ 60)) rfl hl)); fin_run; all_goals (try clear kq1 kq2 kq3))
      rw [Nat.add_sub_cancel]
      refine ifd (fun h1 => ?_) (fun h1 => ?_)
      · isplit; fin_run
        refine ExS.nil ⟨m, by (exact Nat.le_refl _), by (exact Nat.le_of_lt (by assumption)), by rw [Nat.add_sub_cancel], ?_⟩
        rw [← hnrm, ht, h1, nrm_snoc_zero]
      · refine ⟨_, hn, rfl, ?_⟩
        rw [← hnrm, ht]; exact nrm_snoc h1
    · have : n = 0 := by (exact (Nat.le_antisymm (nl (.leaf n) [(1, (.var 0), (.num 0))] 1 (.var 0) (.num 0) rfl (Nat.le_of_not_lt h0)) (nl (.leaf n) [] 1 (.num 0) (.var 0) rfl)))
      subst this
      exact ⟨_, hn, rfl, hnrm.symm⟩
  · intro _ hI1
    refine el_1_3 hI1 ?_
    intro n hn hρ1 e
    clear hI1
    subst hρ1
    isplit; ((try have kq1 : l.length ≤ 2 ^ 24 := (nl (.leaf (l.length)) [(1, (.add (.var 0) (.num 1)), (.num (2 ^ 20)))] 1 (.var 0) (.num (2 ^ 24)) rfl hl)); fin_run; all_goals (try clear kq1))
    refine .inl ?_
    simp only [clipI, natsL_length, natsL_slice]
    rw [if_neg (by lia), e, Int.toNat_natCast, Nat.min_eq_left hn]
    rfl

theorem val_lt_of_top {B i : Nat} (hB : 0 < B) {l m : List Nat} {d e : Nat} (hl : Ds B l) (hd : l[i]? = some d) (he : m[i]? = some e) (hde : d < e) (hr : l.drop (i + 1) = m.drop (i + 1)) : val B l < val B m := by
  have h1 := (List.getElem?_eq_some_iff.mp hd).1
  have h2 := (List.getElem?_eq_some_iff.mp he).1
  rw [val_split B i l (by (exact Nat.le_of_lt (by assumption))), val_split B i m (by (exact Nat.le_of_lt (by assumption))), val_drop hd, val_drop he, hr]
  have h3 := val_lt hB (hl.take (i := i))
  rw [List.length_take, Nat.min_eq_left (by (exact Nat.le_of_lt (by assumption)))] at h3
  generalize val B (m.drop (i + 1)) = R
  have h4 : B ^ i * (d + 1 + B * R) ≤ B ^ i * (e + B * R) := Nat.mul_le_mul_left _ (by (exact (nl (.branch 1 (.leaf d) (.branch 2 (.leaf (B * R)) (.leaf e))) [(1, (.add (.var 0) (.num 1)), (.var 2))] 1 (.add (.add (.var 0) (.num 1)) (.var 1)) (.add (.var 2) (.var 1)) rfl hde)))
  have h5 : B ^ i * (d + 1 + B * R) = B ^ i * (d + B * R) + B ^ i := by grind
  (exact (nl (.branch 3 (.branch 1 (.leaf (val B (List.take i l))) (.branch 2 (.leaf (B ^ i * (d + B * R))) (.leaf (val B (List.take i m))))) (.branch 4 (.leaf (B ^ i * (e + B * R))) (.branch 5 (.leaf (B ^ i)) (.leaf (B ^ i * (d + 1 + B * R)))))) [(1, (.add (.var 0) (.num 1)), (.var 4)), (1, (.var 5), (.var 3)), (1, (.add (.var 1) (.var 4)), (.var 5))] 1 (.add (.add (.var 0) (.var 1)) (.num 1)) (.add (.var 2) (.var 3)) rfl h3 h4 (nge h5)))
theorem val_lt_of_len {B : Nat} (hB : 2 ≤ B) {x y : Nat} (h : (dig B x).length < (dig B y).length) : x < y := by
  have h1 := dig_lt hB x
  have hy : 0 < y := by
    rcases Nat.eq_zero_or_pos y with rfl | h
    · rw [dig_zero] at h; simp at h
    · exact h
  have h2 := dig_le hB hy
  have h3 : B ^ (dig B x).length ≤ B ^ ((dig B y).length - 1) := Nat.pow_le_pow_right (by (exact Nat.le_of_lt (by assumption))) (by (exact (nl (.branch 1 (.leaf ((dig B x).length)) (.branch 2 (.leaf ((dig B y).length - 1)) (.leaf ((dig B y).length)))) [(1, (.add (.var 0) (.num 1)), (.var 2)), (1, (.var 2), (.add (.var 1) (.num 1)))] 1 (.var 0) (.var 1) rfl h (nsa ((dig B y).length) (1)))))
  (exact (nl (.branch 2 (.branch 1 (.leaf x) (.leaf y)) (.branch 3 (.leaf (B ^ (dig B x).length)) (.leaf (B ^ ((dig B y).length - 1))))) [(1, (.add (.var 0) (.num 1)), (.var 2)), (1, (.var 3), (.var 1)), (1, (.var 2), (.var 3))] 1 (.add (.var 0) (.num 1)) (.var 1) rfl h1 h2 h3))
theorem compare_num (G : Gl mg mb g₀ recs) {v x y : Nat} (hv : 0 < v) (hx : x < big) (hy : y < big) : Returns mg g₀ prog w "compare" 1 [num v x, num v y] (.int (if x < y then -1 else if x = y then 0 else 1)) := by
  have hB := two_le hv
  have lx := len_big hv hx
  have ly := len_big hv hy
  have lxy := @val_lt_of_len (2 ^ v) hB x y
  have lyx := @val_lt_of_len (2 ^ v) hB y x
  have vx := dig_val hB x
  have vy := dig_val hB y
  have dx := dig_Ds hB x
  have dy := dig_Ds hB y
  unfold num
  generalize dig (2 ^ v) x = A at *
  generalize dig (2 ^ v) y = C at *
  refine Returns.intro (d := dAt 6) G mem_compare ok_compare rfl ?_
  intro L a cd
  conv in (dAt 6).body => whnf
  conv in (dAt 6).scope => whnf
  change ExS _ _ _ _ _ _ _ [("a", Bnd.val (nats A)), ("b", Bnd.val (nats C)), ("at", .un)] _
  isplit; fin_run
  refine ifd (fun h => ?_) (fun h => ?_)
  · isplit; fin_run
    refine ifd (fun h1 => ?_) (fun h1 => ?_)
    · fin_run
      rw [if_pos (lxy (by omega))]
      exact .inl rfl
    · fin_run
      have := lyx (by lia)
      rw [if_neg (by lia), if_neg (by (exact Nat.ne_of_gt (by assumption)))]
      exact .inl rfl
  · have hl : A.length = C.length := by (clear lyx lxy dy vy ly dx vx lx hB hy hx hv G; lia)
    refine ExS.nil (ExS.cons (Ex1.for (EvI.down G ?_)))
    fin_run
    refine ⟨fun i ρ => ∃ B, ρ = ([("a", Bnd.val (nats A)), ("b", Bnd.val (nats C)), ("at", B)] : Row) ∧ A.drop (A.length - i) = C.drop (A.length - i), ⟨_, rfl, by simp [hl]⟩, ?_, ?_⟩
    · intro i X ρ2 hX hI1
      refine elS_1_1 hI1 ?_
      intro B hρ hd
      clear hI1
      subst hρ
      refine hideG fun gHid hHid => ?_
      obtain ⟨hi, rfl⟩ := rngD_get hX
      refine hHid ?_; clear hHid gHid
      refine hideG fun gHid hHid => ?_
      obtain ⟨j, hj⟩ : ∃ j, A.length = i + 1 + j := ⟨A.length - (i + 1), by (exact (Nat.le_antisymm (nl (.branch 1 (.leaf (A.length)) (.branch 2 (.leaf i) (.leaf (A.length - (i + 1))))) [(1, (.var 0), (.add (.var 2) (.add (.var 1) (.num 1))))] 1 (.var 0) (.add (.add (.var 1) (.num 1)) (.var 2)) rfl (nsa (A.length) (i + 1))) (nl (.branch 1 (.leaf i) (.branch 2 (.leaf (A.length - (i + 1))) (.leaf (A.length)))) [(1, (.add (.var 1) (.add (.var 0) (.num 1))), (.var 2))] 1 (.add (.add (.var 0) (.num 1)) (.var 1)) (.var 2) rfl (nsb (nl (.branch 1 (.leaf i) (.leaf (A.length))) [(1, (.add (.var 0) (.num 1)), (.var 1))] 1 (.add (.var 0) (.num 1)) (.var 1) rfl hi)))))⟩
      refine hHid ?_; clear hHid gHid
      have ej : A.length - 1 - i = j := by (exact (Nat.le_antisymm (nl (.branch 2 (.branch 1 (.leaf (A.length - 1 - i)) (.leaf j)) (.branch 3 (.leaf (A.length)) (.branch 4 (.leaf i) (.leaf (A.length - 1))))) [(1, (.var 2), (.add (.add (.var 3) (.num 1)) (.var 1))), (1, (.add (.var 0) (.var 3)), (.var 4)), (1, (.add (.var 4) (.num 1)), (.var 2))] 1 (.var 0) (.var 1) rfl (Nat.le_of_eq hj) (nsb (nl (.branch 2 (.branch 1 (.leaf j) (.leaf (A.length))) (.branch 3 (.leaf i) (.leaf (A.length - 1)))) [(1, (.add (.add (.var 2) (.num 1)) (.var 0)), (.var 1)), (1, (.var 1), (.add (.var 3) (.num 1)))] 1 (.var 2) (.var 3) rfl (nge hj) (nsa (A.length) (1)))) (nsb (nl (.branch 1 (.leaf j) (.branch 2 (.leaf (A.length)) (.leaf i))) [(1, (.add (.add (.var 2) (.num 1)) (.var 0)), (.var 1))] 1 (.num 1) (.var 1) rfl (nge hj)))) (nl (.branch 2 (.branch 1 (.leaf j) (.leaf (A.length - 1 - i))) (.branch 3 (.leaf (A.length)) (.branch 4 (.leaf i) (.leaf (A.length - 1))))) [(1, (.add (.add (.var 3) (.num 1)) (.var 0)), (.var 2)), (1, (.var 4), (.add (.var 1) (.var 3))), (1, (.var 2), (.add (.var 4) (.num 1)))] 1 (.var 0) (.var 1) rfl (nge hj) (nsa (A.length - 1) (i)) (nsa (A.length) (1)))))
      have e1 : A.length - i = j + 1 := by (exact (Nat.le_antisymm (nl (.branch 2 (.branch 1 (.leaf (A.length - i)) (.leaf j)) (.branch 3 (.leaf (A.length)) (.leaf i))) [(1, (.var 2), (.add (.add (.var 3) (.num 1)) (.var 1))), (1, (.add (.var 0) (.var 3)), (.var 2))] 1 (.var 0) (.add (.var 1) (.num 1)) rfl (Nat.le_of_eq hj) (nsb (nl (.branch 1 (.leaf j) (.branch 2 (.leaf (A.length)) (.leaf i))) [(1, (.add (.add (.var 2) (.num 1)) (.var 0)), (.var 1))] 1 (.var 2) (.var 1) rfl (nge hj)))) (nl (.branch 2 (.branch 1 (.leaf j) (.leaf (A.length - i))) (.branch 3 (.leaf (A.length)) (.leaf i))) [(1, (.add (.add (.var 3) (.num 1)) (.var 0)), (.var 2)), (1, (.var 2), (.add (.var 1) (.var 3)))] 1 (.add (.var 0) (.num 1)) (.var 1) rfl (nge hj) (nsa (A.length) (i)))))
      rw [ej]
      rw [e1] at hd
      refine AsX.name (by k_upd) ?_
      isplit; ((try have kq1 : j < A.length := (nl (.branch 1 (.leaf j) (.branch 2 (.leaf (A.length)) (.leaf i))) [(1, (.add (.add (.var 2) (.num 1)) (.var 0)), (.var 1))] 1 (.add (.var 0) (.num 1)) (.var 1) rfl (nge hj))); fin_run; all_goals (try clear kq1))
      refine ifd (fun h2 => ?_) (fun h2 => ?_)
      · isplit; fin_run
        refine ifd (fun h3 => ?_) (fun h3 => ?_)
        · fin_run
          have := val_lt_of_top (by (exact Nat.le_of_lt (by assumption)) : 0 < 2 ^ v) dx (dg_get (by omega)) (dg_get (by omega)) h3 hd
          rw [if_pos (by (exact (nl (.branch 2 (.branch 1 (.leaf x) (.leaf y)) (.branch 3 (.leaf (val (2 ^ v) A)) (.leaf (val (2 ^ v) C)))) [(1, (.var 0), (.var 2)), (1, (.var 3), (.var 1)), (1, (.add (.var 2) (.num 1)), (.var 3))] 1 (.add (.var 0) (.num 1)) (.var 1) rfl (nge vx) (Nat.le_of_eq vy) this)))]
          exact .inl rfl
        · fin_run
          have := val_lt_of_top (by (exact Nat.le_of_lt (by assumption)) : 0 < 2 ^ v) dy (dg_get (by omega)) (dg_get (by omega)) (by lia : dg C j < dg A j) hd.symm
          rw [if_neg (by (exact (Nat.not_lt_of_le (nl (.branch 2 (.branch 1 (.leaf y) (.leaf x)) (.branch 3 (.leaf (val (2 ^ v) A)) (.leaf (val (2 ^ v) C)))) [(1, (.var 2), (.var 1)), (1, (.var 0), (.var 3)), (1, (.add (.var 3) (.num 1)), (.var 2))] 1 (.var 0) (.var 1) rfl (Nat.le_of_eq vx) (nge vy) this)))), if_neg (by (exact (Nat.ne_of_gt (nl (.branch 2 (.branch 1 (.leaf y) (.leaf x)) (.branch 3 (.leaf (val (2 ^ v) A)) (.leaf (val (2 ^ v) C)))) [(1, (.var 2), (.var 1)), (1, (.var 0), (.var 3)), (1, (.add (.var 3) (.num 1)), (.var 2))] 1 (.add (.var 0) (.num 1)) (.var 1) rfl (Nat.le_of_eq vx) (nge vy) this))))]
          exact .inl rfl
      · refine ExS.nil (ExS.nil ⟨_, rfl, ?_⟩)
        have e2 : A.length - (i + 1) = j := by lia
        rw [e2, drop_dg (by omega), drop_dg (by omega : j < C.length), hd, Classical.not_not.mp h2]
    · intro ρ2 hI1
      refine elS_1_1 hI1 ?_
      intro B hρ hd
      clear hI1
      subst hρ
      rw [rngD_length, Nat.sub_self] at hd
      isplit; fin_run
      simp only [List.drop_zero] at hd
      have : x = y := by rw [← vx, ← vy, hd]
      rw [if_neg (by (exact (Nat.not_lt_of_le (nl (.branch 1 (.leaf y) (.leaf x)) [(1, (.var 0), (.var 1))] 1 (.var 0) (.var 1) rfl (nge this))))), if_pos this]
      exact .inl rfl
end
end
section
section
variable {mg mb : Str → Option Value} {g₀ : Heap} {prog : Program} {w : World}

theorem add_num (G : Gl mg mb g₀ recs) {v x y : Nat} (hv : 0 < v) (hv' : v ≤ 10) (hx : x < big) (hy : y < big) : Returns mg g₀ prog w "add" 1 [num v x, num v y, .int (v : Int)] (num v (x + y)) := by
  have hB := two_le hv
  have lx := len_big hv hx
  have ly := len_big hv hy
  have vx := dig_val hB x
  have vy := dig_val hB y
  have dx := dig_Ds hB x
  have dy := dig_Ds hB y
  have tx := @dig_top (2 ^ v) x hB
  have ty := @dig_top (2 ^ v) y hB
  rw [show num v x = nats (dig (2 ^ v) x) from rfl, show num v y = nats (dig (2 ^ v) y) from rfl]
  generalize dig (2 ^ v) x = A at *
  generalize dig (2 ^ v) y = C at *
  refine Returns.intro (d := dAt 7) G mem_add ok_add rfl ?_
  intro L a cd
  conv in (dAt 7).body => whnf
  conv in (dAt 7).scope => whnf
  change ExS _ _ _ _ _ _ _ [("a", Bnd.val (nats A)), ("b", Bnd.val (nats C)), ("w", Bnd.val (.int (v : Int))), ("found", .un), ("carry", .un), ("mask", .un), ("at", .un)] _
  refine ExS.cons (Ex1.mono (Q := fun o ρ1 => o = .next ∧ ∃ A C : List Nat, ρ1 = ([("a", Bnd.val (nats A)), ("b", Bnd.val (nats C)), ("w", Bnd.val (.int (v : Int))), ("found", .un), ("carry", .un), ("mask", .un), ("at", .un)] : Row) ∧
    C.length ≤ A.length ∧ A.length ≤ 1000 ∧ Ds (2 ^ v) A ∧ Ds (2 ^ v) C ∧ val (2 ^ v) A + val (2 ^ v) C = x + y ∧ (A = [] ∨ (2 ^ v) ^ (A.length - 1) ≤ val (2 ^ v) A)) ?_ ?_)
  · apply Ex1.ite; fin_run
    refine ifd (fun h => ?_) (fun h => ?_)
    · isplit; fin_run
      refine ⟨rfl, by simp, _, .cons (by k_upd) (.cons (by k_upd) .nil), ?_⟩
      exact ExS.nil ⟨rfl, C, A, rfl, by (exact Nat.le_of_lt (by assumption)), ly, dy, dx, by (exact (Nat.le_antisymm (nl (.branch 2 (.branch 1 (.leaf (val (2 ^ v) C)) (.leaf (val (2 ^ v) A))) (.branch 3 (.leaf x) (.leaf y))) [(1, (.var 1), (.var 2)), (1, (.var 0), (.var 3))] 1 (.add (.var 0) (.var 1)) (.add (.var 2) (.var 3)) rfl (Nat.le_of_eq vx) (Nat.le_of_eq vy)) (nl (.branch 2 (.branch 1 (.leaf x) (.leaf y)) (.branch 3 (.leaf (val (2 ^ v) C)) (.leaf (val (2 ^ v) A)))) [(1, (.var 0), (.var 3)), (1, (.var 1), (.var 2))] 1 (.add (.var 0) (.var 1)) (.add (.var 2) (.var 3)) rfl (nge vx) (nge vy)))), by rw [vy]; exact ty⟩
    · exact ExS.nil ⟨rfl, A, C, rfl, by (exact Nat.le_of_not_lt (by assumption)), lx, dx, dy, by (exact (Nat.le_antisymm (nl (.branch 2 (.branch 1 (.leaf (val (2 ^ v) A)) (.leaf (val (2 ^ v) C))) (.branch 3 (.leaf x) (.leaf y))) [(1, (.var 0), (.var 2)), (1, (.var 1), (.var 3))] 1 (.add (.var 0) (.var 1)) (.add (.var 2) (.var 3)) rfl (Nat.le_of_eq vx) (Nat.le_of_eq vy)) (nl (.branch 2 (.branch 1 (.leaf x) (.leaf y)) (.branch 3 (.leaf (val (2 ^ v) A)) (.leaf (val (2 ^ v) C)))) [(1, (.var 0), (.var 2)), (1, (.var 1), (.var 3))] 1 (.add (.var 0) (.var 1)) (.add (.var 2) (.var 3)) rfl (nge vx) (nge vy)))), by rw [vx]; exact tx⟩
  intro o ρ1 hI1
  refine hideG fun gHid hHid => ?_
  obtain ⟨rfl, A, C, rfl, hl, lA, dA, dC, hs, hA⟩ := hI1
  refine hHid ?_; clear hHid gHid
  isplit; ((try have kq1 : 1 ≤ 2 ^ v := (nl (.leaf (2 ^ v)) [(1, (.num 2), (.var 0))] 1 (.num 1) (.var 0) rfl hB)); fin_run; all_goals (try clear kq1))
  refine ⟨rfl, by simp, _, .cons (by k_upd) (.cons (by k_upd) (.cons (by k_upd) .nil)), ?_⟩
  rename_i d
  refine ExS.cons (Ex1.for (EvI.up1 G ?_))
  ((try have kq1 : C.length < 2 ^ 60 := (nl (.branch 1 (.leaf (C.length)) (.leaf (A.length))) [(1, (.var 0), (.var 1)), (1, (.var 1), (.num 1000))] 1 (.add (.var 0) (.num 1)) (.num (2 ^ 60)) rfl hl lA)); fin_run; all_goals (try clear kq1))
  refine ⟨fun i ρ => ∃ (f : List Nat) (c : Nat) (B : Bnd), ρ = ([("a", Bnd.val (nats A)), ("b", Bnd.val (nats C)), ("w", Bnd.val (.int (v : Int))), ("found", .own d (natsL f)), ("carry", .val (.int (c : Int))), ("mask", .val (.int ((2 ^ v - 1 : Nat) : Int))), ("at", B)] : Row) ∧
    f.length = i ∧ Ds (2 ^ v) f ∧ c ≤ 1 ∧ val (2 ^ v) f + (2 ^ v) ^ i * c = val (2 ^ v) (A.take i) + val (2 ^ v) (C.take i), ⟨[], 0, _, rfl, rfl, Ds.nil, by decide, by simp [val]⟩, ?_, ?_⟩
  · intro i X ρ2 hX hI1
    refine step_hide fun K hK => ?_
    refine elS_3_4 hI1 ?_
    intro f c B hρ hf df hc he
    clear hI1
    subst hρ
    refine hideG fun gHid hHid => ?_
    obtain ⟨hi, rfl⟩ := rngN_get hX
    refine hHid ?_; clear hHid gHid
    rw [Nat.zero_add]
    refine AsX.name (by k_upd) ?_
    ((try have kq1 : i < A.length := (nl (.branch 1 (.leaf i) (.branch 2 (.leaf (A.length)) (.leaf (C.length)))) [(1, (.var 2), (.var 1)), (1, (.add (.var 0) (.num 1)), (.var 2))] 1 (.add (.var 0) (.num 1)) (.var 1) rfl hl hi)); (try have kq2 : C.length < 2 ^ 60 := (nl (.branch 1 (.leaf (C.length)) (.leaf (A.length))) [(1, (.var 0), (.var 1)), (1, (.var 1), (.num 1000))] 1 (.add (.var 0) (.num 1)) (.num (2 ^ 60)) rfl hl lA)); isplit; all_goals (try clear kq1 kq2)); fin_run
    ((try have kq1 : f.length ≤ 2 ^ 24 := (nl (.branch 2 (.branch 1 (.leaf (f.length)) (.leaf (C.length))) (.branch 3 (.leaf (A.length)) (.leaf i))) [(1, (.var 1), (.var 2)), (1, (.var 2), (.num 1000)), (1, (.var 0), (.var 3)), (1, (.add (.var 3) (.num 1)), (.var 1))] 1 (.var 0) (.num (2 ^ 24)) rfl hl lA (Nat.le_of_eq hf) hi)); isplit; all_goals (try clear kq1)); fin_run
    isplit; fin_run
    have h1 := dA.dg (j := i) (by (exact Nat.le_of_lt (by assumption)))
    have h2 := dC.dg (j := i) (by (exact Nat.le_of_lt (by assumption)))
    refine ExS.nil (hK _ _ ⟨_, _, _, rfl, by simp [hf], df.push (by (exact Nat.le_of_lt (by assumption))), ?_, ?_⟩)
    · have : (c + (dg A i + dg C i)) / 2 ^ v < 2 := Nat.div_lt_of_lt_mul (by (exact (nl (.branch 2 (.branch 1 (.leaf c) (.leaf (dg A i))) (.branch 3 (.leaf (dg C i)) (.leaf (2 ^ v)))) [(1, (.var 0), (.num 1)), (1, (.add (.var 1) (.num 1)), (.var 3)), (1, (.add (.var 2) (.num 1)), (.var 3))] 1 (.add (.add (.var 0) (.add (.var 1) (.var 2))) (.num 1)) (.mulR (.var 3) 2) rfl hc h1 h2)))
      (exact (nl (.leaf ((c + (dg A i + dg C i)) / 2 ^ v)) [(1, (.add (.var 0) (.num 1)), (.num 2))] 1 (.var 0) (.num 1) rfl this))
    · have h3 := @val_push (2 ^ v) (c + (dg A i + dg C i)) f
      rw [hf] at h3
      rw [h3, val_take_dg (by (exact Nat.lt_of_lt_of_le (by assumption) (by assumption)) : i < A.length), val_take_dg hi]
      grind
  · intro ρ2 hI1
    refine elS_3_4 hI1 ?_
    intro f c B hρ hf df hc he
    clear hI1
    subst hρ
    rw [rngN_length] at hf he
    refine ExS.cons (Ex1.for (EvI.up2 G ?_))
    ((try have kq1 : C.length < 2 ^ 60 := (nl (.branch 1 (.leaf (C.length)) (.leaf (A.length))) [(1, (.var 0), (.var 1)), (1, (.var 1), (.num 1000))] 1 (.add (.var 0) (.num 1)) (.num (2 ^ 60)) rfl hl lA)); fin_run; all_goals (try clear kq1))
    refine ⟨fun i ρ => ∃ (f : List Nat) (c : Nat) (B : Bnd), ρ = ([("a", Bnd.val (nats A)), ("b", Bnd.val (nats C)), ("w", Bnd.val (.int (v : Int))), ("found", .own d (natsL f)), ("carry", .val (.int (c : Int))), ("mask", .val (.int ((2 ^ v - 1 : Nat) : Int))), ("at", B)] : Row) ∧
      f.length = C.length + i ∧ Ds (2 ^ v) f ∧ c ≤ 1 ∧ val (2 ^ v) f + (2 ^ v) ^ f.length * c = val (2 ^ v) (A.take (C.length + i)) + val (2 ^ v) C, ⟨_, _, _, rfl, hf, df, hc, ?_⟩, ?_, ?_⟩
    · rw [hf, he, Nat.add_zero, List.take_length]
    · intro i X ρ2 hX hI1
      refine step_hide fun K hK => ?_
      refine elS_3_4 hI1 ?_
      intro f c B hρ hf df hc he
      clear hI1
      subst hρ
      refine hideG fun gHid hHid => ?_
      obtain ⟨hi, rfl⟩ := rngN_get hX
      refine hHid ?_; clear hHid gHid
      refine AsX.name (by k_upd) ?_
      ((try have kq1 : C.length + i < A.length := (nl (.branch 2 (.branch 1 (.leaf (C.length)) (.leaf i)) (.branch 3 (.leaf (A.length)) (.leaf (A.length - C.length)))) [(1, (.add (.var 1) (.num 1)), (.var 3)), (1, (.add (.var 3) (.var 0)), (.var 2))] 1 (.add (.add (.var 0) (.var 1)) (.num 1)) (.var 2) rfl hi (nsc (nl (.branch 1 (.leaf i) (.leaf (A.length - C.length))) [(1, (.add (.var 0) (.num 1)), (.var 1))] 1 (.add (.num 0) (.num 1)) (.var 1) rfl hi)))); isplit; all_goals (try clear kq1)); fin_run
      ((try have kq1 : f.length ≤ 2 ^ 24 := (nl (.branch 2 (.branch 1 (.leaf (f.length)) (.leaf (A.length))) (.branch 3 (.leaf (C.length)) (.branch 4 (.leaf i) (.leaf (A.length - C.length))))) [(1, (.var 1), (.num 1000)), (1, (.var 0), (.add (.var 2) (.var 3))), (1, (.add (.var 3) (.num 1)), (.var 4)), (1, (.add (.var 4) (.var 2)), (.var 1))] 1 (.var 0) (.num (2 ^ 24)) rfl lA (Nat.le_of_eq hf) hi (nsc (nl (.branch 1 (.leaf i) (.leaf (A.length - C.length))) [(1, (.add (.var 0) (.num 1)), (.var 1))] 1 (.add (.num 0) (.num 1)) (.var 1) rfl hi)))); isplit; all_goals (try clear kq1)); fin_run
      isplit; fin_run
      have h1 := dA.dg (j := C.length + i) (by (exact Nat.le_of_lt (by assumption)))
      refine ExS.nil (hK _ _ ⟨_, _, _, rfl, by simp [hf]; rfl, df.push (by (exact Nat.le_of_lt (by assumption))), ?_, ?_⟩)
      · have : (c + dg A (C.length + i)) / 2 ^ v < 2 := Nat.div_lt_of_lt_mul (by (exact (nl (.branch 1 (.leaf c) (.branch 2 (.leaf (dg A (C.length + i))) (.leaf (2 ^ v)))) [(1, (.var 0), (.num 1)), (2, (.add (.var 1) (.num 1)), (.var 2))] 1 (.add (.add (.var 0) (.var 1)) (.num 1)) (.mulR (.var 2) 2) rfl hc h1)))
        (exact (nl (.leaf ((c + dg A (C.length + i)) / 2 ^ v)) [(1, (.add (.var 0) (.num 1)), (.num 2))] 1 (.var 0) (.num 1) rfl this))
      · have h3 := @val_push (2 ^ v) (c + dg A (C.length + i)) f
        rw [List.length_append, List.length_singleton, h3, ← Nat.add_assoc, val_take_dg (by omega : C.length + i < A.length), ← hf]
        rw [hf] at he ⊢
        grind
    · intro ρ2 hI1
      refine elS_3_4 hI1 ?_
      intro f c B hρ hf df hc he
      clear hI1
      subst hρ
      rw [rngN_length] at hf he
      have hf' : f.length = A.length := by (exact (Nat.le_antisymm (nl (.branch 2 (.branch 1 (.leaf (f.length)) (.leaf (A.length))) (.branch 3 (.leaf (C.length)) (.leaf (A.length - C.length)))) [(1, (.var 0), (.add (.var 2) (.var 3))), (1, (.add (.var 3) (.var 2)), (.var 1))] 1 (.var 0) (.var 1) rfl (Nat.le_of_eq hf) (nsb (nl (.branch 1 (.leaf (A.length)) (.leaf (C.length))) [(1, (.var 1), (.var 0))] 1 (.var 1) (.var 0) rfl hl))) (nl (.branch 2 (.branch 1 (.leaf (A.length)) (.leaf (f.length))) (.branch 3 (.leaf (C.length)) (.leaf (A.length - C.length)))) [(1, (.add (.var 2) (.var 3)), (.var 1)), (1, (.var 0), (.add (.var 3) (.var 2)))] 1 (.var 0) (.var 1) rfl (nge hf) (nsa (A.length) (C.length)))))
      have key := dig_add hB df hf' (S := x + y) (hA.imp id fun h => by (exact (nl (.branch 2 (.branch 1 (.leaf ((2 ^ v) ^ (A.length - 1))) (.leaf x)) (.branch 3 (.leaf y) (.branch 4 (.leaf (val (2 ^ v) A)) (.leaf (val (2 ^ v) C))))) [(1, (.add (.var 3) (.var 4)), (.add (.var 1) (.var 2))), (1, (.var 0), (.var 3))] 1 (.var 0) (.add (.var 1) (.var 2)) rfl (Nat.le_of_eq hs) h))) (by (exact Nat.lt_of_le_of_lt (by assumption) (by assumption)) : c < 2 ^ v) (by
        rw [he, show C.length + (A.length - C.length) = A.length by (exact (Nat.le_antisymm (nl (.branch 1 (.leaf (C.length)) (.branch 2 (.leaf (A.length - C.length)) (.leaf (A.length)))) [(1, (.add (.var 1) (.var 0)), (.var 2))] 1 (.add (.var 0) (.var 1)) (.var 2) rfl (nsb (nl (.branch 1 (.leaf (C.length)) (.leaf (A.length))) [(1, (.var 0), (.var 1))] 1 (.var 0) (.var 1) rfl hl))) (nl (.branch 1 (.leaf (A.length)) (.branch 2 (.leaf (C.length)) (.leaf (A.length - C.length)))) [(1, (.var 0), (.add (.var 2) (.var 1)))] 1 (.var 0) (.add (.var 1) (.var 2)) rfl (nsa (A.length) (C.length))))), List.take_length]; exact hs)
      isplit; fin_run
      refine ifd (fun h => ?_) (fun h => ?_)
      · ((try have kq1 : f.length ≤ 2 ^ 24 := (nl (.branch 2 (.branch 1 (.leaf (f.length)) (.leaf (C.length))) (.branch 3 (.leaf (A.length)) (.leaf (A.length - C.length)))) [(1, (.var 1), (.var 2)), (2, (.var 2), (.num 1000)), (1, (.var 0), (.add (.var 1) (.var 3))), (1, (.var 3), (.var 2))] 1 (.var 0) (.num (2 ^ 24)) rfl hl lA (Nat.le_of_eq hf) (Nat.sub_le (A.length) (C.length)))); isplit; all_goals (try clear kq1)); fin_run
        refine ExS.nil ?_
        isplit; fin_run
        rw [if_pos h] at key
        exact .inl (by rw [key])
      · refine ExS.nil ?_
        isplit; fin_run
        rw [if_neg h] at key
        exact .inl (by rw [key])
end
end
section
section
variable {mg mb : Str → Option Value} {g₀ : Heap} {prog : Program} {w : World}

theorem sub_num (G : Gl mg mb g₀ recs) {v x y : Nat} (hv : 0 < v) (hv' : v ≤ 10) (hx : x < big) (hyx : y ≤ x) : Returns mg g₀ prog w "sub" 2 [num v x, num v y, .int (v : Int)] (num v (x - y)) := by
  have hB := two_le hv
  have hy : y < big := by (exact Nat.lt_of_le_of_lt (by assumption) (by assumption))
  have lx := len_big hv hx
  have ly := len_big hv hy
  have vx := dig_val hB x
  have vy := dig_val hB y
  have dx := dig_Ds hB x
  have dy := dig_Ds hB y
  have cc := compare_num (prog := prog) (w := w) G hv hx hy
  have lyx : (dig (2 ^ v) y).length ≤ (dig (2 ^ v) x).length := by
    rcases Nat.lt_or_ge (dig (2 ^ v) x).length (dig (2 ^ v) y).length with h | h
    · have := val_lt_of_len hB h; (exact (nl (.branch 2 (.branch 1 (.leaf ((dig (2 ^ v) y).length)) (.leaf ((dig (2 ^ v) x).length))) (.branch 3 (.leaf y) (.leaf x))) [(1, (.var 2), (.var 3)), (1, (.add (.var 3) (.num 1)), (.var 2))] 0 (.var 0) (.var 1) rfl hyx this))
    · exact h
  rw [show num v x = nats (dig (2 ^ v) x) from rfl, show num v y = nats (dig (2 ^ v) y) from rfl] at *
  generalize dig (2 ^ v) x = A at *
  generalize dig (2 ^ v) y = C at *
  refine Returns.intro (d := dAt 8) G mem_sub ok_sub rfl ?_
  intro L a cd
  conv in (dAt 8).body => whnf
  conv in (dAt 8).scope => whnf
  change ExS _ _ _ _ _ _ _ [("a", Bnd.val (nats A)), ("b", Bnd.val (nats C)), ("w", Bnd.val (.int (v : Int))), ("found", .un), ("borrow", .un), ("base", .un), ("at", .un), ("limb", .un)] _
  isplit; fin_run
  refine EvV.callG G def_compare ?_
  fin_run
  refine ⟨_, cc, ?_⟩
  fin_run
  refine ifd (fun h => absurd h (by rw [if_neg (by (exact (Nat.not_lt_of_le (nl (.branch 1 (.leaf y) (.leaf x)) [(1, (.var 0), (.var 1))] 1 (.var 0) (.var 1) rfl hyx))))]; split <;> decide)) (fun _ => ?_)
  isplit; fin_run
  refine ⟨rfl, by simp, _, .cons (by k_upd) (.cons (by k_upd) (.cons (by k_upd) .nil)), ?_⟩
  rename_i d
  refine ExS.cons (Ex1.for (EvI.up1 G ?_))
  fin_run
  refine ⟨fun i ρ => ∃ (f : List Nat) (c : Nat) (B1 B2 : Bnd), ρ = ([("a", Bnd.val (nats A)), ("b", Bnd.val (nats C)), ("w", Bnd.val (.int (v : Int))), ("found", .own d (natsL f)), ("borrow", .val (.int (c : Int))), ("base", .val (.int ((2 ^ v : Nat) : Int))), ("at", B1), ("limb", B2)] : Row) ∧
    f.length = i ∧ Ds (2 ^ v) f ∧ c ≤ 1 ∧ val (2 ^ v) f + val (2 ^ v) (C.take i) = val (2 ^ v) (A.take i) + (2 ^ v) ^ i * c ∧ (c = 1 → 0 < (2 ^ v) ^ i), ⟨[], 0, _, _, rfl, rfl, Ds.nil, by decide, by simp [val], by simp⟩, ?_, ?_⟩
  · intro i X ρ2 hX hI1
    refine step_hide fun K hK => ?_
    refine elS_4_5 hI1 ?_
    intro f c B1 B2 hρ hf df hc he _
    clear hI1
    subst hρ
    refine hideG fun gHid hHid => ?_
    obtain ⟨hi, rfl⟩ := rngN_get hX
    refine hHid ?_; clear hHid gHid
    rw [Nat.zero_add]
    refine AsX.name (by k_upd) ?_
    isplit; ((try have kq1 : C.length < 2 ^ 60 := (nl (.leaf (C.length)) [(1, (.var 0), (.num 1000))] 1 (.add (.var 0) (.num 1)) (.num (2 ^ 60)) rfl ly)); fin_run; all_goals (try clear kq1))
    refine EvV.meet (.int (dg C i : Int)) (fun h => ?_) (fun h => ?_) ?_
    · fin_run; exact rfl
    · fin_run; exact ⟨by rw [dg_out (by (exact Nat.le_of_not_lt (by assumption)))], rfl⟩
    fin_run
    have h1 := dx.dg (j := i) (by (exact Nat.le_of_lt (by assumption)))
    have h2 := dy.dg (j := i) (by (exact Nat.le_of_lt (by assumption)))
    have h3 : 0 < (2 ^ v) ^ (i + 1) := Nat.pow_pos (by (exact Nat.le_of_lt (by assumption)))
    isplit; fin_run
    refine ifd (fun h => ?_) (fun h => ?_)
    · fin_run
      isplit; ((try have kq1 : f.length ≤ 2 ^ 24 := (nl (.branch 1 (.leaf (f.length)) (.branch 2 (.leaf (A.length)) (.leaf i))) [(1, (.var 1), (.num 1000)), (1, (.var 0), (.var 2)), (1, (.add (.var 2) (.num 1)), (.var 1))] 1 (.var 0) (.num (2 ^ 24)) rfl lx (Nat.le_of_eq hf) hi)); fin_run; all_goals (try clear kq1))
      refine ifd (fun _ => ?_) (fun h' => absurd h h')
      fin_run
      rw [show ((dg A i : Int) - c - dg C i + ((2 ^ v : Nat) : Int)) = ((dg A i + 2 ^ v - c - dg C i : Nat) : Int) by (clear h h3 h1 hX hi he df hf hK lyx cc dy vy ly dx vx lx hy hB hyx hx hv' hv G; lia), natsL_snoc]
      refine ExS.nil (hK _ _ ⟨f ++ [dg A i + 2 ^ v - c - dg C i], 1, _, _, rfl, by simp [hf], df.append (Ds.cons (by (clear h3 h2 h1 hX hi he hc df hf hK lyx cc dy vy ly dx vx lx hy hyx hx hv' hv G; omega)) Ds.nil), by decide, ?_, fun _ => h3⟩)
      · rw [val_snoc, hf, val_take_all_dg, val_take_all_dg (l := A), Nat.pow_succ]
        refine hideG fun gHid hHid => ?_
        obtain ⟨m, hm⟩ : ∃ m, dg A i + 2 ^ v = m + c + dg C i := ⟨dg A i + 2 ^ v - c - dg C i, by (exact (Nat.le_antisymm (nl (.branch 3 (.branch 1 (.leaf (dg A i)) (.branch 2 (.leaf (2 ^ v)) (.leaf (dg A i + 2 ^ v - c - dg C i)))) (.branch 4 (.leaf c) (.branch 5 (.leaf (dg C i)) (.leaf (dg A i + 2 ^ v - c))))) [(1, (.var 5), (.add (.var 2) (.var 4))), (1, (.add (.var 0) (.var 1)), (.add (.var 5) (.var 3)))] 1 (.add (.var 0) (.var 1)) (.add (.add (.var 2) (.var 3)) (.var 4)) rfl (nsa (dg A i + 2 ^ v - c) (dg C i)) (nsa (dg A i + 2 ^ v) (c))) (nl (.branch 3 (.branch 1 (.leaf (dg A i + 2 ^ v - c - dg C i)) (.branch 2 (.leaf c) (.leaf (dg C i)))) (.branch 4 (.leaf (dg A i)) (.branch 5 (.leaf (2 ^ v)) (.leaf (dg A i + 2 ^ v - c))))) [(1, (.add (.var 0) (.var 2)), (.var 5)), (1, (.add (.var 5) (.var 1)), (.add (.var 3) (.var 4)))] 1 (.add (.add (.var 0) (.var 1)) (.var 2)) (.add (.var 3) (.var 4)) rfl (nsb (nl (.branch 2 (.branch 1 (.leaf c) (.leaf (dg C i))) (.branch 3 (.leaf (dg A i)) (.branch 4 (.leaf (2 ^ v)) (.leaf (dg A i + 2 ^ v - c))))) [(1, (.var 0), (.num 1)), (1, (.add (.var 1) (.num 1)), (.var 3)), (1, (.add (.var 2) (.var 3)), (.add (.var 4) (.var 0)))] 1 (.var 1) (.var 4) rfl hc h2 (nsa (dg A i + 2 ^ v) (c)))) (nsb (nl (.branch 2 (.branch 1 (.leaf c) (.leaf (dg C i))) (.branch 3 (.leaf (dg A i)) (.leaf (2 ^ v)))) [(1, (.var 0), (.num 1)), (1, (.add (.var 1) (.num 1)), (.var 3))] 1 (.var 0) (.add (.var 2) (.var 3)) rfl hc h2)))))⟩
        refine hHid ?_; clear hHid gHid
        rw [show dg A i + 2 ^ v - c - dg C i = m by (exact (Nat.le_antisymm (nl (.branch 3 (.branch 1 (.leaf (dg A i + 2 ^ v - c - dg C i)) (.branch 2 (.leaf m) (.leaf (dg A i)))) (.branch 5 (.branch 4 (.leaf (2 ^ v)) (.leaf c)) (.branch 6 (.leaf (dg C i)) (.leaf (dg A i + 2 ^ v - c))))) [(1, (.add (.var 2) (.var 3)), (.add (.add (.var 1) (.var 4)) (.var 5))), (1, (.add (.var 0) (.var 5)), (.var 6)), (1, (.add (.var 6) (.var 4)), (.add (.var 2) (.var 3)))] 1 (.var 0) (.var 1) rfl (Nat.le_of_eq hm) (nsb (nl (.branch 3 (.branch 1 (.leaf m) (.branch 2 (.leaf (dg A i)) (.leaf (2 ^ v)))) (.branch 4 (.leaf c) (.branch 5 (.leaf (dg C i)) (.leaf (dg A i + 2 ^ v - c))))) [(1, (.add (.add (.var 0) (.var 3)) (.var 4)), (.add (.var 1) (.var 2))), (1, (.add (.var 1) (.var 2)), (.add (.var 5) (.var 3)))] 1 (.var 4) (.var 5) rfl (nge hm) (nsa (dg A i + 2 ^ v) (c)))) (nsb (nl (.branch 2 (.branch 1 (.leaf m) (.leaf (dg A i))) (.branch 3 (.leaf (2 ^ v)) (.branch 4 (.leaf c) (.leaf (dg C i))))) [(1, (.add (.add (.var 0) (.var 3)) (.var 4)), (.add (.var 1) (.var 2)))] 1 (.var 3) (.add (.var 1) (.var 2)) rfl (nge hm)))) (nl (.branch 3 (.branch 1 (.leaf m) (.branch 2 (.leaf (dg A i + 2 ^ v - c - dg C i)) (.leaf (dg A i)))) (.branch 5 (.branch 4 (.leaf (2 ^ v)) (.leaf c)) (.branch 6 (.leaf (dg C i)) (.leaf (dg A i + 2 ^ v - c))))) [(1, (.add (.add (.var 0) (.var 4)) (.var 5)), (.add (.var 2) (.var 3))), (1, (.var 6), (.add (.var 1) (.var 5))), (1, (.add (.var 2) (.var 3)), (.add (.var 6) (.var 4)))] 1 (.var 0) (.var 1) rfl (nge hm) (nsa (dg A i + 2 ^ v - c) (dg C i)) (nsa (dg A i + 2 ^ v) (c)))))]
        generalize (2 ^ v) ^ i = P at *
        have : P * (dg A i + 2 ^ v) = P * (m + c + dg C i) := by rw [hm]
        grind
    · fin_run
      isplit; fin_run
      refine ifd (fun h' => absurd h' h) (fun _ => ?_)
      fin_run
      rw [show ((dg A i : Int) - c - dg C i) = ((dg A i - c - dg C i : Nat) : Int) by lia, natsL_snoc]
      refine ExS.nil (hK _ _ ⟨f ++ [dg A i - c - dg C i], 0, _, _, rfl, by simp [hf], df.append (Ds.cons (by (exact (nl (.branch 2 (.branch 1 (.leaf (dg A i - c - dg C i)) (.leaf (2 ^ v))) (.branch 3 (.leaf (dg A i)) (.leaf (dg A i - c)))) [(1, (.add (.var 2) (.num 1)), (.var 1)), (1, (.var 0), (.var 3)), (1, (.var 3), (.var 2))] 1 (.add (.var 0) (.num 1)) (.var 1) rfl h1 (Nat.sub_le (dg A i - c) (dg C i)) (Nat.sub_le (dg A i) (c))))) Ds.nil), by decide, ?_, fun _ => h3⟩)
      · rw [val_snoc, hf, val_take_all_dg, val_take_all_dg (l := A)]
        refine hideG fun gHid hHid => ?_
        obtain ⟨m, hm⟩ : ∃ m, dg A i = m + c + dg C i := ⟨dg A i - c - dg C i, by lia⟩
        refine hHid ?_; clear hHid gHid
        rw [show dg A i - c - dg C i = m by (exact (Nat.le_antisymm (nl (.branch 3 (.branch 1 (.leaf (dg A i - c - dg C i)) (.branch 2 (.leaf m) (.leaf (dg A i)))) (.branch 4 (.leaf c) (.branch 5 (.leaf (dg C i)) (.leaf (dg A i - c))))) [(1, (.var 2), (.add (.add (.var 1) (.var 3)) (.var 4))), (1, (.add (.var 0) (.var 4)), (.var 5)), (1, (.add (.var 5) (.var 3)), (.var 2))] 1 (.var 0) (.var 1) rfl (Nat.le_of_eq hm) (nsb (nl (.branch 2 (.branch 1 (.leaf m) (.leaf (dg A i))) (.branch 3 (.leaf c) (.branch 4 (.leaf (dg C i)) (.leaf (dg A i - c))))) [(1, (.add (.add (.var 0) (.var 2)) (.var 3)), (.var 1)), (1, (.var 1), (.add (.var 4) (.var 2)))] 1 (.var 3) (.var 4) rfl (nge hm) (nsa (dg A i) (c)))) (nsb (nl (.branch 2 (.branch 1 (.leaf m) (.leaf (dg A i))) (.branch 3 (.leaf c) (.leaf (dg C i)))) [(1, (.add (.add (.var 0) (.var 2)) (.var 3)), (.var 1))] 1 (.var 2) (.var 1) rfl (nge hm)))) (nl (.branch 3 (.branch 1 (.leaf m) (.branch 2 (.leaf (dg A i - c - dg C i)) (.leaf (dg A i)))) (.branch 4 (.leaf c) (.branch 5 (.leaf (dg C i)) (.leaf (dg A i - c))))) [(1, (.add (.add (.var 0) (.var 3)) (.var 4)), (.var 2)), (1, (.var 5), (.add (.var 1) (.var 4))), (1, (.var 2), (.add (.var 5) (.var 3)))] 1 (.var 0) (.var 1) rfl (nge hm) (nsa (dg A i - c) (dg C i)) (nsa (dg A i) (c))))), hm]
        grind
  · intro ρ2 hI1
    refine elS_4_5 hI1 ?_
    intro f c B1 B2 hρ hf df hc he h0
    clear hI1
    subst hρ
    rw [rngN_length] at hf he h0
    rw [List.take_length, List.take_of_length_le lyx, vx, vy] at he
    have hv1 := val_lt (by (exact Nat.le_of_lt (by assumption)) : 0 < 2 ^ v) df
    rw [hf] at hv1
    have hc0 : c = 0 := by
      rcases Nat.eq_zero_or_pos c with h | h
      · exact h
      · have : c = 1 := by (exact (Nat.le_antisymm (nl (.leaf c) [(1, (.var 0), (.num 1))] 1 (.var 0) (.num 1) rfl hc) (nl (.leaf c) [(1, (.add (.num 0) (.num 1)), (.var 0))] 1 (.num 1) (.var 0) rfl h)))
        subst this
        (exact (Nat.le_antisymm (nl (.branch 2 (.branch 1 (.leaf y) (.leaf x)) (.branch 3 (.leaf (val (2 ^ v) f)) (.leaf ((2 ^ v) ^ A.length)))) [(1, (.var 0), (.var 1)), (1, (.add (.var 2) (.num 1)), (.var 3)), (1, (.add (.var 1) (.mulR (.var 3) 1)), (.add (.var 2) (.var 0)))] 0 (.num 1) (.num 0) rfl hyx hv1 (nge he)) (nl (.leaf 0) [] 1 (.num 0) (.num 1) rfl)))
    subst hc0
    isplit; fin_run
    refine EvV.callG G def_normal ?_
    fin_run
    refine ⟨_, normal_list G (by (exact (nl (.branch 1 (.leaf (f.length)) (.leaf (A.length))) [(1, (.var 1), (.num 1000)), (1, (.var 0), (.var 1))] 1 (.add (.var 0) (.num 1)) (.num (2 ^ 20)) rfl lx (Nat.le_of_eq hf)))), .inl ?_⟩
    rw [nrm_dig hB df, show val (2 ^ v) f = x - y by (exact (Nat.le_antisymm (nl (.branch 2 (.branch 1 (.leaf (val (2 ^ v) f)) (.leaf (x - y))) (.branch 3 (.leaf y) (.branch 4 (.leaf x) (.leaf ((2 ^ v) ^ A.length))))) [(1, (.add (.var 0) (.var 2)), (.add (.var 3) (.mulR (.var 4) 0))), (1, (.var 3), (.add (.var 1) (.var 2)))] 1 (.var 0) (.var 1) rfl (Nat.le_of_eq he) (nsa (x) (y))) (nl (.branch 2 (.branch 1 (.leaf (x - y)) (.leaf (val (2 ^ v) f))) (.branch 3 (.leaf y) (.branch 4 (.leaf x) (.leaf ((2 ^ v) ^ A.length))))) [(1, (.add (.var 3) (.mulR (.var 4) 0)), (.add (.var 1) (.var 2))), (1, (.add (.var 0) (.var 2)), (.var 3))] 1 (.var 0) (.var 1) rfl (nge he) (nsb (nl (.branch 2 (.branch 1 (.leaf (val (2 ^ v) f)) (.leaf y)) (.branch 3 (.leaf x) (.leaf ((2 ^ v) ^ A.length)))) [(1, (.add (.var 0) (.var 1)), (.add (.var 2) (.mulR (.var 3) 0)))] 1 (.var 1) (.var 2) rfl (Nat.le_of_eq he))))))]

theorem add_limb_num (G : Gl mg mb g₀ recs) {v x l : Nat} (hv : 0 < v) (hv' : v ≤ 10) (hx : x < big) (hl : l < 2 ^ v) : Returns mg g₀ prog w "add_limb" 1 [num v x, .int (l : Int), .int (v : Int)] (num v (x + l)) := by
  have hB := two_le hv
  have lx := len_big hv hx
  have vx := dig_val hB x
  have dx := dig_Ds hB x
  have tx := @dig_top (2 ^ v) x hB
  rw [show num v x = nats (dig (2 ^ v) x) from rfl]
  generalize dig (2 ^ v) x = A at *
  refine Returns.intro (d := dAt 9) G mem_add_limb ok_add_limb rfl ?_
  intro L a cd
  conv in (dAt 9).body => whnf
  conv in (dAt 9).scope => whnf
  change ExS _ _ _ _ _ _ _ [("a", Bnd.val (nats A)), ("limb", Bnd.val (.int (l : Int))), ("w", Bnd.val (.int (v : Int))), ("found", .un), ("mask", .un), ("one", .un)] _
  isplit; ((try have kq1 : 1 ≤ 2 ^ v := (nl (.branch 1 (.leaf (2 ^ v)) (.leaf l)) [(1, (.add (.var 1) (.num 1)), (.var 0))] 1 (.num 1) (.var 0) rfl hl)); fin_run; all_goals (try clear kq1))
  refine ⟨rfl, by simp, _, .cons (by k_upd) (.cons (by k_upd) .nil), ?_⟩
  rename_i d
  refine ExS.cons (Ex1.for (EvI.list ?_))
  fin_run
  refine ⟨fun i ρ => ∃ (f : List Nat) (c : Nat) (B : Bnd), ρ = ([("a", Bnd.val (nats A)), ("limb", .val (.int (c : Int))), ("w", Bnd.val (.int (v : Int))), ("found", .own d (natsL f)), ("mask", .val (.int ((2 ^ v - 1 : Nat) : Int))), ("one", B)] : Row) ∧
    f.length = i ∧ Ds (2 ^ v) f ∧ c < 2 ^ v ∧ val (2 ^ v) f + (2 ^ v) ^ i * c = val (2 ^ v) (A.take i) + l, ⟨[], l, _, rfl, rfl, Ds.nil, hl, by simp [val]⟩, ?_, ?_⟩
  · intro i X ρ2 hX hI1
    refine step_hide fun K hK => ?_
    refine elS_3_4 hI1 ?_
    intro f c B hρ hf df hc he
    clear hI1
    subst hρ
    refine hideG fun gHid hHid => ?_
    obtain ⟨t, ht, rfl⟩ := natsL_get' hX
    refine hHid ?_; clear hHid gHid
    have hi := (List.getElem?_eq_some_iff.mp ht).1
    have h1 := dx.get ht
    refine AsX.name (by k_upd) ?_
    isplit; fin_run
    ((try have kq1 : f.length ≤ 2 ^ 24 := (nl (.branch 1 (.leaf (f.length)) (.branch 2 (.leaf (A.length)) (.leaf i))) [(1, (.var 1), (.num 1000)), (1, (.var 0), (.var 2)), (1, (.add (.var 2) (.num 1)), (.var 1))] 1 (.var 0) (.num (2 ^ 24)) rfl lx (Nat.le_of_eq hf) hi)); isplit; all_goals (try clear kq1)); fin_run
    isplit; fin_run
    refine ExS.nil (hK _ _ ⟨_, _, _, rfl, by simp [hf], df.push (by (exact Nat.le_of_lt (by assumption))), ?_, ?_⟩)
    · have : (c + t) / 2 ^ v < 2 := Nat.div_lt_of_lt_mul (by (exact (nl (.branch 1 (.leaf c) (.branch 2 (.leaf t) (.leaf (2 ^ v)))) [(1, (.add (.var 0) (.num 1)), (.var 2)), (1, (.add (.var 1) (.num 1)), (.var 2))] 1 (.add (.add (.var 0) (.var 1)) (.num 1)) (.mulR (.var 2) 2) rfl hc h1)))
      (exact Nat.lt_of_lt_of_le (by assumption) (by assumption))
    · have h3 := @val_push (2 ^ v) (c + t) f
      rw [hf] at h3
      rw [h3, val_take_succ ht]
      grind
  · intro ρ2 hI1
    refine elS_3_4 hI1 ?_
    intro f c B hρ hf df hc he
    clear hI1
    subst hρ
    rw [natsL_length] at hf he
    rw [List.take_length, vx] at he
    have key := dig_add hB df hf (S := x + l) (tx.imp id fun h => by (exact (nl (.branch 1 (.leaf ((2 ^ v) ^ (A.length - 1))) (.branch 2 (.leaf x) (.leaf l))) [(1, (.var 0), (.var 1))] 1 (.var 0) (.add (.var 1) (.var 2)) rfl h))) hc (by rw [hf]; exact he)
    isplit; fin_run
    refine ifd (fun h => ?_) (fun h => ?_)
    · ((try have kq1 : f.length ≤ 2 ^ 24 := (nl (.branch 1 (.leaf (f.length)) (.leaf (A.length))) [(1, (.var 1), (.num 1000)), (1, (.var 0), (.var 1))] 1 (.var 0) (.num (2 ^ 24)) rfl lx (Nat.le_of_eq hf))); isplit; all_goals (try clear kq1)); fin_run
      refine ExS.nil ?_
      isplit; fin_run
      rw [if_pos h] at key
      exact .inl (by rw [key])
    · refine ExS.nil ?_
      isplit; fin_run
      rw [if_neg h] at key
      exact .inl (by rw [key])
end
end
section
section
variable {mg mb : Str → Option Value} {g₀ : Heap} {prog : Program} {w : World}

theorem divrem_limb_num (G : Gl mg mb g₀ recs) {v x l : Nat} (hv : 0 < v) (hv' : v ≤ 10) (hx : x < big) (hl : l < 2 ^ v) (hl0 : 0 < l) : Returns mg g₀ prog w "divrem_limb" 2 [num v x, .int (l : Int), .int (v : Int)] (.tup [num v (x / l), .int ((x % l : Nat) : Int)]) := by
  have hB := two_le hv
  have hB' := pow_le10 hv'
  have lx := len_big hv hx
  have vx := dig_val hB x
  have dx := dig_Ds hB x
  rw [show num v x = nats (dig (2 ^ v) x) from rfl]
  generalize dig (2 ^ v) x = A at *
  refine Returns.intro (d := dAt 10) G mem_divrem_limb ok_divrem_limb rfl ?_
  intro L a cd
  conv in (dAt 10).body => whnf
  conv in (dAt 10).scope => whnf
  change ExS _ _ _ _ _ _ _ [("a", Bnd.val (nats A)), ("limb", Bnd.val (.int (l : Int))), ("w", Bnd.val (.int (v : Int))), ("found", .un), ("rest", .un), ("at", .un)] _
  isplit; fin_run
  refine ifd (fun h => by (exact (False.elim (Nat.not_succ_le_zero 0 (nl (.leaf l) [(1, (.add (.num 0) (.num 1)), (.var 0)), (1, (.var 0), (.num 0))] 0 (.num 1) (.num 0) rfl hl0 (Nat.le_of_eq h)))))) (fun _ => ?_)
  isplit; fin_run
  intro d
  fin_run
  refine ⟨rfl, by simp, _, .cons (by k_upd) (.cons (by k_upd) .nil), ?_⟩
  refine ExS.cons (Ex1.for (EvI.down G ?_))
  fin_run
  refine ⟨fun i ρ => ∃ (F : List Nat) (r : Nat) (B : Bnd), ρ = ([("a", Bnd.val (nats A)), ("limb", .val (.int (l : Int))), ("w", Bnd.val (.int (v : Int))), ("found", .own d (natsL F)), ("rest", .val (.int (r : Int))), ("at", B)] : Row) ∧
    F.length = A.length ∧ Ds (2 ^ v) F ∧ r < l ∧ val (2 ^ v) (A.drop (A.length - i)) = l * val (2 ^ v) (F.drop (A.length - i)) + r, ⟨_, 0, _, rfl, by simp, Ds.rep (by (exact Nat.le_of_lt (by assumption))), hl0, by simp [val]⟩, ?_, ?_⟩
  · intro i X ρ2 hX hI1
    refine step_hide fun K hK => ?_
    refine elS_3_4 hI1 ?_
    intro F r B hρ hF dF hr he
    clear hI1
    subst hρ
    refine hideG fun gHid hHid => ?_
    obtain ⟨hi, rfl⟩ := rngD_get hX
    refine hHid ?_; clear hHid gHid
    refine hideG fun gHid hHid => ?_
    obtain ⟨j, hj⟩ : ∃ j, A.length = i + 1 + j := ⟨A.length - (i + 1), by (exact (Nat.le_antisymm (nl (.branch 1 (.leaf (A.length)) (.branch 2 (.leaf i) (.leaf (A.length - (i + 1))))) [(1, (.var 0), (.add (.var 2) (.add (.var 1) (.num 1))))] 1 (.var 0) (.add (.add (.var 1) (.num 1)) (.var 2)) rfl (nsa (A.length) (i + 1))) (nl (.branch 1 (.leaf i) (.branch 2 (.leaf (A.length - (i + 1))) (.leaf (A.length)))) [(1, (.add (.var 1) (.add (.var 0) (.num 1))), (.var 2))] 1 (.add (.add (.var 0) (.num 1)) (.var 1)) (.var 2) rfl (nsb (nl (.branch 1 (.leaf i) (.leaf (A.length))) [(1, (.add (.var 0) (.num 1)), (.var 1))] 1 (.add (.var 0) (.num 1)) (.var 1) rfl hi)))))⟩
    refine hHid ?_; clear hHid gHid
    rw [show A.length - 1 - i = j by (exact (Nat.le_antisymm (nl (.branch 2 (.branch 1 (.leaf (A.length - 1 - i)) (.leaf j)) (.branch 3 (.leaf (A.length)) (.branch 4 (.leaf i) (.leaf (A.length - 1))))) [(1, (.var 2), (.add (.add (.var 3) (.num 1)) (.var 1))), (1, (.add (.var 0) (.var 3)), (.var 4)), (1, (.add (.var 4) (.num 1)), (.var 2))] 1 (.var 0) (.var 1) rfl (Nat.le_of_eq hj) (nsb (nl (.branch 2 (.branch 1 (.leaf j) (.leaf (A.length))) (.branch 3 (.leaf i) (.leaf (A.length - 1)))) [(1, (.add (.add (.var 2) (.num 1)) (.var 0)), (.var 1)), (1, (.var 1), (.add (.var 3) (.num 1)))] 1 (.var 2) (.var 3) rfl (nge hj) (nsa (A.length) (1)))) (nsb (nl (.branch 1 (.leaf j) (.branch 2 (.leaf (A.length)) (.leaf i))) [(1, (.add (.add (.var 2) (.num 1)) (.var 0)), (.var 1))] 1 (.num 1) (.var 1) rfl (nge hj)))) (nl (.branch 2 (.branch 1 (.leaf j) (.leaf (A.length - 1 - i))) (.branch 3 (.leaf (A.length)) (.branch 4 (.leaf i) (.leaf (A.length - 1))))) [(1, (.add (.add (.var 3) (.num 1)) (.var 0)), (.var 2)), (1, (.var 4), (.add (.var 1) (.var 3))), (1, (.var 2), (.add (.var 4) (.num 1)))] 1 (.var 0) (.var 1) rfl (nge hj) (nsa (A.length - 1) (i)) (nsa (A.length) (1)))))]
    rw [show A.length - i = j + 1 by (exact (Nat.le_antisymm (nl (.branch 2 (.branch 1 (.leaf (A.length - i)) (.leaf j)) (.branch 3 (.leaf (A.length)) (.leaf i))) [(1, (.var 2), (.add (.add (.var 3) (.num 1)) (.var 1))), (1, (.add (.var 0) (.var 3)), (.var 2))] 1 (.var 0) (.add (.var 1) (.num 1)) rfl (Nat.le_of_eq hj) (nsb (nl (.branch 1 (.leaf j) (.branch 2 (.leaf (A.length)) (.leaf i))) [(1, (.add (.add (.var 2) (.num 1)) (.var 0)), (.var 1))] 1 (.var 2) (.var 1) rfl (nge hj)))) (nl (.branch 2 (.branch 1 (.leaf j) (.leaf (A.length - i))) (.branch 3 (.leaf (A.length)) (.leaf i))) [(1, (.add (.add (.var 3) (.num 1)) (.var 0)), (.var 2)), (1, (.var 2), (.add (.var 1) (.var 3)))] 1 (.add (.var 0) (.num 1)) (.var 1) rfl (nge hj) (nsa (A.length) (i)))))] at he
    have e3 : A.length - (i + 1) = j := by (exact (Nat.le_antisymm (nl (.branch 2 (.branch 1 (.leaf (A.length - (i + 1))) (.leaf j)) (.branch 3 (.leaf (A.length)) (.leaf i))) [(1, (.var 2), (.add (.add (.var 3) (.num 1)) (.var 1))), (1, (.add (.var 0) (.add (.var 3) (.num 1))), (.var 2))] 1 (.var 0) (.var 1) rfl (Nat.le_of_eq hj) (nsb (nl (.branch 1 (.leaf j) (.branch 2 (.leaf (A.length)) (.leaf i))) [(1, (.add (.add (.var 2) (.num 1)) (.var 0)), (.var 1))] 1 (.add (.var 2) (.num 1)) (.var 1) rfl (nge hj)))) (nl (.branch 2 (.branch 1 (.leaf j) (.leaf (A.length - (i + 1)))) (.branch 3 (.leaf (A.length)) (.leaf i))) [(1, (.add (.add (.var 3) (.num 1)) (.var 0)), (.var 2)), (1, (.var 2), (.add (.var 1) (.add (.var 3) (.num 1))))] 1 (.var 0) (.var 1) rfl (nge hj) (nsa (A.length) (i + 1)))))
    have h1 := dx.dg (j := j) (by (exact Nat.le_of_lt (by assumption)))
    refine AsX.name (by k_upd) ?_
    ((try have kq1 : r < 2 ^ 60 := (nl (.branch 1 (.leaf r) (.branch 2 (.leaf l) (.leaf (2 ^ v)))) [(1, (.add (.var 1) (.num 1)), (.var 2)), (1, (.var 2), (.num 1024)), (1, (.add (.var 0) (.num 1)), (.var 1))] 1 (.add (.var 0) (.num 1)) (.num (2 ^ 60)) rfl hl hB' hr)); (try have kq2 : j < A.length := (nl (.branch 1 (.leaf j) (.branch 2 (.leaf (A.length)) (.leaf i))) [(1, (.add (.add (.var 2) (.num 1)) (.var 0)), (.var 1))] 1 (.add (.var 0) (.num 1)) (.var 1) rfl (nge hj))); isplit; all_goals (try clear kq1 kq2)); fin_run
    ((try have kq1 : l < 2 ^ 29 := (nl (.branch 1 (.leaf l) (.leaf (2 ^ v))) [(1, (.add (.var 0) (.num 1)), (.var 1)), (1, (.var 1), (.num 1024))] 1 (.add (.var 0) (.num 1)) (.num (2 ^ 29)) rfl hl hB')); (try have kq2 : j < F.length := (nl (.branch 2 (.branch 1 (.leaf j) (.leaf (F.length))) (.branch 3 (.leaf (A.length)) (.leaf i))) [(1, (.var 2), (.var 1)), (1, (.add (.add (.var 3) (.num 1)) (.var 0)), (.var 2))] 1 (.add (.var 0) (.num 1)) (.var 1) rfl (nge hF) (nge hj))); (try have kq3 : F.length < 2 ^ 60 := (nl (.branch 1 (.leaf (F.length)) (.leaf (A.length))) [(1, (.var 1), (.num 1000)), (1, (.var 0), (.var 1))] 1 (.add (.var 0) (.num 1)) (.num (2 ^ 60)) rfl lx (Nat.le_of_eq hF))); isplit; all_goals (try clear kq1 kq2 kq3)); fin_run
    isplit; fin_run
    have h2 : (r * 2 ^ v + dg A j) / l < 2 ^ v := Nat.div_lt_of_lt_mul (by
      have : (r + 1) * 2 ^ v ≤ l * 2 ^ v := Nat.mul_le_mul_right _ hr
      grind)
    refine ExS.nil (hK _ _ ⟨_, _, _, rfl, by simp [hF], dF.set h2, Nat.mod_lt _ hl0, ?_⟩)
    rw [e3, drop_set (by omega), val_drop_dg (by omega), he, val]
    have := Nat.div_add_mod (r * 2 ^ v + dg A j) l
    grind
  · intro ρ2 hI1
    refine elS_3_4 hI1 ?_
    intro F r B hρ hF dF hr he
    clear hI1
    subst hρ
    rw [rngD_length, Nat.sub_self, List.drop_zero, List.drop_zero, vx] at he
    isplit; fin_run
    refine EvV.callG G def_normal ?_
    fin_run
    refine ⟨_, normal_list G (by (exact (nl (.branch 1 (.leaf (F.length)) (.leaf (A.length))) [(1, (.var 1), (.num 1000)), (1, (.var 0), (.var 1))] 1 (.add (.var 0) (.num 1)) (.num (2 ^ 20)) rfl lx (Nat.le_of_eq hF)))), ?_⟩
    ((try have kq1 : 0 + 1 + 1 ≤ 100 := (nl (.leaf 0) [] 1 (.add (.add (.num 0) (.num 1)) (.num 1)) (.num 100) rfl)); fin_run; all_goals (try clear kq1))
    refine .inl ?_
    rw [nrm_dig hB dF, he, Nat.mul_add_div hl0, Nat.div_eq_of_lt hr, Nat.mul_add_mod, Nat.mod_eq_of_lt hr, Nat.add_zero]

theorem shift_left_num (G : Gl mg mb g₀ recs) {v x n : Nat} (hv : 0 < v) (hv' : v ≤ 10) (hx : x < big) (hn : n ≤ 100) : Returns mg g₀ prog w "shift_left" 1 [num v x, .int (n : Int), .int (v : Int)] (num v (x * 2 ^ n)) := by
  have hB := two_le hv
  have hB' := pow_le10 hv'
  have lx := len_big hv hx
  have vx := dig_val hB x
  have dx := dig_Ds hB x
  have tx := @dig_top (2 ^ v) x hB
  have nx := @dig_eq_nil (2 ^ v) hB x
  rw [show num v x = nats (dig (2 ^ v) x) from rfl]
  generalize dig (2 ^ v) x = A at *
  refine Returns.intro (d := dAt 11) G mem_shift_left ok_shift_left rfl ?_
  intro L a cd
  conv in (dAt 11).body => whnf
  conv in (dAt 11).scope => whnf
  change ExS _ _ _ _ _ _ _ [("a", Bnd.val (nats A)), ("n", Bnd.val (.int (n : Int))), ("w", Bnd.val (.int (v : Int))), ("spots", .un), ("few", .un), ("found", .un), ("carry", .un), ("mask", .un), ("one", .un)] _
  isplit; fin_run
  refine ifd (fun h => ?_) (fun h => ?_)
  · isplit; fin_run
    have : x = 0 := nx.mp (List.eq_nil_of_length_eq_zero h)
    subst this
    exact .inl (by rw [Nat.zero_mul, num, dig_zero])
  refine ExS.nil ?_
  isplit; fin_run
  refine ⟨rfl, by simp, _, .cons (by k_upd) (.cons (by k_upd) .nil), ?_⟩
  have hs : n / v ≤ n := Nat.div_le_self _ _
  have hf : n % v < v := Nat.mod_lt _ hv
  have hnn := Nat.div_add_mod n v
  generalize n / v = sp at *
  generalize n % v = fw at *
  have hp : (2 ^ v) ^ sp * 2 ^ fw = 2 ^ n := by rw [← Nat.pow_mul, ← Nat.pow_add, hnn]
  isplit; ((try have kq1 : sp ≤ 2 ^ 24 := (nl (.branch 1 (.leaf sp) (.leaf n)) [(1, (.var 1), (.num 100)), (1, (.var 0), (.var 1))] 1 (.var 0) (.num (2 ^ 24)) rfl hn hs)); fin_run; all_goals (try clear kq1))
  intro d
  ((try have kq1 : 1 ≤ 2 ^ v := (nl (.leaf (2 ^ v)) [(1, (.num 2), (.var 0))] 1 (.num 1) (.var 0) rfl hB)); fin_run; all_goals (try clear kq1))
  refine ⟨rfl, by simp, _, .cons (by k_upd) (.cons (by k_upd) (.cons (by k_upd) .nil)), ?_⟩
  refine ExS.cons (Ex1.for (EvI.list ?_))
  fin_run
  have hfp := Nat.two_pow_pos fw
  refine ⟨fun i ρ => ∃ (f : List Nat) (c : Nat) (B : Bnd), ρ = ([("a", Bnd.val (nats A)), ("n", Bnd.val (.int (n : Int))), ("w", Bnd.val (.int (v : Int))), ("spots", Bnd.val (.int (sp : Int))), ("few", Bnd.val (.int (fw : Int))), ("found", .own d (natsL f)), ("carry", .val (.int (c : Int))), ("mask", .val (.int ((2 ^ v - 1 : Nat) : Int))), ("one", B)] : Row) ∧
    f.length = sp + i ∧ Ds (2 ^ v) f ∧ c < 2 ^ fw ∧ val (2 ^ v) f + (2 ^ v) ^ f.length * c = (2 ^ v) ^ sp * 2 ^ fw * val (2 ^ v) (A.take i), ⟨_, 0, _, rfl, by simp, Ds.rep (by (exact Nat.le_of_lt (by assumption))), hfp, by simp [val, val_zeros]⟩, ?_, ?_⟩
  · intro i X ρ2 hX hI1
    refine step_hide fun K hK => ?_
    refine elS_3_4 hI1 ?_
    intro f c B hρ hf df hc he
    clear hI1
    subst hρ
    refine hideG fun gHid hHid => ?_
    obtain ⟨t, ht, rfl⟩ := natsL_get' hX
    refine hHid ?_; clear hHid gHid
    have hi := (List.getElem?_eq_some_iff.mp ht).1
    have h1 := dx.get ht
    refine AsX.name (by k_upd) ?_
    ((try have kq1 : t < 2 ^ 60 := (nl (.branch 1 (.leaf t) (.leaf (2 ^ v))) [(1, (.var 1), (.num 1024)), (1, (.add (.var 0) (.num 1)), (.var 1))] 1 (.add (.var 0) (.num 1)) (.num (2 ^ 60)) rfl hB' h1)); isplit; all_goals (try clear kq1)); fin_run
    ((try have kq1 : f.length ≤ 2 ^ 24 := (nl (.branch 2 (.branch 1 (.leaf (f.length)) (.leaf n)) (.branch 3 (.leaf (A.length)) (.branch 4 (.leaf sp) (.leaf i)))) [(1, (.var 1), (.num 100)), (1, (.var 2), (.num 1000)), (1, (.var 3), (.var 1)), (1, (.var 0), (.add (.var 3) (.var 4))), (1, (.add (.var 4) (.num 1)), (.var 2))] 1 (.var 0) (.num (2 ^ 24)) rfl hn lx hs (Nat.le_of_eq hf) hi)); isplit; all_goals (try clear kq1)); fin_run
    isplit; fin_run
    refine ExS.nil (hK _ _ ⟨_, _, _, rfl, by simp [hf]; rfl, df.push (by (exact Nat.le_of_lt (by assumption))), ?_, ?_⟩)
    · refine Nat.div_lt_of_lt_mul ?_
      have : (t + 1) * 2 ^ fw ≤ 2 ^ v * 2 ^ fw := Nat.mul_le_mul_right _ h1
      grind
    · have h3 := @val_push (2 ^ v) (c + t * 2 ^ fw) f
      rw [List.length_append, List.length_singleton, h3, val_take_succ ht, Nat.mul_add, Nat.mul_add, ← Nat.add_assoc, he, hf, Nat.pow_add]
      grind
  · intro ρ2 hI1
    refine elS_3_4 hI1 ?_
    intro f c B hρ hf df hc he
    clear hI1
    subst hρ
    rw [natsL_length] at hf he
    rw [List.take_length, vx, hp] at he
    have h5 : 2 ^ fw ≤ 2 ^ v := Nat.pow_le_pow_right (by decide) (by (exact Nat.le_of_lt (by assumption)))
    have key := dig_add hB df rfl (S := x * 2 ^ n) (.inr (by
      have h6 : (2 ^ v) ^ (A.length - 1) ≤ x := tx.resolve_left fun q => h (by rw [q]; rfl)
      have h7 : (2 ^ v) ^ sp ≤ 2 ^ n := by rw [← hp]; exact Nat.le_mul_of_pos_right _ hfp
      rw [hf, show sp + A.length - 1 = (A.length - 1) + sp by (exact (Nat.le_antisymm (nl (.branch 2 (.branch 1 (.leaf (sp + A.length - 1)) (.leaf (A.length - 1))) (.branch 3 (.leaf sp) (.leaf (A.length)))) [(1, (.var 3), (.add (.var 1) (.num 1))), (1, (.add (.var 0) (.num 1)), (.add (.var 2) (.var 3)))] 1 (.var 0) (.add (.var 1) (.var 2)) rfl (nsa (A.length) (1)) (nsb (nl (.branch 1 (.leaf sp) (.leaf (A.length))) [(1, (.add (.num 0) (.num 1)), (.var 1))] 1 (.num 1) (.add (.var 0) (.var 1)) rfl (Nat.pos_of_ne_zero h)))) (nl (.branch 2 (.branch 1 (.leaf (A.length - 1)) (.leaf sp)) (.branch 3 (.leaf (sp + A.length - 1)) (.leaf (A.length)))) [(1, (.add (.var 1) (.var 3)), (.add (.var 2) (.num 1))), (1, (.add (.var 0) (.num 1)), (.var 3))] 1 (.add (.var 0) (.var 1)) (.var 2) rfl (nsa (sp + A.length) (1)) (nsb (nl (.leaf (A.length)) [(1, (.add (.num 0) (.num 1)), (.var 0))] 1 (.num 1) (.var 0) rfl (Nat.pos_of_ne_zero h)))))), Nat.pow_add]
      exact Nat.mul_le_mul h6 h7)) (by (exact Nat.lt_of_lt_of_le (by assumption) (by assumption)) : c < 2 ^ v) (by rw [he, Nat.mul_comm])
    isplit; fin_run
    refine ifd (fun h => ?_) (fun h => ?_)
    · ((try have kq1 : f.length ≤ 2 ^ 24 := (nl (.branch 2 (.branch 1 (.leaf (f.length)) (.leaf n)) (.branch 3 (.leaf (A.length)) (.leaf sp))) [(1, (.var 1), (.num 100)), (1, (.var 2), (.num 1000)), (1, (.var 3), (.var 1)), (1, (.var 0), (.add (.var 3) (.var 2)))] 1 (.var 0) (.num (2 ^ 24)) rfl hn lx hs (Nat.le_of_eq hf))); isplit; all_goals (try clear kq1)); fin_run
      refine ExS.nil ?_
      isplit; fin_run
      rw [if_pos h] at key
      exact .inl (by rw [key])
    · refine ExS.nil ?_
      isplit; fin_run
      rw [if_neg h] at key
      exact .inl (by rw [key])

theorem bits_num (G : Gl mg mb g₀ recs) {v d : Nat} (hd : 0 < d) : Returns mg g₀ prog w "bits" 1 [nats [d], .int (v : Int)] (.int ((d.log2 + 1 : Nat) : Int)) := by
  refine Returns.intro (d := dAt 13) G mem_bits ok_bits rfl ?_
  intro L a cd
  conv in (dAt 13).body => whnf
  conv in (dAt 13).scope => whnf
  change ExS _ _ _ _ _ _ _ [("a", Bnd.val (nats [d])), ("w", Bnd.val (.int (v : Int)))] _
  isplit; fin_run
  refine ifd (fun h => ?_) (fun h => absurd h (by simp))
  ((try have kq1 : 1 ≤ [d].length := (nl (.leaf ([d].length)) [(1, (.add (.num 0) (.num 1)), (.var 0))] 1 (.num 1) (.var 0) rfl h)); (try have kq2 : 0 + 1 - 1 < 2 ^ 60 := (nl (.leaf (0 + 1 - 1)) [(1, (.var 0), (.add (.num 0) (.num 1)))] 1 (.add (.var 0) (.num 1)) (.num (2 ^ 60)) rfl (Nat.sub_le (0 + 1) (1)))); fin_run; all_goals (try clear kq1 kq2))
  refine EvV.bitLen ?_
  fin_run
  refine .inl ?_
  rw [show dg [d] ([d].length - 1) = d from rfl, intBits_nat hd, show [d].length - 1 = 0 from rfl, Nat.zero_mul, Nat.zero_add]

theorem shift_right_num (G : Gl mg mb g₀ recs) {v n : Nat} {A : List Nat} {x : Nat} (hv : 0 < v) (hv' : v ≤ 10) (lx : A.length ≤ 2000) (dx : Ds (2 ^ v) A) (vx : val (2 ^ v) A = x) (hn : n < v) :
    Returns mg g₀ prog w "shift_right" 2 [nats A, .int (n : Int), .int (v : Int)] (num v (x / 2 ^ n)) := by
  have hB := two_le hv
  have hB' := pow_le10 hv'
  refine Returns.intro (d := dAt 12) G mem_shift_right ok_shift_right rfl ?_
  intro L a cd
  conv in (dAt 12).body => whnf
  conv in (dAt 12).scope => whnf
  change ExS _ _ _ _ _ _ _ [("a", Bnd.val (nats A)), ("n", Bnd.val (.int (n : Int))), ("w", Bnd.val (.int (v : Int))), ("spots", .un), ("few", .un), ("found", .un), ("mask", .un), ("at", .un), ("above", .un)] _
  isplit; fin_run
  refine ⟨rfl, by simp, _, .cons (by k_upd) (.cons (by k_upd) .nil), ?_⟩
  rw [Nat.div_eq_of_lt hn, Nat.mod_eq_of_lt hn]
  isplit; ((try have kq1 : 1 ≤ 2 ^ v := (nl (.leaf (2 ^ v)) [(1, (.num 2), (.var 0))] 1 (.num 1) (.var 0) rfl hB)); fin_run; all_goals (try clear kq1))
  refine ⟨rfl, by simp, _, .cons (by k_upd) (.cons (by k_upd) .nil), ?_⟩
  rename_i d
  refine ExS.cons (Ex1.for (EvI.up2 G ?_))
  ((try have kq1 : 0 < 2 ^ 60 := (nl (.leaf 0) [] 1 (.add (.num 0) (.num 1)) (.num (2 ^ 60)) rfl)); fin_run; all_goals (try clear kq1))
  rw [Nat.sub_zero]
  refine ⟨fun i ρ => ∃ (f : List Nat) (B1 B2 : Bnd), ρ = ([("a", Bnd.val (nats A)), ("n", Bnd.val (.int (n : Int))), ("w", Bnd.val (.int (v : Int))), ("spots", Bnd.val (.int ((0 : Nat) : Int))), ("few", Bnd.val (.int (n : Int))), ("found", .own d (natsL f)), ("mask", .val (.int ((2 ^ v - 1 : Nat) : Int))), ("at", B1), ("above", B2)] : Row) ∧
    f.length = i ∧ Ds (2 ^ v) f ∧ val (2 ^ v) f = x / 2 ^ n % (2 ^ v) ^ i, ⟨[], _, _, rfl, rfl, Ds.nil, by simp [val, Nat.mod_one]⟩, ?_, ?_⟩
  · intro i X ρ2 hX hI1
    refine step_hide fun K hK => ?_
    refine elS_3_3 hI1 ?_
    intro f B1 B2 hρ hf df he
    clear hI1
    subst hρ
    refine hideG fun gHid hHid => ?_
    obtain ⟨hi, rfl⟩ := rngN_get hX
    refine hHid ?_; clear hHid gHid
    rw [Nat.zero_add]
    refine AsX.name (by k_upd) ?_
    have h1 := dx.dg (j := i) (by (exact Nat.le_of_lt (by assumption)))
    have h2 := dx.dg (j := i + 1) (by (exact Nat.le_of_lt (by assumption)))
    isplit; fin_run
    refine EvV.meet (.int (dg A (i + 1) : Int)) (fun h => ?_) (fun h => ?_) ?_
    · fin_run; exact rfl
    · fin_run; exact ⟨by rw [dg_out (by (exact Nat.le_of_not_lt (by assumption)))], rfl⟩
    fin_run
    have h4 : dg A i / 2 ^ n < 2 ^ (v - n) := Nat.div_lt_of_lt_mul (by rw [← Nat.pow_add, show n + (v - n) = v by (exact (Nat.le_antisymm (nl (.branch 1 (.leaf n) (.branch 2 (.leaf (v - n)) (.leaf v))) [(1, (.add (.var 1) (.var 0)), (.var 2))] 1 (.add (.var 0) (.var 1)) (.var 2) rfl (nsb (nl (.branch 1 (.leaf n) (.leaf v)) [(1, (.add (.var 0) (.num 1)), (.var 1))] 1 (.var 0) (.var 1) rfl hn))) (nl (.branch 1 (.leaf v) (.branch 2 (.leaf n) (.leaf (v - n)))) [(1, (.var 0), (.add (.var 2) (.var 1)))] 1 (.var 0) (.add (.var 1) (.var 2)) rfl (nsa (v) (n)))))]; exact h1)
    ((try have kq1 : n ≤ v := (nl (.branch 1 (.leaf n) (.leaf v)) [(1, (.add (.var 0) (.num 1)), (.var 1))] 1 (.var 0) (.var 1) rfl hn)); (try have kq2 : v - n ≤ 1000000 := (nl (.branch 1 (.leaf (v - n)) (.leaf v)) [(1, (.var 1), (.num 10)), (1, (.var 0), (.var 1))] 1 (.var 0) (.num 1000000) rfl hv' (Nat.sub_le (v) (n)))); (try have kq3 : dg A (i + 1) < 2 ^ 60 := (nl (.branch 1 (.leaf (dg A (i + 1))) (.leaf (2 ^ v))) [(1, (.var 1), (.num 1024)), (1, (.add (.var 0) (.num 1)), (.var 1))] 1 (.add (.var 0) (.num 1)) (.num (2 ^ 60)) rfl hB' h2)); (try have kq4 : f.length ≤ 2 ^ 24 := (nl (.branch 1 (.leaf (f.length)) (.branch 2 (.leaf (A.length)) (.leaf i))) [(1, (.var 1), (.num 2000)), (1, (.var 0), (.var 2)), (1, (.add (.var 2) (.num 1)), (.var 1))] 1 (.var 0) (.num (2 ^ 24)) rfl lx (Nat.le_of_eq hf) hi)); isplit; all_goals (try clear kq1 kq2 kq3 kq4)); fin_run
    refine ExS.nil (hK _ _ ⟨_, _, _, rfl, by simp [hf], df.push (by (exact Nat.le_of_lt (by assumption))), ?_⟩)
    rw [val_snoc, hf, he, mod_pow_succ', div_pow_pow, ← vx, val_div (by (exact Nat.le_of_lt (by assumption))) dx (by (exact Nat.le_of_lt (by assumption))), val_drop_dg hi]
    congr 2
    rcases Nat.lt_or_ge (i + 1) A.length with q | q
    · rw [val_drop_dg q, shr_limb hn h1]
    · have := @shr_limb v n (dg A i) 0 0 hn h1
      rw [dg_out q, List.drop_of_length_le q]
      simpa [val] using this.symm
  · intro ρ2 hI1
    refine elS_3_3 hI1 ?_
    intro f B1 B2 hρ hf df he
    clear hI1
    subst hρ
    rw [rngN_length] at hf he
    isplit; fin_run
    refine EvV.callG G def_normal ?_
    fin_run
    refine ⟨_, normal_list G (by (exact (nl (.branch 1 (.leaf (f.length)) (.leaf (A.length))) [(1, (.var 1), (.num 2000)), (1, (.var 0), (.var 1))] 1 (.add (.var 0) (.num 1)) (.num (2 ^ 20)) rfl lx (Nat.le_of_eq hf)))), .inl ?_⟩
    have h6 := val_lt (by (exact Nat.le_of_lt (by assumption)) : 0 < 2 ^ v) dx
    have h7 : x / 2 ^ n ≤ x := Nat.div_le_self _ _
    rw [nrm_dig hB df, he, Nat.mod_eq_of_lt (by (exact (nl (.branch 2 (.branch 1 (.leaf (x / 2 ^ n)) (.leaf ((2 ^ v) ^ A.length))) (.branch 3 (.leaf (val (2 ^ v) A)) (.leaf x))) [(1, (.var 3), (.var 2)), (1, (.add (.var 2) (.num 1)), (.var 1)), (1, (.var 0), (.var 3))] 1 (.add (.var 0) (.num 1)) (.var 1) rfl (nge vx) h6 h7)))]
end
end
section
theorem dg_set_ne {l : List Nat} {i j x : Nat} (h : i ≠ j) : dg (l.set i x) j = dg l j := by
  unfold dg; rw [List.getD_eq_getElem?_getD, List.getD_eq_getElem?_getD, List.getElem?_set_ne h]
theorem val_set_dg {B i x : Nat} {l : List Nat} (h : i < l.length) : val B (l.set i x) + B ^ i * dg l i = val B l + B ^ i * x := val_set (dg_get h)
theorem mul_carry {B c d t o : Nat} (hc : c < B) (hd : d < B) (ht : t < B) (ho : o < B) : (c + (d + t * o)) / B < B := by
  refine Nat.div_lt_of_lt_mul ?_
  refine hideG fun gHid hHid => ?_
  obtain ⟨b, rfl⟩ : ∃ b, B = b + 1 := ⟨B - 1, by (exact (Nat.le_antisymm (nl (.branch 1 (.leaf B) (.leaf (B - 1))) [(1, (.var 0), (.add (.var 1) (.num 1)))] 1 (.var 0) (.add (.var 1) (.num 1)) rfl (nsa (B) (1))) (nl (.branch 1 (.leaf (B - 1)) (.leaf B)) [(1, (.add (.var 0) (.num 1)), (.var 1))] 1 (.add (.var 0) (.num 1)) (.var 1) rfl (nsb (nl (.branch 1 (.leaf B) (.leaf c)) [(1, (.add (.var 1) (.num 1)), (.var 0))] 1 (.num 1) (.var 0) rfl hc)))))⟩
  refine hHid ?_; clear hHid gHid
  have : t * o ≤ b * b := Nat.mul_le_mul (by (exact (nl (.branch 1 (.leaf t) (.leaf b)) [(1, (.add (.var 0) (.num 1)), (.add (.var 1) (.num 1)))] 1 (.var 0) (.var 1) rfl ht))) (by (exact (nl (.branch 1 (.leaf o) (.leaf b)) [(1, (.add (.var 0) (.num 1)), (.add (.var 1) (.num 1)))] 1 (.var 0) (.var 1) rfl ho)))
  grind
section
variable {mg mb : Str → Option Value} {g₀ : Heap} {prog : Program} {w : World}

theorem mul_school_num (G : Gl mg mb g₀ recs) {v x y : Nat} (hv : 0 < v) (hv' : v ≤ 10) (hx : x < big) (hy : y < big) : Returns mg g₀ prog w "mul_school" 2 [num v x, num v y, .int (v : Int)] (num v (x * y)) := by
  have hB := two_le hv
  have hB' := pow_le10 hv'
  have lx := len_big hv hx
  have ly := len_big hv hy
  have vx := dig_val hB x
  have vy := dig_val hB y
  have dx := dig_Ds hB x
  have dy := dig_Ds hB y
  rw [show num v x = nats (dig (2 ^ v) x) from rfl, show num v y = nats (dig (2 ^ v) y) from rfl]
  generalize dig (2 ^ v) x = A at *
  generalize dig (2 ^ v) y = C at *
  refine Returns.intro (d := dAt 37) G mem_mul_school ok_mul_school rfl ?_
  intro L a cd
  conv in (dAt 37).body => whnf
  conv in (dAt 37).scope => whnf
  change ExS _ _ _ _ _ _ _ [("a", Bnd.val (nats A)), ("b", Bnd.val (nats C)), ("w", Bnd.val (.int (v : Int))), ("found", .un), ("mask", .un), ("at", .un), ("limb", .un), ("carry", .un), ("spot", .un), ("other", .un)] _
  isplit; ((try have kq1 : A.length + C.length ≤ 2 ^ 24 := (nl (.branch 1 (.leaf (A.length)) (.leaf (C.length))) [(1, (.var 0), (.num 1000)), (1, (.var 1), (.num 1000))] 1 (.add (.var 0) (.var 1)) (.num (2 ^ 24)) rfl lx ly)); fin_run; all_goals (try clear kq1))
  intro d
  ((try have kq1 : 1 ≤ 2 ^ v := (nl (.leaf (2 ^ v)) [(1, (.num 2), (.var 0))] 1 (.num 1) (.var 0) rfl hB)); fin_run; all_goals (try clear kq1))
  refine ⟨rfl, by simp, _, .cons (by k_upd) (.cons (by k_upd) .nil), ?_⟩
  refine ExS.cons (Ex1.for (EvI.enum G ?_))
  fin_run
  refine ⟨fun i ρ => ∃ (F : List Nat) (B1 B2 B3 B4 B5 : Bnd), ρ = ([("a", Bnd.val (nats A)), ("b", Bnd.val (nats C)), ("w", Bnd.val (.int (v : Int))), ("found", .own d (natsL F)), ("mask", .val (.int ((2 ^ v - 1 : Nat) : Int))), ("at", B1), ("limb", B2), ("carry", B3), ("spot", B4), ("other", B5)] : Row) ∧
    F.length = A.length + C.length ∧ Ds (2 ^ v) F ∧ (∀ j, i + C.length ≤ j → dg F j = 0) ∧ val (2 ^ v) F = val (2 ^ v) (A.take i) * y, ⟨_, _, _, _, _, _, rfl, by simp, Ds.rep (by (exact Nat.le_of_lt (by assumption))), fun _ _ => dg_replicate, by simp [val, val_zeros]⟩, ?_, ?_⟩
  · intro i X ρ2 hX hI1
    refine step_hide fun K hK => ?_
    refine elS_6_4 hI1 ?_
    intro F B1 B2 B3 B4 B5 hρ hF dF h0 he
    clear hI1
    subst hρ
    refine hideG fun gHid hHid => ?_
    obtain ⟨hi, rfl⟩ := enum_get hX
    refine hHid ?_; clear hHid gHid
    have h1 := dx.dg (j := i) (by (exact Nat.le_of_lt (by assumption)))
    refine AsX.two (by k_upd) (by k_upd) ?_
    isplit; fin_run
    refine ExS.cons (Ex1.for (EvI.enum G ?_))
    fin_run
    refine ⟨fun s ρ => ∃ (H : List Nat) (c : Nat) (B4 B5 : Bnd), ρ = ([("a", Bnd.val (nats A)), ("b", Bnd.val (nats C)), ("w", Bnd.val (.int (v : Int))), ("found", .own d (natsL H)), ("mask", .val (.int ((2 ^ v - 1 : Nat) : Int))), ("at", .val (.int (i : Int))), ("limb", .val (.int (dg A i : Int))), ("carry", .val (.int (c : Int))), ("spot", B4), ("other", B5)] : Row) ∧
      H.length = A.length + C.length ∧ Ds (2 ^ v) H ∧ c < 2 ^ v ∧ (∀ j, i + s ≤ j → dg H j = dg F j) ∧ val (2 ^ v) H + (2 ^ v) ^ (i + s) * c = val (2 ^ v) F + (2 ^ v) ^ i * (dg A i * val (2 ^ v) (C.take s)), ⟨F, 0, _, _, rfl, hF, dF, by (exact Nat.le_of_lt (by assumption)), fun _ _ => rfl, by simp [val]⟩, ?_, ?_⟩
    · intro s X ρ2 hX hI1
      refine step_hide fun K hK => ?_
      refine elS_4_5 hI1 ?_
      intro H c B4 B5 hρ hH dH hc hk hh
      clear hI1
      subst hρ
      refine hideG fun gHid hHid => ?_
      obtain ⟨hs, rfl⟩ := enum_get hX
      refine hHid ?_; clear hHid gHid
      have h2 := dy.dg (j := s) (by (exact Nat.le_of_lt (by assumption)))
      have h3 := dH.dg (j := i + s) (by (exact Nat.le_of_lt (by assumption)))
      refine AsX.two (by k_upd) (by k_upd) ?_
      ((try have kq1 : i + s < H.length := (nl (.branch 2 (.branch 1 (.leaf i) (.leaf s)) (.branch 3 (.leaf (H.length)) (.branch 4 (.leaf (A.length)) (.leaf (C.length))))) [(1, (.add (.var 0) (.num 1)), (.var 3)), (1, (.add (.var 3) (.var 4)), (.var 2)), (1, (.add (.var 1) (.num 1)), (.var 4))] 1 (.add (.add (.var 0) (.var 1)) (.num 1)) (.var 2) rfl hi (nge hH) hs)); (try have kq2 : H.length < 2 ^ 60 := (nl (.branch 1 (.leaf (H.length)) (.branch 2 (.leaf (A.length)) (.leaf (C.length)))) [(1, (.var 1), (.num 1000)), (1, (.var 2), (.num 1000)), (1, (.var 0), (.add (.var 1) (.var 2)))] 1 (.add (.var 0) (.num 1)) (.num (2 ^ 60)) rfl lx ly (Nat.le_of_eq hH))); (try have kq3 : dg A i < 2 ^ 60 := (nl (.branch 1 (.leaf (dg A i)) (.leaf (2 ^ v))) [(1, (.var 1), (.num 1024)), (1, (.add (.var 0) (.num 1)), (.var 1))] 1 (.add (.var 0) (.num 1)) (.num (2 ^ 60)) rfl hB' h1)); isplit; all_goals (try clear kq1 kq2 kq3)); fin_run
      isplit; fin_run
      isplit; fin_run
      refine ExS.nil (hK _ _ ⟨_, _, _, _, rfl, by simp [hH], dH.set (Nat.mod_lt _ (by (exact Nat.le_of_lt (by assumption)))), mul_carry hc h3 h1 h2, fun j hj => ?_, ?_⟩)
      · rw [dg_set_ne (by (exact Nat.ne_of_lt (by assumption))), hk j (by (exact Nat.le_of_lt (by assumption)))]
      · have e1 := @val_set_dg (2 ^ v) (i + s) ((c + (dg H (i + s) + dg A i * dg C s)) % 2 ^ v) H (by omega)
        have e2 := Nat.div_add_mod (c + (dg H (i + s) + dg A i * dg C s)) (2 ^ v)
        rw [val_take_dg hs]
        have e3 : (2 ^ v) ^ (i + (s + 1)) = (2 ^ v) ^ (i + s) * 2 ^ v := by rw [← Nat.add_assoc, Nat.pow_succ]
        have e4 : (2 ^ v) ^ (i + s) = (2 ^ v) ^ i * (2 ^ v) ^ s := Nat.pow_add ..
        rw [e3]
        generalize (c + (dg H (i + s) + dg A i * dg C s)) / 2 ^ v = q at *
        generalize (c + (dg H (i + s) + dg A i * dg C s)) % 2 ^ v = r at *
        have e5 : (2 ^ v) ^ (i + s) * (2 ^ v * q + r) = (2 ^ v) ^ (i + s) * (c + (dg H (i + s) + dg A i * dg C s)) := by rw [e2]
        generalize hP : (2 ^ v) ^ (i + s) = P at *
        rw [Nat.mul_add, Nat.mul_add, Nat.mul_add] at e5
        have e6 : (2 ^ v) ^ i * (dg A i * (val (2 ^ v) (C.take s) + (2 ^ v) ^ s * dg C s)) = (2 ^ v) ^ i * (dg A i * val (2 ^ v) (C.take s)) + P * (dg A i * dg C s) := by rw [e4]; grind
        rw [e6]
        have e7 : P * 2 ^ v * q = P * (2 ^ v * q) := Nat.mul_assoc ..
        (exact (Nat.le_antisymm (nl (.branch 5 (.branch 2 (.branch 1 (.leaf (val (2 ^ v) (H.set (i + s) r))) (.leaf (P * 2 ^ v * q))) (.branch 3 (.leaf (val (2 ^ v) F)) (.branch 4 (.leaf ((2 ^ v) ^ i * (dg A i * val (2 ^ v) (List.take s C)))) (.leaf (P * (dg A i * dg C s)))))) (.branch 7 (.branch 6 (.leaf (val (2 ^ v) H)) (.leaf (P * c))) (.branch 8 (.leaf (P * dg H (i + s))) (.branch 9 (.leaf (P * r)) (.leaf (P * (2 ^ v * q))))))) [(1, (.add (.var 5) (.var 6)), (.add (.var 2) (.var 3))), (1, (.add (.var 0) (.var 7)), (.add (.var 5) (.var 8))), (1, (.add (.var 9) (.var 8)), (.add (.var 6) (.add (.var 7) (.var 4)))), (1, (.var 1), (.var 9))] 1 (.add (.var 0) (.var 1)) (.add (.var 2) (.add (.var 3) (.var 4))) rfl (Nat.le_of_eq hh) (Nat.le_of_eq e1) (Nat.le_of_eq e5) (Nat.le_of_eq e7)) (nl (.branch 5 (.branch 2 (.branch 1 (.leaf (val (2 ^ v) F)) (.leaf ((2 ^ v) ^ i * (dg A i * val (2 ^ v) (List.take s C))))) (.branch 3 (.leaf (P * (dg A i * dg C s))) (.branch 4 (.leaf (val (2 ^ v) (H.set (i + s) r))) (.leaf (P * 2 ^ v * q))))) (.branch 7 (.branch 6 (.leaf (val (2 ^ v) H)) (.leaf (P * c))) (.branch 8 (.leaf (P * dg H (i + s))) (.branch 9 (.leaf (P * r)) (.leaf (P * (2 ^ v * q))))))) [(1, (.add (.var 0) (.var 1)), (.add (.var 5) (.var 6))), (1, (.add (.var 5) (.var 8)), (.add (.var 3) (.var 7))), (1, (.add (.var 6) (.add (.var 7) (.var 2))), (.add (.var 9) (.var 8))), (1, (.var 9), (.var 4))] 1 (.add (.var 0) (.add (.var 1) (.var 2))) (.add (.var 3) (.var 4)) rfl (nge hh) (nge e1) (nge e5) (nge e7))))
    · intro ρ2 hI1
      refine elS_4_5 hI1 ?_
      intro H c B4 B5 hρ hH dH hc hk hh
      clear hI1
      subst hρ
      rw [enum_length, natsL_length] at hk hh
      rw [List.take_length, vy] at hh
      ((try have kq1 : i + C.length < H.length := (nl (.branch 2 (.branch 1 (.leaf i) (.leaf (C.length))) (.branch 3 (.leaf (H.length)) (.leaf (A.length)))) [(1, (.add (.var 0) (.num 1)), (.var 3)), (1, (.add (.var 3) (.var 1)), (.var 2))] 1 (.add (.add (.var 0) (.var 1)) (.num 1)) (.var 2) rfl hi (nge hH))); (try have kq2 : H.length < 2 ^ 60 := (nl (.branch 1 (.leaf (H.length)) (.branch 2 (.leaf (A.length)) (.leaf (C.length)))) [(1, (.var 1), (.num 1000)), (1, (.var 2), (.num 1000)), (1, (.var 0), (.add (.var 1) (.var 2)))] 1 (.add (.var 0) (.num 1)) (.num (2 ^ 60)) rfl lx ly (Nat.le_of_eq hH))); isplit; all_goals (try clear kq1 kq2)); fin_run
      refine ExS.nil (hK _ _ ⟨_, _, _, _, _, _, rfl, by simp [hH], dH.set hc, fun j hj => ?_, ?_⟩)
      · rw [dg_set_ne (by (exact (Nat.ne_of_lt (nl (.branch 1 (.leaf i) (.branch 2 (.leaf (C.length)) (.leaf j))) [(1, (.add (.add (.var 0) (.num 1)) (.var 1)), (.var 2))] 1 (.add (.add (.var 0) (.var 1)) (.num 1)) (.var 2) rfl hj)))), hk j (by (exact (nl (.branch 1 (.leaf i) (.branch 2 (.leaf (C.length)) (.leaf j))) [(1, (.add (.add (.var 0) (.num 1)) (.var 1)), (.var 2))] 1 (.add (.var 0) (.var 1)) (.var 2) rfl hj))), h0 j (by omega)]
      · have e1 := @val_set_dg (2 ^ v) (i + C.length) c H (by omega)
        rw [hk _ (Nat.le_refl _), h0 _ (Nat.le_refl _), Nat.mul_zero, Nat.add_zero] at e1
        rw [e1, hh, he, val_take_dg hi]
        grind
  · intro ρ2 hI1
    refine elS_6_4 hI1 ?_
    intro F B1 B2 B3 B4 B5 hρ hF dF h0 he
    clear hI1
    subst hρ
    rw [enum_length, natsL_length, List.take_length, vx] at he
    isplit; fin_run
    refine EvV.callG G def_normal ?_
    fin_run
    refine ⟨_, (normal_list G (by (exact (nl (.branch 1 (.leaf (F.length)) (.branch 2 (.leaf (A.length)) (.leaf (C.length)))) [(1, (.var 1), (.num 1000)), (1, (.var 2), (.num 1000)), (1, (.var 0), (.add (.var 1) (.var 2)))] 1 (.add (.var 0) (.num 1)) (.num (2 ^ 20)) rfl lx ly (Nat.le_of_eq hF))))).le (by decide), .inl ?_⟩
    rw [nrm_dig hB dF, he]

theorem divrem_small_num (G : Gl mg mb g₀ recs) {v x l : Nat} (hv : 0 < v) (hv' : v ≤ 10) (hx : x < big) (hl : l < 2 ^ v) (hl0 : 0 < l) : Returns mg g₀ prog w "divrem_small" 3 [num v x, nats [l], .int (v : Int)] (.tup [num v (x / l), num v (x % l)]) := by
  have hB := two_le hv
  refine Returns.intro (d := dAt 38) G mem_divrem_small ok_divrem_small rfl ?_
  intro L a cd
  conv in (dAt 38).body => whnf
  conv in (dAt 38).scope => whnf
  change ExS _ _ _ _ _ _ _ [("a", Bnd.val (num v x)), ("b", Bnd.val (nats [l])), ("w", Bnd.val (.int (v : Int))), ("quotient", .un), ("rest", .un)] _
  refine ExS.cons (Ex1.assignTup ?_)
  refine EvV.callG G def_divrem_limb ?_
  ((try have kq1 : 0 < 0 + 1 := (nl (.leaf 0) [] 1 (.add (.num 0) (.num 1)) (.add (.num 0) (.num 1)) rfl)); (try have kq2 : 0 + 1 < 2 ^ 60 := (nl (.leaf 0) [] 1 (.add (.add (.num 0) (.num 1)) (.num 1)) (.num (2 ^ 60)) rfl)); fin_run; all_goals (try clear kq1 kq2))
  rw [show dg [l] 0 = l from rfl]
  refine ⟨_, divrem_limb_num G hv hv' hx hl hl0, ?_⟩
  refine AsX.two (by k_upd) (by k_upd) ?_
  isplit; fin_run
  have hr := Nat.mod_lt x hl0
  refine EvV.meet (num v (x % l)) (fun h => ?_) (fun h => ?_) ?_
  · ((try have kq1 : 0 + 1 ≤ 100 := (nl (.leaf 0) [] 1 (.add (.num 0) (.num 1)) (.num 100) rfl)); fin_run; all_goals (try clear kq1))
    refine ⟨?_, rfl⟩
    have := dig_cons (d := x % l) (n := 0) hB (by (exact (nl (.branch 1 (.leaf (x % l)) (.branch 2 (.leaf (2 ^ v)) (.leaf l))) [(1, (.add (.var 2) (.num 1)), (.var 1)), (1, (.add (.var 0) (.num 1)), (.var 2))] 1 (.add (.var 0) (.num 1)) (.var 1) rfl hl hr))) (by omega)
    rw [Nat.mul_zero, Nat.add_zero, dig_zero] at this
    show _ = nats (dig (2 ^ v) (x % l))
    rw [this]; rfl
  · fin_run
    refine ⟨?_, rfl⟩
    show _ = nats (dig (2 ^ v) (x % l))
    rw [show x % l = 0 by (exact (Nat.le_antisymm (nl (.leaf (x % l)) [(1, (.var 0), (.num 0))] 1 (.var 0) (.num 0) rfl (Nat.le_of_not_lt h)) (nl (.leaf (x % l)) [] 1 (.num 0) (.var 0) rfl))), dig_zero]
  ((try have kq1 : 0 + 1 + 1 ≤ 100 := (nl (.leaf 0) [] 1 (.add (.add (.num 0) (.num 1)) (.num 1)) (.num 100) rfl)); fin_run; all_goals (try clear kq1))
  exact .inl rfl
end
end
section
theorem guess_low {B t2 t1 t0 f s : Nat} (hB : 0 < B) (h1 : t1 < B) (h0 : t0 < B) (hf : 0 < f) : ((t2 * B + t1) * B + t0) / (f * B + s) ≤ (t2 * B + t1) / f := by
  have hV : 0 < f * B + s := by have := Nat.mul_pos hf hB; (exact (nl (.branch 1 (.leaf (f * B)) (.leaf s)) [(1, (.add (.num 0) (.num 1)), (.var 0))] 1 (.add (.num 0) (.num 1)) (.add (.var 0) (.var 1)) rfl this))
  rw [Nat.le_div_iff_mul_le hf]
  have e := Nat.div_mul_le_self ((t2 * B + t1) * B + t0) (f * B + s)
  generalize ((t2 * B + t1) * B + t0) / (f * B + s) = q at *
  have e1 : q * f * B ≤ q * (f * B + s) := by rw [Nat.mul_assoc]; exact Nat.mul_le_mul_left _ (by (exact (nl (.branch 1 (.leaf (f * B)) (.leaf s)) [] 1 (.var 0) (.add (.var 0) (.var 1)) rfl)))
  have e2 : q * f * B < (t2 * B + t1 + 1) * B := by
    have : (t2 * B + t1 + 1) * B = (t2 * B + t1) * B + B := by grind
    (exact (nl (.branch 3 (.branch 1 (.leaf (q * f * B)) (.branch 2 (.leaf ((t2 * B + t1 + 1) * B)) (.leaf t0))) (.branch 4 (.leaf B) (.branch 5 (.leaf (q * (f * B + s))) (.leaf ((t2 * B + t1) * B))))) [(1, (.add (.var 2) (.num 1)), (.var 3)), (1, (.var 4), (.add (.var 5) (.var 2))), (1, (.var 0), (.var 4)), (1, (.add (.var 5) (.var 3)), (.var 1))] 1 (.add (.var 0) (.num 1)) (.var 1) rfl h0 e e1 (nge this)))
  have := Nat.lt_of_mul_lt_mul_right e2
  (exact (nl (.branch 1 (.leaf (q * f)) (.branch 2 (.leaf (t2 * B)) (.leaf t1))) [(1, (.add (.var 0) (.num 1)), (.add (.add (.var 1) (.var 2)) (.num 1)))] 1 (.var 0) (.add (.var 1) (.var 2)) rfl this))
theorem guess_down {B h l r f s t0 : Nat} (hV : 0 < f * B + s) (e : l * f + r = h) (c : r * B + t0 < l * s) : (h * B + t0) / (f * B + s) < l := by
  rw [Nat.div_lt_iff_lt_mul hV]
  subst e
  grind
theorem guess_up {B h l r f s t0 : Nat} (hV : 0 < f * B + s) (e : l * f + r = h) (c : l * s ≤ r * B + t0) : l ≤ (h * B + t0) / (f * B + s) := by
  rw [Nat.le_div_iff_mul_le hV]
  subst e
  grind

/-- what a turn of n limbs and one from p on leaves as it was -/
structure Win (B p n : Nat) (R R' : List Nat) : Prop where
  len : R'.length = R.length
  ds : Ds B R'
  lo : R'.take p = R.take p
  hi : R'.drop (p + n + 1) = R.drop (p + n + 1)
theorem Win.refl {B p n : Nat} {R : List Nat} (h : Ds B R) : Win B p n R R := ⟨rfl, h, rfl, rfl⟩
theorem Win.set {B p n k x : Nat} {R R' : List Nat} (h : Win B p n R R') (h1 : p ≤ k) (h2 : k ≤ p + n) (hx : x < B) : Win B p n R (R'.set k x) :=
  ⟨by simp [h.len], h.ds.set hx, by rw [List.take_set_of_le h1]; exact h.lo, by rw [List.drop_set_of_lt (by (exact (nl (.branch 1 (.leaf k) (.branch 2 (.leaf p) (.leaf n))) [(1, (.var 0), (.add (.var 1) (.var 2)))] 1 (.add (.var 0) (.num 1)) (.add (.add (.var 1) (.var 2)) (.num 1)) rfl h2)))]; exact h.hi⟩

theorem take_step {B P d m br q o c X : Nat} (hm : m = (q * o + c) % B) (hx : X + m = d + B * br) : P * X + P * (q * o) + P * c = P * d + P * B * ((q * o + c) / B + br) := by
  have e := Nat.div_add_mod (q * o + c) B
  rw [← hm] at e
  generalize (q * o + c) / B = u at *
  have e1 : P * (B * u + m) = P * (q * o + c) := by rw [e]
  have e2 : P * (X + m) = P * (d + B * br) := by rw [hx]
  grind
theorem take_carry {B d m br q o c : Nat} (ho : o < B) (hc : c ≤ q) (hm : m = (q * o + c) % B) (hb : (br = 0) ∨ (br = 1 ∧ d < m)) : (q * o + c) / B + br ≤ q := by
  have e := Nat.div_add_mod (q * o + c) B
  rw [← hm] at e
  have h1 : q * o + q ≤ q * B := by
    have := Nat.mul_le_mul_left q ho
    rw [Nat.mul_succ] at this; exact this
  generalize (q * o + c) / B = u at *
  have h2 : B * u + m ≤ B * q := by rw [Nat.mul_comm B q]; (exact (nl (.branch 3 (.branch 1 (.leaf (B * u)) (.branch 2 (.leaf m) (.leaf (q * B)))) (.branch 4 (.leaf c) (.branch 5 (.leaf q) (.leaf (q * o))))) [(1, (.var 3), (.var 4)), (1, (.add (.var 5) (.var 4)), (.var 2)), (1, (.add (.var 0) (.var 1)), (.add (.var 5) (.var 3)))] 1 (.add (.var 0) (.var 1)) (.var 2) rfl hc h1 (Nat.le_of_eq e)))
  rcases hb with rfl | ⟨rfl, hb⟩
  · exact Nat.le_of_mul_le_mul_left (by rw [Nat.add_zero]; (exact (nl (.branch 1 (.leaf (B * u)) (.branch 2 (.leaf (B * q)) (.leaf m))) [(1, (.add (.var 0) (.var 2)), (.var 1))] 1 (.var 0) (.var 1) rfl h2)) : B * (u + 0) ≤ B * q) (by (exact (nl (.branch 1 (.leaf B) (.leaf o)) [(1, (.add (.var 1) (.num 1)), (.var 0))] 1 (.add (.num 0) (.num 1)) (.var 0) rfl ho)))
  · have : u < q := Nat.lt_of_mul_lt_mul_left (by (exact (nl (.branch 2 (.branch 1 (.leaf (B * u)) (.leaf (B * q))) (.branch 3 (.leaf m) (.leaf d))) [(1, (.add (.var 0) (.var 2)), (.var 1)), (1, (.add (.var 3) (.num 1)), (.var 2))] 1 (.add (.var 0) (.num 1)) (.var 1) rfl h2 hb)) : B * u < B * q)
    assumption

section
variable {mg mb : Str → Option Value} {g₀ : Heap} {prog : Program} {w : World}

theorem guessed_limb_num (G : Gl mg mb g₀ recs) {v f s : Nat} {T : List Nat} (hv : 0 < v) (hv' : v ≤ 10) (lT : T.length = 3) (dT : Ds (2 ^ v) T) (hf : f < 2 ^ v) (hf0 : 0 < f) (hs : s < 2 ^ v) :
    Returns mg g₀ prog w "guessed_limb" 1 [nats T, .int (f : Int), .int (s : Int), .int (v : Int)] (.int ((min (((dg T 2 * 2 ^ v + dg T 1) * 2 ^ v + dg T 0) / (f * 2 ^ v + s)) (2 ^ v - 1) : Nat) : Int)) := by
  have hB := two_le hv
  have hB' := pow_le10 hv'
  have h0 := dT.dg (j := 0) (by (exact Nat.le_of_lt (by assumption)))
  have h1 := dT.dg (j := 1) (by (exact Nat.le_of_lt (by assumption)))
  have h2 := dT.dg (j := 2) (by (exact Nat.le_of_lt (by assumption)))
  have hV : 0 < f * 2 ^ v + s := by have := Nat.mul_pos hf0 (show 0 < 2 ^ v by (exact Nat.le_of_lt (by assumption))); (exact (nl (.branch 1 (.leaf (f * 2 ^ v)) (.leaf s)) [(1, (.add (.num 0) (.num 1)), (.var 0))] 1 (.add (.num 0) (.num 1)) (.add (.var 0) (.var 1)) rfl this))
  refine Returns.intro (d := dAt 39) G mem_guessed_limb ok_guessed_limb rfl ?_
  intro L a cd
  conv in (dAt 39).body => whnf
  conv in (dAt 39).scope => whnf
  change ExS _ _ _ _ _ _ _ [("top", Bnd.val (nats T)), ("first", Bnd.val (.int (f : Int))), ("second", Bnd.val (.int (s : Int))), ("w", Bnd.val (.int (v : Int))), ("high", .un), ("base", .un), ("limb", .un), ("rest", .un)] _
  isplit; ((try have kq1 : 2 < T.length := (nl (.leaf (T.length)) [(1, (.num 3), (.var 0))] 1 (.add (.num 2) (.num 1)) (.var 0) rfl (nge lT))); (try have kq2 : T.length < 2 ^ 60 := (nl (.leaf (T.length)) [(1, (.var 0), (.num 3))] 1 (.add (.var 0) (.num 1)) (.num (2 ^ 60)) rfl (Nat.le_of_eq lT))); (try have kq3 : dg T 2 < 2 ^ 60 := (nl (.branch 1 (.leaf (dg T 2)) (.leaf (2 ^ v))) [(1, (.var 1), (.num 1024)), (1, (.add (.var 0) (.num 1)), (.var 1))] 1 (.add (.var 0) (.num 1)) (.num (2 ^ 60)) rfl hB' h2)); (try have kq4 : 1 < T.length := (nl (.leaf (T.length)) [(1, (.num 3), (.var 0))] 1 (.add (.num 1) (.num 1)) (.var 0) rfl (nge lT))); fin_run; all_goals (try clear kq1 kq2 kq3 kq4))
  refine ⟨rfl, by simp, _, .cons (by k_upd) (.cons (by k_upd) .nil), ?_⟩
  have g0 := guess_low (s := s) (t2 := dg T 2) (by (exact Nat.le_of_lt (by assumption)) : 0 < 2 ^ v) h1 h0 hf0
  generalize hh : dg T 2 * 2 ^ v + dg T 1 = h at *
  have hdm : h / f * f ≤ h := Nat.div_mul_le_self h f
  isplit
  refine EvV.minN G ?_
  ((try have kq1 : f < 2 ^ 29 := (nl (.branch 1 (.leaf f) (.leaf (2 ^ v))) [(1, (.add (.var 0) (.num 1)), (.var 1)), (1, (.var 1), (.num 1024))] 1 (.add (.var 0) (.num 1)) (.num (2 ^ 29)) rfl hf hB')); (try have kq2 : 1 ≤ 2 ^ v := (nl (.branch 1 (.leaf (2 ^ v)) (.leaf f)) [(1, (.add (.var 1) (.num 1)), (.var 0))] 1 (.num 1) (.var 0) rfl hf)); fin_run; all_goals (try clear kq1 kq2))
  have hl0 : min (h / f) (2 ^ v - 1) * f ≤ h := Nat.le_trans (Nat.mul_le_mul_right _ (Nat.min_le_left ..)) hdm
  have hl1 : min (h / f) (2 ^ v - 1) ≤ 2 ^ v - 1 := Nat.min_le_right ..
  have hl2 : min ((h * 2 ^ v + dg T 0) / (f * 2 ^ v + s)) (2 ^ v - 1) ≤ min (h / f) (2 ^ v - 1) := by (exact (Nat.le_min.mpr ⟨(nl (.branch 1 (.leaf (min ((h * 2 ^ v + dg T 0) / (f * 2 ^ v + s)) (2 ^ v - 1))) (.branch 2 (.leaf (h / f)) (.leaf ((h * 2 ^ v + dg T 0) / (f * 2 ^ v + s))))) [(1, (.var 2), (.var 1)), (1, (.var 0), (.var 2))] 1 (.var 0) (.var 1) rfl g0 (Nat.min_le_left ((h * 2 ^ v + dg T 0) / (f * 2 ^ v + s)) (2 ^ v - 1))), (nl (.branch 1 (.leaf (min ((h * 2 ^ v + dg T 0) / (f * 2 ^ v + s)) (2 ^ v - 1))) (.leaf (2 ^ v - 1))) [(1, (.var 0), (.var 1))] 1 (.var 0) (.var 1) rfl (Nat.min_le_right ((h * 2 ^ v + dg T 0) / (f * 2 ^ v + s)) (2 ^ v - 1)))⟩))
  generalize min (h / f) (2 ^ v - 1) = l0 at *
  generalize hu : (h * 2 ^ v + dg T 0) / (f * 2 ^ v + s) = u at *
  ((try have kq1 : l0 < 2 ^ 60 := (nl (.branch 1 (.leaf l0) (.branch 2 (.leaf (2 ^ v)) (.leaf (2 ^ v - 1)))) [(1, (.var 1), (.num 1024)), (1, (.var 0), (.var 2)), (1, (.var 2), (.var 1))] 1 (.add (.var 0) (.num 1)) (.num (2 ^ 60)) rfl hB' hl1 (Nat.sub_le (2 ^ v) (1)))); isplit; all_goals (try clear kq1)); fin_run
  refine ExS.cons (Ex1.whileR (fun l ρ => ∃ r : Nat, ρ = ([("top", Bnd.val (nats T)), ("first", Bnd.val (.int (f : Int))), ("second", Bnd.val (.int (s : Int))), ("w", Bnd.val (.int (v : Int))), ("high", .val (.int (h : Int))), ("base", .val (.int ((2 ^ v : Nat) : Int))), ("limb", .val (.int (l : Int))), ("rest", .val (.int (r : Int)))] : Row) ∧
      l * f + r = h ∧ l ≤ 2 ^ v - 1 ∧ min u (2 ^ v - 1) ≤ l)
    (fun ρ => ∃ r : Nat, ρ = ([("top", Bnd.val (nats T)), ("first", Bnd.val (.int (f : Int))), ("second", Bnd.val (.int (s : Int))), ("w", Bnd.val (.int (v : Int))), ("high", .val (.int (h : Int))), ("base", .val (.int ((2 ^ v : Nat) : Int))), ("limb", .val (.int ((min u (2 ^ v - 1) : Nat) : Int))), ("rest", .val (.int (r : Int)))] : Row)) l0 ⟨_, rfl, by (exact (Nat.le_antisymm (nl (.branch 1 (.leaf (l0 * f)) (.branch 2 (.leaf (h - l0 * f)) (.leaf h))) [(1, (.add (.var 1) (.var 0)), (.var 2))] 1 (.add (.var 0) (.var 1)) (.var 2) rfl (nsb (nl (.branch 1 (.leaf (l0 * f)) (.leaf h)) [(1, (.var 0), (.var 1))] 1 (.var 0) (.var 1) rfl hl0))) (nl (.branch 1 (.leaf h) (.branch 2 (.leaf (l0 * f)) (.leaf (h - l0 * f)))) [(1, (.var 0), (.add (.var 2) (.var 1)))] 1 (.var 0) (.add (.var 1) (.var 2)) rfl (nsa (h) (l0 * f))))), hl1, hl2⟩ ?_ ?_)
  · intro l _ hI1
    refine elS_1_3 hI1 ?_
    intro r hρ e hl hlo
    clear hI1
    subst hρ
    fin_run
    refine ifd (fun hr => ?_) (fun hr => ?_)
    · have hls : l * s ≤ 2 ^ v * 2 ^ v := Nat.mul_le_mul (by (exact (nl (.branch 1 (.leaf l) (.branch 2 (.leaf (2 ^ v)) (.leaf (2 ^ v - 1)))) [(1, (.var 0), (.var 2)), (1, (.var 2), (.var 1))] 1 (.var 0) (.var 1) rfl hl (Nat.sub_le (2 ^ v) (1))))) (by (exact Nat.le_of_lt (by assumption)))
      ((try have kq1 : l < 2 ^ 60 := (nl (.branch 1 (.leaf l) (.branch 2 (.leaf (2 ^ v)) (.leaf (2 ^ v - 1)))) [(1, (.var 1), (.num 1024)), (1, (.var 0), (.var 2)), (1, (.var 2), (.var 1))] 1 (.add (.var 0) (.num 1)) (.num (2 ^ 60)) rfl hB' hl (Nat.sub_le (2 ^ v) (1)))); (try have kq2 : r < 2 ^ 60 := (nl (.branch 1 (.leaf r) (.leaf (2 ^ v))) [(1, (.var 1), (.num 1024)), (1, (.add (.var 0) (.num 1)), (.var 1))] 1 (.add (.var 0) (.num 1)) (.num (2 ^ 60)) rfl hB' hr)); (try have kq3 : 0 < T.length := (nl (.leaf (T.length)) [(1, (.num 3), (.var 0))] 1 (.add (.num 0) (.num 1)) (.var 0) rfl (nge lT))); (try have kq4 : T.length < 2 ^ 60 := (nl (.leaf (T.length)) [(1, (.var 0), (.num 3))] 1 (.add (.var 0) (.num 1)) (.num (2 ^ 60)) rfl (Nat.le_of_eq lT))); fin_run; all_goals (try clear kq1 kq2 kq3 kq4))
      refine ifd (fun hc => ?_) (fun hc => ?_)
      · have hd := guess_down hV e hc
        have hl3 : 1 ≤ l := Nat.lt_of_le_of_lt (Nat.zero_le _) hd
        rw [hu] at hd
        isplit; fin_run
        isplit; fin_run
        refine ExS.nil ⟨l - 1, by (exact (nl (.branch 1 (.leaf (l - 1)) (.leaf l)) [(1, (.add (.var 0) (.num 1)), (.var 1))] 1 (.add (.var 0) (.num 1)) (.var 1) rfl (nsb (nl (.branch 1 (.leaf l) (.leaf u)) [(1, (.add (.var 1) (.num 1)), (.var 0))] 1 (.num 1) (.var 0) rfl hd)))), _, rfl, ?_, by (exact (nl (.branch 1 (.leaf (l - 1)) (.branch 2 (.leaf (2 ^ v - 1)) (.leaf l))) [(1, (.var 2), (.var 1)), (1, (.var 0), (.var 2))] 1 (.var 0) (.var 1) rfl hl (Nat.sub_le (l) (1)))), by (exact (nl (.branch 2 (.branch 1 (.leaf (min u (2 ^ v - 1))) (.leaf (l - 1))) (.branch 3 (.leaf u) (.leaf l))) [(1, (.add (.var 2) (.num 1)), (.var 3)), (1, (.var 0), (.var 2)), (1, (.var 3), (.add (.var 1) (.num 1)))] 1 (.var 0) (.var 1) rfl hd (Nat.min_le_left (u) (2 ^ v - 1)) (nsa (l) (1))))⟩
        refine hideG fun gHid hHid => ?_
        obtain ⟨m, rfl⟩ : ∃ m, l = m + 1 := ⟨l - 1, by (exact (Nat.le_antisymm (nl (.branch 1 (.leaf l) (.leaf (l - 1))) [(1, (.var 0), (.add (.var 1) (.num 1)))] 1 (.var 0) (.add (.var 1) (.num 1)) rfl (nsa (l) (1))) (nl (.branch 1 (.leaf (l - 1)) (.leaf l)) [(1, (.add (.var 0) (.num 1)), (.var 1))] 1 (.add (.var 0) (.num 1)) (.var 1) rfl (nsb (nl (.branch 1 (.leaf l) (.leaf u)) [(1, (.add (.var 1) (.num 1)), (.var 0))] 1 (.num 1) (.var 0) rfl hd)))))⟩
        refine hHid ?_; clear hHid gHid
        rw [Nat.add_sub_cancel]
        rw [← e]; grind
      · have hd := guess_up hV e (by (exact Nat.le_of_not_lt (by assumption)) : l * s ≤ r * 2 ^ v + dg T 0)
        rw [hu] at hd
        refine ⟨r, ?_⟩
        rw [show min u (2 ^ v - 1) = l by (exact (Nat.le_antisymm (nl (.branch 1 (.leaf (min u (2 ^ v - 1))) (.leaf l)) [(1, (.var 0), (.var 1))] 1 (.var 0) (.var 1) rfl hlo) (Nat.le_min.mpr ⟨(nl (.branch 1 (.leaf l) (.leaf u)) [(1, (.var 0), (.var 1))] 1 (.var 0) (.var 1) rfl hd), (nl (.branch 1 (.leaf l) (.leaf (2 ^ v - 1))) [(1, (.var 0), (.var 1))] 1 (.var 0) (.var 1) rfl hl)⟩)))]
    · have hls : l * s ≤ r * 2 ^ v := Nat.mul_le_mul (by (exact (nl (.branch 1 (.leaf l) (.branch 2 (.leaf (2 ^ v)) (.leaf (2 ^ v - 1)))) [(1, (.var 0), (.var 2)), (1, (.var 2), (.var 1))] 1 (.var 0) (.var 1) rfl hl (Nat.sub_le (2 ^ v) (1))))) (by (exact Nat.le_of_lt (by assumption))) |> fun (q : l * s ≤ 2 ^ v * 2 ^ v) => Nat.le_trans q (Nat.mul_le_mul_right _ (by (exact Nat.le_of_not_lt (by assumption))))
      have hd := guess_up (t0 := dg T 0) hV e (by (exact (nl (.branch 1 (.leaf (l * s)) (.branch 2 (.leaf (r * 2 ^ v)) (.leaf (dg T 0)))) [(1, (.var 0), (.var 1))] 1 (.var 0) (.add (.var 1) (.var 2)) rfl hls)))
      rw [hu] at hd
      refine ⟨r, ?_⟩
      rw [show min u (2 ^ v - 1) = l by (exact (Nat.le_antisymm (nl (.branch 1 (.leaf (min u (2 ^ v - 1))) (.leaf l)) [(1, (.var 0), (.var 1))] 1 (.var 0) (.var 1) rfl hlo) (Nat.le_min.mpr ⟨(nl (.branch 1 (.leaf l) (.leaf u)) [(1, (.var 0), (.var 1))] 1 (.var 0) (.var 1) rfl hd), (nl (.branch 1 (.leaf l) (.leaf (2 ^ v - 1))) [(1, (.var 0), (.var 1))] 1 (.var 0) (.var 1) rfl hl)⟩)))]
  · intro _ hI1
    refine hideG fun gHid hHid => ?_
    obtain ⟨r, rfl⟩ := hI1
    refine hHid ?_; clear hHid gHid
    isplit; fin_run
    exact .inl rfl

theorem take_away_run (G : Gl mg mb g₀ recs) {v q p : Nat} {R C : List Nat} (hv : 0 < v) (hv' : v ≤ 10) (dR : Ds (2 ^ v) R) (dC : Ds (2 ^ v) C) (lR : R.length ≤ 3000) (hp : p + C.length < R.length) (hq : q < 2 ^ v) :
    Turns mg g₀ prog w "take_away" 1 (natsL R) [nats C, .int (q : Int), .int (p : Int), .int (v : Int)] fun ys r => ∃ R' br, ys = natsL R' ∧ r = .int ((br : Nat) : Int) ∧ br ≤ 1 ∧ Win (2 ^ v) p C.length R R' ∧
      val (2 ^ v) R' + (2 ^ v) ^ p * (q * val (2 ^ v) C) = val (2 ^ v) R + (2 ^ v) ^ (p + C.length + 1) * br := by
  have hB := two_le hv
  have hB' := pow_le10 hv'
  refine Turns.intro (d := dAt 40) G mem_take_away ok_take_away rfl ?_
  intro L a cd l
  conv in (dAt 40).body => whnf
  conv in (dAt 40).scope => whnf
  change ExS _ _ _ _ _ _ _ [("rest", Bnd.mown l (natsL R)), ("b", Bnd.val (nats C)), ("limb", Bnd.val (.int (q : Int))), ("at", Bnd.val (.int (p : Int))), ("w", Bnd.val (.int (v : Int))), ("carry", .un), ("base", .un), ("spot", .un), ("other", .un), ("here", .un)] _
  isplit; fin_run
  refine ⟨rfl, by simp, _, .cons (by k_upd) (.cons (by k_upd) .nil), ?_⟩
  refine ExS.cons (Ex1.for (EvI.enum G ?_))
  fin_run
  refine ⟨fun i ρ => ∃ (H : List Nat) (c : Nat) (B1 B2 B3 : Bnd), ρ = ([("rest", Bnd.mown l (natsL H)), ("b", Bnd.val (nats C)), ("limb", Bnd.val (.int (q : Int))), ("at", Bnd.val (.int (p : Int))), ("w", Bnd.val (.int (v : Int))), ("carry", .val (.int (c : Int))), ("base", .val (.int ((2 ^ v : Nat) : Int))), ("spot", B1), ("other", B2), ("here", B3)] : Row) ∧
    Win (2 ^ v) p C.length R H ∧ c ≤ q ∧ val (2 ^ v) H + (2 ^ v) ^ p * (q * val (2 ^ v) (C.take i)) = val (2 ^ v) R + (2 ^ v) ^ (p + i) * c, ⟨R, 0, _, _, _, rfl, Win.refl dR, by (exact (nl (.leaf q) [] 1 (.num 0) (.var 0) rfl)), by simp [val]⟩, ?_, ?_⟩
  · intro i X ρ2 hX hI1
    refine step_hide fun K hK => ?_
    refine elS_5_3 hI1 ?_
    intro H c B1 B2 B3 hρ wH hc he
    clear hI1
    subst hρ
    refine hideG fun gHid hHid => ?_
    obtain ⟨hi, rfl⟩ := enum_get hX
    refine hHid ?_; clear hHid gHid
    have hl := wH.len
    have h1 := dC.dg (j := i) (by (exact Nat.le_of_lt (by assumption)))
    have h2 := wH.ds.dg (j := p + i) (by (exact Nat.le_of_lt (by assumption)))
    have hmb : (q * dg C i + c) % 2 ^ v < 2 ^ v := Nat.mod_lt _ (by (exact Nat.le_of_lt (by assumption)))
    refine AsX.two (by k_upd) (by k_upd) ?_
    ((try have kq1 : p + i < H.length := (nl (.branch 2 (.branch 1 (.leaf p) (.leaf i)) (.branch 3 (.leaf (H.length)) (.branch 4 (.leaf (C.length)) (.leaf (R.length))))) [(1, (.add (.add (.var 0) (.var 3)) (.num 1)), (.var 4)), (1, (.add (.var 1) (.num 1)), (.var 3)), (1, (.var 4), (.var 2))] 1 (.add (.add (.var 0) (.var 1)) (.num 1)) (.var 2) rfl hp hi (nge hl))); (try have kq2 : H.length < 2 ^ 60 := (nl (.branch 1 (.leaf (H.length)) (.leaf (R.length))) [(1, (.var 1), (.num 3000)), (1, (.var 0), (.var 1))] 1 (.add (.var 0) (.num 1)) (.num (2 ^ 60)) rfl lR (Nat.le_of_eq hl))); (try have kq3 : q < 2 ^ 60 := (nl (.branch 1 (.leaf q) (.leaf (2 ^ v))) [(1, (.add (.var 0) (.num 1)), (.var 1)), (1, (.var 1), (.num 1024))] 1 (.add (.var 0) (.num 1)) (.num (2 ^ 60)) rfl hq hB')); (try have kq4 : 0 < 2 ^ v := (nl (.branch 1 (.leaf (2 ^ v)) (.leaf q)) [(1, (.add (.var 1) (.num 1)), (.var 0))] 1 (.add (.num 0) (.num 1)) (.var 0) rfl hq)); isplit; all_goals (try clear kq1 kq2 kq3 kq4)); fin_run
    isplit; fin_run
    refine EvV.meet (.int ((if dg H (p + i) < (q * dg C i + c) % 2 ^ v then 1 else 0 : Nat) : Int)) (fun h => ?_) (fun h => ?_) ?_
    · fin_run; exact ⟨by rw [if_pos (by (clear hmb h2 h1 hl hX hi he hc wH hK hB' hB hq hp lR dC dR hv' hv G; omega))], rfl⟩
    · fin_run; exact ⟨by rw [if_neg (by (clear hmb h2 h1 hl hX hi he hc wH hK hB' hB hq hp lR dC dR hv' hv G; omega))], rfl⟩
    have hbr : (if dg H (p + i) < (q * dg C i + c) % 2 ^ v then 1 else 0) = 0 ∧ (q * dg C i + c) % 2 ^ v ≤ dg H (p + i) ∨ (if dg H (p + i) < (q * dg C i + c) % 2 ^ v then 1 else 0) = 1 ∧ dg H (p + i) < (q * dg C i + c) % 2 ^ v := by
      split
      · exact .inr ⟨rfl, by assumption⟩
      · exact .inl ⟨rfl, by (exact Nat.le_of_not_lt (by assumption))⟩
    generalize (if dg H (p + i) < (q * dg C i + c) % 2 ^ v then 1 else 0 : Nat) = br at *
    fin_run
    isplit; fin_run
    refine EvV.meet (.int ((dg H (p + i) + 2 ^ v * br - (q * dg C i + c) % 2 ^ v : Nat) : Int)) (fun h => ?_) (fun h => ?_) ?_
    · fin_run
      refine ⟨?_, rfl⟩
      rw [show br = 1 by (clear hmb h2 h1 hl hX hi he hc wH hK hB' hB hq hp lR dC dR hv' hv G; lia)]; congr 1; omega
    · fin_run
      refine ⟨?_, rfl⟩
      rw [show br = 0 by (clear hmb h2 h1 hl hX hi he hc wH hK hB' hB hq hp lR dC dR hv' hv G; lia)]; congr 1; lia
    fin_run
    have hx : dg H (p + i) + 2 ^ v * br - (q * dg C i + c) % 2 ^ v + (q * dg C i + c) % 2 ^ v = dg H (p + i) + 2 ^ v * br := by
      rcases hbr with ⟨rfl, h⟩ | ⟨rfl, h⟩ <;> (first | (exact (Nat.le_antisymm (nl (.branch 2 (.branch 1 (.leaf (dg H (p + i) + 2 ^ v * 0 - (q * dg C i + c) % 2 ^ v)) (.leaf ((q * dg C i + c) % 2 ^ v))) (.branch 3 (.leaf (dg H (p + i))) (.leaf (2 ^ v)))) [(1, (.add (.var 0) (.var 1)), (.add (.var 2) (.mulR (.var 3) 0)))] 1 (.add (.var 0) (.var 1)) (.add (.var 2) (.mulR (.var 3) 0)) rfl (nsb (nl (.branch 1 (.leaf ((q * dg C i + c) % 2 ^ v)) (.branch 2 (.leaf (dg H (p + i))) (.leaf (2 ^ v)))) [(1, (.var 0), (.var 1))] 1 (.var 0) (.add (.var 1) (.mulR (.var 2) 0)) rfl h))) (nl (.branch 2 (.branch 1 (.leaf (dg H (p + i))) (.leaf (2 ^ v))) (.branch 3 (.leaf (dg H (p + i) + 2 ^ v * 0 - (q * dg C i + c) % 2 ^ v)) (.leaf ((q * dg C i + c) % 2 ^ v)))) [(1, (.add (.var 0) (.mulR (.var 1) 0)), (.add (.var 2) (.var 3)))] 1 (.add (.var 0) (.mulR (.var 1) 0)) (.add (.var 2) (.var 3)) rfl (nsa (dg H (p + i) + 2 ^ v * 0) ((q * dg C i + c) % 2 ^ v))))) | (clear h hmb h2 h1 hl hX hi he hc wH hK hB' hB hq hp lR dC dR hv' hv G; omega))
    refine ExS.nil (hK _ _ ⟨_, _, _, _, _, rfl, wH.set (k := p + i) (by (exact (nl (.branch 1 (.leaf p) (.leaf i)) [] 1 (.var 0) (.add (.var 0) (.var 1)) rfl))) (by (exact (nl (.branch 1 (.leaf p) (.branch 2 (.leaf i) (.leaf (C.length)))) [(1, (.add (.var 1) (.num 1)), (.var 2))] 1 (.add (.var 0) (.var 1)) (.add (.var 0) (.var 2)) rfl hi))) ?_, take_carry h1 hc rfl (hbr.imp And.left id), ?_⟩)
    · rcases hbr with ⟨rfl, h⟩ | ⟨rfl, h⟩ <;> (first | (exact (nl (.branch 1 (.leaf (dg H (p + i) + 2 ^ v * 0 - (q * dg C i + c) % 2 ^ v)) (.branch 2 (.leaf (2 ^ v)) (.leaf (dg H (p + i))))) [(1, (.add (.var 2) (.num 1)), (.var 1)), (1, (.var 0), (.add (.var 2) (.mulR (.var 1) 0)))] 1 (.add (.var 0) (.num 1)) (.var 1) rfl h2 (Nat.sub_le (dg H (p + i) + 2 ^ v * 0) ((q * dg C i + c) % 2 ^ v)))) | lia)
    · have e1 := @val_set_dg (2 ^ v) (p + i) (dg H (p + i) + 2 ^ v * br - (q * dg C i + c) % 2 ^ v) H (by (exact (nl (.branch 2 (.branch 1 (.leaf p) (.leaf i)) (.branch 3 (.leaf (H.length)) (.branch 4 (.leaf (C.length)) (.leaf (R.length))))) [(1, (.add (.add (.var 0) (.var 3)) (.num 1)), (.var 4)), (1, (.add (.var 1) (.num 1)), (.var 3)), (1, (.var 4), (.var 2))] 1 (.add (.add (.var 0) (.var 1)) (.num 1)) (.var 2) rfl hp hi (nge hl))))
      have e2 := take_step (P := (2 ^ v) ^ (p + i)) rfl hx
      rw [val_take_dg hi, show p + (i + 1) = p + i + 1 from rfl, Nat.pow_succ]
      have e4 : (2 ^ v) ^ p * (q * (val (2 ^ v) (C.take i) + (2 ^ v) ^ i * dg C i)) = (2 ^ v) ^ p * (q * val (2 ^ v) (C.take i)) + (2 ^ v) ^ (p + i) * (q * dg C i) := by rw [Nat.pow_add]; grind
      rw [e4]
      (exact (Nat.le_antisymm (nl (.branch 4 (.branch 2 (.branch 1 (.leaf (val (2 ^ v) (H.set (p + i) (dg H (p + i) + 2 ^ v * br - (q * dg C i + c) % 2 ^ v)))) (.leaf ((2 ^ v) ^ p * (q * val (2 ^ v) (List.take i C))))) (.branch 3 (.leaf ((2 ^ v) ^ (p + i) * (q * dg C i))) (.leaf (val (2 ^ v) R)))) (.branch 6 (.branch 5 (.leaf ((2 ^ v) ^ (p + i) * 2 ^ v * ((q * dg C i + c) / 2 ^ v + br))) (.leaf (val (2 ^ v) H))) (.branch 7 (.leaf ((2 ^ v) ^ (p + i) * c)) (.branch 8 (.leaf ((2 ^ v) ^ (p + i) * dg H (p + i))) (.leaf ((2 ^ v) ^ (p + i) * (dg H (p + i) + 2 ^ v * br - (q * dg C i + c) % 2 ^ v))))))) [(1, (.add (.var 5) (.var 1)), (.add (.var 3) (.var 6))), (1, (.add (.var 0) (.var 7)), (.add (.var 5) (.var 8))), (1, (.add (.add (.var 8) (.var 2)) (.var 6)), (.add (.var 7) (.var 4)))] 1 (.add (.var 0) (.add (.var 1) (.var 2))) (.add (.var 3) (.var 4)) rfl (Nat.le_of_eq he) (Nat.le_of_eq e1) (Nat.le_of_eq e2)) (nl (.branch 4 (.branch 2 (.branch 1 (.leaf (val (2 ^ v) R)) (.leaf ((2 ^ v) ^ (p + i) * 2 ^ v * ((q * dg C i + c) / 2 ^ v + br)))) (.branch 3 (.leaf (val (2 ^ v) (H.set (p + i) (dg H (p + i) + 2 ^ v * br - (q * dg C i + c) % 2 ^ v)))) (.leaf ((2 ^ v) ^ p * (q * val (2 ^ v) (List.take i C)))))) (.branch 6 (.branch 5 (.leaf ((2 ^ v) ^ (p + i) * (q * dg C i))) (.leaf (val (2 ^ v) H))) (.branch 7 (.leaf ((2 ^ v) ^ (p + i) * c)) (.branch 8 (.leaf ((2 ^ v) ^ (p + i) * dg H (p + i))) (.leaf ((2 ^ v) ^ (p + i) * (dg H (p + i) + 2 ^ v * br - (q * dg C i + c) % 2 ^ v))))))) [(1, (.add (.var 0) (.var 6)), (.add (.var 5) (.var 3))), (1, (.add (.var 5) (.var 8)), (.add (.var 2) (.var 7))), (1, (.add (.var 7) (.var 1)), (.add (.add (.var 8) (.var 4)) (.var 6)))] 1 (.add (.var 0) (.var 1)) (.add (.var 2) (.add (.var 3) (.var 4))) rfl (nge he) (nge e1) (nge e2))))
  · intro ρ2 hI1
    refine elS_5_3 hI1 ?_
    intro H c B1 B2 B3 hρ wH hc he
    clear hI1
    subst hρ
    rw [enum_length, natsL_length, List.take_length] at he
    have hl := wH.len
    have h2 := wH.ds.dg (j := p + C.length) (by (exact Nat.le_of_lt (by assumption)))
    ((try have kq1 : C.length < 2 ^ 60 := (nl (.branch 1 (.leaf (C.length)) (.branch 2 (.leaf (R.length)) (.leaf p))) [(1, (.var 1), (.num 3000)), (1, (.add (.add (.var 2) (.var 0)) (.num 1)), (.var 1))] 1 (.add (.var 0) (.num 1)) (.num (2 ^ 60)) rfl lR hp)); (try have kq2 : p + C.length < H.length := (nl (.branch 2 (.branch 1 (.leaf p) (.leaf (C.length))) (.branch 3 (.leaf (H.length)) (.leaf (R.length)))) [(1, (.add (.add (.var 0) (.var 1)) (.num 1)), (.var 3)), (1, (.var 3), (.var 2))] 1 (.add (.add (.var 0) (.var 1)) (.num 1)) (.var 2) rfl hp (nge hl))); (try have kq3 : H.length < 2 ^ 60 := (nl (.branch 1 (.leaf (H.length)) (.leaf (R.length))) [(1, (.var 1), (.num 3000)), (1, (.var 0), (.var 1))] 1 (.add (.var 0) (.num 1)) (.num (2 ^ 60)) rfl lR (Nat.le_of_eq hl))); isplit; all_goals (try clear kq1 kq2 kq3)); fin_run
    isplit; fin_run
    have hbr : (if dg H (p + C.length) < c then 1 else 0) = 0 ∧ c ≤ dg H (p + C.length) ∨ (if dg H (p + C.length) < c then 1 else 0) = 1 ∧ dg H (p + C.length) < c := by
      split
      · exact .inr ⟨rfl, by assumption⟩
      · exact .inl ⟨rfl, by (exact Nat.le_of_not_lt (by assumption))⟩
    refine EvV.meet (.int ((dg H (p + C.length) + 2 ^ v * (if dg H (p + C.length) < c then 1 else 0) - c : Nat) : Int)) (fun h => ?_) (fun h => ?_) ?_
    · fin_run
      refine ⟨?_, rfl⟩
      rw [if_pos (by lia)]; congr 1; (clear h hbr h2 hl he wH hB' hB hp lR dC dR hv' hv G; lia)
    · fin_run
      refine ⟨?_, rfl⟩
      rw [if_neg (by lia)]; congr 1; lia
    fin_run
    isplit; fin_run
    refine EvV.meet (.int ((if dg H (p + C.length) < c then 1 else 0 : Nat) : Int)) (fun h => ?_) (fun h => ?_) ?_
    · fin_run; exact ⟨by rw [if_pos (by omega)], rfl⟩
    · fin_run; exact ⟨by rw [if_neg (by omega)], rfl⟩
    generalize (if dg H (p + C.length) < c then 1 else 0 : Nat) = br at *
    have hx : dg H (p + C.length) + 2 ^ v * br - c + c = dg H (p + C.length) + 2 ^ v * br := by
      rcases hbr with ⟨rfl, h⟩ | ⟨rfl, h⟩ <;> (first | (exact (Nat.le_antisymm (nl (.branch 2 (.branch 1 (.leaf (dg H (p + C.length) + 2 ^ v * 0 - c)) (.leaf c)) (.branch 3 (.leaf (dg H (p + C.length))) (.leaf (2 ^ v)))) [(1, (.add (.var 0) (.var 1)), (.add (.var 2) (.mulR (.var 3) 0)))] 1 (.add (.var 0) (.var 1)) (.add (.var 2) (.mulR (.var 3) 0)) rfl (nsb (nl (.branch 1 (.leaf c) (.branch 2 (.leaf (dg H (p + C.length))) (.leaf (2 ^ v)))) [(1, (.var 0), (.var 1))] 1 (.var 0) (.add (.var 1) (.mulR (.var 2) 0)) rfl h))) (nl (.branch 2 (.branch 1 (.leaf (dg H (p + C.length))) (.leaf (2 ^ v))) (.branch 3 (.leaf (dg H (p + C.length) + 2 ^ v * 0 - c)) (.leaf c))) [(1, (.add (.var 0) (.mulR (.var 1) 0)), (.add (.var 2) (.var 3)))] 1 (.add (.var 0) (.mulR (.var 1) 0)) (.add (.var 2) (.var 3)) rfl (nsa (dg H (p + C.length) + 2 ^ v * 0) (c))))) | (exact (Nat.le_antisymm (nl (.branch 2 (.branch 1 (.leaf (dg H (p + C.length) + 2 ^ v * 1 - c)) (.leaf c)) (.branch 3 (.leaf (dg H (p + C.length))) (.leaf (2 ^ v)))) [(1, (.add (.var 0) (.var 1)), (.add (.var 2) (.mulR (.var 3) 1)))] 1 (.add (.var 0) (.var 1)) (.add (.var 2) (.mulR (.var 3) 1)) rfl (nsb (nl (.branch 2 (.branch 1 (.leaf c) (.leaf (dg H (p + C.length)))) (.branch 3 (.leaf (2 ^ v)) (.leaf q))) [(1, (.add (.var 3) (.num 1)), (.var 2)), (1, (.var 0), (.var 3))] 1 (.var 0) (.add (.var 1) (.mulR (.var 2) 1)) rfl hq hc))) (nl (.branch 2 (.branch 1 (.leaf (dg H (p + C.length))) (.leaf (2 ^ v))) (.branch 3 (.leaf (dg H (p + C.length) + 2 ^ v * 1 - c)) (.leaf c))) [(1, (.add (.var 0) (.mulR (.var 1) 1)), (.add (.var 2) (.var 3)))] 1 (.add (.var 0) (.mulR (.var 1) 1)) (.add (.var 2) (.var 3)) rfl (nsa (dg H (p + C.length) + 2 ^ v * 1) (c))))))
    refine ⟨_, _, ⟨_, br, rfl, rfl, by lia, wH.set (k := p + C.length) (by (exact (nl (.branch 1 (.leaf p) (.leaf (C.length))) [] 1 (.var 0) (.add (.var 0) (.var 1)) rfl))) (by (exact Nat.le_refl _)) ?_, ?_⟩, .inl rfl, by k_memK⟩
    · rcases hbr with ⟨rfl, h⟩ | ⟨rfl, h⟩ <;> (first | (exact (nl (.branch 1 (.leaf (dg H (p + C.length) + 2 ^ v * 0 - c)) (.branch 2 (.leaf (2 ^ v)) (.leaf (dg H (p + C.length))))) [(1, (.add (.var 2) (.num 1)), (.var 1)), (1, (.var 0), (.add (.var 2) (.mulR (.var 1) 0)))] 1 (.add (.var 0) (.num 1)) (.var 1) rfl h2 (Nat.sub_le (dg H (p + C.length) + 2 ^ v * 0) (c)))) | lia)
    · have e1 := @val_set_dg (2 ^ v) (p + C.length) (dg H (p + C.length) + 2 ^ v * br - c) H (by (exact (nl (.branch 2 (.branch 1 (.leaf p) (.leaf (C.length))) (.branch 3 (.leaf (H.length)) (.leaf (R.length)))) [(1, (.add (.add (.var 0) (.var 1)) (.num 1)), (.var 3)), (1, (.var 3), (.var 2))] 1 (.add (.add (.var 0) (.var 1)) (.num 1)) (.var 2) rfl hp (nge hl))))
      have e2 : (2 ^ v) ^ (p + C.length) * (dg H (p + C.length) + 2 ^ v * br - c) + (2 ^ v) ^ (p + C.length) * c = (2 ^ v) ^ (p + C.length) * dg H (p + C.length) + (2 ^ v) ^ (p + C.length) * 2 ^ v * br := by
        rw [← Nat.mul_add, hx]; grind
      rw [Nat.pow_succ]
      (exact (Nat.le_antisymm (nl (.branch 4 (.branch 2 (.branch 1 (.leaf (val (2 ^ v) (H.set (p + C.length) (dg H (p + C.length) + 2 ^ v * br - c)))) (.leaf ((2 ^ v) ^ p * (q * val (2 ^ v) C)))) (.branch 3 (.leaf (val (2 ^ v) R)) (.leaf ((2 ^ v) ^ (p + C.length) * 2 ^ v * br)))) (.branch 6 (.branch 5 (.leaf (val (2 ^ v) H)) (.leaf ((2 ^ v) ^ (p + C.length) * c))) (.branch 7 (.leaf ((2 ^ v) ^ (p + C.length) * dg H (p + C.length))) (.leaf ((2 ^ v) ^ (p + C.length) * (dg H (p + C.length) + 2 ^ v * br - c)))))) [(1, (.add (.var 4) (.var 1)), (.add (.var 2) (.var 5))), (1, (.add (.var 0) (.var 6)), (.add (.var 4) (.var 7))), (1, (.add (.var 7) (.var 5)), (.add (.var 6) (.var 3)))] 1 (.add (.var 0) (.var 1)) (.add (.var 2) (.var 3)) rfl (Nat.le_of_eq he) (Nat.le_of_eq e1) (Nat.le_of_eq e2)) (nl (.branch 4 (.branch 2 (.branch 1 (.leaf (val (2 ^ v) R)) (.leaf ((2 ^ v) ^ (p + C.length) * 2 ^ v * br))) (.branch 3 (.leaf (val (2 ^ v) (H.set (p + C.length) (dg H (p + C.length) + 2 ^ v * br - c)))) (.leaf ((2 ^ v) ^ p * (q * val (2 ^ v) C))))) (.branch 6 (.branch 5 (.leaf (val (2 ^ v) H)) (.leaf ((2 ^ v) ^ (p + C.length) * c))) (.branch 7 (.leaf ((2 ^ v) ^ (p + C.length) * dg H (p + C.length))) (.leaf ((2 ^ v) ^ (p + C.length) * (dg H (p + C.length) + 2 ^ v * br - c)))))) [(1, (.add (.var 0) (.var 5)), (.add (.var 4) (.var 3))), (1, (.add (.var 4) (.var 7)), (.add (.var 2) (.var 6))), (1, (.add (.var 6) (.var 1)), (.add (.var 7) (.var 5)))] 1 (.add (.var 0) (.var 1)) (.add (.var 2) (.var 3)) rfl (nge he) (nge e1) (nge e2))))

theorem put_back_run (G : Gl mg mb g₀ recs) {v p : Nat} {R C : List Nat} (hv : 0 < v) (hv' : v ≤ 10) (dR : Ds (2 ^ v) R) (dC : Ds (2 ^ v) C) (lR : R.length ≤ 3000) (hp : p + C.length < R.length) :
    Turns mg g₀ prog w "put_back" 1 (natsL R) [nats C, .int (p : Int), .int (v : Int)] fun ys r => ∃ R' t, ys = natsL R' ∧ r = .none ∧ Win (2 ^ v) p C.length R R' ∧
      val (2 ^ v) R' + (2 ^ v) ^ (p + C.length + 1) * t = val (2 ^ v) R + (2 ^ v) ^ p * val (2 ^ v) C := by
  have hB := two_le hv
  have hB' := pow_le10 hv'
  refine Turns.intro (d := dAt 41) G mem_put_back ok_put_back rfl ?_
  intro L a cd l
  conv in (dAt 41).body => whnf
  conv in (dAt 41).scope => whnf
  change ExS _ _ _ _ _ _ _ [("rest", Bnd.mown l (natsL R)), ("b", Bnd.val (nats C)), ("at", Bnd.val (.int (p : Int))), ("w", Bnd.val (.int (v : Int))), ("carry", .un), ("mask", .un), ("spot", .un), ("other", .un)] _
  isplit; ((try have kq1 : 1 ≤ 2 ^ v := (nl (.leaf (2 ^ v)) [(1, (.num 2), (.var 0))] 1 (.num 1) (.var 0) rfl hB)); fin_run; all_goals (try clear kq1))
  refine ⟨rfl, by simp, _, .cons (by k_upd) (.cons (by k_upd) .nil), ?_⟩
  refine ExS.cons (Ex1.for (EvI.enum G ?_))
  fin_run
  refine ⟨fun i ρ => ∃ (H : List Nat) (c : Nat) (B1 B2 : Bnd), ρ = ([("rest", Bnd.mown l (natsL H)), ("b", Bnd.val (nats C)), ("at", Bnd.val (.int (p : Int))), ("w", Bnd.val (.int (v : Int))), ("carry", .val (.int (c : Int))), ("mask", .val (.int ((2 ^ v - 1 : Nat) : Int))), ("spot", B1), ("other", B2)] : Row) ∧
    Win (2 ^ v) p C.length R H ∧ c ≤ 1 ∧ val (2 ^ v) H + (2 ^ v) ^ (p + i) * c = val (2 ^ v) R + (2 ^ v) ^ p * val (2 ^ v) (C.take i), ⟨R, 0, _, _, rfl, Win.refl dR, by decide, by simp [val]⟩, ?_, ?_⟩
  · intro i X ρ2 hX hI1
    refine step_hide fun K hK => ?_
    refine elS_4_3 hI1 ?_
    intro H c B1 B2 hρ wH hc he
    clear hI1
    subst hρ
    refine hideG fun gHid hHid => ?_
    obtain ⟨hi, rfl⟩ := enum_get hX
    refine hHid ?_; clear hHid gHid
    have hl := wH.len
    have h1 := dC.dg (j := i) (by (exact Nat.le_of_lt (by assumption)))
    have h2 := wH.ds.dg (j := p + i) (by (exact Nat.le_of_lt (by assumption)))
    refine AsX.two (by k_upd) (by k_upd) ?_
    ((try have kq1 : p + i < H.length := (nl (.branch 2 (.branch 1 (.leaf p) (.leaf i)) (.branch 3 (.leaf (H.length)) (.branch 4 (.leaf (C.length)) (.leaf (R.length))))) [(1, (.add (.add (.var 0) (.var 3)) (.num 1)), (.var 4)), (1, (.add (.var 1) (.num 1)), (.var 3)), (1, (.var 4), (.var 2))] 1 (.add (.add (.var 0) (.var 1)) (.num 1)) (.var 2) rfl hp hi (nge hl))); (try have kq2 : H.length < 2 ^ 60 := (nl (.branch 1 (.leaf (H.length)) (.leaf (R.length))) [(1, (.var 1), (.num 3000)), (1, (.var 0), (.var 1))] 1 (.add (.var 0) (.num 1)) (.num (2 ^ 60)) rfl lR (Nat.le_of_eq hl))); isplit; all_goals (try clear kq1 kq2)); fin_run
    isplit; fin_run
    isplit; fin_run
    refine ExS.nil (hK _ _ ⟨_, _, _, _, rfl, wH.set (k := p + i) (by (exact (nl (.branch 1 (.leaf p) (.leaf i)) [] 1 (.var 0) (.add (.var 0) (.var 1)) rfl))) (by (exact (nl (.branch 1 (.leaf p) (.branch 2 (.leaf i) (.leaf (C.length)))) [(1, (.add (.var 1) (.num 1)), (.var 2))] 1 (.add (.var 0) (.var 1)) (.add (.var 0) (.var 2)) rfl hi))) (Nat.mod_lt _ (by (exact Nat.le_of_lt (by assumption)))), ?_, ?_⟩)
    · have : (c + (dg H (p + i) + dg C i)) / 2 ^ v < 2 := Nat.div_lt_of_lt_mul (by (exact (nl (.branch 2 (.branch 1 (.leaf c) (.leaf (dg H (p + i)))) (.branch 3 (.leaf (dg C i)) (.leaf (2 ^ v)))) [(1, (.var 0), (.num 1)), (1, (.add (.var 2) (.num 1)), (.var 3)), (1, (.add (.var 1) (.num 1)), (.var 3))] 1 (.add (.add (.var 0) (.add (.var 1) (.var 2))) (.num 1)) (.mulR (.var 3) 2) rfl hc h1 h2)))
      (exact (nl (.leaf ((c + (dg H (p + i) + dg C i)) / 2 ^ v)) [(1, (.add (.var 0) (.num 1)), (.num 2))] 1 (.var 0) (.num 1) rfl this))
    · have e1 := @val_set_dg (2 ^ v) (p + i) ((c + (dg H (p + i) + dg C i)) % 2 ^ v) H (by omega)
      have e2 := Nat.div_add_mod (c + (dg H (p + i) + dg C i)) (2 ^ v)
      rw [val_take_dg hi, show p + (i + 1) = p + i + 1 from rfl, Nat.pow_succ]
      generalize (c + (dg H (p + i) + dg C i)) / 2 ^ v = u at *
      generalize (c + (dg H (p + i) + dg C i)) % 2 ^ v = r at *
      have e3 : (2 ^ v) ^ (p + i) * (2 ^ v * u + r) = (2 ^ v) ^ (p + i) * (c + (dg H (p + i) + dg C i)) := by rw [e2]
      have e4 : (2 ^ v) ^ p * (val (2 ^ v) (C.take i) + (2 ^ v) ^ i * dg C i) = (2 ^ v) ^ p * val (2 ^ v) (C.take i) + (2 ^ v) ^ (p + i) * dg C i := by rw [Nat.pow_add]; grind
      rw [e4, Nat.mul_assoc]
      rw [Nat.mul_add, Nat.mul_add, Nat.mul_add] at e3
      (exact (Nat.le_antisymm (nl (.branch 4 (.branch 2 (.branch 1 (.leaf (val (2 ^ v) (H.set (p + i) r))) (.leaf ((2 ^ v) ^ (p + i) * (2 ^ v * u)))) (.branch 3 (.leaf (val (2 ^ v) R)) (.leaf ((2 ^ v) ^ p * val (2 ^ v) (List.take i C))))) (.branch 6 (.branch 5 (.leaf ((2 ^ v) ^ (p + i) * dg C i)) (.leaf (val (2 ^ v) H))) (.branch 7 (.leaf ((2 ^ v) ^ (p + i) * c)) (.branch 8 (.leaf ((2 ^ v) ^ (p + i) * dg H (p + i))) (.leaf ((2 ^ v) ^ (p + i) * r)))))) [(1, (.add (.var 5) (.var 6)), (.add (.var 2) (.var 3))), (1, (.add (.var 0) (.var 7)), (.add (.var 5) (.var 8))), (1, (.add (.var 1) (.var 8)), (.add (.var 6) (.add (.var 7) (.var 4))))] 1 (.add (.var 0) (.var 1)) (.add (.var 2) (.add (.var 3) (.var 4))) rfl (Nat.le_of_eq he) (Nat.le_of_eq e1) (Nat.le_of_eq e3)) (nl (.branch 4 (.branch 2 (.branch 1 (.leaf (val (2 ^ v) R)) (.leaf ((2 ^ v) ^ p * val (2 ^ v) (List.take i C)))) (.branch 3 (.leaf ((2 ^ v) ^ (p + i) * dg C i)) (.leaf (val (2 ^ v) (H.set (p + i) r))))) (.branch 6 (.branch 5 (.leaf ((2 ^ v) ^ (p + i) * (2 ^ v * u))) (.leaf (val (2 ^ v) H))) (.branch 7 (.leaf ((2 ^ v) ^ (p + i) * c)) (.branch 8 (.leaf ((2 ^ v) ^ (p + i) * dg H (p + i))) (.leaf ((2 ^ v) ^ (p + i) * r)))))) [(1, (.add (.var 0) (.var 1)), (.add (.var 5) (.var 6))), (1, (.add (.var 5) (.var 8)), (.add (.var 3) (.var 7))), (1, (.add (.var 6) (.add (.var 7) (.var 2))), (.add (.var 4) (.var 8)))] 1 (.add (.var 0) (.add (.var 1) (.var 2))) (.add (.var 3) (.var 4)) rfl (nge he) (nge e1) (nge e3))))
  · intro ρ2 hI1
    refine elS_4_3 hI1 ?_
    intro H c B1 B2 hρ wH hc he
    clear hI1
    subst hρ
    rw [enum_length, natsL_length, List.take_length] at he
    have hl := wH.len
    have h2 := wH.ds.dg (j := p + C.length) (by (exact Nat.le_of_lt (by assumption)))
    ((try have kq1 : C.length < 2 ^ 60 := (nl (.branch 1 (.leaf (C.length)) (.branch 2 (.leaf (R.length)) (.leaf p))) [(1, (.var 1), (.num 3000)), (1, (.add (.add (.var 2) (.var 0)) (.num 1)), (.var 1))] 1 (.add (.var 0) (.num 1)) (.num (2 ^ 60)) rfl lR hp)); (try have kq2 : p + C.length < H.length := (nl (.branch 2 (.branch 1 (.leaf p) (.leaf (C.length))) (.branch 3 (.leaf (H.length)) (.leaf (R.length)))) [(1, (.add (.add (.var 0) (.var 1)) (.num 1)), (.var 3)), (1, (.var 3), (.var 2))] 1 (.add (.add (.var 0) (.var 1)) (.num 1)) (.var 2) rfl hp (nge hl))); (try have kq3 : H.length < 2 ^ 60 := (nl (.branch 1 (.leaf (H.length)) (.leaf (R.length))) [(1, (.var 1), (.num 3000)), (1, (.var 0), (.var 1))] 1 (.add (.var 0) (.num 1)) (.num (2 ^ 60)) rfl lR (Nat.le_of_eq hl))); isplit; all_goals (try clear kq1 kq2 kq3)); fin_run
    refine ExS.nil ⟨_, _, ⟨_, (dg H (p + C.length) + c) / 2 ^ v, rfl, rfl, wH.set (k := p + C.length) (by (exact (nl (.branch 1 (.leaf p) (.leaf (C.length))) [] 1 (.var 0) (.add (.var 0) (.var 1)) rfl))) (by (exact Nat.le_refl _)) (Nat.mod_lt _ (by (exact Nat.le_of_lt (by assumption)))), ?_⟩, .inr ⟨rfl, rfl⟩, by k_memK⟩
    have e1 := @val_set_dg (2 ^ v) (p + C.length) ((dg H (p + C.length) + c) % 2 ^ v) H (by (exact (nl (.branch 2 (.branch 1 (.leaf p) (.leaf (C.length))) (.branch 3 (.leaf (H.length)) (.leaf (R.length)))) [(1, (.add (.add (.var 0) (.var 1)) (.num 1)), (.var 3)), (1, (.var 3), (.var 2))] 1 (.add (.add (.var 0) (.var 1)) (.num 1)) (.var 2) rfl hp (nge hl))))
    have e2 := Nat.div_add_mod (dg H (p + C.length) + c) (2 ^ v)
    rw [Nat.pow_succ]
    generalize (dg H (p + C.length) + c) / 2 ^ v = u at *
    generalize (dg H (p + C.length) + c) % 2 ^ v = r at *
    have e3 : (2 ^ v) ^ (p + C.length) * (2 ^ v * u + r) = (2 ^ v) ^ (p + C.length) * (dg H (p + C.length) + c) := by rw [e2]
    rw [Nat.mul_assoc]
    rw [Nat.mul_add, Nat.mul_add] at e3
    (exact (Nat.le_antisymm (nl (.branch 4 (.branch 2 (.branch 1 (.leaf (val (2 ^ v) (H.set (p + C.length) r))) (.leaf ((2 ^ v) ^ (p + C.length) * (2 ^ v * u)))) (.branch 3 (.leaf (val (2 ^ v) R)) (.leaf ((2 ^ v) ^ p * val (2 ^ v) C)))) (.branch 6 (.branch 5 (.leaf (val (2 ^ v) H)) (.leaf ((2 ^ v) ^ (p + C.length) * c))) (.branch 7 (.leaf ((2 ^ v) ^ (p + C.length) * dg H (p + C.length))) (.leaf ((2 ^ v) ^ (p + C.length) * r))))) [(1, (.add (.var 4) (.var 5)), (.add (.var 2) (.var 3))), (1, (.add (.var 0) (.var 6)), (.add (.var 4) (.var 7))), (1, (.add (.var 1) (.var 7)), (.add (.var 6) (.var 5)))] 1 (.add (.var 0) (.var 1)) (.add (.var 2) (.var 3)) rfl (Nat.le_of_eq he) (Nat.le_of_eq e1) (Nat.le_of_eq e3)) (nl (.branch 4 (.branch 2 (.branch 1 (.leaf (val (2 ^ v) R)) (.leaf ((2 ^ v) ^ p * val (2 ^ v) C))) (.branch 3 (.leaf (val (2 ^ v) (H.set (p + C.length) r))) (.leaf ((2 ^ v) ^ (p + C.length) * (2 ^ v * u))))) (.branch 6 (.branch 5 (.leaf (val (2 ^ v) H)) (.leaf ((2 ^ v) ^ (p + C.length) * c))) (.branch 7 (.leaf ((2 ^ v) ^ (p + C.length) * dg H (p + C.length))) (.leaf ((2 ^ v) ^ (p + C.length) * r))))) [(1, (.add (.var 0) (.var 1)), (.add (.var 4) (.var 5))), (1, (.add (.var 4) (.var 7)), (.add (.var 2) (.var 6))), (1, (.add (.var 6) (.var 5)), (.add (.var 3) (.var 7)))] 1 (.add (.var 0) (.var 1)) (.add (.var 2) (.var 3)) rfl (nge he) (nge e1) (nge e3))))
end
end
section
theorem clip2 {l : List Nat} {i j : Nat} (hi : i ≤ l.length) (hj : j ≤ l.length) : ((natsL l).drop (clipI (some (i : Int)) 0 (natsL l).length)).take (clipI (some (j : Int)) (natsL l).length (natsL l).length - clipI (some (i : Int)) 0 (natsL l).length) = natsL ((l.drop i).take (j - i)) := by
  simp only [clipI, natsL_length, natsL_slice]
  rw [if_neg (by lia), if_neg (by lia), Int.toNat_natCast, Int.toNat_natCast, Nat.min_eq_left hi, Nat.min_eq_left hj]
theorem dg_slice {l : List Nat} {i n j : Nat} (h : j < n) : dg ((l.drop i).take n) j = dg l (i + j) := by
  unfold dg
  rw [List.getD_eq_getElem?_getD, List.getD_eq_getElem?_getD, List.getElem?_take_of_lt h, List.getElem?_drop]

theorem Win.trans {B p n : Nat} {R S T : List Nat} (a : Win B p n R S) (b : Win B p n S T) : Win B p n R T := ⟨b.len.trans a.len, b.ds, b.lo.trans a.lo, b.hi.trans a.hi⟩
theorem Win.val {B p n k X t : Nat} {R R' : List Nat} (hB : 0 < B) (w : Win B p n R R') (hp : p ≤ R.length) (e : val B R' + B ^ p * X = val B R + B ^ (p + k) * t) : val B (R'.drop p) + X = val B (R.drop p) + B ^ k * t := by
  rw [val_split B p R hp, val_split B p R' (by rw [w.len]; exact hp), w.lo, Nat.pow_add, Nat.mul_assoc, Nat.add_assoc, Nat.add_assoc, ← Nat.mul_add, ← Nat.mul_add] at e
  exact Nat.eq_of_mul_eq_mul_left (Nat.pow_pos hB) (Nat.add_left_cancel e)
theorem val_top {B n : Nat} {l : List Nat} (hB : 0 < B) (hn : n ≤ l.length) (h : val B l < B ^ n) : val B (l.drop n) = 0 := by
  rw [val_split B n l hn] at h
  rcases Nat.eq_zero_or_pos (val B (l.drop n)) with q | q
  · exact q
  · have := Nat.mul_le_mul_left (B ^ n) q
    (exact (Nat.le_antisymm (nl (.branch 2 (.branch 1 (.leaf (val B (List.drop n l))) (.leaf (val B (List.take n l)))) (.branch 3 (.leaf (B ^ n * val B (List.drop n l))) (.leaf (B ^ n)))) [(1, (.add (.add (.var 1) (.var 2)) (.num 1)), (.var 3)), (1, (.mulR (.var 3) 1), (.var 2))] 0 (.var 0) (.num 0) rfl h this) (nl (.leaf (val B (List.drop n l))) [] 1 (.num 0) (.var 0) rfl)))
theorem val_low {B n : Nat} {l : List Nat} (hB : 0 < B) (d : Ds B l) (hn : n ≤ l.length) (h : val B (l.drop n) = 0) : val B l < B ^ n := by
  rw [val_split B n l hn, h]
  have := val_lt hB (d.take (i := n))
  rw [List.length_take, Nat.min_eq_left hn] at this
  omega
/-- the guess from three limbs by two is the limb or one more -/
theorem knuth {B P U V Wl yl W y : Nat} (hW : W = Wl + P * U) (hWl : Wl < P) (hy : y = yl + P * V) (hyl : yl < P) (hV : B ≤ V) (hB : 0 < B) (h : W < B * y) : W / y ≤ min (U / V) (B - 1) ∧ min (U / V) (B - 1) ≤ W / y + 1 := by
  have hy0 : 0 < y := by
    have : P * 1 ≤ P * V := Nat.mul_le_mul_left _ (by (exact Nat.lt_of_lt_of_le (by assumption) (by assumption)))
    (exact (nl (.branch 2 (.branch 1 (.leaf y) (.leaf Wl)) (.branch 3 (.leaf P) (.branch 4 (.leaf yl) (.leaf (P * V))))) [(1, (.add (.var 1) (.num 1)), (.var 2)), (1, (.add (.var 3) (.var 4)), (.var 0)), (1, (.mulR (.var 2) 1), (.var 4))] 1 (.add (.num 0) (.num 1)) (.var 0) rfl hWl (nge hy) this))
  have hq : W / y < B := Nat.div_lt_of_lt_mul (by rw [Nat.mul_comm]; exact h)
  have hqW := Nat.div_mul_le_self W y
  have h1 : W / y ≤ U / V := by
    rw [Nat.le_div_iff_mul_le (by (exact (nl (.branch 1 (.leaf V) (.leaf B)) [(1, (.var 1), (.var 0)), (1, (.add (.num 0) (.num 1)), (.var 1))] 1 (.add (.num 0) (.num 1)) (.var 0) rfl hV hB)))]
    generalize W / y = q at *
    have e1 : P * (q * V) ≤ q * y := by rw [hy, Nat.mul_add]; have : P * (q * V) = q * (P * V) := by grind
                                        (exact (nl (.branch 1 (.leaf (P * (q * V))) (.branch 2 (.leaf (q * yl)) (.leaf (q * (P * V))))) [(1, (.var 0), (.var 2))] 1 (.var 0) (.add (.var 1) (.var 2)) rfl (Nat.le_of_eq this)))
    have e2 : P * (q * V) < P * (U + 1) := by rw [Nat.mul_add]; (exact (nl (.branch 3 (.branch 1 (.leaf (P * (q * V))) (.branch 2 (.leaf (P * U)) (.leaf P))) (.branch 4 (.leaf W) (.branch 5 (.leaf Wl) (.leaf (q * y))))) [(1, (.var 3), (.add (.var 4) (.var 1))), (1, (.add (.var 4) (.num 1)), (.var 2)), (1, (.var 5), (.var 3)), (1, (.var 0), (.var 5))] 1 (.add (.var 0) (.num 1)) (.add (.var 1) (.mulR (.var 2) 1)) rfl (Nat.le_of_eq hW) hWl hqW e1))
    have := Nat.lt_of_mul_lt_mul_left e2
    (exact (nl (.branch 1 (.leaf (q * V)) (.leaf U)) [(1, (.add (.var 0) (.num 1)), (.add (.var 1) (.num 1)))] 1 (.var 0) (.var 1) rfl this))
  refine ⟨by (exact (Nat.le_min.mpr ⟨(nl (.branch 1 (.leaf (W / y)) (.leaf (U / V))) [(1, (.var 0), (.var 1))] 1 (.var 0) (.var 1) rfl h1), (nl (.branch 1 (.leaf (W / y)) (.branch 2 (.leaf (B - 1)) (.leaf B))) [(1, (.add (.var 0) (.num 1)), (.var 2)), (1, (.var 2), (.add (.var 1) (.num 1)))] 1 (.var 0) (.var 1) rfl hq (nsa (B) (1)))⟩)), ?_⟩
  have h2 : min (U / V) (B - 1) * V ≤ U := Nat.le_trans (Nat.mul_le_mul_right _ (Nat.min_le_left ..)) (Nat.div_mul_le_self U V)
  have h3 : min (U / V) (B - 1) ≤ B - 1 := Nat.min_le_right ..
  generalize min (U / V) (B - 1) = g at *
  rcases Nat.eq_zero_or_pos g with rfl | hg
  · exact Nat.zero_le _
  refine hideG fun gHid hHid => ?_
  obtain ⟨m, rfl⟩ : ∃ m, g = m + 1 := ⟨g - 1, by (exact (Nat.le_antisymm (nl (.branch 1 (.leaf g) (.leaf (g - 1))) [(1, (.var 0), (.add (.var 1) (.num 1)))] 1 (.var 0) (.add (.var 1) (.num 1)) rfl (nsa (g) (1))) (nl (.branch 1 (.leaf (g - 1)) (.leaf g)) [(1, (.add (.var 0) (.num 1)), (.var 1))] 1 (.add (.var 0) (.num 1)) (.var 1) rfl (nsb (nl (.leaf g) [(1, (.add (.num 0) (.num 1)), (.var 0))] 1 (.num 1) (.var 0) rfl hg)))))⟩
  refine hHid ?_; clear hHid gHid
  suffices m ≤ W / y by (exact (nl (.branch 1 (.leaf m) (.leaf (W / y))) [(1, (.var 0), (.var 1))] 1 (.add (.var 0) (.num 1)) (.add (.var 1) (.num 1)) rfl this))
  rw [Nat.le_div_iff_mul_le hy0, hW, hy, Nat.mul_add]
  have e1 : m * yl ≤ m * P := Nat.mul_le_mul_left _ (by (exact Nat.le_of_lt (by assumption)))
  have e2 : P * (m * V + m) ≤ P * U := Nat.mul_le_mul_left _ (by rw [Nat.succ_mul] at h2; (exact (nl (.branch 3 (.branch 1 (.leaf (m * V)) (.branch 2 (.leaf m) (.leaf U))) (.branch 4 (.leaf B) (.branch 5 (.leaf V) (.leaf (B - 1))))) [(1, (.var 3), (.var 4)), (1, (.add (.var 0) (.var 4)), (.var 2)), (1, (.add (.var 1) (.num 1)), (.var 5)), (1, (.var 5), (.var 3))] 1 (.add (.var 0) (.var 1)) (.var 2) rfl hV h2 h3 (Nat.sub_le (B) (1)))))
  have e3 : P * (m * V + m) = m * (P * V) + m * P := by grind
  (exact (nl (.branch 3 (.branch 1 (.leaf (m * yl)) (.branch 2 (.leaf (m * (P * V))) (.leaf Wl))) (.branch 4 (.leaf (P * U)) (.branch 5 (.leaf (m * P)) (.leaf (P * (m * V + m)))))) [(1, (.var 0), (.var 4)), (1, (.var 5), (.var 3)), (1, (.add (.var 1) (.var 4)), (.var 5))] 1 (.add (.var 0) (.var 1)) (.add (.var 2) (.var 3)) rfl e1 e2 (nge e3)))

theorem three {B n p : Nat} {H : List Nat} (hB : 0 < B) (d : Ds B H) (hn : 2 ≤ n) (hl : p + n < H.length) (hW : val B (H.drop p) < B ^ (n + 1)) :
    ∃ Wl, Wl < B ^ (n - 2) ∧ val B (H.drop p) = Wl + B ^ (n - 2) * ((dg H (p + n) * B + dg H (p + n - 1)) * B + dg H (p + n - 2)) := by
  have e0 := val_top hB (l := H.drop p) (n := n + 1) (by rw [List.length_drop]; (exact (nl (.branch 2 (.branch 1 (.leaf n) (.leaf (H.length - p))) (.branch 3 (.leaf p) (.leaf (H.length)))) [(1, (.add (.add (.var 2) (.var 0)) (.num 1)), (.var 3)), (1, (.var 3), (.add (.var 1) (.var 2)))] 1 (.add (.var 0) (.num 1)) (.var 1) rfl hl (nsa (H.length) (p))))) hW
  rw [List.drop_drop] at e0
  refine ⟨val B ((H.drop p).take (n - 2)), ?_, ?_⟩
  · have := val_lt hB ((d.drop (i := p)).take (i := n - 2))
    rw [List.length_take, List.length_drop, Nat.min_eq_left (by (exact (nl (.branch 2 (.branch 1 (.leaf (n - 2)) (.leaf (H.length - p))) (.branch 3 (.leaf p) (.branch 4 (.leaf n) (.leaf (H.length))))) [(1, (.add (.add (.var 2) (.var 3)) (.num 1)), (.var 4)), (1, (.var 0), (.var 3)), (1, (.var 4), (.add (.var 1) (.var 2)))] 1 (.var 0) (.var 1) rfl hl (Nat.sub_le (n) (2)) (nsa (H.length) (p)))))] at this
    exact this
  · rw [val_split B (n - 2) (H.drop p) (by rw [List.length_drop]; (exact (nl (.branch 2 (.branch 1 (.leaf (n - 2)) (.leaf (H.length - p))) (.branch 3 (.leaf p) (.branch 4 (.leaf n) (.leaf (H.length))))) [(1, (.add (.add (.var 2) (.var 3)) (.num 1)), (.var 4)), (1, (.var 0), (.var 3)), (1, (.var 4), (.add (.var 1) (.var 2)))] 1 (.var 0) (.var 1) rfl hl (Nat.sub_le (n) (2)) (nsa (H.length) (p))))), List.drop_drop, show p + (n - 2) = p + n - 2 by (exact (Nat.le_antisymm (nl (.branch 2 (.branch 1 (.leaf p) (.leaf (n - 2))) (.branch 3 (.leaf (p + n - 2)) (.leaf n))) [(1, (.add (.var 0) (.var 3)), (.add (.var 2) (.num 2))), (1, (.add (.var 1) (.num 2)), (.var 3))] 1 (.add (.var 0) (.var 1)) (.var 2) rfl (nsa (p + n) (2)) (nsb (nl (.leaf n) [(1, (.num 2), (.var 0))] 1 (.num 2) (.var 0) rfl hn))) (nl (.branch 2 (.branch 1 (.leaf (p + n - 2)) (.leaf p)) (.branch 3 (.leaf (n - 2)) (.leaf n))) [(1, (.var 3), (.add (.var 2) (.num 2))), (1, (.add (.var 0) (.num 2)), (.add (.var 1) (.var 3)))] 1 (.var 0) (.add (.var 1) (.var 2)) rfl (nsa (n) (2)) (nsb (nl (.branch 1 (.leaf p) (.leaf n)) [(1, (.num 2), (.var 1))] 1 (.num 2) (.add (.var 0) (.var 1)) rfl hn))))), val_drop_dg (by (exact (nl (.branch 2 (.branch 1 (.leaf (p + n - 2)) (.leaf (H.length))) (.branch 3 (.leaf p) (.leaf n))) [(1, (.add (.add (.var 2) (.var 3)) (.num 1)), (.var 1)), (1, (.var 0), (.add (.var 2) (.var 3)))] 1 (.add (.var 0) (.num 1)) (.var 1) rfl hl (Nat.sub_le (p + n) (2)))) : p + n - 2 < H.length),
      show p + n - 2 + 1 = p + n - 1 by (exact (Nat.le_antisymm (nl (.branch 2 (.branch 1 (.leaf (p + n - 2)) (.leaf (p + n - 1))) (.branch 3 (.leaf n) (.leaf p))) [(1, (.add (.var 3) (.var 2)), (.add (.var 1) (.num 1))), (1, (.add (.var 0) (.num 2)), (.add (.var 3) (.var 2)))] 1 (.add (.var 0) (.num 1)) (.var 1) rfl (nsa (p + n) (1)) (nsb (nl (.branch 1 (.leaf n) (.leaf p)) [(1, (.num 2), (.var 0))] 1 (.num 2) (.add (.var 1) (.var 0)) rfl hn))) (nl (.branch 2 (.branch 1 (.leaf (p + n - 1)) (.leaf (p + n - 2))) (.branch 3 (.leaf n) (.leaf p))) [(1, (.add (.var 3) (.var 2)), (.add (.var 1) (.num 2))), (1, (.add (.var 0) (.num 1)), (.add (.var 3) (.var 2)))] 1 (.var 0) (.add (.var 1) (.num 1)) rfl (nsa (p + n) (2)) (nsb (nl (.branch 1 (.leaf n) (.leaf p)) [(1, (.num 2), (.var 0))] 1 (.num 1) (.add (.var 1) (.var 0)) rfl hn))))), val_drop_dg (by (exact (nl (.branch 2 (.branch 1 (.leaf (p + n - 1)) (.leaf (H.length))) (.branch 3 (.leaf p) (.leaf n))) [(1, (.add (.add (.var 2) (.var 3)) (.num 1)), (.var 1)), (1, (.var 0), (.add (.var 2) (.var 3)))] 1 (.add (.var 0) (.num 1)) (.var 1) rfl hl (Nat.sub_le (p + n) (1)))) : p + n - 1 < H.length), show p + n - 1 + 1 = p + n by (exact (Nat.le_antisymm (nl (.branch 1 (.leaf (p + n - 1)) (.branch 2 (.leaf p) (.leaf n))) [(1, (.add (.var 0) (.num 1)), (.add (.var 1) (.var 2)))] 1 (.add (.var 0) (.num 1)) (.add (.var 1) (.var 2)) rfl (nsb (nl (.branch 1 (.leaf p) (.leaf n)) [(1, (.num 2), (.var 1))] 1 (.num 1) (.add (.var 0) (.var 1)) rfl hn))) (nl (.branch 1 (.leaf p) (.branch 2 (.leaf n) (.leaf (p + n - 1)))) [(1, (.add (.var 0) (.var 1)), (.add (.var 2) (.num 1)))] 1 (.add (.var 0) (.var 1)) (.add (.var 2) (.num 1)) rfl (nsa (p + n) (1))))), val_drop_dg (by omega : p + n < H.length), show p + n + 1 = p + (n + 1) from rfl, e0]
    grind
theorem two_top {B : Nat} {C : List Nat} (hB : 0 < B) (d : Ds B C) (hn : 2 ≤ C.length) : ∃ yl, yl < B ^ (C.length - 2) ∧ val B C = yl + B ^ (C.length - 2) * (dg C (C.length - 1) * B + dg C (C.length - 2)) := by
  refine ⟨val B (C.take (C.length - 2)), ?_, ?_⟩
  · have := val_lt hB (d.take (i := C.length - 2))
    rw [List.length_take, Nat.min_eq_left (by (exact (nl (.branch 1 (.leaf (C.length - 2)) (.leaf (C.length))) [(1, (.var 0), (.var 1))] 1 (.var 0) (.var 1) rfl (Nat.sub_le (C.length) (2)))))] at this
    exact this
  · rw [val_split B (C.length - 2) C (by (exact (nl (.branch 1 (.leaf (C.length - 2)) (.leaf (C.length))) [(1, (.var 0), (.var 1))] 1 (.var 0) (.var 1) rfl (Nat.sub_le (C.length) (2))))), val_drop_dg (by (exact (nl (.branch 1 (.leaf (C.length - 2)) (.leaf (C.length))) [(1, (.add (.var 0) (.num 2)), (.var 1))] 1 (.add (.var 0) (.num 1)) (.var 1) rfl (nsb (nl (.leaf (C.length)) [(1, (.num 2), (.var 0))] 1 (.num 2) (.var 0) rfl hn)))) : C.length - 2 < C.length), show C.length - 2 + 1 = C.length - 1 by (exact (Nat.le_antisymm (nl (.branch 1 (.leaf (C.length - 2)) (.branch 2 (.leaf (C.length - 1)) (.leaf (C.length)))) [(1, (.var 2), (.add (.var 1) (.num 1))), (1, (.add (.var 0) (.num 2)), (.var 2))] 1 (.add (.var 0) (.num 1)) (.var 1) rfl (nsa (C.length) (1)) (nsb (nl (.leaf (C.length)) [(1, (.num 2), (.var 0))] 1 (.num 2) (.var 0) rfl hn))) (nl (.branch 1 (.leaf (C.length - 1)) (.branch 2 (.leaf (C.length - 2)) (.leaf (C.length)))) [(1, (.var 2), (.add (.var 1) (.num 2))), (1, (.add (.var 0) (.num 1)), (.var 2))] 1 (.var 0) (.add (.var 1) (.num 1)) rfl (nsa (C.length) (2)) (nsb (nl (.leaf (C.length)) [(1, (.num 2), (.var 0))] 1 (.num 1) (.var 0) rfl hn))))), val_drop_dg (by (exact (nl (.branch 1 (.leaf (C.length - 1)) (.leaf (C.length))) [(1, (.add (.var 0) (.num 1)), (.var 1))] 1 (.add (.var 0) (.num 1)) (.var 1) rfl (nsb (nl (.leaf (C.length)) [(1, (.num 2), (.var 0))] 1 (.num 1) (.var 0) rfl hn)))) : C.length - 1 < C.length), List.drop_of_length_le (by (exact (nl (.branch 1 (.leaf (C.length)) (.leaf (C.length - 1))) [(1, (.var 0), (.add (.var 1) (.num 1)))] 1 (.var 0) (.add (.var 1) (.num 1)) rfl (nsa (C.length) (1)))))]
    simp only [val]
    grind

section
variable {mg mb : Str → Option Value} {g₀ : Heap} {prog : Program} {w : World}

theorem divide_rows_run (G : Gl mg mb g₀ recs) {v : Nat} {R C : List Nat} (hv : 0 < v) (hv' : v ≤ 10) (dR : Ds (2 ^ v) R) (dC : Ds (2 ^ v) C) (lR : R.length ≤ 3000) (hn : 2 ≤ C.length) (hCR : C.length < R.length)
    (htop : 0 < dg C (C.length - 1)) (hR : val (2 ^ v) (R.drop (R.length - C.length)) < val (2 ^ v) C) :
    Turns mg g₀ prog w "divide_rows" 2 (natsL R) [nats C, .int (v : Int)] fun ys r => ∃ R' Q, ys = natsL R' ∧ r = nats Q ∧ R'.length = R.length ∧ Ds (2 ^ v) R' ∧ Q.length = R.length - C.length ∧ Ds (2 ^ v) Q ∧
      val (2 ^ v) R' + val (2 ^ v) C * val (2 ^ v) Q = val (2 ^ v) R ∧ val (2 ^ v) R' < val (2 ^ v) C := by
  have hB := two_le hv
  have hB' := pow_le10 hv'
  have hC := val_lt (by (exact Nat.le_of_lt (by assumption)) : 0 < 2 ^ v) dC
  refine hideG fun gHid hHid => ?_
  obtain ⟨yl, hyl, hy⟩ := two_top (by (exact Nat.le_of_lt (by assumption)) : 0 < 2 ^ v) dC hn
  refine hHid ?_; clear hHid gHid
  refine Turns.intro (d := dAt 42) G mem_divide_rows ok_divide_rows rfl ?_
  intro L a cd l
  conv in (dAt 42).body => whnf
  conv in (dAt 42).scope => whnf
  change ExS _ _ _ _ _ _ _ [("rest", Bnd.mown l (natsL R)), ("b", Bnd.val (nats C)), ("w", Bnd.val (.int (v : Int))), ("size", .un), ("quotient", .un), ("at", .un), ("limb", .un)] _
  ((try have kq1 : C.length < 2 ^ 60 := (nl (.branch 1 (.leaf (C.length)) (.leaf (R.length))) [(1, (.var 1), (.num 3000)), (1, (.add (.var 0) (.num 1)), (.var 1))] 1 (.add (.var 0) (.num 1)) (.num (2 ^ 60)) rfl lR hCR)); isplit; all_goals (try clear kq1)); fin_run
  isplit; ((try have kq1 : C.length ≤ R.length := (nl (.branch 1 (.leaf (C.length)) (.leaf (R.length))) [(1, (.add (.var 0) (.num 1)), (.var 1))] 1 (.var 0) (.var 1) rfl hCR)); (try have kq2 : R.length - C.length ≤ 2 ^ 24 := (nl (.branch 1 (.leaf (R.length - C.length)) (.leaf (R.length))) [(1, (.var 1), (.num 3000)), (1, (.var 0), (.var 1))] 1 (.var 0) (.num (2 ^ 24)) rfl lR (Nat.sub_le (R.length) (C.length)))); fin_run; all_goals (try clear kq1 kq2))
  intro d
  fin_run
  refine ExS.cons (Ex1.for (EvI.down G ?_))
  ((try have kq1 : R.length - C.length < 2 ^ 60 := (nl (.branch 1 (.leaf (R.length - C.length)) (.leaf (R.length))) [(1, (.var 1), (.num 3000)), (1, (.var 0), (.var 1))] 1 (.add (.var 0) (.num 1)) (.num (2 ^ 60)) rfl lR (Nat.sub_le (R.length) (C.length)))); fin_run; all_goals (try clear kq1))
  generalize hm : R.length - C.length = m at *
  refine ⟨fun i ρ => ∃ (H Q : List Nat) (B1 B2 : Bnd), ρ = ([("rest", Bnd.mown l (natsL H)), ("b", Bnd.val (nats C)), ("w", Bnd.val (.int (v : Int))), ("size", Bnd.val (.int (C.length : Int))), ("quotient", .own d (natsL Q)), ("at", B1), ("limb", B2)] : Row) ∧
    H.length = R.length ∧ Ds (2 ^ v) H ∧ Q.length = m ∧ Ds (2 ^ v) Q ∧ val (2 ^ v) H + (2 ^ v) ^ (m - i) * (val (2 ^ v) C * val (2 ^ v) (Q.drop (m - i))) = val (2 ^ v) R ∧ val (2 ^ v) (H.drop (m - i)) < val (2 ^ v) C,
    ⟨R, _, _, _, rfl, rfl, dR, by simp, Ds.rep (by (exact Nat.le_of_lt (by assumption))), by simp [val], by rw [Nat.sub_zero]; exact hR⟩, ?_, ?_⟩
  · intro i X ρ2 hX hI1
    refine step_hide fun K hK => ?_
    refine elS_4_6 hI1 ?_
    intro H Q B1 B2 hρ hH dH hQ dQ he hlt
    clear hI1
    subst hρ
    refine hideG fun gHid hHid => ?_
    obtain ⟨hi, rfl⟩ := rngD_get hX
    refine hHid ?_; clear hHid gHid
    refine hideG fun gHid hHid => ?_
    obtain ⟨p, hp⟩ : ∃ p, m = i + 1 + p := ⟨m - (i + 1), by (exact (Nat.le_antisymm (nl (.branch 1 (.leaf m) (.branch 2 (.leaf i) (.leaf (m - (i + 1))))) [(1, (.var 0), (.add (.var 2) (.add (.var 1) (.num 1))))] 1 (.var 0) (.add (.add (.var 1) (.num 1)) (.var 2)) rfl (nsa (m) (i + 1))) (nl (.branch 1 (.leaf i) (.branch 2 (.leaf (m - (i + 1))) (.leaf m))) [(1, (.add (.var 1) (.add (.var 0) (.num 1))), (.var 2))] 1 (.add (.add (.var 0) (.num 1)) (.var 1)) (.var 2) rfl (nsb (nl (.branch 1 (.leaf i) (.leaf m)) [(1, (.add (.var 0) (.num 1)), (.var 1))] 1 (.add (.var 0) (.num 1)) (.var 1) rfl hi)))))⟩
    refine hHid ?_; clear hHid gHid
    rw [show m - 1 - i = p by (exact (Nat.le_antisymm (nl (.branch 2 (.branch 1 (.leaf (m - 1 - i)) (.leaf p)) (.branch 3 (.leaf m) (.branch 4 (.leaf i) (.leaf (m - 1))))) [(1, (.var 2), (.add (.add (.var 3) (.num 1)) (.var 1))), (1, (.add (.var 0) (.var 3)), (.var 4)), (1, (.add (.var 4) (.num 1)), (.var 2))] 1 (.var 0) (.var 1) rfl (Nat.le_of_eq hp) (nsb (nl (.branch 2 (.branch 1 (.leaf p) (.leaf m)) (.branch 3 (.leaf i) (.leaf (m - 1)))) [(1, (.add (.add (.var 2) (.num 1)) (.var 0)), (.var 1)), (1, (.var 1), (.add (.var 3) (.num 1)))] 1 (.var 2) (.var 3) rfl (nge hp) (nsa (m) (1)))) (nsb (nl (.branch 1 (.leaf p) (.branch 2 (.leaf m) (.leaf i))) [(1, (.add (.add (.var 2) (.num 1)) (.var 0)), (.var 1))] 1 (.num 1) (.var 1) rfl (nge hp)))) (nl (.branch 2 (.branch 1 (.leaf p) (.leaf (m - 1 - i))) (.branch 3 (.leaf m) (.branch 4 (.leaf i) (.leaf (m - 1))))) [(1, (.add (.add (.var 3) (.num 1)) (.var 0)), (.var 2)), (1, (.var 4), (.add (.var 1) (.var 3))), (1, (.var 2), (.add (.var 4) (.num 1)))] 1 (.var 0) (.var 1) rfl (nge hp) (nsa (m - 1) (i)) (nsa (m) (1)))))]
    rw [show m - i = p + 1 by (first | (exact (Nat.le_antisymm (nl (.branch 2 (.branch 1 (.leaf (m - i)) (.leaf p)) (.branch 3 (.leaf m) (.leaf i))) [(1, (.var 2), (.add (.add (.var 3) (.num 1)) (.var 1))), (1, (.add (.var 0) (.var 3)), (.var 2))] 1 (.var 0) (.add (.var 1) (.num 1)) rfl (Nat.le_of_eq hp) (nsb (nl (.branch 1 (.leaf p) (.branch 2 (.leaf m) (.leaf i))) [(1, (.add (.add (.var 2) (.num 1)) (.var 0)), (.var 1))] 1 (.var 2) (.var 1) rfl (nge hp)))) (nl (.branch 2 (.branch 1 (.leaf p) (.leaf (m - i))) (.branch 3 (.leaf m) (.leaf i))) [(1, (.add (.add (.var 3) (.num 1)) (.var 0)), (.var 2)), (1, (.var 2), (.add (.var 1) (.var 3)))] 1 (.add (.var 0) (.num 1)) (.var 1) rfl (nge hp) (nsa (m) (i))))) | omega)] at he hlt
    have e3 : m - (i + 1) = p := by (exact (Nat.le_antisymm (nl (.branch 2 (.branch 1 (.leaf (m - (i + 1))) (.leaf p)) (.branch 3 (.leaf m) (.leaf i))) [(1, (.var 2), (.add (.add (.var 3) (.num 1)) (.var 1))), (1, (.add (.var 0) (.add (.var 3) (.num 1))), (.var 2))] 1 (.var 0) (.var 1) rfl (Nat.le_of_eq hp) (nsb (nl (.branch 1 (.leaf p) (.branch 2 (.leaf m) (.leaf i))) [(1, (.add (.add (.var 2) (.num 1)) (.var 0)), (.var 1))] 1 (.add (.var 2) (.num 1)) (.var 1) rfl (nge hp)))) (nl (.branch 2 (.branch 1 (.leaf p) (.leaf (m - (i + 1)))) (.branch 3 (.leaf m) (.leaf i))) [(1, (.add (.add (.var 3) (.num 1)) (.var 0)), (.var 2)), (1, (.var 2), (.add (.var 1) (.add (.var 3) (.num 1))))] 1 (.var 0) (.var 1) rfl (nge hp) (nsa (m) (i + 1)))))
    refine AsX.name (by k_upd) ?_
    have hdp := dH.dg (j := p) (by (exact Nat.le_of_lt (by assumption)))
    have hW : val (2 ^ v) (H.drop p) < 2 ^ v * val (2 ^ v) C := by
      rw [val_drop_dg (by (exact (nl (.branch 3 (.branch 1 (.leaf p) (.branch 2 (.leaf (H.length)) (.leaf (R.length - C.length)))) (.branch 4 (.leaf m) (.branch 5 (.leaf (R.length)) (.leaf i)))) [(1, (.var 3), (.var 2)), (1, (.var 4), (.var 1)), (1, (.add (.add (.var 5) (.num 1)) (.var 0)), (.var 3)), (1, (.var 2), (.var 4))] 1 (.add (.var 0) (.num 1)) (.var 1) rfl (nge hm) (nge hH) (nge hp) (Nat.sub_le (R.length) (C.length)))) : p < H.length)]
      have := Nat.mul_le_mul_left (2 ^ v) hlt
      rw [Nat.mul_succ] at this
      (exact (nl (.branch 2 (.branch 1 (.leaf (dg H p)) (.leaf (2 ^ v * val (2 ^ v) (List.drop (p + 1) H)))) (.branch 3 (.leaf (2 ^ v * val (2 ^ v) C)) (.leaf (2 ^ v)))) [(1, (.add (.var 0) (.num 1)), (.var 3)), (1, (.add (.var 1) (.var 3)), (.var 2))] 1 (.add (.add (.var 0) (.var 1)) (.num 1)) (.var 2) rfl hdp this))
    have hW2 : val (2 ^ v) (H.drop p) < (2 ^ v) ^ (C.length + 1) := by
      rw [Nat.pow_succ, Nat.mul_comm]
      exact Nat.lt_trans hW (Nat.mul_lt_mul_of_pos_left hC (by (exact Nat.le_of_lt (by assumption))))
    refine hideG fun gHid hHid => ?_
    obtain ⟨Wl, hWl, hWe⟩ := three (by (exact Nat.le_of_lt (by assumption)) : 0 < 2 ^ v) dH hn (by (exact (nl (.branch 3 (.branch 1 (.leaf p) (.branch 2 (.leaf (C.length)) (.leaf (H.length)))) (.branch 5 (.branch 4 (.leaf (R.length - C.length)) (.leaf m)) (.branch 6 (.leaf (R.length)) (.leaf i)))) [(1, (.var 4), (.var 3)), (1, (.var 5), (.var 2)), (1, (.add (.add (.var 6) (.num 1)) (.var 0)), (.var 4)), (1, (.add (.var 3) (.var 1)), (.var 5))] 1 (.add (.add (.var 0) (.var 1)) (.num 1)) (.var 2) rfl (nge hm) (nge hH) (nge hp) (nsc (nl (.branch 2 (.branch 1 (.leaf p) (.leaf (R.length - C.length))) (.branch 3 (.leaf m) (.leaf i))) [(1, (.var 2), (.var 1)), (1, (.add (.add (.var 3) (.num 1)) (.var 0)), (.var 2))] 1 (.add (.num 0) (.num 1)) (.var 1) rfl (nge hm) (nge hp))))) : p + C.length < H.length) hW2
    refine hHid ?_; clear hHid gHid
    have kn := knuth hWe hWl hy hyl (by have := Nat.mul_le_mul_right (2 ^ v) htop; (exact (nl (.branch 1 (.leaf (2 ^ v)) (.branch 2 (.leaf (dg C (C.length - 1) * 2 ^ v)) (.leaf (dg C (C.length - 2))))) [(1, (.mulL 1 (.var 0)), (.var 1))] 1 (.var 0) (.add (.var 1) (.var 2)) rfl this))) (by (exact Nat.le_of_lt (by assumption))) hW
    isplit
    refine EvV.callG G def_guessed_limb ?_
    ((try have kq1 : H.length ≤ 2 ^ 24 := (nl (.branch 1 (.leaf (H.length)) (.leaf (R.length))) [(1, (.var 1), (.num 3000)), (1, (.var 0), (.var 1))] 1 (.var 0) (.num (2 ^ 24)) rfl lR (Nat.le_of_eq hH))); (try have kq2 : 2 ≤ p + C.length := (nl (.branch 1 (.leaf p) (.leaf (C.length))) [(1, (.num 2), (.var 1))] 1 (.num 2) (.add (.var 0) (.var 1)) rfl hn)); (try have kq3 : 1 ≤ C.length := (nl (.leaf (C.length)) [(1, (.num 2), (.var 0))] 1 (.num 1) (.var 0) rfl hn)); (try have kq4 : C.length - 1 < C.length := (nl (.branch 1 (.leaf (C.length - 1)) (.leaf (C.length))) [(1, (.add (.var 0) (.num 1)), (.var 1))] 1 (.add (.var 0) (.num 1)) (.var 1) rfl (nsb (nl (.leaf (C.length)) [(1, (.num 2), (.var 0))] 1 (.num 1) (.var 0) rfl hn)))); (try have kq5 : C.length < 2 ^ 60 := (nl (.branch 1 (.leaf (C.length)) (.leaf (R.length))) [(1, (.var 1), (.num 3000)), (1, (.add (.var 0) (.num 1)), (.var 1))] 1 (.add (.var 0) (.num 1)) (.num (2 ^ 60)) rfl lR hCR)); (try have kq6 : C.length - 2 < C.length := (nl (.branch 1 (.leaf (C.length - 2)) (.leaf (C.length))) [(1, (.add (.var 0) (.num 2)), (.var 1))] 1 (.add (.var 0) (.num 1)) (.var 1) rfl (nsb (nl (.leaf (C.length)) [(1, (.num 2), (.var 0))] 1 (.num 2) (.var 0) rfl hn)))); fin_run; all_goals (try clear kq1 kq2 kq3 kq4 kq5 kq6))
    rw [clip2 (by (exact (nl (.branch 4 (.branch 2 (.branch 1 (.leaf (p + C.length - 2)) (.leaf (H.length))) (.branch 3 (.leaf (R.length - C.length)) (.leaf m))) (.branch 6 (.branch 5 (.leaf (R.length)) (.leaf i)) (.branch 7 (.leaf p) (.leaf (C.length))))) [(1, (.var 3), (.var 2)), (1, (.var 4), (.var 1)), (1, (.add (.add (.var 5) (.num 1)) (.var 6)), (.var 3)), (1, (.var 0), (.add (.var 6) (.var 7))), (1, (.add (.var 2) (.var 7)), (.var 4))] 1 (.var 0) (.var 1) rfl (nge hm) (nge hH) (nge hp) (Nat.sub_le (p + C.length) (2)) (nsc (nl (.branch 2 (.branch 1 (.leaf (R.length - C.length)) (.leaf m)) (.branch 3 (.leaf i) (.leaf p))) [(1, (.var 1), (.var 0)), (1, (.add (.add (.var 2) (.num 1)) (.var 3)), (.var 1))] 1 (.add (.num 0) (.num 1)) (.var 0) rfl (nge hm) (nge hp)))))) (by (exact (nl (.branch 3 (.branch 1 (.leaf p) (.branch 2 (.leaf (C.length)) (.leaf (H.length)))) (.branch 5 (.branch 4 (.leaf (R.length - C.length)) (.leaf m)) (.branch 6 (.leaf (R.length)) (.leaf i)))) [(1, (.var 4), (.var 3)), (1, (.var 5), (.var 2)), (1, (.add (.add (.var 6) (.num 1)) (.var 0)), (.var 4)), (1, (.add (.var 3) (.var 1)), (.var 5))] 1 (.add (.add (.var 0) (.var 1)) (.num 1)) (.var 2) rfl (nge hm) (nge hH) (nge hp) (nsc (nl (.branch 2 (.branch 1 (.leaf p) (.leaf (R.length - C.length))) (.branch 3 (.leaf m) (.leaf i))) [(1, (.var 2), (.var 1)), (1, (.add (.add (.var 3) (.num 1)) (.var 0)), (.var 2))] 1 (.add (.num 0) (.num 1)) (.var 1) rfl (nge hm) (nge hp))))))]
    fin_run
    have hT : ((H.drop (p + C.length - 2)).take (p + C.length + 1 - (p + C.length - 2))).length = 3 := by rw [List.length_take, List.length_drop]; (clear kn hWe hWl hW2 hW hdp e3 he hlt hX hi dQ hQ dH hK hR hy hyl hC hB' hB htop hCR lR dC dR hv' hv G; lia)
    refine ⟨_, guessed_limb_num G hv hv' hT dH.drop.take (dC.dg (by (exact Nat.le_of_lt (by assumption)))) htop (dC.dg (by (exact Nat.le_of_lt (by assumption)))), ?_⟩
    rw [dg_slice (by (exact (nl (.branch 2 (.branch 1 (.leaf (p + C.length + 1 - (p + C.length - 2))) (.leaf (C.length))) (.branch 3 (.leaf p) (.leaf (p + C.length - 2)))) [(1, (.add (.add (.var 2) (.var 1)) (.num 1)), (.add (.var 0) (.var 3))), (1, (.add (.var 3) (.num 2)), (.add (.var 2) (.var 1)))] 1 (.add (.num 2) (.num 1)) (.var 0) rfl (nsa (p + C.length + 1) (p + C.length - 2)) (nsb (nl (.branch 1 (.leaf (C.length)) (.leaf p)) [(1, (.num 2), (.var 0))] 1 (.num 2) (.add (.var 1) (.var 0)) rfl hn))))), dg_slice (by (exact (nl (.branch 2 (.branch 1 (.leaf (p + C.length + 1 - (p + C.length - 2))) (.leaf (C.length))) (.branch 3 (.leaf p) (.leaf (p + C.length - 2)))) [(1, (.add (.add (.var 2) (.var 1)) (.num 1)), (.add (.var 0) (.var 3))), (1, (.add (.var 3) (.num 2)), (.add (.var 2) (.var 1)))] 1 (.add (.num 1) (.num 1)) (.var 0) rfl (nsa (p + C.length + 1) (p + C.length - 2)) (nsb (nl (.branch 1 (.leaf (C.length)) (.leaf p)) [(1, (.num 2), (.var 0))] 1 (.num 2) (.add (.var 1) (.var 0)) rfl hn))))), dg_slice (by (exact (nl (.branch 2 (.branch 1 (.leaf (p + C.length + 1 - (p + C.length - 2))) (.leaf p)) (.branch 3 (.leaf (C.length)) (.leaf (p + C.length - 2)))) [(1, (.add (.add (.var 1) (.var 2)) (.num 1)), (.add (.var 0) (.var 3))), (1, (.var 3), (.add (.var 1) (.var 2)))] 1 (.add (.num 0) (.num 1)) (.var 0) rfl (nsa (p + C.length + 1) (p + C.length - 2)) (Nat.sub_le (p + C.length) (2))))), show p + C.length - 2 + 2 = p + C.length by (exact (Nat.le_antisymm (nl (.branch 1 (.leaf (p + C.length - 2)) (.branch 2 (.leaf p) (.leaf (C.length)))) [(1, (.add (.var 0) (.num 2)), (.add (.var 1) (.var 2)))] 1 (.add (.var 0) (.num 2)) (.add (.var 1) (.var 2)) rfl (nsb (nl (.branch 1 (.leaf p) (.leaf (C.length))) [(1, (.num 2), (.var 1))] 1 (.num 2) (.add (.var 0) (.var 1)) rfl hn))) (nl (.branch 1 (.leaf p) (.branch 2 (.leaf (C.length)) (.leaf (p + C.length - 2)))) [(1, (.add (.var 0) (.var 1)), (.add (.var 2) (.num 2)))] 1 (.add (.var 0) (.var 1)) (.add (.var 2) (.num 2)) rfl (nsa (p + C.length) (2))))), show p + C.length - 2 + 1 = p + C.length - 1 by (exact (Nat.le_antisymm (nl (.branch 2 (.branch 1 (.leaf (p + C.length - 2)) (.leaf (p + C.length - 1))) (.branch 3 (.leaf (C.length)) (.leaf p))) [(1, (.add (.var 3) (.var 2)), (.add (.var 1) (.num 1))), (1, (.add (.var 0) (.num 2)), (.add (.var 3) (.var 2)))] 1 (.add (.var 0) (.num 1)) (.var 1) rfl (nsa (p + C.length) (1)) (nsb (nl (.branch 1 (.leaf (C.length)) (.leaf p)) [(1, (.num 2), (.var 0))] 1 (.num 2) (.add (.var 1) (.var 0)) rfl hn))) (nl (.branch 2 (.branch 1 (.leaf (p + C.length - 1)) (.leaf (p + C.length - 2))) (.branch 3 (.leaf (C.length)) (.leaf p))) [(1, (.add (.var 3) (.var 2)), (.add (.var 1) (.num 2))), (1, (.add (.var 0) (.num 1)), (.add (.var 3) (.var 2)))] 1 (.var 0) (.add (.var 1) (.num 1)) rfl (nsa (p + C.length) (2)) (nsb (nl (.branch 1 (.leaf (C.length)) (.leaf p)) [(1, (.num 2), (.var 0))] 1 (.num 1) (.add (.var 1) (.var 0)) rfl hn))))), show p + C.length - 2 + 0 = p + C.length - 2 from rfl]
    have hg1 : min (((dg H (p + C.length) * 2 ^ v + dg H (p + C.length - 1)) * 2 ^ v + dg H (p + C.length - 2)) / (dg C (C.length - 1) * 2 ^ v + dg C (C.length - 2))) (2 ^ v - 1) ≤ 2 ^ v - 1 := Nat.min_le_right ..
    generalize min (((dg H (p + C.length) * 2 ^ v + dg H (p + C.length - 1)) * 2 ^ v + dg H (p + C.length - 2)) / (dg C (C.length - 1) * 2 ^ v + dg C (C.length - 2))) (2 ^ v - 1) = g at *
    have hy0 : 0 < val (2 ^ v) C := by (exact (nl (.branch 1 (.leaf (val (2 ^ v) C)) (.leaf (val (2 ^ v) (List.drop m R)))) [(1, (.add (.var 1) (.num 1)), (.var 0))] 1 (.add (.num 0) (.num 1)) (.var 0) rfl hR))
    have hdm := Nat.div_add_mod (val (2 ^ v) (H.drop p)) (val (2 ^ v) C)
    have hml := Nat.mod_lt (val (2 ^ v) (H.drop p)) hy0
    have hqB : val (2 ^ v) (H.drop p) / val (2 ^ v) C < 2 ^ v := Nat.div_lt_of_lt_mul (by rw [Nat.mul_comm]; exact hW)
    have top0 := val_top (by (exact Nat.le_of_lt (by assumption)) : 0 < 2 ^ v) (l := H.drop p) (n := C.length + 1) (by rw [List.length_drop]; (exact (nl (.branch 4 (.branch 2 (.branch 1 (.leaf (C.length)) (.leaf (H.length - p))) (.branch 3 (.leaf (R.length - C.length)) (.leaf m))) (.branch 6 (.branch 5 (.leaf (H.length)) (.leaf (R.length))) (.branch 7 (.leaf i) (.leaf p)))) [(1, (.var 3), (.var 2)), (1, (.var 5), (.var 4)), (1, (.add (.add (.var 6) (.num 1)) (.var 7)), (.var 3)), (1, (.var 4), (.add (.var 1) (.var 7))), (1, (.add (.var 2) (.var 0)), (.var 5))] 1 (.add (.var 0) (.num 1)) (.var 1) rfl (nge hm) (nge hH) (nge hp) (nsa (H.length) (p)) (nsc (nl (.branch 2 (.branch 1 (.leaf (R.length - C.length)) (.leaf m)) (.branch 3 (.leaf i) (.leaf p))) [(1, (.var 1), (.var 0)), (1, (.add (.add (.var 2) (.num 1)) (.var 3)), (.var 1))] 1 (.add (.num 0) (.num 1)) (.var 0) rfl (nge hm) (nge hp)))))) hW2
    rw [List.drop_drop] at top0
    generalize val (2 ^ v) (H.drop p) / val (2 ^ v) C = q at *
    generalize val (2 ^ v) (H.drop p) % val (2 ^ v) C = r at *
    rw [Nat.mul_comm (val (2 ^ v) C)] at hdm
    fin_run
    refine ExS.cons (Ex1.mono (Q := fun o ρ1 => o = .next ∧ ∃ H' : List Nat, ρ1 = ([("rest", Bnd.mown l (natsL H')), ("b", Bnd.val (nats C)), ("w", Bnd.val (.int (v : Int))), ("size", Bnd.val (.int (C.length : Int))), ("quotient", .own d (natsL Q)), ("at", .val (.int (p : Int))), ("limb", .val (.int (q : Int)))] : Row) ∧
      Win (2 ^ v) p C.length H H' ∧ val (2 ^ v) (H'.drop p) = r) ?_ ?_)
    · refine Ex1.ite (EvT.cmp ?_)
      refine EvV.callT G def_take_away (Bnd.Own.mown _ _) (by k_memK) ?_
      fin_run
      refine ⟨_, (take_away_run G hv hv' dH dC (by (exact (nl (.branch 1 (.leaf (H.length)) (.leaf (R.length))) [(1, (.var 1), (.num 3000)), (1, (.var 0), (.var 1))] 1 (.var 0) (.num 3000) rfl lR (Nat.le_of_eq hH)))) (by (exact (nl (.branch 3 (.branch 1 (.leaf p) (.branch 2 (.leaf (C.length)) (.leaf (H.length)))) (.branch 5 (.branch 4 (.leaf (R.length - C.length)) (.leaf m)) (.branch 6 (.leaf (R.length)) (.leaf i)))) [(1, (.var 4), (.var 3)), (1, (.var 5), (.var 2)), (1, (.add (.add (.var 6) (.num 1)) (.var 0)), (.var 4)), (1, (.add (.var 3) (.var 1)), (.var 5))] 1 (.add (.add (.var 0) (.var 1)) (.num 1)) (.var 2) rfl (nge hm) (nge hH) (nge hp) (nsc (nl (.branch 2 (.branch 1 (.leaf p) (.leaf (R.length - C.length))) (.branch 3 (.leaf m) (.leaf i))) [(1, (.var 2), (.var 1)), (1, (.add (.add (.var 3) (.num 1)) (.var 0)), (.var 2))] 1 (.add (.num 0) (.num 1)) (.var 1) rfl (nge hm) (nge hp))))) : p + C.length < H.length) (by (exact (nl (.branch 1 (.leaf g) (.branch 2 (.leaf (2 ^ v)) (.leaf (2 ^ v - 1)))) [(1, (.var 0), (.var 2)), (1, (.add (.var 2) (.num 1)), (.var 1))] 1 (.add (.var 0) (.num 1)) (.var 1) rfl hg1 (nsb (nl (.leaf (2 ^ v)) [(1, (.num 2), (.var 0))] 1 (.num 1) (.var 0) rfl hB)))) : g < 2 ^ v)).le (by decide), ?_⟩
      intro _ _ hI1
      refine el_2_5 hI1 ?_
      intro H1 br hρ0 hρ1 hbr w1 v1
      clear hI1
      subst hρ0
      subst hρ1
      refine ⟨_, _, .mown, by k_upd, ?_⟩
      have v2 := w1.val (by (exact Nat.le_of_lt (by assumption))) (by (exact (nl (.branch 3 (.branch 1 (.leaf p) (.branch 2 (.leaf (H.length)) (.leaf (R.length - C.length)))) (.branch 4 (.leaf m) (.branch 5 (.leaf (R.length)) (.leaf i)))) [(1, (.var 3), (.var 2)), (1, (.var 4), (.var 1)), (1, (.add (.add (.var 5) (.num 1)) (.var 0)), (.var 3)), (1, (.var 2), (.var 4))] 1 (.var 0) (.var 1) rfl (nge hm) (nge hH) (nge hp) (Nat.sub_le (R.length) (C.length))))) (k := C.length + 1) v1
      have v3 : val (2 ^ v) (H1.drop p) < (2 ^ v) ^ (C.length + 1) := val_low (by (exact Nat.le_of_lt (by assumption))) w1.ds.drop (by rw [List.length_drop, w1.len]; (exact (nl (.branch 4 (.branch 2 (.branch 1 (.leaf (C.length)) (.leaf (H.length - p))) (.branch 3 (.leaf (R.length - C.length)) (.leaf m))) (.branch 6 (.branch 5 (.leaf (H.length)) (.leaf (R.length))) (.branch 7 (.leaf i) (.leaf p)))) [(1, (.var 3), (.var 2)), (1, (.var 5), (.var 4)), (1, (.add (.add (.var 6) (.num 1)) (.var 7)), (.var 3)), (1, (.var 4), (.add (.var 1) (.var 7))), (1, (.add (.var 2) (.var 0)), (.var 5))] 1 (.add (.var 0) (.num 1)) (.var 1) rfl (nge hm) (nge hH) (nge hp) (nsa (H.length) (p)) (nsc (nl (.branch 2 (.branch 1 (.leaf (R.length - C.length)) (.leaf m)) (.branch 3 (.leaf i) (.leaf p))) [(1, (.var 1), (.var 0)), (1, (.add (.add (.var 2) (.num 1)) (.var 3)), (.var 1))] 1 (.add (.num 0) (.num 1)) (.var 0) rfl (nge hm) (nge hp)))))) (by
        rw [List.drop_drop, show p + (C.length + 1) = p + C.length + 1 from rfl, w1.hi]; exact top0)
      fin_run
      generalize val (2 ^ v) (H.drop p) = W at *
      refine ifd (fun hb => ?_) (fun hb => ?_)
      · subst hb
        have hg : g = q + 1 := by
          rcases Nat.lt_or_ge q g with h | h
          · (exact (Nat.le_antisymm (nl (.branch 1 (.leaf g) (.leaf q)) [(1, (.var 0), (.add (.var 1) (.num 1)))] 1 (.var 0) (.add (.var 1) (.num 1)) rfl kn.2) (nl (.branch 1 (.leaf q) (.leaf g)) [(1, (.add (.var 0) (.num 1)), (.var 1))] 1 (.add (.var 0) (.num 1)) (.var 1) rfl h)))
          · have := Nat.mul_le_mul_right (val (2 ^ v) C) h
            (exact (Nat.le_antisymm (nl (.branch 4 (.branch 2 (.branch 1 (.leaf g) (.leaf q)) (.branch 3 (.leaf (val (2 ^ v) (List.drop p H1))) (.leaf ((2 ^ v) ^ (C.length + 1))))) (.branch 6 (.branch 5 (.leaf (q * val (2 ^ v) C)) (.leaf r)) (.branch 7 (.leaf W) (.leaf (g * val (2 ^ v) C))))) [(1, (.add (.var 2) (.num 1)), (.var 3)), (1, (.add (.var 4) (.var 5)), (.var 6)), (1, (.add (.var 6) (.mulR (.var 3) 1)), (.add (.var 2) (.var 7))), (1, (.var 7), (.var 4))] 0 (.var 0) (.add (.var 1) (.num 1)) rfl v3 (Nat.le_of_eq hdm) (nge v2) this) (nl (.branch 4 (.branch 2 (.branch 1 (.leaf q) (.leaf g)) (.branch 3 (.leaf (val (2 ^ v) (List.drop p H1))) (.leaf ((2 ^ v) ^ (C.length + 1))))) (.branch 6 (.branch 5 (.leaf (q * val (2 ^ v) C)) (.leaf r)) (.branch 7 (.leaf W) (.leaf (g * val (2 ^ v) C))))) [(1, (.add (.var 2) (.num 1)), (.var 3)), (1, (.add (.var 4) (.var 5)), (.var 6)), (1, (.add (.var 6) (.mulR (.var 3) 1)), (.add (.var 2) (.var 7))), (1, (.var 7), (.var 4))] 0 (.add (.var 0) (.num 1)) (.var 1) rfl v3 (Nat.le_of_eq hdm) (nge v2) this)))
        subst hg
        ((try have kq1 : 1 ≤ q + 1 := (nl (.leaf q) [] 1 (.num 1) (.add (.var 0) (.num 1)) rfl)); isplit; all_goals (try clear kq1)); fin_run
        isplit
        refine EvV.callT G def_put_back (Bnd.Own.mown _ _) (by k_memK) ?_
        fin_run
        refine ⟨_, (put_back_run G hv hv' w1.ds dC (by rw [w1.len]; (exact (nl (.branch 1 (.leaf (H.length)) (.leaf (R.length))) [(1, (.var 1), (.num 3000)), (1, (.var 0), (.var 1))] 1 (.var 0) (.num 3000) rfl lR (Nat.le_of_eq hH)))) (by rw [w1.len]; (exact (nl (.branch 3 (.branch 1 (.leaf p) (.branch 2 (.leaf (C.length)) (.leaf (H.length)))) (.branch 5 (.branch 4 (.leaf (R.length - C.length)) (.leaf m)) (.branch 6 (.leaf (R.length)) (.leaf i)))) [(1, (.var 4), (.var 3)), (1, (.var 5), (.var 2)), (1, (.add (.add (.var 6) (.num 1)) (.var 0)), (.var 4)), (1, (.add (.var 3) (.var 1)), (.var 5))] 1 (.add (.add (.var 0) (.var 1)) (.num 1)) (.var 2) rfl (nge hm) (nge hH) (nge hp) (nsc (nl (.branch 2 (.branch 1 (.leaf p) (.leaf (R.length - C.length))) (.branch 3 (.leaf m) (.leaf i))) [(1, (.var 2), (.var 1)), (1, (.add (.add (.var 3) (.num 1)) (.var 0)), (.var 2))] 1 (.add (.num 0) (.num 1)) (.var 1) rfl (nge hm) (nge hp))))) : p + C.length < H1.length)).le (by decide), ?_⟩
        intro _ _ hI1
        refine el_2_4 hI1 ?_
        intro H2 t hρ0 hρ1 w2 u1
        clear hI1
        subst hρ0
        subst hρ1
        refine ⟨_, _, .mown, by k_upd, rfl, ?_⟩
        have u1' : val (2 ^ v) H1 + (2 ^ v) ^ p * val (2 ^ v) C = val (2 ^ v) H2 + (2 ^ v) ^ (p + (C.length + 1)) * t := u1.symm
        have w2' : Win (2 ^ v) p C.length H2 H1 := ⟨w2.len.symm, w1.ds, w2.lo.symm, w2.hi.symm⟩
        have u2 := w2'.val (by (exact Nat.le_of_lt (by assumption))) (by rw [w2.len, w1.len]; (exact (nl (.branch 3 (.branch 1 (.leaf p) (.branch 2 (.leaf (H.length)) (.leaf (R.length - C.length)))) (.branch 4 (.leaf m) (.branch 5 (.leaf (R.length)) (.leaf i)))) [(1, (.var 3), (.var 2)), (1, (.var 4), (.var 1)), (1, (.add (.add (.var 5) (.num 1)) (.var 0)), (.var 3)), (1, (.var 2), (.var 4))] 1 (.var 0) (.var 1) rfl (nge hm) (nge hH) (nge hp) (Nat.sub_le (R.length) (C.length))))) (k := C.length + 1) u1'
        have u3 : val (2 ^ v) (H2.drop p) < (2 ^ v) ^ (C.length + 1) := val_low (by (exact Nat.le_of_lt (by assumption))) w2.ds.drop (by rw [List.length_drop, w2.len, w1.len]; (exact (nl (.branch 4 (.branch 2 (.branch 1 (.leaf (C.length)) (.leaf (H.length - p))) (.branch 3 (.leaf (R.length - C.length)) (.leaf m))) (.branch 6 (.branch 5 (.leaf (H.length)) (.leaf (R.length))) (.branch 7 (.leaf i) (.leaf p)))) [(1, (.var 3), (.var 2)), (1, (.var 5), (.var 4)), (1, (.add (.add (.var 6) (.num 1)) (.var 7)), (.var 3)), (1, (.var 4), (.add (.var 1) (.var 7))), (1, (.add (.var 2) (.var 0)), (.var 5))] 1 (.add (.var 0) (.num 1)) (.var 1) rfl (nge hm) (nge hH) (nge hp) (nsa (H.length) (p)) (nsc (nl (.branch 2 (.branch 1 (.leaf (R.length - C.length)) (.leaf m)) (.branch 3 (.leaf i) (.leaf p))) [(1, (.var 1), (.var 0)), (1, (.add (.add (.var 2) (.num 1)) (.var 3)), (.var 1))] 1 (.add (.num 0) (.num 1)) (.var 0) rfl (nge hm) (nge hp)))))) (by
          rw [List.drop_drop, show p + (C.length + 1) = p + C.length + 1 from rfl, w2.hi, w1.hi]; exact top0)
        refine ExS.nil (⟨rfl, H2, by rw [Nat.add_sub_cancel], w1.trans w2, ?_⟩)
        rw [Nat.succ_mul] at v2
        have hpw : (2 ^ v) ^ C.length ≤ (2 ^ v) ^ (C.length + 1) := Nat.pow_le_pow_right (by (exact Nat.le_of_lt (by assumption))) (by (exact (nl (.leaf (C.length)) [] 1 (.var 0) (.add (.var 0) (.num 1)) rfl)))
        generalize (2 ^ v) ^ (C.length + 1) = M at *
        have ht : t = 1 := by
          rcases t with _ | _ | t
          · (exact (Nat.le_antisymm (nl (.leaf 0) [] 1 (.num 0) (.num 1) rfl) (nl (.branch 3 (.branch 1 (.leaf (q * val (2 ^ v) C)) (.branch 2 (.leaf r) (.leaf W))) (.branch 5 (.branch 4 (.leaf (val (2 ^ v) (List.drop p H1))) (.leaf (val (2 ^ v) C))) (.branch 6 (.leaf M) (.leaf (val (2 ^ v) (List.drop p H2)))))) [(1, (.add (.var 0) (.var 1)), (.var 2)), (1, (.add (.var 2) (.mulR (.var 5) 1)), (.add (.var 3) (.add (.var 0) (.var 4)))), (1, (.add (.var 6) (.num 1)), (.var 5)), (1, (.add (.var 3) (.var 4)), (.add (.var 6) (.mulR (.var 5) 0)))] 0 (.num 1) (.num 0) rfl (Nat.le_of_eq hdm) (nge v2) u3 (Nat.le_of_eq u2))))
          · rfl
          · have : M * (t + 1 + 1) = M * t + M + M := by grind
            (exact (Nat.le_antisymm (nl (.branch 4 (.branch 2 (.branch 1 (.leaf t) (.leaf W)) (.branch 3 (.leaf M) (.leaf (val (2 ^ v) (List.drop p H1))))) (.branch 6 (.branch 5 (.leaf (q * val (2 ^ v) C)) (.leaf (val (2 ^ v) C))) (.branch 7 (.leaf (val (2 ^ v) (List.drop p H2))) (.branch 8 (.leaf (M * (t + 1 + 1))) (.leaf (M * t)))))) [(1, (.add (.var 1) (.num 1)), (.var 2)), (1, (.add (.var 3) (.add (.var 4) (.var 5))), (.add (.var 1) (.mulR (.var 2) 1))), (1, (.add (.var 6) (.var 7)), (.add (.var 3) (.var 5))), (1, (.add (.add (.var 8) (.var 2)) (.var 2)), (.var 7))] 0 (.add (.add (.var 0) (.num 1)) (.num 1)) (.num 1) rfl hW2 (Nat.le_of_eq v2) (nge u2) (nge this)) (nl (.leaf t) [] 1 (.num 1) (.add (.add (.var 0) (.num 1)) (.num 1)) rfl)))
        subst ht
        (exact (Nat.le_antisymm (nl (.branch 3 (.branch 1 (.leaf (val (2 ^ v) (List.drop p H2))) (.branch 2 (.leaf r) (.leaf (q * val (2 ^ v) C)))) (.branch 5 (.branch 4 (.leaf W) (.leaf (val (2 ^ v) (List.drop p H1)))) (.branch 6 (.leaf (val (2 ^ v) C)) (.leaf M)))) [(1, (.var 3), (.add (.var 2) (.var 1))), (1, (.add (.var 4) (.add (.var 2) (.var 5))), (.add (.var 3) (.mulR (.var 6) 1))), (1, (.add (.var 0) (.mulR (.var 6) 1)), (.add (.var 4) (.var 5)))] 1 (.var 0) (.var 1) rfl (nge hdm) (Nat.le_of_eq v2) (nge u2)) (nl (.branch 3 (.branch 1 (.leaf r) (.branch 2 (.leaf (val (2 ^ v) (List.drop p H2))) (.leaf (q * val (2 ^ v) C)))) (.branch 5 (.branch 4 (.leaf W) (.leaf (val (2 ^ v) (List.drop p H1)))) (.branch 6 (.leaf (val (2 ^ v) C)) (.leaf M)))) [(1, (.add (.var 2) (.var 0)), (.var 3)), (1, (.add (.var 3) (.mulR (.var 6) 1)), (.add (.var 4) (.add (.var 2) (.var 5)))), (1, (.add (.var 4) (.var 5)), (.add (.var 1) (.mulR (.var 6) 1)))] 1 (.var 0) (.var 1) rfl (Nat.le_of_eq hdm) (nge v2) (Nat.le_of_eq u2))))
      · have hbr0 : br = 0 := by lia
        subst hbr0
        have hg : g = q := by
          rcases Nat.lt_or_ge q g with h | h
          · have := Nat.mul_le_mul_right (val (2 ^ v) C) h
            rw [Nat.succ_mul] at this
            (exact (Nat.le_antisymm (nl (.branch 4 (.branch 2 (.branch 1 (.leaf g) (.leaf q)) (.branch 3 (.leaf r) (.leaf (val (2 ^ v) C)))) (.branch 6 (.branch 5 (.leaf (q * val (2 ^ v) C)) (.leaf W)) (.branch 7 (.leaf (val (2 ^ v) (List.drop p H1))) (.branch 8 (.leaf (g * val (2 ^ v) C)) (.leaf ((2 ^ v) ^ (C.length + 1))))))) [(1, (.add (.var 2) (.num 1)), (.var 3)), (1, (.var 5), (.add (.var 4) (.var 2))), (1, (.add (.var 6) (.var 7)), (.add (.var 5) (.mulR (.var 8) 0))), (1, (.add (.var 4) (.var 3)), (.var 7))] 0 (.var 0) (.var 1) rfl hml (nge hdm) (Nat.le_of_eq v2) this) (nl (.branch 4 (.branch 2 (.branch 1 (.leaf q) (.leaf g)) (.branch 3 (.leaf r) (.leaf (val (2 ^ v) C)))) (.branch 6 (.branch 5 (.leaf (q * val (2 ^ v) C)) (.leaf W)) (.branch 7 (.leaf (val (2 ^ v) (List.drop p H1))) (.branch 8 (.leaf (g * val (2 ^ v) C)) (.leaf ((2 ^ v) ^ (C.length + 1))))))) [(1, (.add (.var 2) (.num 1)), (.var 3)), (1, (.var 5), (.add (.var 4) (.var 2))), (1, (.add (.var 6) (.var 7)), (.add (.var 5) (.mulR (.var 8) 0))), (1, (.add (.var 4) (.var 3)), (.var 7))] 0 (.var 0) (.var 1) rfl hml (nge hdm) (Nat.le_of_eq v2) this)))
          · (exact (Nat.le_antisymm (nl (.branch 1 (.leaf g) (.leaf q)) [(1, (.var 0), (.var 1))] 1 (.var 0) (.var 1) rfl h) (nl (.branch 1 (.leaf q) (.leaf g)) [(1, (.var 0), (.var 1))] 1 (.var 0) (.var 1) rfl kn.1)))
        subst hg
        refine ExS.nil (⟨rfl, H1, rfl, w1, ?_⟩)
        (exact (Nat.le_antisymm (nl (.branch 2 (.branch 1 (.leaf (val (2 ^ v) (List.drop p H1))) (.leaf r)) (.branch 3 (.leaf (g * val (2 ^ v) C)) (.branch 4 (.leaf W) (.leaf ((2 ^ v) ^ (C.length + 1)))))) [(1, (.add (.var 0) (.var 2)), (.add (.var 3) (.mulR (.var 4) 0))), (1, (.var 3), (.add (.var 2) (.var 1)))] 1 (.var 0) (.var 1) rfl (Nat.le_of_eq v2) (nge hdm)) (nl (.branch 2 (.branch 1 (.leaf r) (.leaf (val (2 ^ v) (List.drop p H1)))) (.branch 3 (.leaf (g * val (2 ^ v) C)) (.branch 4 (.leaf W) (.leaf ((2 ^ v) ^ (C.length + 1)))))) [(1, (.add (.var 3) (.mulR (.var 4) 0)), (.add (.var 1) (.var 2))), (1, (.add (.var 2) (.var 0)), (.var 3))] 1 (.var 0) (.var 1) rfl (nge v2) (Nat.le_of_eq hdm))))
    intro o ρ1 hI1
    refine hideG fun gHid hHid => ?_
    obtain ⟨rfl, H', rfl, w1, v1⟩ := hI1
    refine hHid ?_; clear hHid gHid
    ((try have kq1 : p < Q.length := (nl (.branch 2 (.branch 1 (.leaf p) (.leaf (Q.length))) (.branch 3 (.leaf m) (.leaf i))) [(1, (.var 2), (.var 1)), (1, (.add (.add (.var 3) (.num 1)) (.var 0)), (.var 2))] 1 (.add (.var 0) (.num 1)) (.var 1) rfl (nge hQ) (nge hp))); (try have kq2 : Q.length < 2 ^ 60 := (nl (.branch 2 (.branch 1 (.leaf (Q.length)) (.leaf (R.length))) (.branch 3 (.leaf (R.length - C.length)) (.leaf m))) [(1, (.var 1), (.num 3000)), (1, (.var 3), (.var 2)), (1, (.var 0), (.var 3)), (1, (.var 2), (.var 1))] 1 (.add (.var 0) (.num 1)) (.num (2 ^ 60)) rfl lR (nge hm) (Nat.le_of_eq hQ) (Nat.sub_le (R.length) (C.length)))); isplit; all_goals (try clear kq1 kq2)); fin_run
    refine ExS.nil (hK _ _ ⟨H', _, _, _, rfl, by rw [w1.len]; exact hH, w1.ds, by simp [hQ], dQ.set hqB, ?_, ?_⟩)
    · rw [e3, drop_set (by (exact (nl (.branch 2 (.branch 1 (.leaf p) (.leaf (Q.length))) (.branch 3 (.leaf m) (.leaf i))) [(1, (.var 2), (.var 1)), (1, (.add (.add (.var 3) (.num 1)) (.var 0)), (.var 2))] 1 (.add (.var 0) (.num 1)) (.var 1) rfl (nge hQ) (nge hp)))), val_split (2 ^ v) p H' (by rw [w1.len]; (exact (nl (.branch 3 (.branch 1 (.leaf p) (.branch 2 (.leaf (H.length)) (.leaf (R.length - C.length)))) (.branch 4 (.leaf m) (.branch 5 (.leaf (R.length)) (.leaf i)))) [(1, (.var 3), (.var 2)), (1, (.var 4), (.var 1)), (1, (.add (.add (.var 5) (.num 1)) (.var 0)), (.var 3)), (1, (.var 2), (.var 4))] 1 (.var 0) (.var 1) rfl (nge hm) (nge hH) (nge hp) (Nat.sub_le (R.length) (C.length))))), w1.lo, v1, ← he, val_split (2 ^ v) p H (by (exact (nl (.branch 3 (.branch 1 (.leaf p) (.branch 2 (.leaf (H.length)) (.leaf (R.length - C.length)))) (.branch 4 (.leaf m) (.branch 5 (.leaf (R.length)) (.leaf i)))) [(1, (.var 3), (.var 2)), (1, (.var 4), (.var 1)), (1, (.add (.add (.var 5) (.num 1)) (.var 0)), (.var 3)), (1, (.var 2), (.var 4))] 1 (.var 0) (.var 1) rfl (nge hm) (nge hH) (nge hp) (Nat.sub_le (R.length) (C.length))))), Nat.pow_succ, val]
      have e4 : (2 ^ v) ^ p * val (2 ^ v) (H.drop p) = (2 ^ v) ^ p * (q * val (2 ^ v) C + r) := by rw [hdm]
      rw [e4]
      grind
    · rw [e3, v1]; exact hml
  · intro ρ2 hI1
    refine elS_4_6 hI1 ?_
    intro H Q B1 B2 hρ hH dH hQ dQ he hlt
    clear hI1
    subst hρ
    rw [rngD_length, Nat.sub_self, List.drop_zero] at he hlt
    isplit; fin_run
    refine ⟨_, _, ⟨H, Q, rfl, rfl, hH, dH, hQ, dQ, ?_, hlt⟩, .inl rfl, by k_memK⟩
    rw [Nat.pow_zero, Nat.one_mul] at he
    exact he
end
end
section
theorem dg_top_pos {B x : Nat} (hB : 2 ≤ B) (hx : 0 < x) : 0 < dg (dig B x) ((dig B x).length - 1) := by
  refine hideG fun gHid hHid => ?_
  obtain ⟨l, d, e, hd⟩ := dig_snoc hB hx
  refine hHid ?_; clear hHid gHid
  rw [e]
  have : dg (l ++ [d]) ((l ++ [d]).length - 1) = d := dg_of (by simp)
  rw [this]; (exact (nl (.leaf d) [(1, (.add (.num 0) (.num 1)), (.var 0))] 1 (.add (.num 0) (.num 1)) (.var 0) rfl (Nat.pos_of_ne_zero hd)))
/-- moved up by what the top limb leaves, a number keeps its count of limbs -/
theorem shift_len {v y : Nat} (hv : 0 < v) (hy : 0 < y) :
    (dig (2 ^ v) (y * 2 ^ (v - ((dg (dig (2 ^ v) y) ((dig (2 ^ v) y).length - 1)).log2 + 1)))).length = (dig (2 ^ v) y).length ∧ (dg (dig (2 ^ v) y) ((dig (2 ^ v) y).length - 1)).log2 + 1 ≤ v := by
  have hB := two_le hv
  have ht := dg_top_pos hB hy
  refine hideG fun gHid hHid => ?_
  obtain ⟨l, d, e, hd⟩ := dig_snoc hB hy
  refine hHid ?_; clear hHid gHid
  have hds := dig_Ds hB y
  have hval := dig_val hB y
  have hdt : dg (dig (2 ^ v) y) ((dig (2 ^ v) y).length - 1) = d := by rw [e]; exact dg_of (by simp)
  rw [hdt]
  have hdB : d < 2 ^ v := hds d (by rw [e]; simp)
  have hlog : d.log2 < v := (Nat.log2_lt (by omega)).mpr hdB
  have hlen : (dig (2 ^ v) y).length = l.length + 1 := by rw [e]; simp
  refine ⟨?_, hlog⟩
  refine Nat.le_antisymm (dig_length_le hB ?_) ?_
  · rw [hlen]
    rw [e, val_snoc] at hval
    have hl := val_lt (by (exact Nat.le_of_lt (by assumption)) : 0 < 2 ^ v) (l := l) (by rw [e] at hds; exact hds.left)
    have h1 : d < 2 ^ (d.log2 + 1) := Nat.lt_log2_self
    have h2 : y < (2 ^ v) ^ l.length * 2 ^ (d.log2 + 1) := by
      have := Nat.mul_le_mul_left ((2 ^ v) ^ l.length) h1
      rw [Nat.mul_succ] at this
      (exact (nl (.branch 2 (.branch 1 (.leaf y) (.leaf ((2 ^ v) ^ l.length * 2 ^ (d.log2 + 1)))) (.branch 3 (.leaf (val (2 ^ v) l)) (.branch 4 (.leaf ((2 ^ v) ^ l.length * d)) (.leaf ((2 ^ v) ^ l.length))))) [(1, (.var 0), (.add (.var 2) (.var 3))), (1, (.add (.var 2) (.num 1)), (.var 4)), (1, (.add (.var 3) (.var 4)), (.var 1))] 1 (.add (.var 0) (.num 1)) (.var 1) rfl (nge hval) hl this))
    have h3 : 2 ^ (d.log2 + 1) * 2 ^ (v - (d.log2 + 1)) = 2 ^ v := by rw [← Nat.pow_add]; congr 1; (exact (Nat.le_antisymm (nl (.branch 1 (.leaf (d.log2)) (.branch 2 (.leaf (v - (d.log2 + 1))) (.leaf v))) [(1, (.add (.var 1) (.add (.var 0) (.num 1))), (.var 2))] 1 (.add (.add (.var 0) (.num 1)) (.var 1)) (.var 2) rfl (nsb (nl (.branch 1 (.leaf (d.log2)) (.leaf v)) [(1, (.add (.var 0) (.num 1)), (.var 1))] 1 (.add (.var 0) (.num 1)) (.var 1) rfl hlog))) (nl (.branch 1 (.leaf v) (.branch 2 (.leaf (d.log2)) (.leaf (v - (d.log2 + 1))))) [(1, (.var 0), (.add (.var 2) (.add (.var 1) (.num 1))))] 1 (.var 0) (.add (.add (.var 1) (.num 1)) (.var 2)) rfl (nsa (v) (d.log2 + 1)))))
    calc y * 2 ^ (v - (d.log2 + 1)) < ((2 ^ v) ^ l.length * 2 ^ (d.log2 + 1)) * 2 ^ (v - (d.log2 + 1)) := Nat.mul_lt_mul_of_pos_right h2 (Nat.two_pow_pos _)
      _ = (2 ^ v) ^ (l.length + 1) := by rw [Nat.mul_assoc, h3, Nat.pow_succ]
  · rcases Nat.lt_or_ge (dig (2 ^ v) (y * 2 ^ (v - (d.log2 + 1)))).length (dig (2 ^ v) y).length with h | h
    · have := val_lt_of_len hB h
      have := Nat.le_mul_of_pos_right y (Nat.two_pow_pos (v - (d.log2 + 1)))
      (exact (nl (.branch 2 (.branch 1 (.leaf ((dig (2 ^ v) y).length)) (.leaf ((dig (2 ^ v) (y * 2 ^ (v - (d.log2 + 1)))).length))) (.branch 3 (.leaf (y * 2 ^ (v - (d.log2 + 1)))) (.leaf y))) [(1, (.add (.var 2) (.num 1)), (.var 3)), (1, (.var 3), (.var 2))] 0 (.var 0) (.var 1) rfl (by assumption) this))
    · exact h

section
variable {mg mb : Str → Option Value} {g₀ : Heap} {prog : Program} {w : World}

theorem divrem_school_num (G : Gl mg mb g₀ recs) {v x y : Nat} (hv : 0 < v) (hv' : v ≤ 10) (hx : x < big) (hy : y < big) (hy0 : 0 < y) : Returns mg g₀ prog w "divrem_school" 4 [num v x, num v y, .int (v : Int)] (.tup [num v (x / y), num v (x % y)]) := by
  have hB := two_le hv
  have hB' := pow_le10 hv'
  have lx := len_big hv hx
  have ly := len_big hv hy
  have vx := dig_val hB x
  have vy := dig_val hB y
  have dx := dig_Ds hB x
  have dy := dig_Ds hB y
  have cc := compare_num (prog := prog) (w := w) G hv hx hy
  have sx := fun n => shift_left_num (prog := prog) (w := w) (n := n) G hv hv' hx
  have sy := fun n => shift_left_num (prog := prog) (w := w) (n := n) G hv hv' hy
  have ty := dig_le hB hy0
  have gy := dg_top_pos hB hy0
  have hs := shift_len hv hy0
  have hdl := fun (l : Nat) => divrem_small_num (prog := prog) (w := w) (l := l) G hv hv' hx
  have hle : y ≤ x → (dig (2 ^ v) y).length ≤ (dig (2 ^ v) x).length := fun h => by
    rcases Nat.lt_or_ge (dig (2 ^ v) x).length (dig (2 ^ v) y).length with q | q
    · have := val_lt_of_len hB q; (exact (nl (.branch 2 (.branch 1 (.leaf ((dig (2 ^ v) y).length)) (.leaf ((dig (2 ^ v) x).length))) (.branch 3 (.leaf y) (.leaf x))) [(1, (.var 2), (.var 3)), (1, (.add (.var 3) (.num 1)), (.var 2))] 0 (.var 0) (.var 1) rfl h this))
    · exact q
  have hxB := dig_lt hB x
  rw [show num v x = nats (dig (2 ^ v) x) from rfl, show num v y = nats (dig (2 ^ v) y) from rfl] at *
  generalize hA : dig (2 ^ v) x = A at *
  generalize dig (2 ^ v) y = C at *
  refine Returns.intro (d := dAt 43) G mem_divrem_school ok_divrem_school rfl ?_
  intro L a cd
  conv in (dAt 43).body => whnf
  conv in (dAt 43).scope => whnf
  change ExS _ _ _ _ _ _ _ [("a", Bnd.val (nats A)), ("b", Bnd.val (nats C)), ("w", Bnd.val (.int (v : Int))), ("shift", .un), ("divisor", .un), ("rest", .un), ("quotient", .un)] _
  have hC0 : C.length ≠ 0 := fun h => by
    rw [List.eq_nil_of_length_eq_zero h] at vy; simp [val] at vy; (exact (Nat.not_succ_le_zero 0 (nl (.leaf y) [(1, (.add (.num 0) (.num 1)), (.var 0)), (1, (.var 0), (.num 0))] 0 (.num 1) (.num 0) rfl hy0 (nge vy))))
  isplit; fin_run
  refine ifd (fun h => absurd h hC0) (fun _ => ?_)
  refine ExS.nil ?_
  refine ExS.cons (Ex1.ite (EvT.cmp ?_))
  refine EvV.callG G def_compare ?_
  fin_run
  refine ⟨_, cc.le (by decide), ?_⟩
  fin_run
  refine ifd (fun h => ?_) (fun h => ?_)
  · have hxy : x < y := by
      rcases Nat.lt_or_ge x y with q | q
      · exact q
      · rw [if_neg (by (exact (Nat.not_lt_of_le (nl (.branch 1 (.leaf y) (.leaf x)) [(1, (.var 0), (.var 1))] 1 (.var 0) (.var 1) rfl q))))] at h; split at h <;> lia
    isplit; ((try have kq1 : A.length ≤ 2 ^ 24 := (nl (.leaf (A.length)) [(1, (.var 0), (.num 1000))] 1 (.var 0) (.num (2 ^ 24)) rfl lx)); (try have kq2 : 0 + 1 + 1 ≤ 100 := (nl (.leaf 0) [] 1 (.add (.add (.num 0) (.num 1)) (.num 1)) (.num 100) rfl)); fin_run; all_goals (try clear kq1 kq2))
    refine .inl ?_
    rw [Nat.div_eq_of_lt hxy, Nat.mod_eq_of_lt hxy, num, num, hA, dig_zero]
    simp only [clipI, natsL_length, natsL_slice, Nat.sub_zero, List.drop_zero]
    rw [List.take_of_length_le (by rw [natsL_length]; exact Nat.le_refl _)]
  have hxy : y ≤ x := by
    rcases Nat.lt_or_ge x y with q | q
    · rw [if_pos q] at h; (clear q hC0 hle cc hs gy ty sy dy vy ly hxB hdl sx dx vx lx hA hB' hB hy0 hy hx hv' hv G; omega)
    · exact q
  have hCA := hle hxy
  refine ExS.nil ?_
  isplit; ((try have kq1 : C.length < 2 ^ 60 := (nl (.leaf (C.length)) [(1, (.var 0), (.num 1000))] 1 (.add (.var 0) (.num 1)) (.num (2 ^ 60)) rfl ly)); fin_run; all_goals (try clear kq1))
  refine ifd (fun h1 => ?_) (fun h1 => ?_)
  · isplit
    refine EvV.callG G def_divrem_small ?_
    fin_run
    obtain ⟨l, rfl⟩ : ∃ l, C = [l] := by
      match C, h1 with
      | [l], _ => exact ⟨l, rfl⟩
    have : y = l := by rw [← vy]; simp [val]
    subst this
    exact ⟨_, hdl _ (dy.head) hy0, .inl rfl⟩
  refine ExS.nil ?_
  generalize hd : dg C (C.length - 1) = d at *
  isplit; fin_run
  refine EvV.callG G def_bits ?_
  ((try have kq1 : 0 < C.length := (nl (.leaf (C.length)) [(1, (.add (.num 0) (.num 1)), (.var 0))] 1 (.add (.num 0) (.num 1)) (.var 0) rfl (Nat.pos_of_ne_zero hC0))); (try have kq2 : C.length < 2 ^ 60 := (nl (.leaf (C.length)) [(1, (.var 0), (.num 1000))] 1 (.add (.var 0) (.num 1)) (.num (2 ^ 60)) rfl ly)); (try have kq3 : 0 + 1 ≤ 100 := (nl (.leaf 0) [] 1 (.add (.num 0) (.num 1)) (.num 100) rfl)); fin_run; all_goals (try clear kq1 kq2 kq3))
  rw [hd]
  refine ⟨_, (bits_num G gy).le (by decide), ?_⟩
  ((try have kq1 : d.log2 + 1 ≤ v := (nl (.branch 1 (.leaf (d.log2)) (.leaf v)) [(1, (.add (.var 0) (.num 1)), (.var 1))] 1 (.add (.var 0) (.num 1)) (.var 1) rfl hs.2)); fin_run; all_goals (try clear kq1))
  have hsl := hs.2
  have hsh : v - (d.log2 + 1) < v := by (clear hsl hs gy hd h1 hCA hxy h hC0 hle cc ty sy dy vy ly hxB hdl sx dx vx lx hA hB' hB hy0 hy hx hv' G; omega)
  generalize v - (d.log2 + 1) = sh at *
  isplit
  refine EvV.callG G def_shift_left ?_
  fin_run
  refine ⟨_, (sy sh (by (exact (nl (.branch 1 (.leaf sh) (.leaf v)) [(1, (.var 1), (.num 10)), (1, (.add (.var 0) (.num 1)), (.var 1))] 1 (.var 0) (.num 100) rfl hv' hsh)))).le (by decide), ?_⟩
  fin_run
  isplit
  refine EvV.callG G def_shift_left ?_
  fin_run
  refine ⟨_, (sx sh (by (exact (nl (.branch 1 (.leaf sh) (.leaf v)) [(1, (.var 1), (.num 10)), (1, (.add (.var 0) (.num 1)), (.var 1))] 1 (.var 0) (.num 100) rfl hv' hsh)))).le (by decide), ?_⟩
  fin_run
  have hp := Nat.two_pow_pos sh
  have vA := dig_val hB (x * 2 ^ sh)
  have dA := dig_Ds hB (x * 2 ^ sh)
  have lA : (dig (2 ^ v) (x * 2 ^ sh)).length ≤ A.length + 1 := dig_length_le hB (by
    rw [Nat.pow_succ]
    exact Nat.mul_lt_mul_of_lt_of_le hxB (Nat.pow_le_pow_right (by decide) (by (exact Nat.le_of_lt (by assumption)))) (by (exact Nat.le_of_lt (by assumption))))
  have vC := dig_val hB (y * 2 ^ sh)
  have dC := dig_Ds hB (y * 2 ^ sh)
  have gC := dg_top_pos hB (Nat.mul_pos hy0 hp)
  have lC := hs.1
  rw [show num v (x * 2 ^ sh) = nats (dig (2 ^ v) (x * 2 ^ sh)) from rfl, show num v (y * 2 ^ sh) = nats (dig (2 ^ v) (y * 2 ^ sh)) from rfl]
  generalize dig (2 ^ v) (x * 2 ^ sh) = A2 at *
  generalize dig (2 ^ v) (y * 2 ^ sh) = C2 at *
  refine ExS.cons (Ex1.assign (EvE.cat (EvV.name (by k_memK) ⟨_, rfl, EvV.ofE (EvE.repN0 ?_)⟩)))
  ((try have kq1 : A2.length < 2 ^ 60 := (nl (.branch 1 (.leaf (A2.length)) (.leaf (A.length))) [(1, (.var 1), (.num 1000)), (1, (.var 0), (.add (.var 1) (.num 1)))] 1 (.add (.var 0) (.num 1)) (.num (2 ^ 60)) rfl lx lA)); (try have kq2 : A.length + 1 - A2.length ≤ 2 ^ 24 := (nl (.branch 1 (.leaf (A.length + 1 - A2.length)) (.leaf (A.length))) [(1, (.var 1), (.num 1000)), (1, (.var 0), (.add (.var 1) (.num 1)))] 1 (.var 0) (.num (2 ^ 24)) rfl lx (Nat.sub_le (A.length + 1) (A2.length)))); fin_run; all_goals (try clear kq1 kq2))
  intro d1
  refine ⟨_, .own _ _, _, rfl, by rw [natsL_length, natsL_length, List.length_replicate]; (exact (nl (.branch 1 (.leaf (A2.length)) (.branch 2 (.leaf (A.length + 1 - A2.length)) (.leaf (A.length)))) [(2, (.var 2), (.num 1000)), (1, (.var 0), (.add (.var 2) (.num 1))), (1, (.var 1), (.add (.var 2) (.num 1)))] 1 (.add (.var 0) (.var 1)) (.num (2 ^ 24)) rfl lx lA (Nat.sub_le (A.length + 1) (A2.length)))), fun d2 => ?_⟩
  rw [natsL_append]
  fin_run
  have hm : A.length + 1 - A2.length + A2.length = A.length + 1 := by (exact (Nat.le_antisymm (nl (.branch 1 (.leaf (A.length + 1 - A2.length)) (.branch 2 (.leaf (A2.length)) (.leaf (A.length)))) [(1, (.add (.var 0) (.var 1)), (.add (.var 2) (.num 1)))] 1 (.add (.var 0) (.var 1)) (.add (.var 2) (.num 1)) rfl (nsb (nl (.branch 1 (.leaf (A2.length)) (.leaf (A.length))) [(1, (.var 0), (.add (.var 1) (.num 1)))] 1 (.var 0) (.add (.var 1) (.num 1)) rfl lA))) (nl (.branch 1 (.leaf (A.length)) (.branch 2 (.leaf (A.length + 1 - A2.length)) (.leaf (A2.length)))) [(1, (.add (.var 0) (.num 1)), (.add (.var 1) (.var 2)))] 1 (.add (.var 0) (.num 1)) (.add (.var 1) (.var 2)) rfl (nsa (A.length + 1) (A2.length)))))
  generalize A.length + 1 - A2.length = m at *
  have vR : val (2 ^ v) (A2 ++ List.replicate m 0) = x * 2 ^ sh := by rw [val_append, val_zeros, Nat.mul_zero, Nat.add_zero, vA]
  have dR : Ds (2 ^ v) (A2 ++ List.replicate m 0) := dA.append (Ds.rep (by (exact Nat.le_of_lt (by assumption))))
  have lR : (A2 ++ List.replicate m 0).length = A.length + 1 := by rw [List.length_append, List.length_replicate]; (exact (Nat.le_antisymm (nl (.branch 1 (.leaf (A2.length)) (.branch 2 (.leaf m) (.leaf (A.length)))) [(1, (.add (.var 1) (.var 0)), (.add (.var 2) (.num 1)))] 1 (.add (.var 0) (.var 1)) (.add (.var 2) (.num 1)) rfl (Nat.le_of_eq hm)) (nl (.branch 1 (.leaf (A.length)) (.branch 2 (.leaf (A2.length)) (.leaf m))) [(1, (.add (.var 0) (.num 1)), (.add (.var 2) (.var 1)))] 1 (.add (.var 0) (.num 1)) (.add (.var 1) (.var 2)) rfl (nge hm))))
  generalize A2 ++ List.replicate m 0 = R at *
  isplit
  refine EvV.callT G def_divide_rows (Bnd.Own.own _ _) (by k_memK) ?_
  fin_run
  refine ⟨_, (divide_rows_run G hv hv' dR dC (by (exact (nl (.branch 1 (.leaf (R.length)) (.leaf (A.length))) [(1, (.var 1), (.num 1000)), (1, (.var 0), (.add (.var 1) (.num 1)))] 1 (.var 0) (.num 3000) rfl lx (Nat.le_of_eq lR)))) (by (clear lR dR vR hm lC gC dC vC lA dA vA hp hsh hsl gy hd hCA hxy h hle cc ty sy dy vy ly hxB hdl sx dx vx lx hA hB' hB hy0 hy hx hv' hv G; lia)) (by lia) gC ?_).le (by decide), ?_⟩
  · rw [← val_div (by (exact Nat.le_of_lt (by assumption))) dR (by (exact (nl (.branch 1 (.leaf (R.length - C2.length)) (.leaf (R.length))) [(1, (.var 0), (.var 1))] 1 (.var 0) (.var 1) rfl (Nat.sub_le (R.length) (C2.length))))), vR, vC, lR, lC]
    refine Nat.div_lt_of_lt_mul ?_
    rw [← Nat.mul_assoc]
    refine Nat.mul_lt_mul_of_pos_right ?_ hp
    refine Nat.lt_of_lt_of_le hxB ?_
    calc (2 ^ v) ^ A.length = (2 ^ v) ^ (A.length + 1 - C.length) * (2 ^ v) ^ (C.length - 1) := by rw [← Nat.pow_add]; congr 1; lia
      _ ≤ _ := Nat.mul_le_mul_left _ ty
  intro _ _ hI1
  refine el_2_8 hI1 ?_
  intro R' Q hρ0 hρ1 lR' dR' lQ dQ e1 e2
  clear hI1
  subst hρ0
  subst hρ1
  refine ⟨_, _, .own, by k_upd, ?_⟩
  fin_run
  rw [vR, vC] at e1
  rw [vC] at e2
  have hq : val (2 ^ v) Q = x / y := by
    have h5 : y * 2 ^ sh * val (2 ^ v) Q ≤ x * 2 ^ sh := by (exact (nl (.branch 1 (.leaf (y * 2 ^ sh * val (2 ^ v) Q)) (.branch 2 (.leaf (x * 2 ^ sh)) (.leaf (val (2 ^ v) R')))) [(1, (.add (.var 2) (.var 0)), (.var 1))] 1 (.var 0) (.var 1) rfl (Nat.le_of_eq e1)))
    have h6 : (x * 2 ^ sh) / (y * 2 ^ sh) = val (2 ^ v) Q := by
      rw [← e1, Nat.add_mul_div_left _ _ (Nat.mul_pos hy0 hp), Nat.div_eq_of_lt e2, Nat.zero_add]
    rw [← h6, Nat.mul_div_mul_right _ _ hp]
  have hr : val (2 ^ v) R' = x % y * 2 ^ sh := by
    have h6 : (x * 2 ^ sh) % (y * 2 ^ sh) = val (2 ^ v) R' := by
      rw [← e1, Nat.add_mul_mod_self_left, Nat.mod_eq_of_lt e2]
    rw [← h6, Nat.mul_mod_mul_right]
  isplit; fin_run
  refine EvV.callG G def_normal ?_
  fin_run
  refine ⟨_, (normal_list G (by (exact (nl (.branch 2 (.branch 1 (.leaf (Q.length)) (.leaf (A.length))) (.branch 3 (.leaf (R.length)) (.leaf (R.length - C2.length)))) [(1, (.var 1), (.num 1000)), (1, (.var 2), (.add (.var 1) (.num 1))), (1, (.var 0), (.var 3)), (1, (.var 3), (.var 2))] 1 (.add (.var 0) (.num 1)) (.num (2 ^ 20)) rfl lx (Nat.le_of_eq lR) (Nat.le_of_eq lQ) (Nat.sub_le (R.length) (C2.length)))))).le (by decide), ?_⟩
  fin_run
  refine EvV.callG G def_shift_right ?_
  fin_run
  refine EvV.callG G def_normal ?_
  fin_run
  refine ⟨_, (normal_list G (by (exact (nl (.branch 1 (.leaf (R'.length)) (.branch 2 (.leaf (A.length)) (.leaf (R.length)))) [(1, (.var 1), (.num 1000)), (1, (.var 2), (.add (.var 1) (.num 1))), (1, (.var 0), (.var 2))] 1 (.add (.var 0) (.num 1)) (.num (2 ^ 20)) rfl lx (Nat.le_of_eq lR) (Nat.le_of_eq lR'))))).le (by decide), ?_⟩
  fin_run
  refine ⟨_, (shift_right_num (A := nrm R') (x := val (2 ^ v) R') G hv hv' (Nat.le_trans (nrm_length _) (by (exact (nl (.branch 1 (.leaf (R'.length)) (.branch 2 (.leaf (A.length)) (.leaf (R.length)))) [(1, (.var 1), (.num 1000)), (1, (.var 2), (.add (.var 1) (.num 1))), (1, (.var 0), (.var 2))] 1 (.var 0) (.num 2000) rfl lx (Nat.le_of_eq lR) (Nat.le_of_eq lR'))))) (by rw [nrm_dig hB dR']; exact dig_Ds hB _) (by rw [nrm_dig hB dR', dig_val hB]) hsh).le (by decide), ?_⟩
  ((try have kq1 : 0 + 1 + 1 ≤ 100 := (nl (.leaf 0) [] 1 (.add (.add (.num 0) (.num 1)) (.num 1)) (.num 100) rfl)); fin_run; all_goals (try clear kq1))
  refine .inl ?_
  rw [nrm_dig hB dQ, hq, hr, Nat.mul_div_cancel _ hp]
end
end
section
abbrev sgn (v : Nat) (i : Int) : V := .tup [.bool (decide (i < 0)), num v i.natAbs]
theorem num_len {v n : Nat} (hv : 0 < v) : 0 < (dig (2 ^ v) n).length ↔ 0 < n := by
  have := @dig_eq_nil (2 ^ v) (two_le hv) n
  rw [List.length_pos_iff, ne_eq, this]; lia
section
variable {mg mb : Str → Option Value} {g₀ : Heap} {prog : Program} {w : World}

theorem signed_num (G : Gl mg mb g₀ recs) {v n : Nat} {b : Bool} {i : Int} (hv : 0 < v) (hn : n < big) (hi : i = if b then -(n : Int) else n) : Returns mg g₀ prog w "signed" 1 [.bool b, num v n] (sgn v i) := by
  have ln := len_big hv hn
  have l0 := @num_len v n hv
  have hr : sgn v i = .tup [.bool (b && decide (0 < (dig (2 ^ v) n).length)), num v n] := by
    subst hi
    cases b
    · simp [sgn]
    · simp [sgn, l0]
  rw [hr]
  refine Returns.intro (d := dAt 16) G mem_signed ok_signed rfl ?_
  intro L a cd
  conv in (dAt 16).body => whnf
  conv in (dAt 16).scope => whnf
  change ExS _ _ _ _ _ _ _ [("is_below", Bnd.val (.bool b)), ("nat", Bnd.val (num v n))] _
  isplit; fin_run
  cases b
  · rw [if_neg (by decide)]
    ((try have kq1 : 0 + 1 + 1 ≤ 100 := (nl (.leaf 0) [] 1 (.add (.add (.num 0) (.num 1)) (.num 1)) (.num 100) rfl)); fin_run; all_goals (try clear kq1))
    exact .inl rfl
  · rw [if_pos rfl]
    fin_run
    exact .inl rfl

theorem s_neg_num (G : Gl mg mb g₀ recs) {v : Nat} {i : Int} (hv : 0 < v) (hi : i.natAbs < big) : Returns mg g₀ prog w "s_neg" 2 [sgn v i] (sgn v (-i)) := by
  refine Returns.intro (d := dAt 17) G mem_s_neg ok_s_neg rfl ?_
  intro L a cd
  conv in (dAt 17).body => whnf
  conv in (dAt 17).scope => whnf
  change ExS _ _ _ _ _ _ _ [("x", Bnd.val (sgn v i))] _
  isplit
  refine EvV.callG G def_signed ?_
  fin_run
  refine ⟨_, signed_num (i := -i) G hv hi ?_, .inl rfl⟩
  by_cases h : i < 0 <;> simp [h] <;> (first | (clear hi hv G; omega) | lia)

theorem s_abs_num (G : Gl mg mb g₀ recs) {v : Nat} {i : Int} : Returns mg g₀ prog w "s_abs" 1 [sgn v i] (.tup [.bool false, num v i.natAbs]) := by
  refine Returns.intro (d := dAt 18) G mem_s_abs ok_s_abs rfl ?_
  intro L a cd
  conv in (dAt 18).body => whnf
  conv in (dAt 18).scope => whnf
  change ExS _ _ _ _ _ _ _ [("x", Bnd.val (sgn v i))] _
  isplit
  fin_run
  exact .inl rfl

theorem s_add_num (G : Gl mg mb g₀ recs) {v : Nat} {i j : Int} (hv : 0 < v) (hv' : v ≤ 10) (hij : i.natAbs + j.natAbs < big) : Returns mg g₀ prog w "s_add" 3 [sgn v i, sgn v j, .int (v : Int)] (sgn v (i + j)) := by
  refine Returns.intro (d := dAt 19) G mem_s_add ok_s_add rfl ?_
  intro L a cd
  conv in (dAt 19).body => whnf
  conv in (dAt 19).scope => whnf
  change ExS _ _ _ _ _ _ _ [("x", Bnd.val (sgn v i)), ("y", Bnd.val (sgn v j)), ("w", Bnd.val (.int (v : Int)))] _
  refine ExS.cons (Ex1.ite (EvT.cmpB ?_))
  fin_run
  refine ifb (fun h => ?_) (fun h => ?_)
  · have h' : (i < 0) = (j < 0) := by simpa using h
    isplit
    refine EvV.callG G def_signed ?_
    fin_run
    refine EvV.callG G def_add ?_
    fin_run
    refine ⟨_, (add_num G hv hv' (by (exact (nl (.branch 1 (.leaf (i.natAbs)) (.branch 2 (.leaf big) (.leaf (j.natAbs)))) [(1, (.add (.add (.var 0) (.var 2)) (.num 1)), (.var 1))] 1 (.add (.var 0) (.num 1)) (.var 1) rfl hij))) (by (exact (nl (.branch 1 (.leaf (j.natAbs)) (.branch 2 (.leaf big) (.leaf (i.natAbs)))) [(1, (.add (.add (.var 2) (.var 0)) (.num 1)), (.var 1))] 1 (.add (.var 0) (.num 1)) (.var 1) rfl hij)))).le (by decide), ?_⟩
    fin_run
    refine ⟨_, (signed_num (i := i + j) G hv (by omega) ?_).le (by decide), .inl rfl⟩
    by_cases hi : i < 0
    · have : j < 0 := h' ▸ hi
      rw [decide_eq_true hi, if_pos rfl]; (clear h' h hij hv' hv G; lia)
    · have : ¬ j < 0 := h' ▸ hi
      rw [decide_eq_false hi, if_neg (by decide)]; (clear h' h hij hv' hv G; lia)
  · have h' : ¬ (i < 0 ↔ j < 0) := fun q => by
      have e : decide (i < 0) = decide (j < 0) := decide_eq_decide.mpr q
      rw [e] at h
      simp at h
    refine ExS.nil (ExS.cons (Ex1.ite (EvT.cmp ?_)))
    refine EvV.callG G def_compare ?_
    fin_run
    refine ⟨_, (compare_num G hv (by (exact (nl (.branch 1 (.leaf (i.natAbs)) (.branch 2 (.leaf big) (.leaf (j.natAbs)))) [(1, (.add (.add (.var 0) (.var 2)) (.num 1)), (.var 1))] 1 (.add (.var 0) (.num 1)) (.var 1) rfl hij))) (by (exact (nl (.branch 1 (.leaf (j.natAbs)) (.branch 2 (.leaf big) (.leaf (i.natAbs)))) [(1, (.add (.add (.var 2) (.var 0)) (.num 1)), (.var 1))] 1 (.add (.var 0) (.num 1)) (.var 1) rfl hij)))).le (by decide), ?_⟩
    fin_run
    refine ifd (fun h1 => ?_) (fun h1 => ?_)
    · have hlt : i.natAbs < j.natAbs := by
        rcases Nat.lt_or_ge i.natAbs j.natAbs with q | q
        · exact q
        · rw [if_neg (by (exact (Nat.not_lt_of_le (nl (.branch 1 (.leaf (j.natAbs)) (.leaf (i.natAbs))) [(1, (.var 0), (.var 1))] 1 (.var 0) (.var 1) rfl q))))] at h1; split at h1 <;> lia
      isplit
      refine EvV.callG G def_signed ?_
      fin_run
      refine EvV.callG G def_sub ?_
      fin_run
      refine ⟨_, sub_num G hv hv' (by (exact (nl (.branch 1 (.leaf (j.natAbs)) (.branch 2 (.leaf big) (.leaf (i.natAbs)))) [(1, (.add (.add (.var 2) (.var 0)) (.num 1)), (.var 1))] 1 (.add (.var 0) (.num 1)) (.var 1) rfl hij))) (by (exact Nat.le_of_lt (by assumption))), ?_⟩
      fin_run
      refine ⟨_, (signed_num (i := i + j) G hv (by (exact (nl (.branch 2 (.branch 1 (.leaf (j.natAbs - i.natAbs)) (.leaf big)) (.branch 3 (.leaf (i.natAbs)) (.leaf (j.natAbs)))) [(1, (.add (.add (.var 2) (.var 3)) (.num 1)), (.var 1)), (1, (.var 0), (.var 3))] 1 (.add (.var 0) (.num 1)) (.var 1) rfl hij (Nat.sub_le (j.natAbs) (i.natAbs))))) ?_).le (by decide), .inl rfl⟩
      split <;> rename_i hq <;> simp only [decide_eq_true_eq] at hq <;> lia
    · have hlt : j.natAbs ≤ i.natAbs := by
        rcases Nat.lt_or_ge i.natAbs j.natAbs with q | q
        · rw [if_pos q] at h1; (clear q h' h hij hv' hv G; omega)
        · exact q
      refine ExS.nil ?_
      isplit
      refine EvV.callG G def_signed ?_
      fin_run
      refine EvV.callG G def_sub ?_
      fin_run
      refine ⟨_, sub_num G hv hv' (by (exact (nl (.branch 1 (.leaf (i.natAbs)) (.branch 2 (.leaf big) (.leaf (j.natAbs)))) [(1, (.add (.add (.var 0) (.var 2)) (.num 1)), (.var 1))] 1 (.add (.var 0) (.num 1)) (.var 1) rfl hij))) (by omega), ?_⟩
      fin_run
      refine ⟨_, (signed_num (i := i + j) G hv (by (exact (nl (.branch 2 (.branch 1 (.leaf (i.natAbs - j.natAbs)) (.leaf big)) (.branch 3 (.leaf (i.natAbs)) (.leaf (j.natAbs)))) [(1, (.add (.add (.var 2) (.var 3)) (.num 1)), (.var 1)), (1, (.var 0), (.var 2))] 1 (.add (.var 0) (.num 1)) (.var 1) rfl hij (Nat.sub_le (i.natAbs) (j.natAbs))))) ?_).le (by decide), .inl rfl⟩
      split <;> rename_i hq <;> simp only [decide_eq_true_eq] at hq <;> (first | (clear hlt h hij hv' hv G; lia) | lia)

theorem s_sub_num (G : Gl mg mb g₀ recs) {v : Nat} {i j : Int} (hv : 0 < v) (hv' : v ≤ 10) (hij : i.natAbs + j.natAbs < big) : Returns mg g₀ prog w "s_sub" 4 [sgn v i, sgn v j, .int (v : Int)] (sgn v (i - j)) := by
  refine Returns.intro (d := dAt 20) G mem_s_sub ok_s_sub rfl ?_
  intro L a cd
  conv in (dAt 20).body => whnf
  conv in (dAt 20).scope => whnf
  change ExS _ _ _ _ _ _ _ [("x", Bnd.val (sgn v i)), ("y", Bnd.val (sgn v j)), ("w", Bnd.val (.int (v : Int)))] _
  isplit
  refine EvV.callG G def_s_add ?_
  fin_run
  refine EvV.callG G def_s_neg ?_
  fin_run
  refine ⟨_, (s_neg_num G hv (by omega)).le (by decide), ?_⟩
  fin_run
  refine ⟨_, s_add_num G hv hv' (by (clear hv' hv G; omega)), .inl ?_⟩
  rw [Int.sub_eq_add_neg]

theorem sgn_mul (i j : Int) : i * j = if (decide (i < 0) != decide (j < 0)) = true then -((i.natAbs * j.natAbs : Nat) : Int) else ((i.natAbs * j.natAbs : Nat) : Int) := by
  rw [← Int.natAbs_mul]
  by_cases hi : i < 0 <;> by_cases hj : j < 0
  · have := Int.mul_pos_of_neg_of_neg hi hj
    simp [hi, hj]; lia
  · have h1 : 0 ≤ (-i) * j := Int.mul_nonneg (by lia) (by lia)
    rw [Int.neg_mul] at h1
    simp [hi, hj]; (clear hj hi; omega)
  · have h1 : 0 ≤ i * (-j) := Int.mul_nonneg (by lia) (by lia)
    rw [Int.mul_neg] at h1
    simp [hi, hj]; omega
  · have h1 : 0 ≤ i * j := Int.mul_nonneg (by omega) (by omega)
    simp [hi, hj]; lia

theorem s_mul_num (G : Gl mg mb g₀ recs) {v : Nat} {i j : Int} (hv : 0 < v) (hv' : v ≤ 10) (hi : i.natAbs < big) (hj : j.natAbs < big) (hij : i.natAbs * j.natAbs < big) : Returns mg g₀ prog w "s_mul" 3 [sgn v i, sgn v j, .int (v : Int), .fn "mul_school"] (sgn v (i * j)) := by
  refine Returns.intro (d := dAt 21) G mem_s_mul ok_s_mul rfl ?_
  intro L a cd
  conv in (dAt 21).body => whnf
  conv in (dAt 21).scope => whnf
  change ExS _ _ _ _ _ _ _ [("x", Bnd.val (sgn v i)), ("y", Bnd.val (sgn v j)), ("w", Bnd.val (.int (v : Int))), ("mul", Bnd.val (.fn "mul_school"))] _
  isplit
  refine EvV.callG G def_signed (EvVs.cons (EvV.cmpB ?_))
  fin_run
  refine EvV.callV G (by k_memK) def_mul_school ?_
  fin_run
  refine ⟨_, mul_school_num G hv hv' hi hj, ?_⟩
  fin_run
  exact ⟨_, (signed_num (i := i * j) G hv hij (sgn_mul i j)).le (by decide), .inl rfl⟩

theorem tdiv_num (G : Gl mg mb g₀ recs) {v m : Nat} {i : Int} (hv : 0 < v) (hv' : v ≤ 10) (hi : i.natAbs < big) (hm : m < big) (hm0 : 0 < m) : Returns mg g₀ prog w "tdiv" 5 [sgn v i, .tup [.bool false, num v m], .int (v : Int), .fn "divrem_school"]
    (.tup [sgn v (if i < 0 then -((i.natAbs / m : Nat) : Int) else ((i.natAbs / m : Nat) : Int)), sgn v (if i < 0 then -((i.natAbs % m : Nat) : Int) else ((i.natAbs % m : Nat) : Int))]) := by
  have lm := (@num_len v m hv).mpr hm0
  have l1 := len_big hv hm
  refine Returns.intro (d := dAt 22) G mem_tdiv ok_tdiv rfl ?_
  intro L a cd
  conv in (dAt 22).body => whnf
  conv in (dAt 22).scope => whnf
  change ExS _ _ _ _ _ _ _ [("x", Bnd.val (sgn v i)), ("y", Bnd.val (.tup [.bool false, num v m])), ("w", Bnd.val (.int (v : Int))), ("divrem", Bnd.val (.fn "divrem_school")), ("quotient", .un), ("rest", .un)] _
  isplit; fin_run
  refine ifd (fun h => by (exact (False.elim (Nat.not_succ_le_zero 0 (nl (.leaf ((dig (2 ^ v) m).length)) [(1, (.add (.num 0) (.num 1)), (.var 0)), (1, (.var 0), (.num 0))] 0 (.num 1) (.num 0) rfl lm (Nat.le_of_eq h)))))) (fun _ => ?_)
  refine ExS.nil (ExS.cons (Ex1.assignTup ?_))
  refine EvV.callV G (by k_memK) def_divrem_school ?_
  fin_run
  refine ⟨_, divrem_school_num G hv hv' hi hm hm0, ?_⟩
  refine AsX.two (by k_upd) (by k_upd) ?_
  have h1 := Nat.div_le_self i.natAbs m
  have h2 := Nat.mod_le i.natAbs m
  isplit
  refine EvV.tup (EvVs.cons ?_)
  refine EvV.callG G def_signed (EvVs.cons (EvV.cmpB ?_))
  fin_run
  refine ⟨_, (signed_num (i := if i < 0 then -((i.natAbs / m : Nat) : Int) else ((i.natAbs / m : Nat) : Int)) G hv (by (exact Nat.lt_of_le_of_lt (by assumption) (by assumption))) (by simp)).le (by decide), ?_⟩
  fin_run
  refine EvV.callG G def_signed ?_
  fin_run
  refine ⟨_, (signed_num (i := if i < 0 then -((i.natAbs % m : Nat) : Int) else ((i.natAbs % m : Nat) : Int)) G hv (by (exact Nat.lt_of_le_of_lt (by assumption) (by assumption))) (by simp)).le (by decide), ?_⟩
  fin_run
  exact .inl rfl

theorem emod_abs {i : Int} {m : Nat} (hm : 0 < m) : i % (m : Int) = if i < 0 ∧ 0 < i.natAbs % m then -((i.natAbs % m : Nat) : Int) + m else ((i.natAbs % m : Nat) : Int) := by
  have hd := Nat.div_add_mod i.natAbs m
  have hl := Nat.mod_lt i.natAbs hm
  generalize i.natAbs / m = q at *
  generalize hr : i.natAbs % m = r at *
  split
  · rename_i h
    have : i = (-(r : Int) + m) + m * (-(q : Int) - 1) := by
      have : (i.natAbs : Int) = m * q + r := by rw [← hd]; push_cast; rfl
      have hi : i = -(i.natAbs : Int) := by (clear this hd hl hr hm; omega)
      rw [hi, this]; grind
    rw [this, Int.add_mul_emod_self_left, Int.emod_eq_of_lt (by (clear this h hd hr hm; lia)) (by (clear this hd hl hr hm; lia))]
  · rename_i h
    have hc : (i.natAbs : Int) = m * q + r := by rw [← hd]; push_cast; rfl
    by_cases hi : i < 0
    · have : r = 0 := by (clear hc hd hl hr hm; lia)
      subst this
      have e : i = m * (-(q : Int)) := by
        have : i = -(i.natAbs : Int) := by lia
        rw [this, hc]; grind
      rw [e, Int.mul_emod_right]; rfl
    · have e : i = r + m * (q : Int) := by
        have : i = (i.natAbs : Int) := by lia
        rw [this, hc]; grind
      rw [e, Int.add_mul_emod_self_left, Int.emod_eq_of_lt (by (clear e hi hc h hd hl hr hm; lia)) (by (clear e hi hc h hd hr hm; lia))]

theorem fdiv_num (G : Gl mg mb g₀ recs) {v m : Nat} {i : Int} (hv : 0 < v) (hv' : v ≤ 10) (hi : i.natAbs < big) (hm : m + m < big) (hm0 : 0 < m) : ∃ Q, Returns mg g₀ prog w "fdiv" 6 [sgn v i, .tup [.bool false, num v m], .int (v : Int), .fn "divrem_school"]
    (.tup [Q, sgn v (i % (m : Int))]) := by
  have hB := two_le hv
  have h1 := Nat.div_le_self i.natAbs m
  have h2 := Nat.mod_lt i.natAbs hm0
  have en : ∀ n : Nat, (if i < 0 then -(n : Int) else (n : Int)).natAbs = n := fun n => by split <;> (first | rfl | lia)
  have td := tdiv_num (prog := prog) (w := w) G hv hv' hi (show m < big by (exact (nl (.branch 1 (.leaf m) (.leaf big)) [(1, (.add (.add (.var 0) (.var 0)) (.num 1)), (.var 1))] 2 (.add (.var 0) (.num 1)) (.var 1) rfl hm))) hm0
  have ea := en (i.natAbs % m)
  have ed := en (i.natAbs / m)
  rw [emod_abs hm0]
  generalize hR : (if i < 0 then -((i.natAbs % m : Nat) : Int) else ((i.natAbs % m : Nat) : Int)) = R at *
  generalize hQ : (if i < 0 then -((i.natAbs / m : Nat) : Int) else ((i.natAbs / m : Nat) : Int)) = Q at *
  generalize hr : i.natAbs % m = r at *
  generalize hq : i.natAbs / m = q at *
  have l1 := len_big hv (show R.natAbs < big by lia)
  have l2 := @num_len v R.natAbs hv
  by_cases hc : i < 0 ∧ 0 < r
  · refine ⟨.tup [.bool true, num v (q + 1)], ?_⟩
    refine Returns.intro (d := dAt 23) G mem_fdiv ok_fdiv rfl ?_
    intro L a cd
    conv in (dAt 23).body => whnf
    conv in (dAt 23).scope => whnf
    change ExS _ _ _ _ _ _ _ [("x", Bnd.val (sgn v i)), ("y", Bnd.val (.tup [.bool false, num v m])), ("w", Bnd.val (.int (v : Int))), ("divrem", Bnd.val (.fn "divrem_school")), ("quotient", .un), ("rest", .un)] _
    refine ExS.cons (Ex1.assignTup ?_)
    refine EvV.callG G def_tdiv ?_
    fin_run
    refine ⟨_, td, ?_⟩
    refine AsX.two (by k_upd) (by k_upd) ?_
    refine ExS.cons (Ex1.ite (EvT.and2 ?_))
    fin_run
    refine ifd (fun _ => EvT.cmpB ?_) (fun h => absurd (l2.mpr (by lia)) h)
    fin_run
    refine ifb (fun _ => ?_) (fun h => by simp [hc.1] at h)
    isplit
    refine EvV.tup (EvVs.cons (EvV.tup (EvVs.cons ?_)))
    fin_run
    refine EvV.callG G def_add_limb ?_
    fin_run
    rw [ed]
    refine ⟨_, (add_limb_num G hv hv' (by (exact Nat.lt_of_le_of_lt (by assumption) (by assumption))) (by assumption)).le (by decide), ?_⟩
    ((try have kq1 : 0 + 1 + 1 ≤ 100 := (nl (.leaf 0) [] 1 (.add (.add (.num 0) (.num 1)) (.num 1)) (.num 100) rfl)); fin_run; all_goals (try clear kq1))
    refine EvV.callG G def_s_add ?_
    fin_run
    refine ⟨_, (s_add_num (j := (m : Int)) G hv hv' (by rw [ea, Int.natAbs_natCast]; (exact (nl (.branch 1 (.leaf r) (.branch 2 (.leaf m) (.leaf big))) [(1, (.add (.add (.var 1) (.var 1)) (.num 1)), (.var 2)), (1, (.add (.var 0) (.num 1)), (.var 1))] 1 (.add (.add (.var 0) (.var 1)) (.num 1)) (.var 2) rfl hm h2)))).le (by decide), ?_⟩
    fin_run
    refine .inl ?_
    rw [if_pos hc, ← hR, if_pos hc.1]
  · have eR : (if i < 0 ∧ 0 < r then -(r : Int) + m else (r : Int)) = R := by
      rw [if_neg hc, ← hR]; split <;> (first | rfl | (clear l2 l1 ed hQ h1 hq ea hR h2 hr td en hB hm0 hm hi hv' hv G; lia))
    rw [eR]
    refine ⟨sgn v Q, ?_⟩
    refine Returns.intro (d := dAt 23) G mem_fdiv ok_fdiv rfl ?_
    intro L a cd
    conv in (dAt 23).body => whnf
    conv in (dAt 23).scope => whnf
    change ExS _ _ _ _ _ _ _ [("x", Bnd.val (sgn v i)), ("y", Bnd.val (.tup [.bool false, num v m])), ("w", Bnd.val (.int (v : Int))), ("divrem", Bnd.val (.fn "divrem_school")), ("quotient", .un), ("rest", .un)] _
    refine ExS.cons (Ex1.assignTup ?_)
    refine EvV.callG G def_tdiv ?_
    fin_run
    refine ⟨_, td, ?_⟩
    refine AsX.two (by k_upd) (by k_upd) ?_
    refine ExS.cons (Ex1.ite (EvT.and2 ?_))
    fin_run
    refine ifd (fun h0 => EvT.cmpB ?_) (fun h => ?_)
    · fin_run
      refine ifb (fun h => ?_) (fun h => ?_)
      · exact absurd ⟨by simpa using h, by have := l2.mp h0; omega⟩ hc
      · refine ExS.nil ?_
        isplit
        fin_run
        exact .inl rfl
    · refine ExS.nil ?_
      isplit
      fin_run
      exact .inl rfl

theorem s_mod_num (G : Gl mg mb g₀ recs) {v m : Nat} {i : Int} (hv : 0 < v) (hv' : v ≤ 10) (hi : i.natAbs < big) (hm : m + m < big) (hm0 : 0 < m) : Returns mg g₀ prog w "s_mod" 7 [sgn v i, sgn v (m : Int), .int (v : Int), .fn "divrem_school"]
    (num v (i % (m : Int)).natAbs) := by
  refine hideG fun gHid hHid => ?_
  obtain ⟨Q, hQ⟩ := fdiv_num (prog := prog) (w := w) G hv hv' hi hm hm0
  refine hHid ?_; clear hHid gHid
  refine Returns.intro (d := dAt 24) G mem_s_mod ok_s_mod rfl ?_
  intro L a cd
  conv in (dAt 24).body => whnf
  conv in (dAt 24).scope => whnf
  change ExS _ _ _ _ _ _ _ [("x", Bnd.val (sgn v i)), ("y", Bnd.val (sgn v (m : Int))), ("w", Bnd.val (.int (v : Int))), ("divrem", Bnd.val (.fn "divrem_school"))] _
  isplit
  fin_run
  refine EvV.callG G def_fdiv ?_
  fin_run
  refine EvV.callG G def_s_abs ?_
  fin_run
  refine ⟨_, (s_abs_num G).le (by decide), ?_⟩
  rw [Int.natAbs_natCast]
  fin_run
  refine ⟨_, hQ, ?_⟩
  fin_run
  exact .inl rfl

theorem s_shift_num (G : Gl mg mb g₀ recs) {v n : Nat} {i : Int} (hv : 0 < v) (hv' : v ≤ 10) (hi : i.natAbs * 2 ^ n < big) (hn : n ≤ 100) : Returns mg g₀ prog w "s_shift" 3 [sgn v i, .int (n : Int), .int (v : Int)] (sgn v (i * 2 ^ n)) := by
  have hi' : i.natAbs < big := Nat.lt_of_le_of_lt (Nat.le_mul_of_pos_right _ (Nat.two_pow_pos n)) hi
  refine Returns.intro (d := dAt 25) G mem_s_shift ok_s_shift rfl ?_
  intro L a cd
  conv in (dAt 25).body => whnf
  conv in (dAt 25).scope => whnf
  change ExS _ _ _ _ _ _ _ [("x", Bnd.val (sgn v i)), ("n", Bnd.val (.int (n : Int))), ("w", Bnd.val (.int (v : Int))), ("found", .un)] _
  isplit; fin_run
  refine ifd (fun _ => ?_) (fun h => by (exact (False.elim (Nat.not_succ_le_zero 0 (nl (.leaf n) [(1, (.add (.var 0) (.num 1)), (.num 0))] 0 (.num 1) (.num 0) rfl (Nat.lt_of_not_le h))))))
  isplit
  refine EvV.callG G def_signed ?_
  fin_run
  refine EvV.callG G def_shift_left ?_
  fin_run
  refine ⟨_, (shift_left_num G hv hv' hi' hn).le (by decide), ?_⟩
  fin_run
  refine ⟨_, (signed_num (i := i * 2 ^ n) G hv hi ?_).le (by decide), .inl rfl⟩
  have := sgn_mul i (2 ^ n)
  rw [show (decide ((2 : Int) ^ n < 0)) = false by have : (0 : Int) < 2 ^ n := Int.pow_pos (by decide); simp; lia] at this
  rw [this, show ((2 : Int) ^ n).natAbs = 2 ^ n by rw [Int.natAbs_pow]; rfl]
  simp
end
end
section
def eg (a b : Nat) (s s1 t t1 : Int) : Nat × Int × Int :=
  if h : b = 0 then (a, s, t) else eg b (a % b) s1 (s - ((a / b : Nat) : Int) * s1) t1 (t - ((a / b : Nat) : Int) * t1)
termination_by b
decreasing_by exact Nat.mod_lt _ (Nat.pos_of_ne_zero h)

theorem eg_step {a b : Nat} {s s1 t t1 : Int} (h : 0 < b) : eg a b s s1 t t1 = eg b (a % b) s1 (s - ((a / b : Nat) : Int) * s1) t1 (t - ((a / b : Nat) : Int) * t1) := by
  rw [eg, dif_neg (by (exact Nat.ne_of_gt (by assumption)))]
theorem eg_end {a : Nat} {s s1 t t1 : Int} : eg a 0 s s1 t t1 = (a, s, t) := by rw [eg, dif_pos rfl]
theorem coef_mul (q : Nat) (s1 : Int) : (((q : Nat) : Int) * s1).natAbs = q * s1.natAbs := by rw [Int.natAbs_mul, Int.natAbs_natCast]
theorem coef_le {a b Y : Nat} {s s1 : Int} (h : s1.natAbs * a + s.natAbs * b ≤ Y) : (s - ((a / b : Nat) : Int) * s1).natAbs * b + s1.natAbs * (a % b) ≤ Y := by
  have h1 : (s - ((a / b : Nat) : Int) * s1).natAbs ≤ s.natAbs + a / b * s1.natAbs := by
    have := coef_mul (a / b) s1
    (clear h; omega)
  have h2 := Nat.mul_le_mul_right b h1
  have h3 := Nat.div_add_mod a b
  have h4 : s1.natAbs * a = s1.natAbs * (b * (a / b) + a % b) := by rw [h3]
  have h5 : (s.natAbs + a / b * s1.natAbs) * b + s1.natAbs * (a % b) = s.natAbs * b + s1.natAbs * (b * (a / b) + a % b) := by grind
  (exact (nl (.branch 3 (.branch 1 (.leaf ((s - ↑(a / b) * s1).natAbs * b)) (.branch 2 (.leaf (s1.natAbs * (a % b))) (.leaf Y))) (.branch 5 (.branch 4 (.leaf (s1.natAbs * a)) (.leaf (s.natAbs * b))) (.branch 6 (.leaf ((s.natAbs + a / b * s1.natAbs) * b)) (.leaf (s1.natAbs * (b * (a / b) + a % b)))))) [(1, (.add (.var 3) (.var 4)), (.var 2)), (1, (.var 0), (.var 5)), (1, (.var 6), (.var 3)), (1, (.add (.var 5) (.var 1)), (.add (.var 4) (.var 6)))] 1 (.add (.var 0) (.var 1)) (.var 2) rfl h h2 (nge h4) (Nat.le_of_eq h5)))
theorem eg_spec {X Y : Nat} : ∀ {b a : Nat} {s s1 t t1 : Int}, 0 < a → s * X + t * Y = a → s1 * X + t1 * Y = b → s1.natAbs * a + s.natAbs * b ≤ Y → s.natAbs ≤ Y →
    (eg a b s s1 t t1).1 = Nat.gcd a b ∧ (eg a b s s1 t t1).2.1 * X + (eg a b s s1 t t1).2.2 * Y = (eg a b s s1 t t1).1 ∧ (eg a b s s1 t t1).2.1.natAbs ≤ Y := by
  intro b
  induction b using Nat.strongRecOn with
  | _ b ih =>
    intro a s s1 t t1 ha e0 e1 hb hs
    rcases Nat.eq_zero_or_pos b with rfl | h
    · rw [eg_end]; exact ⟨by simp, e0, hs⟩
    · rw [eg_step h]
      have := ih (a % b) (Nat.mod_lt _ h) (a := b) (s := s1) (s1 := s - ((a / b : Nat) : Int) * s1) (t := t1) (t1 := t - ((a / b : Nat) : Int) * t1) h e1 (by
        have h3 : (b : Int) * ((a / b : Nat) : Int) + ((a % b : Nat) : Int) = a := by
          have := Nat.div_add_mod a b
          rw [← Int.natCast_mul, ← Int.natCast_add, this]
        generalize ((a / b : Nat) : Int) = q at *
        generalize ((a % b : Nat) : Int) = r at *
        grind) (coef_le hb) (by
        have : s1.natAbs * 1 ≤ s1.natAbs * a := Nat.mul_le_mul_left _ ha
        (exact (nl (.branch 2 (.branch 1 (.leaf (s1.natAbs)) (.leaf Y)) (.branch 3 (.leaf (s1.natAbs * a)) (.leaf (s.natAbs * b)))) [(1, (.add (.var 2) (.var 3)), (.var 1)), (1, (.mulR (.var 0) 1), (.var 2))] 1 (.var 0) (.var 1) rfl hb this)))
      rw [Nat.gcd_comm a b, Nat.gcd_rec b a, Nat.gcd_comm (a % b) b]
      exact this
theorem dig_one {B : Nat} (hB : 2 ≤ B) : dig B 1 = [1] := by
  have := dig_cons (d := 1) (n := 0) hB (by assumption) (by (exact Nat.le_refl _))
  rw [Nat.mul_zero, Nat.add_zero, dig_zero] at this
  exact this
theorem one_num {v : Nat} (hv : 0 < v) : V.list [V.int ((1 : Nat) : Int)] = num v 1 := by
  show _ = nats (dig (2 ^ v) 1)
  rw [dig_one (two_le hv)]; rfl
theorem nil_num {v : Nat} : nats [] = num v 0 := by
  show _ = nats (dig (2 ^ v) 0)
  rw [dig_zero]
section
variable {mg mb : Str → Option Value} {g₀ : Heap} {prog : Program} {w : World}

theorem gcd_ext_num (G : Gl mg mb g₀ recs) {v x y : Nat} (hv : 0 < v) (hv' : v ≤ 10) (hx0 : 0 < x) (hy0 : 0 < y) (hxy : 2 * (x + y) < big) : Returns mg g₀ prog w "gcd_ext" 5 [num v x, num v y, .int (v : Int), .fn "mul_school", .fn "divrem_school"]
    (.tup [num v (eg x y 1 0 0 1).1, sgn v (eg x y 1 0 0 1).2.1, sgn v (eg x y 1 0 0 1).2.2]) := by
  have lx := (@num_len v x hv).mpr hx0
  have lx' := len_big hv (show x < big by (exact (nl (.branch 1 (.leaf x) (.branch 2 (.leaf big) (.leaf y))) [(1, (.add (.mulL 2 (.add (.var 0) (.var 2))) (.num 1)), (.var 1))] 2 (.add (.var 0) (.num 1)) (.var 1) rfl hxy)))
  refine Returns.intro (d := dAt 27) G mem_gcd_ext ok_gcd_ext rfl ?_
  intro L a cd
  conv in (dAt 27).body => whnf
  conv in (dAt 27).scope => whnf
  change ExS _ _ _ _ _ _ _ [("a", Bnd.val (num v x)), ("b", Bnd.val (num v y)), ("w", Bnd.val (.int (v : Int))), ("mul", Bnd.val (.fn "mul_school")), ("divrem", Bnd.val (.fn "divrem_school")), ("s", .un), ("later_s", .un), ("t", .un), ("later_t", .un), ("quotient", .un), ("rest", .un), ("told", .un)] _
  isplit
  refine EvBs.cons (EvE.ofV (EvV.callG G def_signed ?_))
  ((try have kq1 : 0 + 1 ≤ 100 := (nl (.leaf 0) [] 1 (.add (.num 0) (.num 1)) (.num 100) rfl)); fin_run; all_goals (try clear kq1))
  rw [one_num hv]
  refine ⟨_, (signed_num (i := 1) G hv (by decide +kernel) (by decide)).le (by decide), ?_⟩
  refine EvBs.cons (EvE.ofV (EvV.callG G def_signed ?_))
  fin_run
  rw [@nil_num v]
  refine ⟨_, (signed_num (i := 0) G hv (by decide +kernel) (by decide)).le (by decide), ?_⟩
  fin_run
  refine ⟨rfl, by simp, _, .cons (by k_upd) (.cons (by k_upd) .nil), ?_⟩
  isplit; fin_run
  refine ⟨rfl, by simp, _, .cons (by k_upd) (.cons (by k_upd) .nil), ?_⟩
  isplit; fin_run
  refine ifd (fun h => by (exact (False.elim (Nat.not_succ_le_zero 0 (nl (.leaf ((dig (2 ^ v) x).length)) [(1, (.add (.num 0) (.num 1)), (.var 0)), (1, (.var 0), (.num 0))] 0 (.num 1) (.num 0) rfl lx (Nat.le_of_eq h)))))) (fun _ => ?_)
  refine ExS.nil (ExS.cons (Ex1.whileR (fun n ρ => ∃ (a b : Nat) (s s1 t t1 : Int) (B1 B2 B3 : Bnd), ρ = ([("a", Bnd.val (num v a)), ("b", Bnd.val (num v b)), ("w", Bnd.val (.int (v : Int))), ("mul", Bnd.val (.fn "mul_school")), ("divrem", Bnd.val (.fn "divrem_school")), ("s", .val (sgn v s)), ("later_s", .val (sgn v s1)), ("t", .val (sgn v t)), ("later_t", .val (sgn v t1)), ("quotient", B1), ("rest", B2), ("told", B3)] : Row) ∧
      n = b ∧ 0 < a ∧ a ≤ x + y ∧ b ≤ x + y ∧ s1.natAbs * a + s.natAbs * b ≤ y ∧ s.natAbs ≤ y ∧ t1.natAbs * a + t.natAbs * b ≤ x ∧ t.natAbs ≤ x ∧ eg a b s s1 t t1 = eg x y 1 0 0 1)
    (fun ρ => ∃ (b : Nat) (s1 t1 : Int) (B1 B2 B3 : Bnd), ρ = ([("a", Bnd.val (num v (eg x y 1 0 0 1).1)), ("b", Bnd.val (num v b)), ("w", Bnd.val (.int (v : Int))), ("mul", Bnd.val (.fn "mul_school")), ("divrem", Bnd.val (.fn "divrem_school")), ("s", .val (sgn v (eg x y 1 0 0 1).2.1)), ("later_s", .val (sgn v s1)), ("t", .val (sgn v (eg x y 1 0 0 1).2.2)), ("later_t", .val (sgn v t1)), ("quotient", B1), ("rest", B2), ("told", B3)] : Row))
    y ⟨x, y, 1, 0, 0, 1, _, _, _, rfl, rfl, hx0, by (exact (nl (.branch 1 (.leaf x) (.leaf y)) [] 1 (.var 0) (.add (.var 0) (.var 1)) rfl)), by (exact (nl (.branch 1 (.leaf y) (.leaf x)) [] 1 (.var 0) (.add (.var 1) (.var 0)) rfl)), by simp, by simp; assumption, by simp, by simp, rfl⟩ ?_ ?_))
  · intro n _ hI1
    refine el_9_10 hI1 ?_
    intro a b s s1 t t1 B1 B2 B3 hρ0 hρ1 ha hax hbx hs1 hs ht1 ht he
    clear hI1
    subst hρ0
    subst hρ1
    have lb := len_big hv (show n < big by (exact (nl (.branch 2 (.branch 1 (.leaf n) (.leaf big)) (.branch 3 (.leaf x) (.leaf y))) [(1, (.add (.mulL 2 (.add (.var 2) (.var 3))) (.num 1)), (.var 1)), (2, (.var 0), (.add (.var 2) (.var 3)))] 1 (.add (.var 0) (.num 1)) (.var 1) rfl hxy hbx)))
    have lb' := @num_len v n hv
    fin_run
    refine ifd (fun h0 => ?_) (fun h0 => ?_)
    · have hn := lb'.mp h0
      have hq : a / n ≤ a := Nat.div_le_self _ _
      have hr : a % n < n := Nat.mod_lt _ hn
      have e1 : a / n * s1.natAbs ≤ a * s1.natAbs := Nat.mul_le_mul_right _ hq
      have e2 : a / n * t1.natAbs ≤ a * t1.natAbs := Nat.mul_le_mul_right _ hq
      rw [Nat.mul_comm a] at e1 e2
      have e3 : s1.natAbs * 1 ≤ s1.natAbs * a := Nat.mul_le_mul_left _ ha
      have e4 : t1.natAbs * 1 ≤ t1.natAbs * a := Nat.mul_le_mul_left _ ha
      have c1 := coef_mul (a / n) s1
      have c2 := coef_mul (a / n) t1
      have e5 : a / n * s1.natAbs ≤ y := Nat.le_trans e1 (by (exact (nl (.branch 1 (.leaf (s1.natAbs * a)) (.branch 2 (.leaf y) (.leaf (s.natAbs * n)))) [(1, (.add (.var 0) (.var 2)), (.var 1))] 1 (.var 0) (.var 1) rfl hs1)))
      have e6 : a / n * t1.natAbs ≤ x := Nat.le_trans e2 (by (exact (nl (.branch 1 (.leaf (t1.natAbs * a)) (.branch 2 (.leaf x) (.leaf (t.natAbs * n)))) [(1, (.add (.var 0) (.var 2)), (.var 1))] 1 (.var 0) (.var 1) rfl ht1)))
      have b1 : s.natAbs + (((a / n : Nat) : Int) * s1).natAbs < big := by
        rw [c1]; exact Nat.lt_of_le_of_lt (Nat.add_le_add hs e5) (by (exact (nl (.branch 1 (.leaf y) (.branch 2 (.leaf big) (.leaf x))) [(1, (.add (.mulL 2 (.add (.var 2) (.var 0))) (.num 1)), (.var 1))] 1 (.add (.add (.var 0) (.var 0)) (.num 1)) (.var 1) rfl hxy)))
      have b2 : t.natAbs + (((a / n : Nat) : Int) * t1).natAbs < big := by
        rw [c2]; exact Nat.lt_of_le_of_lt (Nat.add_le_add ht e6) (by (exact (nl (.branch 1 (.leaf x) (.branch 2 (.leaf big) (.leaf y))) [(1, (.add (.mulL 2 (.add (.var 0) (.var 2))) (.num 1)), (.var 1))] 1 (.add (.add (.var 0) (.var 0)) (.num 1)) (.var 1) rfl hxy)))
      have es := eg_step (a := a) (s := s) (s1 := s1) (t := t) (t1 := t1) hn
      have cl1 := coef_le hs1
      have cl2 := coef_le ht1
      have dr := divrem_school_num (prog := prog) (w := w) G hv hv' (show a < big by (exact (nl (.branch 2 (.branch 1 (.leaf a) (.leaf big)) (.branch 3 (.leaf x) (.leaf y))) [(1, (.add (.mulL 2 (.add (.var 2) (.var 3))) (.num 1)), (.var 1)), (2, (.var 0), (.add (.var 2) (.var 3)))] 1 (.add (.var 0) (.num 1)) (.var 1) rfl hxy hax))) (show n < big by (exact (nl (.branch 2 (.branch 1 (.leaf n) (.leaf big)) (.branch 3 (.leaf x) (.leaf y))) [(1, (.add (.mulL 2 (.add (.var 2) (.var 3))) (.num 1)), (.var 1)), (2, (.var 0), (.add (.var 2) (.var 3)))] 1 (.add (.var 0) (.num 1)) (.var 1) rfl hxy hbx))) hn
      generalize a / n = q at *
      refine ExS.cons (Ex1.assignTup ?_)
      refine EvV.callV G (by k_memK) def_divrem_school ?_
      fin_run
      refine ⟨_, dr, ?_⟩
      refine AsX.two (by k_upd) (by k_upd) ?_
      isplit
      refine EvV.callG G def_signed ?_
      fin_run
      refine ⟨_, (signed_num (i := ((q : Nat) : Int)) G hv (by (exact (nl (.branch 2 (.branch 1 (.leaf q) (.leaf big)) (.branch 3 (.leaf x) (.branch 4 (.leaf y) (.leaf a)))) [(1, (.add (.mulL 2 (.add (.var 2) (.var 3))) (.num 1)), (.var 1)), (2, (.var 4), (.add (.var 2) (.var 3))), (1, (.var 0), (.var 4))] 1 (.add (.var 0) (.num 1)) (.var 1) rfl hxy hax hq))) (by simp)).le (by decide), ?_⟩
      fin_run
      isplit; fin_run
      refine ⟨rfl, by simp, _, .cons (by k_upd) (.cons (by k_upd) .nil), ?_⟩
      isplit
      refine EvBs.cons (EvE.name (by k_memK) ?_)
      refine EvBs.cons (EvE.ofV (EvV.callG G def_s_sub ?_))
      fin_run
      refine EvV.callG G def_s_mul ?_
      fin_run
      refine ⟨_, (s_mul_num (i := ((q : Nat) : Int)) (j := s1) G hv hv' (by (clear dr cl2 cl1 es b2 b1 e6 e5 c2 c1 e2 e1 e4 e3 hr hn h0 lb' lb he ht1 hs1 hbx ht hs ha lx' lx hy0 hx0 hv' hv G; lia)) (by (exact (nl (.branch 3 (.branch 1 (.leaf (s1.natAbs)) (.branch 2 (.leaf big) (.leaf x))) (.branch 4 (.leaf y) (.branch 5 (.leaf (s1.natAbs * a)) (.leaf (s.natAbs * n))))) [(1, (.add (.mulL 2 (.add (.var 2) (.var 3))) (.num 1)), (.var 1)), (2, (.add (.var 4) (.var 5)), (.var 3)), (1, (.mulR (.var 0) 1), (.var 4))] 1 (.add (.var 0) (.num 1)) (.var 1) rfl hxy hs1 e3))) (by rw [Int.natAbs_natCast]; (exact (nl (.branch 3 (.branch 1 (.leaf (q * s1.natAbs)) (.branch 2 (.leaf big) (.leaf x))) (.branch 4 (.leaf y) (.branch 5 (.leaf (s1.natAbs * a)) (.leaf (s.natAbs * n))))) [(1, (.add (.mulL 2 (.add (.var 2) (.var 3))) (.num 1)), (.var 1)), (2, (.add (.var 4) (.var 5)), (.var 3)), (1, (.var 0), (.var 4))] 1 (.add (.var 0) (.num 1)) (.var 1) rfl hxy hs1 e1)))).le (by decide), ?_⟩
      fin_run
      refine ⟨_, s_sub_num (i := s) (j := ((q : Nat) : Int) * s1) G hv hv' b1, ?_⟩
      fin_run
      refine ⟨rfl, by simp, _, .cons (by k_upd) (.cons (by k_upd) .nil), ?_⟩
      isplit
      refine EvBs.cons (EvE.name (by k_memK) ?_)
      refine EvBs.cons (EvE.ofV (EvV.callG G def_s_sub ?_))
      fin_run
      refine EvV.callG G def_s_mul ?_
      fin_run
      refine ⟨_, (s_mul_num (i := ((q : Nat) : Int)) (j := t1) G hv hv' (by omega) (by (exact (nl (.branch 3 (.branch 1 (.leaf (t1.natAbs)) (.branch 2 (.leaf big) (.leaf x))) (.branch 4 (.leaf y) (.branch 5 (.leaf (t1.natAbs * a)) (.leaf (t.natAbs * n))))) [(1, (.add (.mulL 2 (.add (.var 2) (.var 3))) (.num 1)), (.var 1)), (2, (.add (.var 4) (.var 5)), (.var 2)), (1, (.mulR (.var 0) 1), (.var 4))] 1 (.add (.var 0) (.num 1)) (.var 1) rfl hxy ht1 e4))) (by rw [Int.natAbs_natCast]; (exact (nl (.branch 3 (.branch 1 (.leaf (q * t1.natAbs)) (.branch 2 (.leaf big) (.leaf x))) (.branch 4 (.leaf y) (.branch 5 (.leaf (t1.natAbs * a)) (.leaf (t.natAbs * n))))) [(1, (.add (.mulL 2 (.add (.var 2) (.var 3))) (.num 1)), (.var 1)), (2, (.add (.var 4) (.var 5)), (.var 2)), (1, (.var 0), (.var 4))] 1 (.add (.var 0) (.num 1)) (.var 1) rfl hxy ht1 e2)))).le (by decide), ?_⟩
      fin_run
      refine ⟨_, s_sub_num (i := t) (j := ((q : Nat) : Int) * t1) G hv hv' b2, ?_⟩
      fin_run
      refine ⟨rfl, by simp, _, .cons (by k_upd) (.cons (by k_upd) .nil), ?_⟩
      refine ExS.nil ⟨a % n, hr, n, a % n, s1, s - ((q : Nat) : Int) * s1, t1, t - ((q : Nat) : Int) * t1, _, _, _, rfl, rfl, hn, hbx, by (exact (nl (.branch 2 (.branch 1 (.leaf (a % n)) (.leaf x)) (.branch 3 (.leaf y) (.leaf n))) [(1, (.var 3), (.add (.var 1) (.var 2))), (1, (.add (.var 0) (.num 1)), (.var 3))] 1 (.var 0) (.add (.var 1) (.var 2)) rfl hbx hr)), cl1, by (exact (nl (.branch 2 (.branch 1 (.leaf (s1.natAbs)) (.leaf y)) (.branch 3 (.leaf (s1.natAbs * a)) (.leaf (s.natAbs * n)))) [(1, (.add (.var 2) (.var 3)), (.var 1)), (1, (.mulR (.var 0) 1), (.var 2))] 1 (.var 0) (.var 1) rfl hs1 e3)), cl2, by (exact (nl (.branch 2 (.branch 1 (.leaf (t1.natAbs)) (.leaf x)) (.branch 3 (.leaf (t1.natAbs * a)) (.leaf (t.natAbs * n)))) [(1, (.add (.var 2) (.var 3)), (.var 1)), (1, (.mulR (.var 0) 1), (.var 2))] 1 (.var 0) (.var 1) rfl ht1 e4)), ?_⟩
      rw [← es]; exact he
    · have hn : n = 0 := by
        rcases Nat.eq_zero_or_pos n with q | q
        · exact q
        · exact absurd (lb'.mpr q) h0
      subst hn
      rw [eg_end] at he
      refine ⟨0, s1, t1, B1, B2, B3, ?_⟩
      rw [← he]
  · intro _ hI1
    refine hideG fun gHid hHid => ?_
    obtain ⟨b, s1, t1, B1, B2, B3, rfl⟩ := hI1
    refine hHid ?_; clear hHid gHid
    ((try have kq1 : 0 + 1 + 1 + 1 ≤ 100 := (nl (.leaf 0) [] 1 (.add (.add (.add (.num 0) (.num 1)) (.num 1)) (.num 1)) (.num 100) rfl)); isplit; all_goals (try clear kq1)); fin_run
    exact .inl rfl

theorem inverse_mod_num (G : Gl mg mb g₀ recs) {v x m : Nat} (hv : 0 < v) (hv' : v ≤ 10) (hx : x < big) (hm : 4 * m < big) (hm2 : 2 ≤ m) (hg : Nat.gcd x m = 1) :
    ∃ r : Nat, r < m ∧ x * r % m = 1 ∧ Returns mg g₀ prog w "inverse_mod" 8 [num v x, num v m, .int (v : Int), .fn "mul_school", .fn "divrem_school"] (num v r) := by
  have hr : x % m < m := Nat.mod_lt _ (by (exact Nat.le_of_lt (by assumption)))
  have hg' : Nat.gcd (x % m) m = 1 := by rw [← Nat.gcd_rec, Nat.gcd_comm]; exact hg
  have hr0 : 0 < x % m := by
    rcases Nat.eq_zero_or_pos (x % m) with q | q
    · rw [q, Nat.gcd_zero_left] at hg'; (exact (nl (.branch 1 (.leaf (x % m)) (.leaf m)) [(1, (.num 2), (.var 1)), (1, (.var 1), (.num 1))] 0 (.add (.num 0) (.num 1)) (.var 0) rfl hm2 (Nat.le_of_eq hg')))
    · exact q
  have sp := eg_spec (X := x % m) (Y := m) (a := x % m) (b := m) (s := 1) (s1 := 0) (t := 0) (t1 := 1) hr0 (by lia) (by lia) (by simp) (by simp; (exact Nat.le_of_lt (by assumption)))
  have ge := gcd_ext_num (prog := prog) (w := w) G hv hv' hr0 (show 0 < m by (exact Nat.le_of_lt (by assumption))) (by (exact (nl (.branch 1 (.leaf (x % m)) (.branch 2 (.leaf m) (.leaf big))) [(1, (.add (.mulL 4 (.var 1)) (.num 1)), (.var 2)), (2, (.add (.var 0) (.num 1)), (.var 1))] 1 (.add (.mulL 2 (.add (.var 0) (.var 1))) (.num 1)) (.var 2) rfl hm hr)))
  rw [hg'] at sp
  refine hideG fun gHid hHid => ?_
  obtain ⟨sp1, sp2, sp3⟩ := sp
  refine hHid ?_; clear hHid gHid
  rw [sp1] at sp2 ge
  generalize (eg (x % m) m 1 0 0 1).2.1 = s at *
  generalize (eg (x % m) m 1 0 0 1).2.2 = t at *
  have hp := Int.emod_nonneg s (show (m : Int) ≠ 0 by lia)
  have hq := Int.emod_lt_of_pos s (show (0 : Int) < m by lia)
  refine ⟨(s % (m : Int)).natAbs, by lia, ?_, ?_⟩
  · have h1 : ((x * (s % (m : Int)).natAbs % m : Nat) : Int) = 1 := by
      rw [Int.natCast_emod, Int.natCast_mul, Int.natAbs_of_nonneg hp, Int.mul_emod, Int.emod_emod, ← Int.natCast_emod, Int.mul_comm]
      have h2 : s % (m : Int) * ((x % m : Nat) : Int) % (m : Int) = (s * ((x % m : Nat) : Int)) % (m : Int) := by rw [Int.mul_emod, Int.emod_emod, ← Int.mul_emod]
      rw [h2]
      have h3 : s * ((x % m : Nat) : Int) = 1 + m * (-t) := by grind
      rw [h3, Int.add_mul_emod_self_left]
      exact Int.emod_eq_of_lt (by decide) (by lia)
    lia
  have lm := (@num_len v m hv).mpr (by (exact Nat.le_of_lt (by assumption)))
  have lm' := len_big hv (show m < big by (exact (nl (.branch 1 (.leaf m) (.leaf big)) [(1, (.add (.mulL 4 (.var 0)) (.num 1)), (.var 1))] 4 (.add (.var 0) (.num 1)) (.var 1) rfl hm)))
  refine Returns.intro (d := dAt 28) G mem_inverse_mod ok_inverse_mod rfl ?_
  intro L a cd
  conv in (dAt 28).body => whnf
  conv in (dAt 28).scope => whnf
  change ExS _ _ _ _ _ _ _ [("a", Bnd.val (num v x)), ("m", Bnd.val (num v m)), ("w", Bnd.val (.int (v : Int))), ("mul", Bnd.val (.fn "mul_school")), ("divrem", Bnd.val (.fn "divrem_school")), ("g", .un), ("s", .un), ("t", .un)] _
  isplit; fin_run
  refine ifd (fun h => by (exact (False.elim (Nat.not_succ_le_zero 0 (nl (.leaf ((dig (2 ^ v) m).length)) [(1, (.add (.num 0) (.num 1)), (.var 0)), (1, (.var 0), (.num 0))] 0 (.num 1) (.num 0) rfl lm (Nat.le_of_eq h)))))) (fun _ => ?_)
  refine ExS.nil (ExS.cons (Ex1.assignTup ?_))
  refine EvV.callG G def_gcd_ext ?_
  fin_run
  refine EvV.callV G (by k_memK) def_divrem_school ?_
  fin_run
  refine ⟨_, (divrem_school_num G hv hv' hx (by omega) (by (exact Nat.le_of_lt (by assumption)))).le (by decide), ?_⟩
  fin_run
  refine ⟨_, ge.le (by decide), ?_⟩
  refine AsX.tup (AsXs.cons (AsX.name (by k_upd) (AsXs.cons (AsX.name (by k_upd) (AsXs.cons (AsX.name (by k_upd) (AsXs.nil ?_)))))))
  refine ExS.cons (Ex1.ite (EvT.cmp ?_))
  refine EvV.callG G def_compare ?_
  ((try have kq1 : 0 + 1 ≤ 100 := (nl (.leaf 0) [] 1 (.add (.num 0) (.num 1)) (.num 100) rfl)); fin_run; all_goals (try clear kq1))
  rw [one_num hv]
  refine ⟨_, (compare_num G hv (by decide +kernel) (by decide +kernel)).le (by decide), ?_⟩
  fin_run
  refine ifn (fun h => absurd h (by decide)) (fun _ => ?_)
  refine ExS.nil ?_
  isplit
  refine EvV.callG G def_s_mod ?_
  fin_run
  refine EvV.callG G def_signed ?_
  fin_run
  refine ⟨_, (signed_num (i := (m : Int)) G hv (by omega) (by simp)).le (by decide), ?_⟩
  fin_run
  exact ⟨_, s_mod_num G hv hv' (by (exact (nl (.branch 1 (.leaf (s.natAbs)) (.branch 2 (.leaf big) (.leaf m))) [(1, (.add (.mulL 4 (.var 2)) (.num 1)), (.var 1)), (1, (.var 0), (.var 2))] 1 (.add (.var 0) (.num 1)) (.var 1) rfl hm sp3))) (by (exact (nl (.branch 1 (.leaf m) (.leaf big)) [(1, (.add (.mulL 4 (.var 0)) (.num 1)), (.var 1))] 2 (.add (.add (.var 0) (.var 0)) (.num 1)) (.var 1) rfl hm))) (by (exact Nat.le_of_lt (by assumption))), .inl rfl⟩
end
end
section
def due (form : Nat) (i j : Int) (many : Nat) : Int := if form = 2 then i * j else if form < 2 then (if form = 0 then i + j else i - j) else if form = 3 then -i else i * 2 ^ many
section
variable {mg mb : Str → Option Value} {g₀ : Heap} {prog : Program} {w : World}

theorem law_limbs_num (G : Gl mg mb g₀ recs) {v n : Nat} (hv : 0 < v) (hv' : v ≤ 10) (hn : n < big) : Returns mg g₀ prog w "_law_limbs" 1 [.int (n : Int), .int (v : Int)] (num v n) := by
  have hB := two_le hv
  have hB' := pow_le10 hv'
  have ln := len_big hv hn
  rw [show num v n = nats (dig (2 ^ v) n) from rfl]
  refine Returns.intro (d := dAt 46) G mem_law_limbs ok_law_limbs rfl ?_
  intro L a cd
  conv in (dAt 46).body => whnf
  conv in (dAt 46).scope => whnf
  change ExS _ _ _ _ _ _ _ [("number", Bnd.val (.int (n : Int))), ("w", Bnd.val (.int (v : Int))), ("found", .un)] _
  isplit; fin_run
  rename_i d
  refine ExS.cons (Ex1.whileR (fun m ρ => ∃ f : List Nat, ρ = ([("number", Bnd.val (.int (m : Int))), ("w", Bnd.val (.int (v : Int))), ("found", .own d (natsL f))] : Row) ∧ f ++ dig (2 ^ v) m = dig (2 ^ v) n)
    (fun ρ => ρ = ([("number", Bnd.val (.int ((0 : Nat) : Int))), ("w", Bnd.val (.int (v : Int))), ("found", .own d (natsL (dig (2 ^ v) n)))] : Row)) n ⟨[], rfl, rfl⟩ ?_ ?_)
  · intro m _ hI1
    refine elS_1_1 hI1 ?_
    intro f hρ hf
    clear hI1
    subst hρ
    have lf : f.length ≤ 1000 := by rw [← hf, List.length_append] at ln; (exact (nl (.branch 1 (.leaf (f.length)) (.leaf ((dig (2 ^ v) m).length))) [(1, (.add (.var 0) (.var 1)), (.num 1000))] 1 (.var 0) (.num 1000) rfl ln))
    fin_run
    refine ifd (fun h0 => ?_) (fun h0 => ?_)
    · ((try have kq1 : 2 < 2 ^ 60 := (nl (.leaf 0) [] 1 (.add (.num 2) (.num 1)) (.num (2 ^ 60)) rfl)); (try have kq2 : 0 < 2 ^ v := (nl (.leaf (2 ^ v)) [(1, (.num 2), (.var 0))] 1 (.add (.num 0) (.num 1)) (.var 0) rfl hB)); isplit; all_goals (try clear kq1 kq2)); fin_run
      isplit; fin_run
      refine ExS.nil ⟨m / 2 ^ v, Nat.div_lt_self h0 (by assumption), _, rfl, ?_⟩
      rw [← hf, dig_pos hB h0, List.append_assoc]; rfl
    · have : m = 0 := by (exact (Nat.le_antisymm (nl (.leaf m) [(1, (.var 0), (.num 0))] 1 (.var 0) (.num 0) rfl (Nat.le_of_not_lt h0)) (nl (.leaf m) [] 1 (.num 0) (.var 0) rfl)))
      subst this
      rw [dig_zero, List.append_nil] at hf
      rw [hf]
  · rintro _ rfl
    isplit; fin_run
    exact .inl rfl

theorem law_signed_num (G : Gl mg mb g₀ recs) {v : Nat} {i : Int} (hv : 0 < v) (hv' : v ≤ 10) (hi : i.natAbs < big) : Returns mg g₀ prog w "_law_signed" 2 [.int i, .int (v : Int)] (sgn v i) := by
  refine Returns.intro (d := dAt 47) G mem_law_signed ok_law_signed rfl ?_
  intro L a cd
  conv in (dAt 47).body => whnf
  conv in (dAt 47).scope => whnf
  change ExS _ _ _ _ _ _ _ [("number", Bnd.val (.int i)), ("w", Bnd.val (.int (v : Int)))] _
  isplit; fin_run
  refine EvV.callG G def_law_limbs (EvVs.cons (EvV.abs G ?_))
  fin_run
  rw [show (if i < 0 then -i else i) = ((i.natAbs : Nat) : Int) by split <;> (first | (clear hi hv' hv G; (first | omega | lia)) | lia)]
  refine ⟨_, law_limbs_num G hv hv' hi, ?_⟩
  ((try have kq1 : 0 + 1 + 1 ≤ 100 := (nl (.leaf 0) [] 1 (.add (.add (.num 0) (.num 1)) (.num 1)) (.num 100) rfl)); fin_run; all_goals (try clear kq1))
  exact .inl rfl

theorem law_inverse_num (G : Gl mg mb g₀ recs) {v x m : Nat} (hv : 0 < v) (hv' : v ≤ 10) (hx : x < big) (hm : 4 * m < big) (hm2 : 2 ≤ m) (hg : Nat.gcd x m = 1) :
    ∃ r : Nat, r < m ∧ x * r % m = 1 ∧ Returns mg g₀ prog w "_law_inverse" 9 [num v x, num v m, .int (v : Int)] (num v r) := by
  refine hideG fun gHid hHid => ?_
  obtain ⟨r, h1, h2, h3⟩ := inverse_mod_num (prog := prog) (w := w) G hv hv' hx hm hm2 hg
  refine hHid ?_; clear hHid gHid
  refine ⟨r, h1, h2, ?_⟩
  refine Returns.intro (d := dAt 48) G mem_law_inverse ok_law_inverse rfl ?_
  intro L a cd
  conv in (dAt 48).body => whnf
  conv in (dAt 48).scope => whnf
  change ExS _ _ _ _ _ _ _ [("a", Bnd.val (num v x)), ("m", Bnd.val (num v m)), ("w", Bnd.val (.int (v : Int)))] _
  isplit
  refine EvV.callG G def_inverse_mod ?_
  fin_run
  refine EvV.fnName G def_mul_school ?_
  fin_run
  refine EvV.fnName G def_divrem_school ?_
  fin_run
  exact ⟨_, h3, .inl rfl⟩

theorem law_done_num (G : Gl mg mb g₀ recs) {v form many : Nat} {i j : Int} (hv : 0 < v) (hv' : v ≤ 10) (hi : i.natAbs < 2 ^ 400) (hj : j.natAbs < 2 ^ 400) (hm : many ≤ 100) (hf : form < 5) :
    Returns mg g₀ prog w "_law_done" 5 [.int (form : Int), sgn v i, sgn v j, .int (many : Int), .int (v : Int)] (sgn v (due form i j many)) := by
  have hb : (2 ^ 400 : Nat) + 2 ^ 400 < big := by decide +kernel
  have hb2 : (2 ^ 400 : Nat) * 2 ^ 400 < big := by decide +kernel
  have hp : (2 : Nat) ^ many ≤ 2 ^ 400 := Nat.pow_le_pow_right (by decide) (by (exact Nat.le_trans (by assumption) (by decide)))
  generalize (2 ^ 400 : Nat) = K at *
  refine Returns.intro (d := dAt 49) G mem_law_done ok_law_done rfl ?_
  intro L a cd
  conv in (dAt 49).body => whnf
  conv in (dAt 49).scope => whnf
  change ExS _ _ _ _ _ _ _ [("form", Bnd.val (.int (form : Int))), ("x", Bnd.val (sgn v i)), ("y", Bnd.val (sgn v j)), ("many", Bnd.val (.int (many : Int))), ("w", Bnd.val (.int (v : Int)))] _
  unfold due
  isplit; fin_run
  refine ifd (fun h2 => ?_) (fun h2 => ?_)
  · rw [if_pos h2]
    isplit
    refine EvV.callG G def_s_mul ?_
    fin_run
    refine EvV.fnName G def_mul_school ?_
    fin_run
    exact ⟨_, (s_mul_num G hv hv' (by (exact (nl (.branch 1 (.leaf (i.natAbs)) (.branch 2 (.leaf big) (.leaf K))) [(1, (.add (.var 0) (.num 1)), (.var 2)), (1, (.add (.add (.var 2) (.var 2)) (.num 1)), (.var 1))] 1 (.add (.var 0) (.num 1)) (.var 1) rfl hi hb))) (by (exact (nl (.branch 1 (.leaf (j.natAbs)) (.branch 2 (.leaf big) (.leaf K))) [(1, (.add (.var 0) (.num 1)), (.var 2)), (1, (.add (.add (.var 2) (.var 2)) (.num 1)), (.var 1))] 1 (.add (.var 0) (.num 1)) (.var 1) rfl hj hb))) (Nat.lt_of_le_of_lt (Nat.mul_le_mul (by (exact Nat.le_of_lt (by assumption))) (by (exact Nat.le_of_lt (by assumption)))) hb2)).le (by decide), .inl rfl⟩
  rw [if_neg h2]
  refine ExS.nil ?_
  isplit; fin_run
  refine ifd (fun h3 => ?_) (fun h3 => ?_)
  · rw [if_pos h3]
    isplit; fin_run
    refine ifd (fun h4 => ?_) (fun h4 => ?_)
    · rw [if_pos h4]
      refine EvV.callG G def_s_add ?_
      fin_run
      exact ⟨_, (s_add_num G hv hv' (by (exact (nl (.branch 2 (.branch 1 (.leaf (i.natAbs)) (.leaf (j.natAbs))) (.branch 3 (.leaf big) (.leaf K))) [(1, (.add (.var 0) (.num 1)), (.var 3)), (1, (.add (.var 1) (.num 1)), (.var 3)), (1, (.add (.add (.var 3) (.var 3)) (.num 1)), (.var 2))] 1 (.add (.add (.var 0) (.var 1)) (.num 1)) (.var 2) rfl hi hj hb)))).le (by decide), .inl rfl⟩
    · rw [if_neg h4]
      refine EvV.callG G def_s_sub ?_
      fin_run
      exact ⟨_, (s_sub_num G hv hv' (by (exact (nl (.branch 2 (.branch 1 (.leaf (i.natAbs)) (.leaf (j.natAbs))) (.branch 3 (.leaf big) (.leaf K))) [(1, (.add (.var 0) (.num 1)), (.var 3)), (1, (.add (.var 1) (.num 1)), (.var 3)), (1, (.add (.add (.var 3) (.var 3)) (.num 1)), (.var 2))] 1 (.add (.add (.var 0) (.var 1)) (.num 1)) (.var 2) rfl hi hj hb)))).le (by decide), .inl rfl⟩
  rw [if_neg h3]
  refine ExS.nil ?_
  isplit; fin_run
  refine ifd (fun h4 => ?_) (fun h4 => ?_)
  · rw [if_pos h4]
    refine EvV.callG G def_s_neg ?_
    fin_run
    exact ⟨_, (s_neg_num G hv (by (exact (nl (.branch 1 (.leaf (i.natAbs)) (.branch 2 (.leaf big) (.leaf K))) [(1, (.add (.var 0) (.num 1)), (.var 2)), (1, (.add (.add (.var 2) (.var 2)) (.num 1)), (.var 1))] 1 (.add (.var 0) (.num 1)) (.var 1) rfl hi hb)))).le (by decide), .inl rfl⟩
  · rw [if_neg h4]
    refine EvV.callG G def_s_shift ?_
    fin_run
    exact ⟨_, (s_shift_num G hv hv' (Nat.lt_of_le_of_lt (Nat.mul_le_mul (by (exact Nat.le_of_lt (by assumption))) hp) hb2) hm).le (by decide), .inl rfl⟩

theorem law_due_num (G : Gl mg mb g₀ recs) {form many : Nat} {i j : Int} (hi : i.natAbs < 2 ^ 60) (hm : many ≤ 50) (hf : form < 5) :
    Returns mg g₀ prog w "_law_due" 1 [.int (form : Int), .int i, .int j, .int (many : Int)] (.int (due form i j many)) := by
  refine Returns.intro (d := dAt 50) G mem_law_due ok_law_due rfl ?_
  intro L a cd
  conv in (dAt 50).body => whnf
  conv in (dAt 50).scope => whnf
  change ExS _ _ _ _ _ _ _ [("form", Bnd.val (.int (form : Int))), ("number", Bnd.val (.int i)), ("other", Bnd.val (.int j)), ("many", Bnd.val (.int (many : Int)))] _
  unfold due
  isplit; fin_run
  refine ifd (fun h2 => ?_) (fun h2 => ?_)
  · rw [if_pos h2]
    isplit; fin_run
    refine up_mulI (.inl (by (exact Nat.lt_of_lt_of_le (by assumption) (by decide)))) ?_
    exact .inl rfl
  rw [if_neg h2]
  refine ExS.nil ?_
  isplit; fin_run
  refine ifd (fun h3 => ?_) (fun h3 => ?_)
  · rw [if_pos h3]
    isplit; fin_run
    refine ifd (fun h4 => ?_) (fun h4 => ?_)
    · rw [if_pos h4]
      fin_run
      exact .inl rfl
    · rw [if_neg h4]
      fin_run
      exact .inl rfl
  rw [if_neg h3]
  refine ExS.nil ?_
  isplit; fin_run
  refine ifd (fun h4 => ?_) (fun h4 => ?_)
  · rw [if_pos h4]
    fin_run
    refine .inl ?_
    rw [show ((0 : Nat) : Int) - i = -i by (clear h4 h3 h2 hf hm hi G; lia)]
  · rw [if_neg h4]
    ((try have kq1 : 2 < 2 ^ 60 := (nl (.leaf 0) [] 1 (.add (.num 2) (.num 1)) (.num (2 ^ 60)) rfl)); fin_run; all_goals (try clear kq1))
    refine up_mulI (.inl (by (exact (nl (.leaf (i.natAbs)) [(1, (.add (.var 0) (.num 1)), (.num (2 ^ 60)))] 1 (.add (.var 0) (.num 1)) (.num (2 ^ 64)) rfl hi)))) ?_
    refine .inl ?_
    rw [Int.natCast_pow]; rfl

theorem law_sifted_run (G : Gl mg mb g₀ recs) {c many : Nat} {S : List Nat} (hc : c < 2 ^ 40) (hS : S.length < 2 ^ 40) (hm : 0 < many) :
    Turns mg g₀ prog w "_law_sifted" 1 [.int (c : Int), nats S] [.int (many : Int)] fun ys r => ∃ n : Nat, ys = [.int ((c + 1 : Nat) : Int), nats S] ∧ r = .int (n : Int) ∧ n < many := by
  refine Turns.intro (d := dAt 45) G mem_law_sifted ok_law_sifted rfl ?_
  intro L a cd l
  conv in (dAt 45).body => whnf
  conv in (dAt 45).scope => whnf
  change ExS _ _ _ _ _ _ _ [("tub", Bnd.mown l [.int (c : Int), nats S]), ("many", Bnd.val (.int (many : Int)))] _
  isplit; fin_run
  rw [show ([V.int (c : Int), nats S].set ((0 : Nat) : Int).toNat (V.int ((c + 1 : Nat) : Int))) = [V.int ((c + 1 : Nat) : Int), nats S] from rfl]
  isplit; ((try have kq1 : S.length < 2 ^ 60 := (nl (.leaf (S.length)) [(1, (.add (.var 0) (.num 1)), (.num (2 ^ 40)))] 1 (.add (.var 0) (.num 1)) (.num (2 ^ 60)) rfl hS)); fin_run; all_goals (try clear kq1))
  refine ifd (fun h => ?_) (fun h => ?_)
  · ((try have kq1 : 1 ≤ c + 1 := (nl (.leaf c) [] 1 (.num 1) (.add (.var 0) (.num 1)) rfl)); (try have kq2 : c + 1 - 1 < S.length := (nl (.branch 1 (.leaf (c + 1 - 1)) (.branch 2 (.leaf (S.length)) (.leaf c))) [(1, (.add (.var 2) (.num 1)), (.var 1)), (1, (.add (.var 0) (.num 1)), (.add (.var 2) (.num 1)))] 1 (.add (.var 0) (.num 1)) (.var 1) rfl h (nsb (nl (.leaf c) [] 1 (.num 1) (.add (.var 0) (.num 1)) rfl)))); isplit; all_goals (try clear kq1 kq2)); fin_run
    exact ⟨_, _, ⟨_, rfl, rfl, Nat.mod_lt _ hm⟩, .inl rfl, by k_memK⟩
  · refine ExS.nil ?_
    isplit; ((try have kq1 : 13 < 2 ^ 60 := (nl (.leaf 0) [] 1 (.add (.num 13) (.num 1)) (.num (2 ^ 60)) rfl)); (try have kq2 : 0 < 3 := (nl (.leaf 0) [] 1 (.add (.num 0) (.num 1)) (.num 3) rfl)); (try have kq3 : 3 < 2 ^ 29 := (nl (.leaf 0) [] 1 (.add (.num 3) (.num 1)) (.num (2 ^ 29)) rfl)); fin_run; all_goals (try clear kq1 kq2 kq3))
    exact ⟨_, _, ⟨_, rfl, rfl, Nat.mod_lt _ hm⟩, .inl rfl, by k_memK⟩
end
end
section
theorem ok_remainder_tree : DefOkC (dAt 32) ["a", "levels", "w", "divrem"] ["rests", "level"] where
  bind := fun pm cd doc vals h => by
    obtain ⟨x0, x1, x2, x3, rfl⟩ := len4 h
    kernel_rfl
  loc := fun x hx => by
    simp only [List.cons_append, List.nil_append, List.mem_cons, List.not_mem_nil, or_false] at hx
    rcases hx with rfl | rfl | rfl | rfl | rfl | rfl
    all_goals first
      | exact .inl (by decide +kernel)
      | exact .inr ⟨by decide +kernel, fun n => by with_unfolding_all rfl⟩
  nodup := by decide +kernel
  dbg := by decide +kernel
  co := by decide +kernel
  gen := by decide +kernel
  kind := by decide +kernel
theorem mem_remainder_tree : dAt 32 ∈ recs := List.mem_map.mpr ⟨32, by decide, rfl⟩
theorem def_remainder_tree : ∃ d ∈ recs, d.name = "remainder_tree" := ⟨_, mem_remainder_tree, by decide +kernel⟩

theorem up_last1 {x : V} {P : Int → V → Prop} (h : P (-((1 : Nat) : Int)) x) : ∃ i Z, V.int (-((1 : Nat) : Int)) = .int i ∧ ItemAt [x] i Z ∧ P i Z := ⟨_, _, rfl, .inr ⟨by decide, by simp, by decide, rfl⟩, h⟩
theorem up_last2 {x y : V} {P : Int → V → Prop} (h : P (-((1 : Nat) : Int)) y) : ∃ i Z, V.int (-((1 : Nat) : Int)) = .int i ∧ ItemAt [x, y] i Z ∧ P i Z := ⟨_, _, rfl, .inr ⟨by decide, by simp, by decide, rfl⟩, h⟩

section
variable {mg mb : Str → Option Value} {g₀ : Heap} {prog : Program} {w : World}

theorem EvI.range3One {env : Env} {k : Nat} {ρ : Row} {x : Str} {p pr pos : Pos} {e f g : Expr} {Q : List V → Row → Prop} (G : Gl mg mb g₀ recs)
    (h : EvV mg g₀ prog w env k e ρ fun X ρ1 => X = .int 0 ∧ EvV mg g₀ prog w env k f ρ1 fun Y ρ2 => Y = .int 1 ∧ EvV mg g₀ prog w env k g ρ2 fun Z ρ3 => Z = .int 2 ∧ Q [.int ((0 : Nat) : Int)] ρ3)
    (hs : noStar e = true := by with_unfolding_all rfl) (hs' : noStar f = true := by with_unfolding_all rfl) (hs'' : noStar g = true := by with_unfolding_all rfl) (hx : env.kindOf "range" = some .globalImplicit := by with_unfolding_all rfl) : EvI mg g₀ prog w env k (.Name x p) (.Call (.Name "range" pr) [e, f, g] [] pos) ρ Q :=
  EvI.range3 G (h.mono fun X ρ1 ⟨e1, h⟩ => ⟨0, e1, h.mono fun Y ρ2 ⟨e2, h⟩ => ⟨1, e2, h.mono fun Z ρ3 ⟨e3, hq⟩ => ⟨2, e3, by decide, by decide, by decide, by
    rw [show (Builtin.Range.rangeSize 0 1 2).toNat = 1 by decide]; exact hq⟩⟩⟩) hs hs' hs'' hx

theorem level_above_two (G : Gl mg mb g₀ recs) {v m0 m1 : Nat} (hv : 0 < v) (hv' : v ≤ 10) (h0 : m0 < big) (h1 : m1 < big) : Returns mg g₀ prog w "level_above" 3 [.list [num v m0, num v m1], .int (v : Int), .fn "mul_school"] (.list [num v (m0 * m1)]) := by
  refine Returns.intro (d := dAt 30) G mem_level_above ok_level_above rfl ?_
  intro L a cd
  conv in (dAt 30).body => whnf
  conv in (dAt 30).scope => whnf
  change ExS _ _ _ _ _ _ _ [("level", Bnd.val (.list [num v m0, num v m1])), ("w", Bnd.val (.int (v : Int))), ("mul", Bnd.val (.fn "mul_school")), ("found", .un), ("at", .un)] _
  refine ExS.cons (Ex1.assign (EvE.list (EvVs.nil ⟨by decide, fun d => ⟨_, by k_upd, ?_⟩⟩)))
  refine ExS.cons (Ex1.forRuns (EvI.range3One G ?_))
  refine EvV.int ⟨rfl, EvV.bin (EvV.len G (EvV.name (by k_memK) ⟨_, rfl, by simp, ⟨_, rfl, EvV.int ⟨_, rfl, _, .sub, rfl, EvV.int ⟨rfl, ?_⟩⟩⟩⟩))⟩
  refine AsX.name (by k_upd) ?_
  refine ExS.cons (Ex1.expr (EvV.append (Bnd.Own.own _ _) (by k_memK) (by simp) ?_))
  refine EvV.callV G (by k_memK) def_mul_school ?_
  fin_run
  refine ⟨_, mul_school_num G hv hv' h0 h1, ?_⟩
  fin_run
  refine ExS.nil ?_
  refine ExS.cons (Ex1.ret (EvV.ofE (EvE.cat ?_)))
  refine EvV.nameOwn (by k_memK) (by k_upd) ?_
  refine ⟨_, rfl, EvV.sliceV ?_⟩
  refine EvV.name (by k_memK) ⟨_, rfl, by simp, EvP.some ?_⟩
  refine EvV.bin (EvV.len G (EvV.name (by k_memK) ⟨_, rfl, by simp, _, rfl, EvV.int2 ⟨_, rfl, _, .mul (.inr (by decide)), _, rfl, EvP.none ?_⟩⟩))
  exact ⟨_, rfl, by simp; decide, fun d => ⟨_, .own _ _, .inl rfl⟩⟩

theorem product_tree_two (G : Gl mg mb g₀ recs) {v m0 m1 : Nat} (hv : 0 < v) (hv' : v ≤ 10) (h0 : m0 < big) (h1 : m1 < big) : Returns mg g₀ prog w "product_tree" 4 [.list [num v m0, num v m1], .int (v : Int), .fn "mul_school"] (.list [.list [num v m0, num v m1], .list [num v (m0 * m1)]]) := by
  refine Returns.intro (d := dAt 31) G mem_product_tree ok_product_tree rfl ?_
  intro L a cd
  conv in (dAt 31).body => whnf
  conv in (dAt 31).scope => whnf
  change ExS _ _ _ _ _ _ _ [("some", Bnd.val (.list [num v m0, num v m1])), ("w", Bnd.val (.int (v : Int))), ("mul", Bnd.val (.fn "mul_school")), ("levels", .un)] _
  refine ExS.cons (Ex1.assign (EvE.list (EvVs.cons (EvV.sliceV (EvV.name (by k_memK) ⟨_, rfl, by simp, EvP.none (EvP.none (EvVs.nil ⟨by simp, fun d => ⟨_, by k_upd, ?_⟩⟩))⟩)))))
  refine ExS.cons (Ex1.whileR (fun n ρ => (n = 1 ∧ ρ = ([("some", Bnd.val (.list [num v m0, num v m1])), ("w", Bnd.val (.int (v : Int))), ("mul", Bnd.val (.fn "mul_school")), ("levels", .own d [.list [num v m0, num v m1]])] : Row)) ∨
      (n = 0 ∧ ρ = ([("some", Bnd.val (.list [num v m0, num v m1])), ("w", Bnd.val (.int (v : Int))), ("mul", Bnd.val (.fn "mul_school")), ("levels", .own d [.list [num v m0, num v m1], .list [num v (m0 * m1)]])] : Row)))
    (fun ρ => ρ = ([("some", Bnd.val (.list [num v m0, num v m1])), ("w", Bnd.val (.int (v : Int))), ("mul", Bnd.val (.fn "mul_school")), ("levels", .own d [.list [num v m0, num v m1], .list [num v (m0 * m1)]])] : Row)) 1 (.inl ⟨rfl, rfl⟩) ?_ ?_)
  · rintro n _ (⟨rfl, rfl⟩ | ⟨rfl, rfl⟩)
    · refine EvT.cmp (EvV.len G (EvV.itemOwn (Bnd.Own.own _ _) (by k_memK) ?_))
      fin_run
      refine up_last1 ⟨_, rfl, by simp, _, rfl, EvV.int ⟨_, rfl, _, rfl, ?_⟩⟩
      rw [if_pos (by simp)]
      refine ExS.cons (Ex1.expr (EvV.append (Bnd.Own.own _ _) (by k_memK) (by simp) ?_))
      refine EvV.callG G def_level_above (EvVs.cons (EvV.itemOwn (Bnd.Own.own _ _) (by k_memK) ?_))
      fin_run
      refine up_last1 ?_
      fin_run
      refine ⟨_, level_above_two G hv hv' h0 h1, ?_⟩
      fin_run
      exact ExS.nil ⟨0, by decide, .inr ⟨rfl, rfl⟩⟩
    · refine EvT.cmp (EvV.len G (EvV.itemOwn (Bnd.Own.own _ _) (by k_memK) ?_))
      fin_run
      refine up_last2 ⟨_, rfl, by simp, _, rfl, EvV.int ⟨_, rfl, _, rfl, ?_⟩⟩
      rw [if_neg (by simp)]
  · rintro _ rfl
    isplit; fin_run
    exact .inl rfl

theorem crossed_above_two (G : Gl mg mb g₀ recs) {v m0 m1 s0 s1 : Nat} (hv : 0 < v) (hv' : v ≤ 10) (h0 : m0 < big) (h1 : m1 < big) (g0 : s0 < big) (g1 : s1 < big) (h2 : s0 * m1 < big) (h3 : s1 * m0 < big) :
    Returns mg g₀ prog w "crossed_above" 3 [.list [num v s0, num v s1], .list [num v m0, num v m1], .int (v : Int), .fn "mul_school"] (.list [num v (s0 * m1 + s1 * m0)]) := by
  refine Returns.intro (d := dAt 33) G mem_crossed_above ok_crossed_above rfl ?_
  intro L a cd
  conv in (dAt 33).body => whnf
  conv in (dAt 33).scope => whnf
  change ExS _ _ _ _ _ _ _ [("sums", Bnd.val (.list [num v s0, num v s1])), ("level", Bnd.val (.list [num v m0, num v m1])), ("w", Bnd.val (.int (v : Int))), ("mul", Bnd.val (.fn "mul_school")), ("found", .un), ("at", .un), ("left", .un), ("right", .un)] _
  refine ExS.cons (Ex1.assign (EvE.list (EvVs.nil ⟨by decide, fun d => ⟨_, by k_upd, ?_⟩⟩)))
  refine ExS.cons (Ex1.forRuns (EvI.range3One G ?_))
  refine EvV.int ⟨rfl, EvV.bin (EvV.len G (EvV.name (by k_memK) ⟨_, rfl, by simp, ⟨_, rfl, EvV.int ⟨_, rfl, _, .sub, rfl, EvV.int ⟨rfl, ?_⟩⟩⟩⟩))⟩
  refine AsX.name (by k_upd) ?_
  isplit
  refine EvBs.cons (EvE.ofV (EvV.callV G (by k_memK) def_mul_school ?_))
  fin_run
  refine ⟨_, mul_school_num G hv hv' g0 h1, ?_⟩
  refine EvBs.cons (EvE.ofV (EvV.callV G (by k_memK) def_mul_school ?_))
  fin_run
  refine ⟨_, mul_school_num G hv hv' g1 h0, ?_⟩
  fin_run
  refine ⟨rfl, by simp, _, .cons (by k_upd) (.cons (by k_upd) .nil), ?_⟩
  refine ExS.cons (Ex1.expr (EvV.append (Bnd.Own.own _ _) (by k_memK) (by simp) ?_))
  refine EvV.callG G def_add ?_
  fin_run
  refine ⟨_, (add_num G hv hv' h2 h3).le (by decide), ?_⟩
  fin_run
  refine ExS.nil ?_
  refine ExS.cons (Ex1.ret (EvV.ofE (EvE.cat ?_)))
  refine EvV.nameOwn (by k_memK) (by k_upd) ?_
  refine ⟨_, rfl, EvV.sliceV ?_⟩
  refine EvV.name (by k_memK) ⟨_, rfl, by simp, EvP.some ?_⟩
  refine EvV.bin (EvV.len G (EvV.name (by k_memK) ⟨_, rfl, by simp, _, rfl, EvV.int2 ⟨_, rfl, _, .mul (.inr (by decide)), _, rfl, EvP.none ?_⟩⟩))
  exact ⟨_, rfl, by simp; decide, fun d => ⟨_, .own _ _, .inl rfl⟩⟩

theorem crossed_two (G : Gl mg mb g₀ recs) {v m0 m1 M s0 s1 : Nat} (hv : 0 < v) (hv' : v ≤ 10) (h0 : m0 < big) (h1 : m1 < big) (g0 : s0 < big) (g1 : s1 < big) (h2 : s0 * m1 < big) (h3 : s1 * m0 < big) :
    Returns mg g₀ prog w "crossed" 4 [.list [num v s0, num v s1], .list [.list [num v m0, num v m1], .list [num v M]], .int (v : Int), .fn "mul_school"] (num v (s0 * m1 + s1 * m0)) := by
  refine Returns.intro (d := dAt 34) G mem_crossed ok_crossed rfl ?_
  intro L a cd
  conv in (dAt 34).body => whnf
  conv in (dAt 34).scope => whnf
  change ExS _ _ _ _ _ _ _ [("sums", Bnd.val (.list [num v s0, num v s1])), ("levels", Bnd.val (.list [.list [num v m0, num v m1], .list [num v M]])), ("w", Bnd.val (.int (v : Int))), ("mul", Bnd.val (.fn "mul_school")), ("level", .un)] _
  refine ExS.cons (Ex1.forRuns (EvI.list (EvV.sliceV (EvV.name (by k_memK) ⟨_, rfl, by simp, EvP.none (EvP.some ?_)⟩))))
  fin_run
  refine AsX.name (by k_upd) ?_
  isplit
  refine EvV.callG G def_crossed_above ?_
  fin_run
  refine ⟨_, crossed_above_two G hv hv' h0 h1 g0 g1 h2 h3, ?_⟩
  fin_run
  refine ExS.nil ?_
  refine ExS.cons (Ex1.ret (EvV.ife (EvT.cmp (EvV.len G (EvV.name (by k_memK) ⟨_, rfl, by simp, _, rfl, EvV.int ⟨_, rfl, _, rfl, ?_⟩⟩)))))
  rw [if_pos (by simp)]
  fin_run
  exact .inl rfl
end
end
section
theorem lend_cells {cl cs : List (Str × Addr)} (h : ∀ p ∈ cl, cs.lookup p.1 = some p.2) : ∀ x c, cl.lookup x = some c → cs.lookup x = some c := fun x c e => h _ (mem_of_lookup e)
def AllP {α : Type} (P : α → Prop) : List α → Prop
  | [] => True
  | x :: r => P x ∧ AllP P r
theorem AllP.mem {α : Type} {P : α → Prop} : ∀ {l : List α}, AllP P l → ∀ x ∈ l, P x
  | [], _, x, h => by cases h
  | y :: r, h, x, hx => by
    rcases List.mem_cons.mp hx with rfl | hx
    · exact h.1
    · exact AllP.mem h.2 x hx
theorem Lend.of {env cenv : Env} {F : List Str} (h : AllP (fun p : Str × Addr => env.cells.lookup p.1 = some p.2) cenv.cells)
    (h' : AllP (fun x => cenv.cells.lookup x = env.cells.lookup x ∧ (env.kindOf x = some .cell ∨ env.kindOf x = some .free) ∧ (cenv.kindOf x = some .cell ∨ cenv.kindOf x = some .free)) F) : Lend env cenv F :=
  ⟨lend_cells h.mem, h'.mem⟩
-- a line of our own: closed facts about scopes and cells (borrows the name size_fits)
local macro_rules | `(tactic| size_fits) => `(tactic| first
  | exact True.intro
  | (with_unfolding_all exact rfl)
  | (with_unfolding_all exact Or.inl rfl)
  | (with_unfolding_all exact Or.inr rfl)
  | (apply And.intro <;> size_fits))
section
variable {mg mb : Str → Option Value} {g₀ : Heap} {prog : Program} {w : World}

theorem remainder_tree_two (G : Gl mg mb g₀ recs) {v m0 m1 M x : Nat} (hv : 0 < v) (hv' : v ≤ 10) (h0 : m0 < big) (h1 : m1 < big) (hM : M < big) (hx : x < big) (p0 : 0 < m0) (p1 : 0 < m1) (pM : 0 < M) :
    Returns mg g₀ prog w "remainder_tree" 5 [num v x, .list [.list [num v m0, num v m1], .list [num v M]], .int (v : Int), .fn "divrem_school"] (.list [num v (x % M % m0), num v (x % M % m1)]) := by
  have n0 := (@num_len v m0 hv).mpr p0
  have n1 := (@num_len v m1 hv).mpr p1
  have nM := (@num_len v M hv).mpr pM
  have k0 := len_big hv h0
  have k1 := len_big hv h1
  have kM := len_big hv hM
  refine Returns.introC (d := dAt 32) G mem_remainder_tree ok_remainder_tree rfl ?_
  intro L a cd
  conv in (dAt 32).body => whnf
  conv in (dAt 32).scope => whnf
  change ExS _ _ _ _ _ _ _ [("a", Bnd.val (num v x)), ("levels", Bnd.val (.list [.list [num v m0, num v m1], .list [num v M]])), ("w", Bnd.val (.int (v : Int))), ("divrem", Bnd.val (.fn "divrem_school")), ("rests", .un), ("level", .un)] _
  refine ExS.cons (Ex1.ite (EvT.cmp (EvV.len G (EvV.item ?_))))
  fin_run
  refine ifd (fun h => absurd h (by simp)) (fun _ => ?_)
  refine ExS.nil ?_
  isplit; fin_run
  intro d
  refine ⟨_, by k_upd, ?_⟩
  refine ExS.cons (Ex1.forRuns (EvI.list (EvV.ofE (EvE.rev (EvV.name (by k_memK) ⟨_, rfl, by simp, ?_⟩)))))
  refine EvV.neg (EvV.int ⟨_, rfl, rfl, fun d2 => ⟨_, .own _ _, _, rfl, ?_⟩⟩)
  refine AsX.name (by k_upd) ?_
  refine ExS.cons (Ex1.ite (EvT.val (EvV.any G (EvV.ofE (EvE.comp ?cl ?h ?hclos)))))
  case hclos => with_unfolding_all rfl
  case h =>
    refine EvI.list (EvV.name (by k_memK) ⟨_, rfl, ?_⟩)
    refine Turning.runs (by simp) ["one"] [] [] rfl (fun C => Lend.of (by size_fits) (by size_fits)) (List.nil_sublist _) (fun C => AllP.mem (by size_fits)) (by decide +kernel) (by decide +kernel) (fun C => ?_)
    change CompRuns _ _ _ _ _ _ _ _ _ _ _ [("one", Bnd.un)]
    refine AsX.name (by k_upd) ?_
    fin_run
    refine fun hk => ⟨_, Back.same hk rfl (List.nil_sublist _) (by intro p hp; cases hp), fun d3 => ⟨_, .own _ _, [decide ((dig (2 ^ v) M).length = 0)], rfl, ?_⟩⟩
    rw [decide_eq_false (by (exact Nat.ne_of_gt (by assumption)))]
    refine ⟨false, rfl, ?_⟩
    rw [if_neg (by decide)]
    refine ExS.nil ?_
    refine ExS.cons (Ex1.assign (EvE.comp ?cl2 ?h2 ?hclos2))
    case hclos2 => with_unfolding_all rfl
    case h2 =>
      refine EvI.enum G (EvV.name (by k_memK) ⟨_, rfl, ?_⟩)
      rw [show enumV [num v M] = [.tup [.int ((0 : Nat) : Int), num v M]] from rfl]
      refine Turning.runs (by simp) ["at", "one"] ["w", "divrem", "rests", "level"] [("w", Bnd.val (.int (v : Int))), ("divrem", Bnd.val (.fn "divrem_school")), ("rests", .own d [num v x]), ("level", .val (.list [num v M]))] rfl (fun C => Lend.of (by size_fits) (by size_fits)) (by repeat (first | exact List.Sublist.slnil | apply List.Sublist.cons_cons | apply List.Sublist.cons)) (fun C => AllP.mem (by size_fits)) (by decide +kernel) (by decide +kernel) (fun C => ?_)
      change CompRuns _ _ _ _ _ _ _ _ _ _ _ [("at", Bnd.un), ("one", Bnd.un), ("w", Bnd.val (.int (v : Int))), ("divrem", Bnd.val (.fn "divrem_school")), ("rests", .own d [num v x]), ("level", .val (.list [num v M]))]
      refine AsX.two (by k_upd) (by k_upd) ?_
      refine EvV.item (EvV.callV G (by k_memK) def_divrem_school ?_)
      refine EvVs.cons (EvV.itemOwn (Bnd.Own.own _ _) (by k_memK) (EvV.ife (EvT.cmp (EvV.lenOwn G (Bnd.Own.own _ _) (by k_memK) (by simp) ⟨_, rfl, EvV.len G (EvV.name (by k_memK) ⟨_, rfl, by simp, _, rfl, _, rfl, ?_⟩)⟩))))
      rw [if_neg (by simp)]
      fin_run
      refine ⟨_, (divrem_school_num G hv hv' hx hM pM).le (by decide), ?_⟩
      fin_run
      refine fun hk => ⟨_, Back.same (ρf := [("w", Bnd.val (.int (v : Int))), ("divrem", Bnd.val (.fn "divrem_school")), ("rests", .own d [num v x]), ("level", .val (.list [num v M]))]) hk rfl (by repeat (first | exact List.Sublist.slnil | apply List.Sublist.cons_cons | apply List.Sublist.cons)) (AllP.mem ⟨by k_memK, by k_memK, by k_memK, by k_memK, trivial⟩), fun d3 => ⟨_, by k_upd, ?_⟩⟩
      refine ExS.nil ?_
      rename_i d2'
      have hr : x % M < big := Nat.lt_of_le_of_lt (Nat.mod_le _ _) hx
      -- the second level
      refine AsX.name (by k_upd) ?_
      refine ExS.cons (Ex1.ite (EvT.val (EvV.any G (EvV.ofE (EvE.comp ?cl3 ?h3 ?hclos3)))))
      case hclos3 => with_unfolding_all rfl
      case h3 =>
        refine EvI.list (EvV.name (by k_memK) ⟨_, rfl, ?_⟩)
        refine Turning.runs (by simp) ["one"] [] [] rfl (fun C => Lend.of (by size_fits) (by size_fits)) (List.nil_sublist _) (fun C => AllP.mem (by size_fits)) (by decide +kernel) (by decide +kernel) (fun C => ?_)
        change CompRuns _ _ _ _ _ _ _ _ _ _ _ [("one", Bnd.un)]
        refine AsX.name (by k_upd) ?_
        fin_run
        refine AsX.name (by k_upd) ?_
        fin_run
        refine fun hk => ⟨_, Back.same hk rfl (List.nil_sublist _) (by intro p hp; cases hp), fun d4 => ⟨_, .own _ _, [decide ((dig (2 ^ v) m0).length = 0), decide ((dig (2 ^ v) m1).length = 0)], rfl, ?_⟩⟩
        rw [decide_eq_false (by (exact Nat.ne_of_gt (by assumption))), decide_eq_false (by (exact Nat.ne_of_gt (by assumption)))]
        refine ⟨false, rfl, ?_⟩
        rw [if_neg (by decide)]
        refine ExS.nil ?_
        refine ExS.cons (Ex1.assign (EvE.comp ?cl4 ?h4 ?hclos4))
        case hclos4 => with_unfolding_all rfl
        case h4 =>
          refine EvI.enum G (EvV.name (by k_memK) ⟨_, rfl, ?_⟩)
          rw [show enumV [num v m0, num v m1] = [.tup [.int ((0 : Nat) : Int), num v m0], .tup [.int ((1 : Nat) : Int), num v m1]] from rfl]
          refine Turning.runs (by simp) ["at", "one"] ["w", "divrem", "rests", "level"] [("w", Bnd.val (.int (v : Int))), ("divrem", Bnd.val (.fn "divrem_school")), ("rests", .own d3 [num v (x % M)]), ("level", .val (.list [num v m0, num v m1]))] rfl (fun C => Lend.of (by size_fits) (by size_fits)) (by repeat (first | exact List.Sublist.slnil | apply List.Sublist.cons_cons | apply List.Sublist.cons)) (fun C => AllP.mem (by size_fits)) (by decide +kernel) (by decide +kernel) (fun C => ?_)
          change CompRuns _ _ _ _ _ _ _ _ _ _ _ [("at", Bnd.un), ("one", Bnd.un), ("w", Bnd.val (.int (v : Int))), ("divrem", Bnd.val (.fn "divrem_school")), ("rests", .own d3 [num v (x % M)]), ("level", .val (.list [num v m0, num v m1]))]
          refine AsX.two (by k_upd) (by k_upd) ?_
          refine EvV.item (EvV.callV G (by k_memK) def_divrem_school ?_)
          refine EvVs.cons (EvV.itemOwn (Bnd.Own.own _ _) (by k_memK) (EvV.ife (EvT.cmp (EvV.lenOwn G (Bnd.Own.own _ _) (by k_memK) (by simp) ⟨_, rfl, EvV.len G (EvV.name (by k_memK) ⟨_, rfl, by simp, _, rfl, _, rfl, ?_⟩)⟩))))
          rw [if_pos (by simp)]
          fin_run
          refine ⟨_, (divrem_school_num G hv hv' hr h0 p0).le (by decide), ?_⟩
          fin_run
          refine AsX.two (by k_upd) (by k_upd) ?_
          refine EvV.item (EvV.callV G (by k_memK) def_divrem_school ?_)
          refine EvVs.cons (EvV.itemOwn (Bnd.Own.own _ _) (by k_memK) (EvV.ife (EvT.cmp (EvV.lenOwn G (Bnd.Own.own _ _) (by k_memK) (by simp) ⟨_, rfl, EvV.len G (EvV.name (by k_memK) ⟨_, rfl, by simp, _, rfl, _, rfl, ?_⟩)⟩))))
          rw [if_pos (by simp)]
          fin_run
          refine ⟨_, (divrem_school_num G hv hv' hr h1 p1).le (by decide), ?_⟩
          fin_run
          refine fun hk => ⟨_, Back.same (ρf := [("w", Bnd.val (.int (v : Int))), ("divrem", Bnd.val (.fn "divrem_school")), ("rests", .own d3 [num v (x % M)]), ("level", .val (.list [num v m0, num v m1]))]) hk rfl (by repeat (first | exact List.Sublist.slnil | apply List.Sublist.cons_cons | apply List.Sublist.cons)) (AllP.mem ⟨by k_memK, by k_memK, by k_memK, by k_memK, trivial⟩), fun d5 => ⟨_, by k_upd, ?_⟩⟩
          refine ExS.nil (ExS.cons (Ex1.ret ?_))
          fin_run
          exact .inl rfl
end
end
section
theorem crt_side {m m' o i r t : Nat} (ho : o % m = m' % m) (hi : o * i % m = 1) (ht : t = r * i % m) : t * m' % m = r % m := by
  subst ht
  have h1 : i * m' % m = 1 := by rw [Nat.mul_mod, ← ho, ← Nat.mul_mod, Nat.mul_comm]; exact hi
  rw [Nat.mul_mod, Nat.mod_mod, ← Nat.mul_mod, Nat.mul_assoc, Nat.mul_mod, h1, Nat.mul_one, Nat.mod_mod]
theorem crt_one {m0 m1 a b : Nat} (hg : Nat.gcd m0 m1 = 1) (ha : a < m0 * m1) (hb : b < m0 * m1) (h0 : a % m0 = b % m0) (h1 : a % m1 = b % m1) : a = b := by
  have key : ∀ {a b : Nat}, a ≤ b → b < m0 * m1 → a % m0 = b % m0 → a % m1 = b % m1 → a = b := fun {a b} h hb h0 h1 => by
    have d0 : m0 ∣ b - a := Nat.dvd_of_mod_eq_zero (Nat.sub_mod_eq_zero_of_mod_eq h0.symm)
    have d1 : m1 ∣ b - a := Nat.dvd_of_mod_eq_zero (Nat.sub_mod_eq_zero_of_mod_eq h1.symm)
    have d := Nat.Coprime.mul_dvd_of_dvd_of_dvd hg d0 d1
    rcases Nat.eq_zero_or_pos (b - a) with q | q
    · (exact (Nat.le_antisymm (nl (.branch 1 (.leaf a) (.leaf b)) [(1, (.var 0), (.var 1))] 1 (.var 0) (.var 1) rfl h) (nl (.branch 1 (.leaf b) (.branch 2 (.leaf a) (.leaf (b - a)))) [(1, (.var 2), (.num 0)), (1, (.var 0), (.add (.var 2) (.var 1)))] 1 (.var 0) (.var 1) rfl (Nat.le_of_eq q) (nsa (b) (a)))))
    · have := Nat.le_of_dvd q d; (exact (Nat.le_antisymm (nl (.branch 2 (.branch 1 (.leaf a) (.leaf b)) (.branch 3 (.leaf (m0 * m1)) (.leaf (b - a)))) [(1, (.add (.var 1) (.num 1)), (.var 2)), (1, (.var 2), (.var 3)), (1, (.var 3), (.var 1))] 0 (.var 0) (.var 1) rfl hb this (Nat.sub_le (b) (a))) (nl (.branch 2 (.branch 1 (.leaf b) (.leaf a)) (.branch 3 (.leaf (m0 * m1)) (.leaf (b - a)))) [(1, (.add (.var 0) (.num 1)), (.var 2)), (1, (.var 2), (.var 3)), (1, (.var 3), (.var 0))] 0 (.var 0) (.var 1) rfl hb this (Nat.sub_le (b) (a)))))
  rcases Nat.le_total a b with h | h
  · exact key h hb h0 h1
  · exact (key h ha h0.symm h1.symm).symm

theorem AsX.pairIn {mg : Str → Option Value} {g₀ : Heap} {prog : Program} {w : World} {env : Env} {k : Nat} {ρ ρ1 ρ2 ρ3 : Row} {x y u : Str} {p q r p' p'' : Pos} {kd kd' : Nat} {X Y U : V} {Q : Row → Prop} (a : Upd x (.val X) ρ ρ1) (b : Upd y (.val Y) ρ1 ρ2) (c : Upd u (.val U) ρ2 ρ3) (hq : Q ρ3) :
    AsX mg g₀ prog w env k (.Tuple [.Tuple [.Name x p, .Name y q] kd r, .Name u p'] kd' p'') (.tup [.tup [X, Y], U]) ρ Q :=
  AsX.tup (AsXs.cons (AsX.two a b (AsXs.cons (AsX.name c (AsXs.nil hq)))))
-- a line of our own: closed facts about scopes and cells (borrows the name size_fits)
local macro_rules | `(tactic| size_fits) => `(tactic| first
  | exact True.intro
  | (with_unfolding_all exact rfl)
  | (with_unfolding_all exact Or.inl rfl)
  | (with_unfolding_all exact Or.inr rfl)
  | (apply And.intro <;> size_fits))
section
variable {mg mb : Str → Option Value} {g₀ : Heap} {prog : Program} {w : World}

theorem chinese_two (G : Gl mg mb g₀ recs) {v m0 m1 r0 r1 : Nat} (hv : 0 < v) (hv' : v ≤ 10) (h0 : 2 ≤ m0) (h1 : 2 ≤ m1) (b0 : m0 ≤ 1000) (b1 : m1 ≤ 1000) (g0 : r0 < m0) (g1 : r1 < m1) (hg : Nat.gcd m0 m1 = 1) :
    ∃ N, N < m0 * m1 ∧ N % m0 = r0 ∧ N % m1 = r1 ∧ Returns mg g₀ prog w "chinese" 10 [.list [.tup [num v r0, num v m0], .tup [num v r1, num v m1]], .int (v : Int), .fn "mul_school", .fn "divrem_school", .fn "_law_inverse"] (.tup [num v N, num v (m0 * m1)]) := by
  have hbig : (4000000 : Nat) < big := by decide +kernel
  have hM : m0 * m1 ≤ 1000 * 1000 := Nat.mul_le_mul b0 b1
  have hM0 : 0 < m0 * m1 := Nat.mul_pos (by (exact Nat.le_of_lt (by assumption))) (by (exact Nat.le_of_lt (by assumption)))
  have o0 : (1 * m1 + 1 * m0) % (m0 * m1) % m0 = m1 % m0 := by rw [Nat.mod_mul_right_mod, Nat.one_mul, Nat.one_mul, Nat.add_mod_right]
  have o1 : (1 * m1 + 1 * m0) % (m0 * m1) % m1 = m0 % m1 := by rw [Nat.mod_mul_left_mod, Nat.one_mul, Nat.one_mul, Nat.add_mod_left]
  have q0 : Nat.gcd ((1 * m1 + 1 * m0) % (m0 * m1) % m0) m0 = 1 := by rw [o0, ← Nat.gcd_rec]; exact hg
  have q1 : Nat.gcd ((1 * m1 + 1 * m0) % (m0 * m1) % m1) m1 = 1 := by rw [o1, ← Nat.gcd_rec, Nat.gcd_comm]; exact hg
  have rt := remainder_tree_two (prog := prog) (w := w) (M := m0 * m1) (x := 1 * m1 + 1 * m0) G hv hv' (show m0 < big by (exact Nat.lt_of_le_of_lt (by assumption) (by decide))) (show m1 < big by (exact Nat.lt_of_le_of_lt (by assumption) (by decide))) (by (exact Nat.lt_of_le_of_lt (by assumption) (by decide))) (by (exact (nl (.branch 1 (.leaf m1) (.branch 2 (.leaf m0) (.leaf big))) [(1, (.var 1), (.num 1000)), (1, (.var 0), (.num 1000)), (1, (.add (.num 4000000) (.num 1)), (.var 2))] 1 (.add (.add (.mulL 1 (.var 0)) (.mulL 1 (.var 1))) (.num 1)) (.var 2) rfl b0 b1 hbig))) (by (exact Nat.le_of_lt (by assumption))) (by (exact Nat.le_of_lt (by assumption))) hM0
  have l0 : (1 * m1 + 1 * m0) % (m0 * m1) % m0 < m0 := Nat.mod_lt _ (by (exact Nat.le_of_lt (by assumption)))
  have l1 : (1 * m1 + 1 * m0) % (m0 * m1) % m1 < m1 := Nat.mod_lt _ (by (exact Nat.le_of_lt (by assumption)))
  generalize (1 * m1 + 1 * m0) % (m0 * m1) % m0 = p0 at *
  generalize (1 * m1 + 1 * m0) % (m0 * m1) % m1 = p1 at *
  refine hideG fun gHid hHid => ?_
  obtain ⟨i0, li0, ei0, ci0⟩ := law_inverse_num (prog := prog) (w := w) G hv hv' (show p0 < big by (exact (nl (.branch 1 (.leaf p0) (.branch 2 (.leaf big) (.leaf m0))) [(1, (.var 2), (.num 1000)), (1, (.add (.num 4000000) (.num 1)), (.var 1)), (1, (.add (.var 0) (.num 1)), (.var 2))] 1 (.add (.var 0) (.num 1)) (.var 1) rfl b0 hbig l0))) (by (exact (nl (.branch 1 (.leaf m0) (.leaf big)) [(4, (.var 0), (.num 1000)), (1, (.add (.num 4000000) (.num 1)), (.var 1))] 1 (.add (.mulL 4 (.var 0)) (.num 1)) (.var 1) rfl b0 hbig))) h0 q0
  refine hHid ?_; clear hHid gHid
  refine hideG fun gHid hHid => ?_
  obtain ⟨i1, li1, ei1, ci1⟩ := law_inverse_num (prog := prog) (w := w) G hv hv' (show p1 < big by (exact (nl (.branch 1 (.leaf p1) (.branch 2 (.leaf big) (.leaf m1))) [(1, (.var 2), (.num 1000)), (1, (.add (.num 4000000) (.num 1)), (.var 1)), (1, (.add (.var 0) (.num 1)), (.var 2))] 1 (.add (.var 0) (.num 1)) (.var 1) rfl b1 hbig l1))) (by (exact (nl (.branch 1 (.leaf m1) (.leaf big)) [(4, (.var 0), (.num 1000)), (1, (.add (.num 4000000) (.num 1)), (.var 1))] 1 (.add (.mulL 4 (.var 0)) (.num 1)) (.var 1) rfl b1 hbig))) h1 q1
  refine hHid ?_; clear hHid gHid
  have z0 : r0 * i0 ≤ 1000 * 1000 := Nat.mul_le_mul (by (exact (nl (.branch 1 (.leaf r0) (.leaf m0)) [(1, (.var 1), (.num 1000)), (1, (.add (.var 0) (.num 1)), (.var 1))] 1 (.var 0) (.num 1000) rfl b0 g0))) (by (exact (nl (.branch 1 (.leaf i0) (.leaf m0)) [(1, (.var 1), (.num 1000)), (1, (.add (.var 0) (.num 1)), (.var 1))] 1 (.var 0) (.num 1000) rfl b0 li0)))
  have z1 : r1 * i1 ≤ 1000 * 1000 := Nat.mul_le_mul (by (exact (nl (.branch 1 (.leaf r1) (.leaf m1)) [(1, (.var 1), (.num 1000)), (1, (.add (.var 0) (.num 1)), (.var 1))] 1 (.var 0) (.num 1000) rfl b1 g1))) (by (exact (nl (.branch 1 (.leaf i1) (.leaf m1)) [(1, (.var 1), (.num 1000)), (1, (.add (.var 0) (.num 1)), (.var 1))] 1 (.var 0) (.num 1000) rfl b1 li1)))
  have t0 : r0 * i0 % m0 < m0 := Nat.mod_lt _ (by (exact Nat.le_of_lt (by assumption)))
  have t1 : r1 * i1 % m1 < m1 := Nat.mod_lt _ (by (exact Nat.le_of_lt (by assumption)))
  have u0 : r0 * i0 % m0 * m1 ≤ 1000 * 1000 := Nat.mul_le_mul (by (exact (nl (.branch 1 (.leaf (r0 * i0 % m0)) (.leaf m0)) [(1, (.var 1), (.num 1000)), (1, (.add (.var 0) (.num 1)), (.var 1))] 1 (.var 0) (.num 1000) rfl b0 t0))) (by omega)
  have u1 : r1 * i1 % m1 * m0 ≤ 1000 * 1000 := Nat.mul_le_mul (by (exact (nl (.branch 1 (.leaf (r1 * i1 % m1)) (.leaf m1)) [(1, (.var 1), (.num 1000)), (1, (.add (.var 0) (.num 1)), (.var 1))] 1 (.var 0) (.num 1000) rfl b1 t1))) (by omega)
  refine ⟨(r0 * i0 % m0 * m1 + r1 * i1 % m1 * m0) % (m0 * m1), Nat.mod_lt _ hM0, ?_, ?_, ?_⟩
  · rw [Nat.mod_mul_right_mod, Nat.add_mul_mod_self_right, crt_side (by rw [o0, Nat.mod_mod]) ei0 rfl, Nat.mod_eq_of_lt g0]
  · rw [Nat.mod_mul_left_mod, Nat.add_comm, Nat.add_mul_mod_self_right, crt_side (by rw [o1, Nat.mod_mod]) ei1 rfl, Nat.mod_eq_of_lt g1]
  refine Returns.intro (d := dAt 35) G mem_chinese ok_chinese rfl ?_
  intro L a cd
  conv in (dAt 35).body => whnf
  conv in (dAt 35).scope => whnf
  change ExS _ _ _ _ _ _ _ [("pairs", Bnd.val (.list [.tup [num v r0, num v m0], .tup [num v r1, num v m1]])), ("w", Bnd.val (.int (v : Int))), ("mul", Bnd.val (.fn "mul_school")), ("divrem", Bnd.val (.fn "divrem_school")), ("inverse_of", Bnd.val (.fn "_law_inverse")),
    ("moduli", .un), ("levels", .un), ("others", .un), ("sums", .un), ("rest", .un), ("modulus", .un), ("other", .un), ("scaled", .un)] _
  refine ExS.cons (Ex1.ite (EvT.cmp (EvV.len G (EvV.name (by k_memK) ⟨_, rfl, by simp, _, rfl, EvV.int ⟨_, rfl, _, rfl, ?_⟩⟩))))
  rw [if_neg (by simp)]
  refine ExS.nil ?_
  refine ExS.cons (ex_assignComp ?cl ?h ?hsw ?hclos)
  case hsw => with_unfolding_all rfl
  case hclos => with_unfolding_all rfl
  case h =>
    refine EvI.listT (EvV.name (by k_memK) ⟨_, rfl, ?_⟩)
    refine Turning.runs (by simp) ["rest", "modulus"] [] [] rfl (fun C => Lend.of (by size_fits) (by size_fits)) (List.nil_sublist _) (fun C => AllP.mem (by size_fits)) (by decide +kernel) (by decide +kernel) (fun C => ?_)
    change CompRuns _ _ _ _ _ _ _ _ _ _ _ [("rest", Bnd.un), ("modulus", Bnd.un)]
    refine AsX.two (by k_upd) (by k_upd) ?_
    fin_run
    refine AsX.two (by k_upd) (by k_upd) ?_
    fin_run
    refine fun hk => ⟨_, Back.same hk rfl (List.nil_sublist _) (by intro p hp; cases hp), fun d1 => ⟨_, by k_upd, ?_⟩⟩
    isplit
    refine EvV.callG G def_product_tree ?_
    fin_run
    refine ⟨_, (product_tree_two G hv hv' (by (exact Nat.lt_of_le_of_lt (by assumption) (by decide))) (by (exact Nat.lt_of_le_of_lt (by assumption) (by decide)))).le (by decide), ?_⟩
    fin_run
    isplit
    refine EvV.callG G def_remainder_tree (EvVs.cons (EvV.callG G def_crossed (EvVs.cons (EvV.ofE (EvE.rep ?_)))))
    refine EvV.listV (EvVs.cons (EvV.listV (EvVs.cons (EvV.int1 (EvVs.nil ⟨by simp, EvVs.nil ⟨by simp, _, rfl, ?_⟩⟩)))))
    rw [one_num hv]
    refine EvV.len G (EvV.name (by k_memK) ⟨_, rfl, by simp, _, rfl, by simp, by simp, fun d2 => ⟨_, .own _ _, ?_⟩⟩)
    fin_run
    refine ⟨_, (crossed_two (s0 := 1) (s1 := 1) G hv hv' (by (exact (nl (.branch 1 (.leaf m0) (.leaf big)) [(1, (.var 0), (.num 1000)), (1, (.add (.num 4000000) (.num 1)), (.var 1))] 1 (.add (.var 0) (.num 1)) (.var 1) rfl b0 hbig))) (by (exact (nl (.branch 1 (.leaf m1) (.leaf big)) [(1, (.var 0), (.num 1000)), (1, (.add (.num 4000000) (.num 1)), (.var 1))] 1 (.add (.var 0) (.num 1)) (.var 1) rfl b1 hbig))) (by decide) (by decide) (by (exact (nl (.branch 1 (.leaf m1) (.leaf big)) [(1, (.var 0), (.num 1000)), (1, (.add (.num 4000000) (.num 1)), (.var 1))] 1 (.add (.mulL 1 (.var 0)) (.num 1)) (.var 1) rfl b1 hbig))) (by (exact (nl (.branch 1 (.leaf m0) (.leaf big)) [(1, (.var 0), (.num 1000)), (1, (.add (.num 4000000) (.num 1)), (.var 1))] 1 (.add (.mulL 1 (.var 0)) (.num 1)) (.var 1) rfl b0 hbig)))).le (by decide), ?_⟩
    fin_run
    refine ⟨_, rt.le (by decide), ?_⟩
    fin_run
    refine ExS.cons (Ex1.assign (EvE.list (EvVs.nil ⟨by decide, fun d3 => ⟨_, by k_upd, ?_⟩⟩)))
    refine ExS.cons (Ex1.forRuns (EvI.zip G (EvV.name (by k_memK) ⟨_, rfl, EvV.name (by k_memK) ⟨_, rfl, ?_⟩⟩)))
    -- the first pair
    refine AsX.pairIn (by k_upd) (by k_upd) (by k_upd) ?_
    refine ExS.cons (Ex1.ite (EvT.cmp ?_))
    refine EvV.callG G def_compare ?_
    ((try have kq1 : 0 + 1 ≤ 100 := (nl (.leaf 0) [] 1 (.add (.num 0) (.num 1)) (.num 100) rfl)); fin_run; all_goals (try clear kq1))
    rw [one_num hv]
    refine ⟨_, (compare_num G hv (by omega) (by decide)).le (by decide), ?_⟩
    fin_run
    rw [show (if m0 < 1 then (-1 : Int) else if m0 = 1 then 0 else 1) = 1 by rw [if_neg (by (exact (Nat.not_lt_of_le (nl (.leaf m0) [(1, (.num 2), (.var 0))] 1 (.num 1) (.var 0) rfl h0)))), if_neg (by (exact Nat.ne_of_gt (by assumption)))]]
    refine ife (fun h => absurd h (by decide)) (fun _ => ?_)
    refine ExS.nil ?_
    isplit
    refine EvV.callV G (by k_memK) def_mul_school (EvVs.cons (EvV.item (EvV.callV G (by k_memK) def_divrem_school ?_)))
    fin_run
    refine ⟨_, (divrem_school_num G hv hv' (by (exact (nl (.branch 1 (.leaf r0) (.branch 2 (.leaf big) (.leaf m0))) [(1, (.var 2), (.num 1000)), (1, (.add (.var 0) (.num 1)), (.var 2)), (1, (.add (.num 4000000) (.num 1)), (.var 1))] 1 (.add (.var 0) (.num 1)) (.var 1) rfl b0 g0 hbig))) (by omega) (by (exact Nat.le_of_lt (by assumption)))).le (by decide), ?_⟩
    fin_run
    refine EvV.callV G (by k_memK) def_law_inverse ?_
    fin_run
    refine ⟨_, ci0, ?_⟩
    fin_run
    rw [Nat.mod_eq_of_lt g0]
    refine ⟨_, (mul_school_num G hv hv' (by omega) (by (exact (nl (.branch 1 (.leaf i0) (.branch 2 (.leaf big) (.leaf m0))) [(1, (.var 2), (.num 1000)), (1, (.add (.num 4000000) (.num 1)), (.var 1)), (1, (.add (.var 0) (.num 1)), (.var 2))] 1 (.add (.var 0) (.num 1)) (.var 1) rfl b0 hbig li0)))).le (by decide), ?_⟩
    fin_run
    refine ExS.cons (Ex1.expr (EvV.append (Bnd.Own.own _ _) (by k_memK) (by simp) (EvV.item (EvV.callV G (by k_memK) def_divrem_school ?_))))
    fin_run
    refine ⟨_, (divrem_school_num G hv hv' (by (exact Nat.lt_of_le_of_lt (by assumption) (by decide))) (by omega) (by (exact Nat.le_of_lt (by assumption)))).le (by decide), ?_⟩
    fin_run
    refine ExS.nil ?_
    -- the second pair
    refine AsX.pairIn (by k_upd) (by k_upd) (by k_upd) ?_
    refine ExS.cons (Ex1.ite (EvT.cmp ?_))
    refine EvV.callG G def_compare ?_
    fin_run
    rw [one_num hv]
    refine ⟨_, (compare_num G hv (by omega) (by decide)).le (by decide), ?_⟩
    fin_run
    rw [show (if m1 < 1 then (-1 : Int) else if m1 = 1 then 0 else 1) = 1 by rw [if_neg (by (exact (Nat.not_lt_of_le (nl (.leaf m1) [(1, (.num 2), (.var 0))] 1 (.num 1) (.var 0) rfl h1)))), if_neg (by (exact Nat.ne_of_gt (by assumption)))]]
    refine ife (fun h => absurd h (by decide)) (fun _ => ?_)
    refine ExS.nil ?_
    isplit
    refine EvV.callV G (by k_memK) def_mul_school (EvVs.cons (EvV.item (EvV.callV G (by k_memK) def_divrem_school ?_)))
    fin_run
    refine ⟨_, (divrem_school_num G hv hv' (by (exact (nl (.branch 1 (.leaf r1) (.branch 2 (.leaf big) (.leaf m1))) [(1, (.var 2), (.num 1000)), (1, (.add (.var 0) (.num 1)), (.var 2)), (1, (.add (.num 4000000) (.num 1)), (.var 1))] 1 (.add (.var 0) (.num 1)) (.var 1) rfl b1 g1 hbig))) (by omega) (by (exact Nat.le_of_lt (by assumption)))).le (by decide), ?_⟩
    fin_run
    refine EvV.callV G (by k_memK) def_law_inverse ?_
    fin_run
    refine ⟨_, ci1, ?_⟩
    fin_run
    rw [Nat.mod_eq_of_lt g1]
    refine ⟨_, (mul_school_num G hv hv' (by omega) (by (exact (nl (.branch 1 (.leaf i1) (.branch 2 (.leaf big) (.leaf m1))) [(1, (.var 2), (.num 1000)), (1, (.add (.num 4000000) (.num 1)), (.var 1)), (1, (.add (.var 0) (.num 1)), (.var 2))] 1 (.add (.var 0) (.num 1)) (.var 1) rfl b1 hbig li1)))).le (by decide), ?_⟩
    fin_run
    refine ExS.cons (Ex1.expr (EvV.append (Bnd.Own.own _ _) (by k_memK) (by simp) (EvV.item (EvV.callV G (by k_memK) def_divrem_school ?_))))
    fin_run
    refine ⟨_, (divrem_school_num G hv hv' (by (exact Nat.lt_of_le_of_lt (by assumption) (by decide))) (by omega) (by (exact Nat.le_of_lt (by assumption)))).le (by decide), ?_⟩
    fin_run
    refine ExS.nil ?_
    -- the end
    refine ExS.cons (Ex1.ret (EvV.tup (EvVs.cons (EvV.item (EvV.callV G (by k_memK) def_divrem_school (EvVs.cons (EvV.callG G def_crossed ?_)))))))
    fin_run
    refine ⟨_, (crossed_two G hv hv' (by omega) (by omega) (by (exact (nl (.branch 1 (.leaf (r0 * i0 % m0)) (.branch 2 (.leaf big) (.leaf m0))) [(1, (.var 2), (.num 1000)), (1, (.add (.num 4000000) (.num 1)), (.var 1)), (1, (.add (.var 0) (.num 1)), (.var 2))] 1 (.add (.var 0) (.num 1)) (.var 1) rfl b0 hbig t0))) (by (exact (nl (.branch 1 (.leaf (r1 * i1 % m1)) (.branch 2 (.leaf big) (.leaf m1))) [(1, (.var 2), (.num 1000)), (1, (.add (.num 4000000) (.num 1)), (.var 1)), (1, (.add (.var 0) (.num 1)), (.var 2))] 1 (.add (.var 0) (.num 1)) (.var 1) rfl b1 hbig t1))) (by (exact Nat.lt_of_le_of_lt (by assumption) (by decide))) (by (exact Nat.lt_of_le_of_lt (by assumption) (by decide)))).le (by decide), ?_⟩
    fin_run
    refine up_last2 ?_
    fin_run
    refine ⟨_, (divrem_school_num G hv hv' (by (exact (nl (.branch 1 (.leaf (r0 * i0 % m0 * m1)) (.branch 2 (.leaf (r1 * i1 % m1 * m0)) (.leaf big))) [(1, (.add (.num 4000000) (.num 1)), (.var 2)), (1, (.var 0), (.mulL 1000 (.num 1000))), (1, (.var 1), (.mulL 1000 (.num 1000)))] 1 (.add (.add (.var 0) (.var 1)) (.num 1)) (.var 2) rfl hbig u0 u1))) (by (exact Nat.lt_of_le_of_lt (by assumption) (by decide))) hM0).le (by decide), ?_⟩
    fin_run
    refine up_last2 ?_
    ((try have kq1 : 0 + 1 + 1 ≤ 100 := (nl (.leaf 0) [] 1 (.add (.add (.num 0) (.num 1)) (.num 1)) (.num 100) rfl)); fin_run; all_goals (try clear kq1))
    exact .inl rfl
end
end
section
/-- the rest of a number, as a natural number -/
def rs (m : Nat) (i : Int) : Nat := (i % (m : Int)).natAbs
theorem rs_cast {m : Nat} {i : Int} (h : 0 < m) : ((rs m i : Nat) : Int) = i % (m : Int) := by
  have := Int.emod_nonneg i (show (m : Int) ≠ 0 by lia)
  unfold rs; lia
theorem rs_lt {m : Nat} {i : Int} (h : 0 < m) : rs m i < m := by
  have h1 := Int.emod_lt_of_pos i (show (0 : Int) < m by lia)
  have h2 := @rs_cast m i h
  lia
theorem rs_of_nat {m n : Nat} : rs m (n : Int) = n % m := by unfold rs; rw [← Int.natCast_emod, Int.natAbs_natCast]
theorem rs_rs {m k : Nat} {i : Int} (h : 0 < m) (hk : 0 < k) (d : m ∣ k) : rs k i % m = rs m i := by
  have h1 := @rs_cast k i hk
  have h2 := @rs_cast m i h
  apply Int.ofNat_inj.mp
  rw [Int.natCast_emod, h1, h2, Int.emod_emod_of_dvd i (by exact_mod_cast d)]
theorem due_rs {f many m : Nat} {i j : Int} (h : 0 < m) : due f (rs m i : Int) (rs m j : Int) many % (m : Int) = ((rs m (due f i j many) : Nat) : Int) := by
  rw [rs_cast h, rs_cast h, rs_cast h]
  unfold due
  split
  · rw [← Int.mul_emod]
  split
  · split
    · rw [← Int.add_emod]
    · rw [← Int.sub_emod]
  split
  · rw [show -(i % (m : Int)) = 0 - i % (m : Int) by lia, show -i = 0 - i by lia, Int.sub_emod, Int.emod_emod, ← Int.sub_emod]
  · rw [Int.mul_emod, Int.emod_emod, ← Int.mul_emod]
theorem due_bound {f many b : Nat} {i j : Int} (hi : i.natAbs ≤ b) (hj : j.natAbs ≤ b) (hm : many ≤ 7) (hb : 10000000 ≤ b) (hf : f = 2 → (i * j).natAbs ≤ 1000000000) : (due f i j many).natAbs ≤ 128 * b := by
  unfold due
  split
  · have := hf (by assumption); lia
  split
  · split <;> (clear hf hb hm; omega)
  split
  · (clear hf hb hm hj; omega)
  · have h1 : (i * 2 ^ many).natAbs = i.natAbs * 2 ^ many := by rw [Int.natAbs_mul, Int.natAbs_pow]; rfl
    have h2 : 2 ^ many ≤ 2 ^ 7 := Nat.pow_le_pow_right (by decide) hm
    rw [h1]
    have := Nat.mul_le_mul hi h2
    (exact (nl (.branch 1 (.leaf (i.natAbs * 2 ^ many)) (.leaf b)) [(1, (.var 0), (.mulR (.var 1) 128))] 1 (.var 0) (.mulL 128 (.var 1)) rfl this))
/-- three numbers, each at most b -/
def Fit (N : List Int) (b : Nat) : Prop := N.length = 3 ∧ ∀ n ∈ N, n.natAbs ≤ b
def ag (N : List Int) (i : Nat) : Int := N.getD i 0
theorem ag_get {N : List Int} {i : Nat} (h : i < N.length) : N[i]? = some (ag N i) := by
  unfold ag; rw [List.getD_eq_getElem?_getD, List.getElem?_eq_getElem h]; rfl
theorem Fit.at {N : List Int} {b i : Nat} (h : Fit N b) (hi : i < 3) : (ag N i).natAbs ≤ b := by
  have h1 := @ag_get N i (by rw [h.1]; exact hi)
  exact h.2 _ (List.mem_of_getElem? h1)
theorem Fit.set {N : List Int} {b c i : Nat} {x : Int} (h : Fit N b) (hx : x.natAbs ≤ c) (hbc : b ≤ c) : Fit (N.set i x) c :=
  ⟨by rw [List.length_set]; exact h.1, fun n hn => by
    rcases List.mem_or_eq_of_mem_set hn with q | q
    · exact Nat.le_trans (h.2 _ q) hbc
    · rw [q]; exact hx⟩
theorem ag_set_self {N : List Int} {i : Nat} {x : Int} (h : i < N.length) : ag (N.set i x) i = x := by
  unfold ag; rw [List.getD_eq_getElem?_getD, List.getElem?_set_self h]; rfl
/-- an item of a list of three, as it is read -/
theorem up_ag {f : Int → V} {N : List Int} {i : Nat} {P : Int → V → Prop} (hN : N.length = 3) (hi : i < 3) (h : P (i : Int) (f (ag N i))) : ∃ j Z, V.int (i : Int) = .int j ∧ ItemAt (N.map f) j Z ∧ P j Z :=
  ⟨_, _, rfl, .inl ⟨by lia, by lia, by rw [Int.toNat_natCast, List.getElem?_map, ag_get (by (exact (nl (.branch 1 (.leaf i) (.leaf (N.length))) [(1, (.num 3), (.var 1)), (1, (.add (.var 0) (.num 1)), (.num 3))] 1 (.add (.var 0) (.num 1)) (.var 1) rfl (nge hN) hi)))]; rfl⟩, h⟩
end
section
theorem sgn_take {v i : Nat} {N : List Int} {n : Int} (h : N[i]? = some n) : (N.take i).map (sgn v) ++ [sgn v n] = (N.take (i + 1)).map (sgn v) := by
  rw [List.take_add_one, h]; simp
section
variable {mg mb : Str → Option Value} {g₀ : Heap} {prog : Program} {w : World} {env : Env} {k : Nat} {ρ ρ' : Row}
/-- [_law_signed(number, x) for number in numbers] -/
theorem comp_signed {x : Str} {scope : Scope} {p1 p2 p3 p4 p5 p6 pos : Pos} {B : Bnd} {dn : Addr} {N : List Int} {v : Nat} {Q : Bnd → Row → Prop} (G : Gl mg mb g₀ recs) (cl : List (Str × Addr))
    (hv : 0 < v) (hv' : v ≤ 10) (hN : ∀ n ∈ N, n.natAbs < big) (hl : N.length ≤ 100) (hk2 : 2 ≤ k) (hm : (("numbers" : Str), B) ∈ ρ) (hB : B.Own dn (N.map V.int)) (hx : (x, Bnd.val (.int (v : Int))) ∈ ρ)
    (hclos : closureFor scope env = pure cl) (hL : ∀ C, Lend env (compEnvC scope cl C env) [x]) (hlo : ∀ C, (compEnvC scope cl C env).kindOf "number" = some .local) (hg : ∀ C, (compEnvC scope cl C env).kindOf "_law_signed" = some .globalImplicit)
    (hne : x ≠ "number") (hne' : ("numbers" : Str) ≠ x) (hcell : ∀ y ∈ scope.names, y.2 ≠ .cell) (hkind : scope.kind = .function) (hnames : ∀ y ∈ scope.names, y.2 = .local → scope.names.lookup y.1 = some .local)
    (hq : ∀ a, Q (.own a (N.map (sgn v))) ρ) :
    EvE mg g₀ prog w env k (.ListComp (.Call (.Name "_law_signed" p1) [.Name "number" p2, .Name x p3] [] p4) [⟨.Name "number" p5, .Name "numbers" p6, [], 0⟩] scope pos) ρ Q := by
  refine EvE.compS ["numbers"] cl (EvC.listOwn hm hB ?_) hclos hcell hkind hnames
  refine ⟨by rw [List.length_map]; exact Nat.le_trans hl (by decide), fun C => ⟨[x], ["number"], [(x, .val (.int (v : Int)))], fun i ys ρ => (∃ B, ρ = ([("number", B), (x, .val (.int (v : Int)))] : Row)) ∧ ys = (N.take i).map (sgn v), hL C, List.singleton_sublist.mpr hx, (fun p hp => by
      simp only [List.mem_singleton] at hp; subst hp; exact List.mem_singleton.mpr rfl), (fun y hy h2 => by
      simp only [List.mem_singleton] at hy h2; subst hy; exact hne' h2), (fun y hy => by
      simp only [List.mem_singleton] at hy; subst hy; exact hlo C), ?_, ?_, ⟨⟨_, rfl⟩, rfl⟩, ?_, ?_⟩⟩
  · simp only [List.map_cons, List.map_nil, List.cons_append, List.nil_append, List.nodup_cons, List.mem_singleton, List.not_mem_nil, not_false_eq_true, List.nodup_nil, and_true]
    exact fun h => hne h.symm
  · decide +kernel
  · intro i X ys ρ2 hX _ hI1
    refine hideG fun gHid hHid => ?_
    obtain ⟨⟨B, rfl⟩, rfl⟩ := hI1
    refine hHid ?_; clear hHid gHid
    simp only [List.getElem?_map, Option.map_eq_some_iff] at hX
    refine hideG fun gHid hHid => ?_
    obtain ⟨n, hn, rfl⟩ := hX
    refine hHid ?_; clear hHid gHid
    refine AsX.name (by k_upd) ?_
    refine EvV.callG G def_law_signed (EvVs.cons (EvV.name (by k_memK) (EvVs.cons (EvV.name (by k_memK) (EvVs.nil ⟨_, (law_signed_num G hv hv' (hN n (List.mem_of_getElem? hn))).le hk2, ⟨_, rfl⟩, sgn_take hn⟩))))) (hg C)
  · intro hk ys ρ2 hI1
    refine hideG fun gHid hHid => ?_
    obtain ⟨⟨B, rfl⟩, rfl⟩ := hI1
    refine hHid ?_; clear hHid gHid
    refine ⟨_, Back.same hk (ρf := [(x, .val (.int (v : Int)))]) rfl (List.singleton_sublist.mpr hx) (by intro p hp; simp only [List.mem_singleton] at hp; subst hp; k_memK), fun a => ?_⟩
    rw [List.length_map, List.take_length]
    exact hq a
end
end
section
def rv (m : Nat) (n : Int) : V := .int (rs m n : Int)
theorem To.m {f : Int → V} {a : Addr} {N : List Int} {g : Nat} {n : Int} : Bnd.To (.own a (N.map f)) (.own a ((N.set g n).map f)) ((N.map f).set (g : Int).toNat (f n)) := by
  rw [Int.toNat_natCast, ← List.map_set]; exact .own
theorem nats_ok {l : List Nat} : ∀ {n : Nat}, OkVs n (natsL l) := by
  induction l with
  | nil => intro n; exact .nil
  | cons x r ih => intro n; exact .cons .int ih
theorem signed_ok {v : Nat} : ∀ {N : List Int}, OkVs 2 (N.map (sgn v))
  | [] => .nil
  | n :: r => .cons (.tup (.cons .bool (.cons (.list nats_ok) .nil))) signed_ok
section
variable {mg mb : Str → Option Value} {g₀ : Heap} {prog : Program} {w : World} {env : Env} {k : Nat} {ρ ρ' : Row}
theorem EvV.sift (G : Gl mg mb g₀ recs) {c M : Nat} {mi : Int} {S : List Nat} {d : Addr} {p p' p'' pos : Pos} {kd} {Q : V → Row → Prop} (hc : c < 2 ^ 40) (hS : S.length < 2 ^ 40) (hM : 0 < M) (hi : mi = (M : Int)) (hm : (("tub" : Str), Bnd.own d [.int (c : Int), nats S]) ∈ ρ) (hk : 1 ≤ k)
    (h : ∀ n : Nat, n < M → ∃ ρ2, Upd "tub" (.own d [.int ((c + 1 : Nat) : Int), nats S]) ρ ρ2 ∧ Q (.int (n : Int)) ρ2) (hx : env.kindOf "_law_sifted" = some .globalImplicit := by with_unfolding_all rfl) :
    EvV mg g₀ prog w env k (.Call (.Name "_law_sifted" p) [.Name "tub" p', .Constant (.int mi) kd p''] [] pos) ρ Q := by
  subst hi
  refine EvV.callT G def_law_sifted (Bnd.Own.own _ _) hm (EvVs.cons (EvV.int (EvVs.nil ⟨hm, _, (law_sifted_run G hc hS hM).le hk, ?_⟩))) hx
  intro _ _ hI1
  refine hideG fun gHid hHid => ?_
  obtain ⟨n, rfl, rfl, hn⟩ := hI1
  refine hHid ?_; clear hHid gHid
  refine hideG fun gHid hHid => ?_
  obtain ⟨ρ2, u, hq⟩ := h n hn
  refine hHid ?_; clear hHid gHid
  exact ⟨_, ρ2, .own, u, hq⟩
/-- x[i] = value, by a target, x a list made of numbers -/
theorem AsX.subM (f : Int → V) {x i : Str} {p p' pi : Pos} {a : Addr} {N : List Int} {g : Nat} {n : Int} {Q : Row → Prop} (hm : (x, Bnd.own a (N.map f)) ∈ ρ) (hi : (i, Bnd.val (.int (g : Int))) ∈ ρ) (hN : N.length = 3) (hg : g < 3) (u : Upd x (.own a ((N.set g n).map f)) ρ ρ') (hq : Q ρ') :
    AsX mg g₀ prog w env k (.Subscript (.Name x p) (.Name i pi) p') (f n) ρ Q :=
  AsX.sub (Bnd.Own.own _ _) hm (EvV.name hi ⟨hm, _, rfl, by lia, by rw [List.length_map]; lia, by lia, _, _, To.m, u, hq⟩)
theorem Ex1.setM (f : Int → V) {x i : Str} {p p' pi pos : Pos} {value : Expr} {a : Addr} {N : List Int} {g : Nat} {Q : Out → Row → Prop} (hN : N.length = 3) (hg : g < 3)
    (h : EvV mg g₀ prog w env k value ρ fun Y ρ1 => ∃ n, Y = f n ∧ (x, Bnd.own a (N.map f)) ∈ ρ1 ∧ (i, Bnd.val (.int (g : Int))) ∈ ρ1 ∧ ∃ ρ2, Upd x (.own a ((N.set g n).map f)) ρ1 ρ2 ∧ Q .next ρ2)
    (hs : swapsWith value (some (.Subscript (.Name x p) (.Name i pi) p')) pos.line env = pure false := by with_unfolding_all rfl) : Ex1 mg g₀ prog w env k (.Assign [.Subscript (.Name x p) (.Name i pi) p'] value pos) ρ Q := by
  refine Ex1.setItem (Bnd.Own.own a (N.map f)) (h.mono ?_) hs
  intro Y ρ1 hI1
  refine hideG fun gHid hHid => ?_
  obtain ⟨n, rfl, hm, hi, ρ2, u, hq⟩ := hI1
  refine hHid ?_; clear hHid gHid
  exact ⟨hm, EvV.name hi ⟨hm, _, rfl, by omega, by rw [List.length_map]; omega, by omega, _, _, To.m, u, hq⟩⟩
/-- x[i][j], the rows made of numbers -/
theorem EvV.row2 (f : Int → V) {x y z : Str} {p p1 p2 p3 p4 : Pos} {a b : Addr} {N : List Int} {n i : Nat} {rows : List (Addr × List V)} {Q : V → Row → Prop} (hm : (x, Bnd.own2 a rows) ∈ ρ) (hy : (y, Bnd.val (.int (n : Int))) ∈ ρ) (hz : (z, Bnd.val (.int (i : Int))) ∈ ρ)
    (hn : rows[n]? = some (b, N.map f)) (hr : rows.length < 2 ^ 60) (hN : N.length = 3) (hi : i < 3) (hq : Q (f (ag N i)) ρ) : EvV mg g₀ prog w env k (.Subscript (.Subscript (.Name x p) (.Name y p1) p2) (.Name z p3) p4) ρ Q := by
  refine EvV.item2 hm (EvV.name hy ⟨hm, n, rfl, _, hn, EvV.name hz ⟨hm, up_ag (f := f) hN hi hq⟩⟩) hr ?_ ?_
  · intro _ _ _; with_unfolding_all rfl
  · intro _ _ _; with_unfolding_all rfl
/-- x[i][j] = value, the rows made of numbers -/
theorem Ex1.setRow2 (f : Int → V) {x y z : Str} {p p1 p2 p3 p4 pos : Pos} {value : Expr} {a b : Addr} {N : List Int} {n i : Nat} {rows rows2 : List (Addr × List V)} {N2 : List Int} {Q : Out → Row → Prop} (hn : rows[n]? = some (b, N.map f)) (hr2 : rows.set n (b, N2.map f) = rows2) (hr : rows.length < 2 ^ 60) (hN : N.length = 3) (hi : i < 3)
    (h : EvV mg g₀ prog w env k value ρ fun Y ρ1 => ∃ m, Y = f m ∧ (x, Bnd.own2 a rows) ∈ ρ1 ∧ (y, Bnd.val (.int (n : Int))) ∈ ρ1 ∧ (z, Bnd.val (.int (i : Int))) ∈ ρ1 ∧ N.set i m = N2 ∧ ∃ ρ2, Upd x (.own2 a rows2) ρ1 ρ2 ∧ Q .next ρ2)
    (hs : swapsWith value (some (.Subscript (.Subscript (.Name x p) (.Name y p1) p2) (.Name z p3) p4)) pos.line env = pure false := by with_unfolding_all rfl) :
    Ex1 mg g₀ prog w env k (.Assign [.Subscript (.Subscript (.Name x p) (.Name y p1) p2) (.Name z p3) p4] value pos) ρ Q := by
  refine Ex1.setItem2 (a := a) (rows := rows) (h.mono ?_) hr ?_ hs
  · intro Y ρ1 hI1
    refine hideG fun gHid hHid => ?_
    obtain ⟨m, rfl, hm, hy, hz, rfl, ρ2, u, hq⟩ := hI1
    refine hHid ?_; clear hHid gHid
    rw [← hr2, List.map_set] at u
    exact ⟨hm, EvV.name hy ⟨hm, n, rfl, _, hn, EvV.name hz ⟨hm, i, rfl, by rw [List.length_map]; (exact (nl (.branch 1 (.leaf i) (.leaf (N.length))) [(1, (.num 3), (.var 1)), (1, (.add (.var 0) (.num 1)), (.num 3))] 1 (.add (.var 0) (.num 1)) (.var 1) rfl (nge hN) hi)), by (exact Nat.lt_of_lt_of_le (by assumption) (by decide)), ρ2, u, hq⟩⟩⟩
  · intro _ _ _; with_unfolding_all rfl
end
end
section
-- a line of our own: closed facts about scopes and cells (borrows the name size_fits)
local macro_rules | `(tactic| size_fits) => `(tactic| first
  | exact True.intro
  | (with_unfolding_all exact rfl)
  | (with_unfolding_all exact Or.inl rfl)
  | (with_unfolding_all exact Or.inr rfl)
  | (apply And.intro <;> size_fits))
local macro_rules | `(tactic| got_up) => `(tactic| with_reducible (apply up_ag; (case hN => assumption); (case hi => assumption)))
/-- the turns of law's loop -/
def loopBody : List Stmt := match (dAt 51).body.getD 6 (.Pass ⟨0, 0, 0, 0⟩) with
  | .For _ _ b _ _ => b
  | _ => []
def lrow (l d : Addr) (c : Nat) (S : List Nat) (p q m0 m1 : Nat) (dn de df dr a0 a1 : Addr) (N : List Int) (g : Nat) (Bt Bm Bf B1 B2 B3 Ba : Bnd) : Row :=
  [("script", Bnd.is (.ref l)), ("tub", .own d [.int (c : Int), nats S]), ("w", .val (.int (p : Int))), ("v", .val (.int (q : Int))), ("moduli", .val (.list [.int (m0 : Int), .int (m1 : Int)])), ("turn", Bt), ("numbers", .own dn (N.map V.int)), ("number", .un),
    ("near", .own de (N.map (sgn p))), ("far", .own df (N.map (sgn q))), ("m", Bm), ("rests", .own2 dr [(a0, N.map (rv m0)), (a1, N.map (rv m1))]), ("goal", .val (.int (g : Int))), ("form", Bf), ("one", B1), ("other", B2), ("many", B3), ("at", Ba), ("size", .un), ("row", .un), ("pairs", .un), ("both", .un), ("whole", .un)]
section
variable {mg mb : Str → Option Value} {g₀ : Heap} {prog : Program} {w : World}

theorem law_turn2 (G : Gl mg mb g₀ recs) {l d L a : Addr} {cd : Value} {c : Nat} {S : List Nat} {p q m0 m1 : Nat} {dn de df dr a0 a1 : Addr} {N : List Int} {g f x y z b : Nat} {Bt Bm Ba : Bnd}
    (hp : 0 < p) (hp' : p ≤ 10) (hq : 0 < q) (hq' : q ≤ 10) (h0 : 0 < m0) (h0' : m0 ≤ 19) (h1 : 0 < m1) (h1' : m1 ≤ 19) (hN : Fit N b) (hb : 10000000 ≤ b) (hb' : 128 * b < 2 ^ 60) (hg : g < 3) (hf : f < 5) (hx : x < 3) (hy : y < 3) (hz : z < 8)
    (hff : f = 2 → (ag N x * ag N y).natAbs ≤ 1000000000) :
    ExS mg g₀ prog w (envOfC (dAt 51).name (dAt 51).scope L a cd) 20 (loopBody.drop 3) (lrow l d c S p q m0 m1 dn de df dr a0 a1 N g Bt Bm (.val (.int (f : Int))) (.val (.int (x : Int))) (.val (.int (y : Int))) (.val (.int (z : Int))) Ba)
      fun o ρ' => o = .next ∧ ∃ N' Bm' Ba', Fit N' (128 * b) ∧ ρ' = lrow l d c S p q m0 m1 dn de df dr a0 a1 N' g Bt Bm' (.val (.int (f : Int))) (.val (.int (x : Int))) (.val (.int (y : Int))) (.val (.int (z : Int))) Ba' := by
  have hbig : (2 ^ 60 : Nat) < big := by decide +kernel
  have h400 : (2 ^ 60 : Nat) < 2 ^ 400 := by decide +kernel
  have hl : N.length = 3 := hN.1
  have bx := hN.at hx
  have bY := hN.at hy
  have hdue := due_bound bx bY (show z ≤ 7 by (exact (nl (.leaf z) [(1, (.add (.var 0) (.num 1)), (.num 8))] 1 (.var 0) (.num 7) rfl hz))) hb hff
  have hxl : (ag N x).natAbs < 2 ^ 60 := by (exact (nl (.branch 1 (.leaf ((ag N x).natAbs)) (.leaf b)) [(1, (.add (.mulL 128 (.var 1)) (.num 1)), (.num (2 ^ 60))), (128, (.var 0), (.var 1))] 128 (.add (.var 0) (.num 1)) (.num (2 ^ 60)) rfl hb' bx))
  have hyl : (ag N y).natAbs < 2 ^ 60 := by (exact (nl (.branch 1 (.leaf ((ag N y).natAbs)) (.leaf b)) [(1, (.add (.mulL 128 (.var 1)) (.num 1)), (.num (2 ^ 60))), (128, (.var 0), (.var 1))] 128 (.add (.var 0) (.num 1)) (.num (2 ^ 60)) rfl hb' bY))
  unfold loopBody
  conv in List.drop _ _ => whnf
  conv in (dAt 51).scope => whnf
  unfold lrow
  -- near, far
  refine ExS.cons (Ex1.assignTup (EvV.tup (EvVs.cons (EvV.callG G def_law_done ?_))))
  fin_run
  refine ⟨_, (law_done_num G hp hp' (Nat.lt_trans hxl h400) (Nat.lt_trans hyl h400) (by (exact (nl (.leaf z) [(1, (.add (.var 0) (.num 1)), (.num 8))] 1 (.var 0) (.num 100) rfl hz))) hf).le (by decide), ?_⟩
  refine EvVs.cons (EvV.callG G def_law_done ?_)
  fin_run
  refine ⟨_, (law_done_num G hq hq' (Nat.lt_trans hxl h400) (Nat.lt_trans hyl h400) (by omega) hf).le (by decide), ?_⟩
  ((try have kq1 : 0 + 1 + 1 ≤ 100 := (nl (.leaf 0) [] 1 (.add (.add (.num 0) (.num 1)) (.num 1)) (.num 100) rfl)); fin_run; all_goals (try clear kq1))
  refine AsX.tup (AsXs.cons (AsX.subM (sgn p) (by k_memK) (by k_memK) hl hg (by k_upd) (AsXs.cons (AsX.subM (sgn q) (by k_memK) (by k_memK) hl hg (by k_upd) (AsXs.nil ?_)))))
  -- numbers
  refine ExS.cons (Ex1.setM (a := dn) (N := N) V.int hl hg (EvV.callG G def_law_due ?_))
  fin_run
  refine ⟨_, (law_due_num G hxl (by (exact (nl (.leaf z) [(1, (.add (.var 0) (.num 1)), (.num 8))] 1 (.var 0) (.num 50) rfl hz))) hf).le (by decide), _, rfl, by k_memK, by k_memK, _, by k_upd, ?_⟩
  have hN' := hN.set (i := g) hdue (by (exact (nl (.leaf b) [] 1 (.var 0) (.mulL 128 (.var 0)) rfl)))
  have hl' := hN'.1
  generalize eN : N.set g (due f (ag N x) (ag N y) z) = N' at hN' hl'
  have bg := hN'.at hg
  have ha' : ∀ n ∈ N', n.natAbs < big := fun n hn => by have := hN'.2 n hn; (exact (nl (.branch 1 (.leaf (n.natAbs)) (.branch 2 (.leaf big) (.leaf b))) [(1, (.add (.mulL 128 (.var 2)) (.num 1)), (.num (2 ^ 60))), (1, (.add (.num (2 ^ 60)) (.num 1)), (.var 1)), (1, (.var 0), (.mulL 128 (.var 2)))] 1 (.add (.var 0) (.num 1)) (.var 1) rfl hb' hbig this))
  -- the registers in least form
  refine ExS.cons (Ex1.ite (EvT.or2 (EvT.neOwn 3 (by k_memK) (Bnd.Own.own _ _) (.list signed_ok) (by decide) (EvV.ofE ?_))))
  refine comp_signed G ?cl hp hp' ha' (by (exact (nl (.leaf (N'.length)) [(1, (.var 0), (.num 3))] 1 (.var 0) (.num 100) rfl (Nat.le_of_eq hl')))) (by decide) (by k_memK) (Bnd.Own.own _ _) (by k_memK) ?hclos ?hL ?hlo ?hg (by decide +kernel) (by decide +kernel) (by decide +kernel) (by size_fits) (by decide +kernel) ?hq
  case hclos => with_unfolding_all rfl
  case hL => exact fun C => Lend.of (by size_fits) (by size_fits)
  case hlo => exact fun C => by size_fits
  case hg => exact fun C => by size_fits
  intro d1
  refine ⟨_, .own _ _, by k_memK, rfl, ?_⟩
  rw [if_neg (by decide)]
  refine EvT.neOwn 3 (by k_memK) (Bnd.Own.own _ _) (.list signed_ok) (by decide) (EvV.ofE ?_)
  refine comp_signed G ?cl2 hq hq' ha' (by omega) (by decide) (by k_memK) (Bnd.Own.own _ _) (by k_memK) ?hclos2 ?hL2 ?hlo2 ?hg2 (by decide +kernel) (by decide +kernel) (by decide +kernel) (by size_fits) (by decide +kernel) ?hq2
  case hclos2 => with_unfolding_all rfl
  case hL2 => exact fun C => Lend.of (by size_fits) (by size_fits)
  case hlo2 => exact fun C => by size_fits
  case hg2 => exact fun C => by size_fits
  intro d2
  refine ⟨_, .own _ _, by k_memK, rfl, ?_⟩
  rw [if_neg (by decide)]
  refine ExS.nil ?_
  -- the rests
  refine ExS.cons (Ex1.forRuns (EvI.enum G (EvV.name (by k_memK) ⟨_, rfl, ?_⟩)))
  rw [show enumV [V.int (m0 : Int), V.int (m1 : Int)] = [.tup [.int ((0 : Nat) : Int), .int (m0 : Int)], .tup [.int ((1 : Nat) : Int), .int (m1 : Int)]] from rfl]
  refine AsX.two (by k_upd) (by k_upd) ?_
  refine ExS.cons (Ex1.setRow2 (a := dr) (N := N) (N2 := N') (b := a0) (n := 0) (rows := [(a0, N.map (rv m0)), (a1, N.map (rv m1))]) (rows2 := [(a0, N'.map (rv m0)), (a1, N.map (rv m1))]) (rv m0) rfl rfl (by show 2 < _; decide) hl hg (EvV.bin (EvV.callG G def_law_due ?_)))
  refine EvVs.cons (EvV.name (by k_memK) (EvVs.cons (EvV.row2 (rv m0) (N := N) (n := 0) (by k_memK) (by k_memK) (by k_memK) rfl (by show 2 < _; decide) hl hx ?_)))
  refine EvVs.cons (EvV.row2 (rv m0) (N := N) (n := 0) (by k_memK) (by k_memK) (by k_memK) rfl (by show 2 < _; decide) hl hy ?_)
  fin_run
  refine ⟨_, (law_due_num G (by rw [Int.natAbs_natCast]; have := @rs_lt m0 (ag N x) h0; (exact (nl (.branch 1 (.leaf (rs m0 (ag N x))) (.leaf m0)) [(1, (.var 1), (.num 19)), (1, (.add (.var 0) (.num 1)), (.var 1))] 1 (.add (.var 0) (.num 1)) (.num (2 ^ 60)) rfl h0' this))) (by (exact (nl (.leaf z) [(1, (.add (.var 0) (.num 1)), (.num 8))] 1 (.var 0) (.num 50) rfl hz))) hf).le (by decide), _, rfl, EvV.name (by k_memK) ⟨_, rfl, _, .mod (by lia), due f (ag N x) (ag N y) z, by rw [Int.fmod_eq_emod_of_nonneg _ (by (clear ha' bg hl' hN' eN hyl hxl hdue bY bx hl h400 hbig hff hz hy hx hf hg hb' hb hN h1' h1 h0' h0 hq' hq hp' hp G; lia)), due_rs h0]; rfl, by k_memK, by k_memK, by k_memK, eN, _, by k_upd, ?_⟩⟩
  refine ExS.cons (Ex1.ite (EvT.neSame 1 (EvV.callG G def_s_mod (EvVs.cons (EvV.itemOwn (Bnd.Own.own _ _) (by k_memK) (EvV.name (by k_memK) ⟨by k_memK, up_ag (f := sgn p) hl' hg ?_⟩))))))
  refine EvVs.cons (EvV.callG G def_law_signed ?_)
  fin_run
  refine ⟨_, (law_signed_num G hp hp' (by rw [Int.natAbs_natCast]; (exact Nat.lt_of_le_of_lt (by assumption) (by decide)))).le (by decide), ?_⟩
  refine EvVs.cons (EvV.name (by k_memK) (EvVs.cons (EvV.fnName G def_divrem_school (EvVs.nil ?_))))
  refine ⟨_, (s_mod_num G hp hp' (by (exact (nl (.branch 1 (.leaf ((ag N' g).natAbs)) (.branch 2 (.leaf big) (.leaf b))) [(1, (.add (.mulL 128 (.var 2)) (.num 1)), (.num (2 ^ 60))), (1, (.add (.num (2 ^ 60)) (.num 1)), (.var 1)), (1, (.var 0), (.mulL 128 (.var 2)))] 1 (.add (.var 0) (.num 1)) (.var 1) rfl hb' hbig bg))) (by (exact (nl (.branch 1 (.leaf m0) (.leaf big)) [(2, (.var 0), (.num 19)), (1, (.add (.num (2 ^ 60)) (.num 1)), (.var 1))] 1 (.add (.add (.var 0) (.var 0)) (.num 1)) (.var 1) rfl h0' hbig))) h0).le (by decide), ?_⟩
  refine EvV.callG G def_law_limbs (EvVs.cons (EvV.row2 (rv m0) (N := N') (n := 0) (by k_memK) (by k_memK) (by k_memK) rfl (by show 2 < _; decide) hl' hg ?_))
  refine EvVs.cons (EvV.name (by k_memK) (EvVs.nil ⟨_, (law_limbs_num (n := rs m0 (ag N' g)) G hp hp' (by have := @rs_lt m0 (ag N' g) h0; (exact (nl (.branch 1 (.leaf (rs m0 (ag N' g))) (.branch 2 (.leaf big) (.leaf m0))) [(1, (.var 2), (.num 19)), (1, (.add (.num (2 ^ 60)) (.num 1)), (.var 1)), (1, (.add (.var 0) (.num 1)), (.var 2))] 1 (.add (.var 0) (.num 1)) (.var 1) rfl h0' hbig this)))).le (by decide), rfl, .list nats_ok, by decide, ?_⟩))
  rw [if_neg (by decide)]
  refine ExS.nil ?_
  refine ExS.nil ?_
  refine AsX.two (by k_upd) (by k_upd) ?_
  refine ExS.cons (Ex1.setRow2 (a := dr) (N := N) (N2 := N') (b := a1) (n := 1) (rows := [(a0, N'.map (rv m0)), (a1, N.map (rv m1))]) (rows2 := [(a0, N'.map (rv m0)), (a1, N'.map (rv m1))]) (rv m1) rfl rfl (by show 2 < _; decide) hl hg (EvV.bin (EvV.callG G def_law_due ?_)))
  refine EvVs.cons (EvV.name (by k_memK) (EvVs.cons (EvV.row2 (rv m1) (N := N) (n := 1) (by k_memK) (by k_memK) (by k_memK) rfl (by show 2 < _; decide) hl hx ?_)))
  refine EvVs.cons (EvV.row2 (rv m1) (N := N) (n := 1) (by k_memK) (by k_memK) (by k_memK) rfl (by show 2 < _; decide) hl hy ?_)
  fin_run
  refine ⟨_, (law_due_num G (by rw [Int.natAbs_natCast]; have := @rs_lt m1 (ag N x) h1; (exact (nl (.branch 1 (.leaf (rs m1 (ag N x))) (.leaf m1)) [(1, (.var 1), (.num 19)), (1, (.add (.var 0) (.num 1)), (.var 1))] 1 (.add (.var 0) (.num 1)) (.num (2 ^ 60)) rfl h1' this))) (by omega) hf).le (by decide), _, rfl, EvV.name (by k_memK) ⟨_, rfl, _, .mod (by lia), due f (ag N x) (ag N y) z, by rw [Int.fmod_eq_emod_of_nonneg _ (by (clear ha' bg hl' hN' eN hyl hxl hdue bY bx hl h400 hbig hff hz hy hx hf hg hb' hb hN h1' h1 h0' h0 hq' hq hp' hp G; lia)), due_rs h1]; rfl, by k_memK, by k_memK, by k_memK, eN, _, by k_upd, ?_⟩⟩
  refine ExS.cons (Ex1.ite (EvT.neSame 1 (EvV.callG G def_s_mod (EvVs.cons (EvV.itemOwn (Bnd.Own.own _ _) (by k_memK) (EvV.name (by k_memK) ⟨by k_memK, up_ag (f := sgn p) hl' hg ?_⟩))))))
  refine EvVs.cons (EvV.callG G def_law_signed ?_)
  fin_run
  refine ⟨_, (law_signed_num G hp hp' (by rw [Int.natAbs_natCast]; (exact Nat.lt_of_le_of_lt (by assumption) (by decide)))).le (by decide), ?_⟩
  refine EvVs.cons (EvV.name (by k_memK) (EvVs.cons (EvV.fnName G def_divrem_school (EvVs.nil ?_))))
  refine ⟨_, (s_mod_num G hp hp' (by omega) (by (exact (nl (.branch 1 (.leaf m1) (.leaf big)) [(2, (.var 0), (.num 19)), (1, (.add (.num (2 ^ 60)) (.num 1)), (.var 1))] 1 (.add (.add (.var 0) (.var 0)) (.num 1)) (.var 1) rfl h1' hbig))) h1).le (by decide), ?_⟩
  refine EvV.callG G def_law_limbs (EvVs.cons (EvV.row2 (rv m1) (N := N') (n := 1) (by k_memK) (by k_memK) (by k_memK) rfl (by show 2 < _; decide) hl' hg ?_))
  refine EvVs.cons (EvV.name (by k_memK) (EvVs.nil ⟨_, (law_limbs_num (n := rs m1 (ag N' g)) G hp hp' (by have := @rs_lt m1 (ag N' g) h1; (exact (nl (.branch 1 (.leaf (rs m1 (ag N' g))) (.branch 2 (.leaf big) (.leaf m1))) [(1, (.var 2), (.num 19)), (1, (.add (.num (2 ^ 60)) (.num 1)), (.var 1)), (1, (.add (.var 0) (.num 1)), (.var 2))] 1 (.add (.var 0) (.num 1)) (.var 1) rfl h1' hbig this)))).le (by decide), rfl, .list nats_ok, by decide, ?_⟩))
  rw [if_neg (by decide)]
  refine ExS.nil ?_
  refine ExS.nil ?_
  refine ExS.nil ⟨rfl, N', _, _, hN', rfl⟩
end
end
section
section
variable {mg mb : Str → Option Value} {g₀ : Heap} {prog : Program} {w : World}

theorem law_turn (G : Gl mg mb g₀ recs) {l d L a : Addr} {cd : Value} {c : Nat} {S : List Nat} {p q m0 m1 : Nat} {dn de df dr a0 a1 : Addr} {N : List Int} {g b : Nat} {Bt Bm Bf B1 B2 B3 Ba : Bnd}
    (hc : c < 2 ^ 30) (hS : S.length < 2 ^ 40)
    (hp : 0 < p) (hp' : p ≤ 10) (hq : 0 < q) (hq' : q ≤ 10) (h0 : 0 < m0) (h0' : m0 ≤ 19) (h1 : 0 < m1) (h1' : m1 ≤ 19) (hN : Fit N b) (hb : 10000000 ≤ b) (hb' : 128 * b < 2 ^ 60) :
    ExS mg g₀ prog w (envOfC (dAt 51).name (dAt 51).scope L a cd) 20 loopBody (lrow l d c S p q m0 m1 dn de df dr a0 a1 N g Bt Bm Bf B1 B2 B3 Ba)
      fun o ρ' => o = .next ∧ ∃ N' g' Bm' Bf' B1' B2' B3' Ba', g' < 3 ∧ Fit N' (128 * b) ∧ ρ' = lrow l d (c + 5) S p q m0 m1 dn de df dr a0 a1 N' g' Bt Bm' Bf' B1' B2' B3' Ba' := by
  have hl : N.length = 3 := hN.1
  have tail : ∀ {g f x y z : Nat}, g < 3 → f < 5 → x < 3 → y < 3 → z < 8 → (f = 2 → (ag N x * ag N y).natAbs ≤ 1000000000) →
      ExS mg g₀ prog w (envOfC (dAt 51).name (dAt 51).scope L a cd) 20 (loopBody.drop 3) (lrow l d (c + 5) S p q m0 m1 dn de df dr a0 a1 N g Bt Bm (.val (.int (f : Int))) (.val (.int (x : Int))) (.val (.int (y : Int))) (.val (.int (z : Int))) Ba)
        fun o ρ' => o = .next ∧ ∃ N' g' Bm' Bf' B1' B2' B3' Ba', g' < 3 ∧ Fit N' (128 * b) ∧ ρ' = lrow l d (c + 5) S p q m0 m1 dn de df dr a0 a1 N' g' Bt Bm' Bf' B1' B2' B3' Ba' := by
    intro g f x y z hg hf hx hy hz hff
    refine (law_turn2 G hp hp' hq hq' h0 h0' h1 h1' hN hb hb' hg hf hx hy hz hff).mono ?_
    intro o ρ' hI1
    refine hideG fun gHid hHid => ?_
    obtain ⟨rfl, N', Bm', Ba', hN', rfl⟩ := hI1
    refine hHid ?_; clear hHid gHid
    exact ⟨rfl, N', g, Bm', _, _, _, _, Ba', hg, hN', rfl⟩
  conv in loopBody => whnf
  conv in (dAt 51).scope => whnf
  unfold lrow
  refine ExS.cons (Ex1.assignTup (EvV.tup (EvVs.cons (EvV.sift (c := c) (M := 5) (S := S) (d := d) G (by (exact Nat.lt_of_lt_of_le (by assumption) (by decide))) hS (by decide) rfl (by k_memK) (by decide) fun f hf => ⟨_, by k_upd, ?_⟩))))
  refine EvVs.cons (EvV.sift (c := c + 1) (M := 3) (S := S) (d := d) G (by (exact Nat.lt_of_le_of_lt (by assumption) (by decide))) hS (by decide) rfl (by k_memK) (by decide) fun g hg => ⟨_, by k_upd, ?_⟩)
  refine EvVs.cons (EvV.sift (c := c + 1 + 1) (M := 3) (S := S) (d := d) G (by (exact (nl (.leaf c) [(1, (.add (.var 0) (.num 1)), (.num (2 ^ 30)))] 1 (.add (.add (.add (.var 0) (.num 1)) (.num 1)) (.num 1)) (.num (2 ^ 40)) rfl hc))) hS (by decide) rfl (by k_memK) (by decide) fun x hx => ⟨_, by k_upd, ?_⟩)
  refine EvVs.nil ⟨by simp, ?_⟩
  refine AsX.tup (AsXs.cons (AsX.name (by k_upd) (AsXs.cons (AsX.name (by k_upd) (AsXs.cons (AsX.name (by k_upd) (AsXs.nil ?_)))))))
  refine ExS.cons (Ex1.assignSwap (names := ["other", "many"]) (EvBs.cons (EvE.ofV (EvV.sift (c := c + 1 + 1 + 1) (M := 3) (S := S) (d := d) G (by (exact (nl (.leaf c) [(1, (.add (.var 0) (.num 1)), (.num (2 ^ 30)))] 1 (.add (.add (.add (.add (.var 0) (.num 1)) (.num 1)) (.num 1)) (.num 1)) (.num (2 ^ 40)) rfl hc))) hS (by decide) rfl (by k_memK) (by decide) fun y hy => ⟨_, by k_upd, ?_⟩))))
  refine EvBs.cons (EvE.ofV (EvV.sift (c := c + 1 + 1 + 1 + 1) (M := 8) (S := S) (d := d) G (by (exact (nl (.leaf c) [(1, (.add (.var 0) (.num 1)), (.num (2 ^ 30)))] 1 (.add (.add (.add (.add (.add (.var 0) (.num 1)) (.num 1)) (.num 1)) (.num 1)) (.num 1)) (.num (2 ^ 40)) rfl hc))) hS (by decide) rfl (by k_memK) (by decide) fun z hz => ⟨_, by k_upd, ?_⟩))
  refine EvBs.nil ⟨rfl, by simp, _, Upds.cons (by k_upd) (Upds.cons (by k_upd) Upds.nil), ?_⟩
  refine ExS.cons (Ex1.ite (EvT.and2 (EvT.cmp ?_)))
  fin_run
  refine ifd (fun h2 => ?_) (fun h2 => ?_)
  · refine EvT.cmp (EvV.abs G (EvV.bin ?_))
    fin_run
    refine up_ag (f := V.int) hl hx ⟨_, rfl, ?_⟩
    fin_run
    refine up_ag (f := V.int) hl hy ⟨_, rfl, ?_⟩
    refine up_mulI (.inl (by have := hN.at hx; (exact (nl (.branch 1 (.leaf ((ag N x).natAbs)) (.leaf b)) [(1, (.add (.mulL 128 (.var 1)) (.num 1)), (.num (2 ^ 60))), (128, (.var 0), (.var 1))] 128 (.add (.var 0) (.num 1)) (.num (2 ^ 64)) rfl hb' this)))) ⟨_, rfl, ?_⟩
    ((try have kq1 : 9 ≤ 1000000 := (nl (.leaf 0) [] 1 (.num 9) (.num 1000000) rfl)); (try have kq2 : 10 < 2 ^ 60 := (nl (.leaf 0) [] 1 (.add (.num 10) (.num 1)) (.num (2 ^ 60)) rfl)); fin_run; all_goals (try clear kq1 kq2))
    refine ifd (fun h3 => ?_) (fun h3 => ?_)
    · isplit; fin_run
      refine ExS.nil ?_
      exact tail hg (f := 1) (by decide) hx hy hz (fun h => absurd h (by decide))
    · refine ExS.nil ?_
      have h4 : (10 ^ 9 : Nat) = 1000000000 := by decide
      rw [h4] at h3
      exact tail hg hf hx hy hz (fun _ => by split at h3 <;> (first | (clear h4 h2 hz hy hx hg hf tail hl hb' hb hN h1' h1 h0' h0 hq' hq hp' hp hS hc G; (first | omega | lia)) | lia))
  · rw [if_neg (by decide)]
    exact ExS.nil (tail hg hf hx hy hz (fun h => absurd h h2))
end
end
section
-- a line of our own: closed facts about scopes and cells (borrows the name size_fits)
local macro_rules | `(tactic| size_fits) => `(tactic| first
  | exact True.intro
  | (with_unfolding_all exact rfl)
  | (with_unfolding_all exact Or.inl rfl)
  | (with_unfolding_all exact Or.inr rfl)
  | (apply And.intro <;> size_fits))
local macro_rules | `(tactic| got_up) => `(tactic| with_reducible (apply up_ag; (case hN => assumption); (case hi => assumption)))
/-- the turns of law's last loop -/
def sideBody : List Stmt := match (dAt 51).body.getD 7 (.Pass ⟨0, 0, 0, 0⟩) with
  | .For _ _ b _ _ => b
  | _ => []
def srow (X1 X2 X3 X4 : Bnd) (m0 m1 : Nat) (X5 X6 X7 X8 X9 X10 : Bnd) (dr a0 a1 : Addr) (N : List Int) (g : Nat) (Y1 Y2 Y3 Y4 Y5 : Bnd) (v : Nat) (Z1 Z2 Z3 : Bnd) : Row :=
  [("script", X1), ("tub", X2), ("w", X3), ("v", X4), ("moduli", .val (.list [.int (m0 : Int), .int (m1 : Int)])), ("turn", X5), ("numbers", X6), ("number", X7),
    ("near", X8), ("far", X9), ("m", X10), ("rests", .own2 dr [(a0, N.map (rv m0)), (a1, N.map (rv m1))]), ("goal", .val (.int (g : Int))), ("form", Y1), ("one", Y2), ("other", Y3), ("many", Y4), ("at", Y5), ("size", .val (.int (v : Int))), ("row", .val (.list (N.map (sgn v)))), ("pairs", Z1), ("both", Z2), ("whole", Z3)]
section
variable {mg mb : Str → Option Value} {g₀ : Heap} {prog : Program} {w : World}

theorem law_side (G : Gl mg mb g₀ recs) {L a : Addr} {cd : Value} {v m0 m1 : Nat} {dr a0 a1 : Addr} {N : List Int} {g b : Nat} {X1 X2 X3 X4 X5 X6 X7 X8 X9 X10 Y1 Y2 Y3 Y4 Y5 Z1 Z2 Z3 : Bnd}
    (hv : 0 < v) (hv' : v ≤ 10) (h0 : 2 ≤ m0) (h0' : m0 ≤ 19) (h1 : 2 ≤ m1) (h1' : m1 ≤ 19) (hco : Nat.gcd m0 m1 = 1) (hN : Fit N b) (hb' : b < 2 ^ 60) (hg : g < 3) :
    ExS mg g₀ prog w (envOfC (dAt 51).name (dAt 51).scope L a cd) 20 sideBody (srow X1 X2 X3 X4 m0 m1 X5 X6 X7 X8 X9 X10 dr a0 a1 N g Y1 Y2 Y3 Y4 Y5 v Z1 Z2 Z3)
      fun o ρ' => o = .next ∧ ∃ X7' Z1' Z2' Z3', ρ' = srow X1 X2 X3 X4 m0 m1 X5 X6 X7' X8 X9 X10 dr a0 a1 N g Y1 Y2 Y3 Y4 Y5 v Z1' Z2' Z3' := by
  have hl : N.length = 3 := hN.1
  have hbig : (2 ^ 60 : Nat) < big := by decide +kernel
  have hM : m0 * m1 ≤ 19 * 19 := Nat.mul_le_mul h0' h1'
  have hM0 : 0 < m0 * m1 := Nat.mul_pos (by (exact Nat.le_of_lt (by assumption))) (by (exact Nat.le_of_lt (by assumption)))
  have r0 := @rs_lt m0 (ag N g) (by (exact Nat.le_of_lt (by assumption)))
  have r1 := @rs_lt m1 (ag N g) (by (exact Nat.le_of_lt (by assumption)))
  refine hideG fun gHid hHid => ?_
  obtain ⟨C, lC, e0, e1, hC⟩ := chinese_two (prog := prog) (w := w) G hv hv' h0 h1 (by (exact Nat.le_trans (by assumption) (by decide))) (by (exact Nat.le_trans (by assumption) (by decide))) r0 r1 hco
  refine hHid ?_; clear hHid gHid
  have eC : C = rs (m0 * m1) (ag N g) := crt_one hco lC (rs_lt hM0) (by rw [e0, rs_rs (by (exact Nat.le_of_lt (by assumption))) hM0 (Nat.dvd_mul_right ..)]) (by rw [e1, rs_rs (by (exact Nat.le_of_lt (by assumption))) hM0 (Nat.dvd_mul_left ..)])
  conv in sideBody => whnf
  conv in (dAt 51).scope => whnf
  unfold srow
  refine ExS.cons (ex_assignComp ?cl ?h ?hsw ?hclos)
  case hsw => with_unfolding_all rfl
  case hclos => with_unfolding_all rfl
  case h =>
    refine EvI.up1 G (EvV.int2 ⟨_, rfl, by decide, ?_⟩)
    rw [show rngN 0 2 = [.int ((0 : Nat) : Int), .int ((1 : Nat) : Int)] from rfl]
    refine Turning.runs (by simp) ["at"] ["moduli", "rests", "goal", "size"] [("moduli", .val (.list [.int (m0 : Int), .int (m1 : Int)])), ("rests", .own2 dr [(a0, N.map (rv m0)), (a1, N.map (rv m1))]), ("goal", .val (.int (g : Int))), ("size", .val (.int (v : Int)))] rfl (fun C => Lend.of (by size_fits) (by size_fits)) (by repeat (first | exact List.Sublist.slnil | apply List.Sublist.cons_cons | apply List.Sublist.cons)) (fun C => AllP.mem (by size_fits)) (by decide +kernel) (by decide +kernel) (fun C => ?_)
    change CompRuns _ _ _ _ _ _ _ _ _ _ _ [("at", Bnd.un), ("moduli", .val (.list [.int (m0 : Int), .int (m1 : Int)])), ("rests", .own2 dr [(a0, N.map (rv m0)), (a1, N.map (rv m1))]), ("goal", .val (.int (g : Int))), ("size", .val (.int (v : Int)))]
    refine AsX.name (by k_upd) ?_
    refine EvV.tup (EvVs.cons (EvV.callG G def_law_limbs (EvVs.cons (EvV.row2 (rv m0) (N := N) (n := 0) (by k_memK) (by k_memK) (by k_memK) rfl (by show 2 < _; decide) hl hg ?_))))
    refine EvVs.cons (EvV.name (by k_memK) (EvVs.nil ⟨_, (law_limbs_num (n := rs m0 (ag N g)) G hv hv' (by (exact (nl (.branch 1 (.leaf (rs m0 (ag N g))) (.branch 2 (.leaf big) (.leaf m0))) [(1, (.var 2), (.num 19)), (1, (.add (.num (2 ^ 60)) (.num 1)), (.var 1)), (1, (.add (.var 0) (.num 1)), (.var 2))] 1 (.add (.var 0) (.num 1)) (.var 1) rfl h0' hbig r0)))).le (by decide), ?_⟩))
    refine EvVs.cons (EvV.callG G def_law_limbs ?_)
    fin_run
    refine ⟨_, (law_limbs_num (n := m0) G hv hv' (by (exact Nat.lt_of_le_of_lt (by assumption) (by decide)))).le (by decide), ?_⟩
    ((try have kq1 : 0 + 1 + 1 ≤ 100 := (nl (.leaf 0) [] 1 (.add (.add (.num 0) (.num 1)) (.num 1)) (.num 100) rfl)); fin_run; all_goals (try clear kq1))
    refine AsX.name (by k_upd) ?_
    refine EvV.tup (EvVs.cons (EvV.callG G def_law_limbs (EvVs.cons (EvV.row2 (rv m1) (N := N) (n := 1) (by k_memK) (by k_memK) (by k_memK) rfl (by show 2 < _; decide) hl hg ?_))))
    refine EvVs.cons (EvV.name (by k_memK) (EvVs.nil ⟨_, (law_limbs_num (n := rs m1 (ag N g)) G hv hv' (by (exact (nl (.branch 1 (.leaf (rs m1 (ag N g))) (.branch 2 (.leaf big) (.leaf m1))) [(1, (.var 2), (.num 19)), (1, (.add (.num (2 ^ 60)) (.num 1)), (.var 1)), (1, (.add (.var 0) (.num 1)), (.var 2))] 1 (.add (.var 0) (.num 1)) (.var 1) rfl h1' hbig r1)))).le (by decide), ?_⟩))
    refine EvVs.cons (EvV.callG G def_law_limbs ?_)
    fin_run
    refine ⟨_, (law_limbs_num (n := m1) G hv hv' (by (exact Nat.lt_of_le_of_lt (by assumption) (by decide)))).le (by decide), ?_⟩
    fin_run
    refine fun hk => ⟨_, Back.same (ρf := [("moduli", .val (.list [.int (m0 : Int), .int (m1 : Int)])), ("rests", .own2 dr [(a0, N.map (rv m0)), (a1, N.map (rv m1))]), ("goal", .val (.int (g : Int))), ("size", .val (.int (v : Int)))]) hk rfl (by repeat (first | exact List.Sublist.slnil | apply List.Sublist.cons_cons | apply List.Sublist.cons)) (AllP.mem ⟨by k_memK, by k_memK, by k_memK, by k_memK, trivial⟩), fun d3 => ⟨_, by k_upd, ?_⟩⟩
    -- number, both
    refine ExS.cons (Ex1.assignTup (EvV.callG G def_chinese ?_))
    fin_run
    refine EvV.fnName G def_mul_school ?_
    fin_run
    refine EvV.fnName G def_divrem_school ?_
    fin_run
    refine EvV.fnName G def_law_inverse ?_
    fin_run
    refine ⟨_, hC.le (by decide), ?_⟩
    refine AsX.two (by k_upd) (by k_upd) ?_
    -- whole
    refine ExS.cons (Ex1.assignV (EvV.callG G def_law_signed (EvVs.cons (EvV.bin ?_))))
    fin_run
    refine ⟨_, (law_signed_num (i := ((m0 * m1 : Nat) : Int)) G hv hv' (by rw [Int.natAbs_natCast]; (exact Nat.lt_of_le_of_lt (by assumption) (by decide)))).le (by decide), ?_⟩
    fin_run
    refine ExS.cons (Ex1.ite (EvT.or2 (EvT.neSame 1 ?_)))
    fin_run
    refine ⟨by rw [Int.natAbs_natCast], .list nats_ok, by decide, ?_⟩
    rw [if_neg (by decide)]
    refine EvT.neSame 1 (EvV.name (by k_memK) (EvV.callG G def_s_mod (EvVs.cons (EvV.item (EvV.name (by k_memK) ⟨_, .inl rfl, EvV.name (by k_memK) (up_ag (f := sgn v) hl hg ?_)⟩)))))
    refine EvVs.cons (EvV.name (by k_memK) (EvVs.cons (EvV.name (by k_memK) (EvVs.cons (EvV.fnName G def_divrem_school (EvVs.nil ?_))))))
    refine ⟨_, (s_mod_num (m := m0 * m1) (i := ag N g) G hv hv' (by have := hN.at hg; (exact (nl (.branch 1 (.leaf ((ag N g).natAbs)) (.branch 2 (.leaf big) (.leaf b))) [(1, (.add (.var 2) (.num 1)), (.num (2 ^ 60))), (1, (.add (.num (2 ^ 60)) (.num 1)), (.var 1)), (1, (.var 0), (.var 2))] 1 (.add (.var 0) (.num 1)) (.var 1) rfl hb' hbig this))) (by (exact (nl (.branch 1 (.leaf (m0 * m1)) (.leaf big)) [(1, (.add (.num (2 ^ 60)) (.num 1)), (.var 1)), (2, (.var 0), (.mulL 19 (.num 19)))] 1 (.add (.add (.var 0) (.var 0)) (.num 1)) (.var 1) rfl hbig hM))) hM0).le (by decide), ?_⟩
    refine ⟨by rw [eC]; rfl, .list nats_ok, by decide, ?_⟩
    rw [if_neg (by decide)]
    exact ExS.nil (ExS.nil ⟨rfl, _, _, _, _, rfl⟩)
end
end
section
section
variable {mg mb : Str → Option Value} {g₀ : Heap} {prog : Program} {w : World}

theorem law_end (G : Gl mg mb g₀ recs) {l d L a : Addr} {cd : Value} {c : Nat} {S : List Nat} {p q m0 m1 : Nat} {dn de df dr a0 a1 : Addr} {N : List Int} {g b : Nat} {Bt Bm Bf B1 B2 B3 Ba : Bnd}
    (hp : 0 < p) (hp' : p ≤ 10) (hq : 0 < q) (hq' : q ≤ 10) (h0 : 2 ≤ m0) (h0' : m0 ≤ 19) (h1 : 2 ≤ m1) (h1' : m1 ≤ 19) (hco : Nat.gcd m0 m1 = 1) (hN : Fit N b) (hb' : b < 2 ^ 60) (hg : g < 3) :
    ExS mg g₀ prog w (envOfC (dAt 51).name (dAt 51).scope L a cd) 20 ((dAt 51).body.drop 7) (lrow l d c S p q m0 m1 dn de df dr a0 a1 N g Bt Bm Bf B1 B2 B3 Ba) fun o _ => o = .ret (.bool true) := by
  conv in List.drop _ _ => whnf
  conv in (dAt 51).scope => whnf
  unfold lrow
  refine ExS.cons (Ex1.forRuns (EvI.tuple (EvV.tup (EvVs.cons (EvV.tup ?_)))))
  ((try have kq1 : 0 + 1 + 1 ≤ 100 := (nl (.leaf 0) [] 1 (.add (.add (.num 0) (.num 1)) (.num 1)) (.num 100) rfl)); fin_run; all_goals (try clear kq1))
  refine AsX.two (by k_upd) (by k_upd) ?_
  refine ExS.mono (law_side (N := N) (g := g) (b := b) G hp hp' h0 h0' h1 h1' hco hN hb' hg) ?_
  intro o ρ' hI1
  refine hideG fun gHid hHid => ?_
  obtain ⟨rfl, X7', Z1', Z2', Z3', rfl⟩ := hI1
  refine hHid ?_; clear hHid gHid
  unfold srow
  refine AsX.two (by k_upd) (by k_upd) ?_
  refine ExS.mono (law_side (N := N) (g := g) (b := b) G hq hq' h0 h0' h1 h1' hco hN hb' hg) ?_
  intro o ρ' hI1
  refine hideG fun gHid hHid => ?_
  obtain ⟨rfl, X7'', Z1'', Z2'', Z3'', rfl⟩ := hI1
  refine hHid ?_; clear hHid gHid
  refine ExS.cons (Ex1.ret (EvV.bool rfl))
end
end
section
section
variable {mg mb : Str → Option Value} {g₀ : Heap} {prog : Program} {w : World}

theorem law_mid (G : Gl mg mb g₀ recs) {l d L a : Addr} {cd : Value} {c : Nat} {S : List Nat} {p q m0 m1 : Nat} {dn de df dr a0 a1 : Addr} {N : List Int} {Bt Bm Bf B1 B2 B3 Ba : Bnd} (hc : c < 2 ^ 20) (hS : S.length < 2 ^ 40)
    (hp : 0 < p) (hp' : p ≤ 10) (hq : 0 < q) (hq' : q ≤ 10) (h0 : 2 ≤ m0) (h0' : m0 ≤ 19) (h1 : 2 ≤ m1) (h1' : m1 ≤ 19) (hco : Nat.gcd m0 m1 = 1) (hN : Fit N 10000000) :
    ExS mg g₀ prog w (envOfC (dAt 51).name (dAt 51).scope L a cd) 20 ((dAt 51).body.drop 6) (lrow l d c S p q m0 m1 dn de df dr a0 a1 N 0 Bt Bm Bf B1 B2 B3 Ba) fun o _ => o = .ret (.bool true) := by
  conv in List.drop _ _ => whnf
  conv in (dAt 51).scope => whnf
  unfold lrow
  refine ExS.cons (Ex1.for (EvI.up1 G (EvV.bin (EvV.int2 ⟨_, rfl, ?_⟩))))
  refine EvV.sift (c := c) (M := 4) (S := S) (d := d) G (by (exact Nat.lt_of_lt_of_le (by assumption) (by decide))) hS (by decide) rfl (by k_memK) (by decide) fun t ht => ⟨_, by k_upd, ?_⟩
  refine ⟨_, rfl, up_addN ⟨_, rfl, by (exact (nl (.leaf t) [(1, (.add (.var 0) (.num 1)), (.num 4))] 1 (.add (.add (.num 2) (.var 0)) (.num 1)) (.num (2 ^ 60)) rfl ht)), ?_⟩⟩
  refine ⟨fun i ρ => ∃ N' g' Bt' Bm' Bf' B1' B2' B3' Ba', g' < 3 ∧ Fit N' (10000000 * 128 ^ i) ∧ ρ = lrow l d (c + 1 + 5 * i) S p q m0 m1 dn de df dr a0 a1 N' g' Bt' Bm' Bf' B1' B2' B3' Ba', ?_, ?_, ?_⟩
  · exact ⟨N, 0, _, _, _, _, _, _, _, by decide, by simpa using hN, rfl⟩
  · intro i X ρ2 hX hI1
    refine step_hide fun K hK => ?_
    refine el_9_3 hI1 ?_
    intro N' g' Bt' Bm' Bf' B1' B2' B3' Ba' hg' hN' hρ2
    clear hI1
    subst hρ2
    refine hideG fun gHid hHid => ?_
    obtain ⟨hi, rfl⟩ := rngN_get hX
    refine hHid ?_; clear hHid gHid
    have hb := Nat.pow_pos (n := i) (show 0 < 128 by decide)
    have hb4 := Nat.pow_le_pow_right (show 128 > 0 by decide) (show i ≤ 4 by (exact (nl (.branch 1 (.leaf i) (.leaf t)) [(1, (.add (.var 1) (.num 1)), (.num 4)), (1, (.add (.var 0) (.num 1)), (.add (.num 2) (.var 1)))] 1 (.var 0) (.num 4) rfl ht hi)))
    unfold lrow
    refine AsX.name (by k_upd) ?_
    refine ExS.mono (law_turn (c := c + 1 + 5 * i) (N := N') (g := g') (b := 10000000 * 128 ^ i) G (by (exact (nl (.branch 1 (.leaf c) (.branch 2 (.leaf i) (.leaf t))) [(1, (.add (.var 0) (.num 1)), (.num (2 ^ 20))), (5, (.add (.var 2) (.num 1)), (.num 4)), (5, (.add (.var 1) (.num 1)), (.add (.num 2) (.var 2)))] 1 (.add (.add (.add (.var 0) (.num 1)) (.mulL 5 (.var 1))) (.num 1)) (.num (2 ^ 30)) rfl hc ht hi))) hS hp hp' hq hq' (by (exact Nat.le_of_lt (by assumption))) h0' (by (exact Nat.le_of_lt (by assumption))) h1' hN' (by (exact (nl (.leaf (128 ^ i)) [(10000000, (.add (.num 0) (.num 1)), (.var 0))] 1 (.num 10000000) (.mulL 10000000 (.var 0)) rfl hb))) (by (exact (nl (.leaf (128 ^ i)) [(1280000000, (.var 0), (.num (128 ^ 4)))] 1 (.add (.mulL 128 (.mulL 10000000 (.var 0))) (.num 1)) (.num (2 ^ 60)) rfl hb4)))) ?_
    intro o ρ' hI1
    refine hideG fun gHid hHid => ?_
    obtain ⟨rfl, N2, g2, Bm2, Bf2, B12, B22, B32, Ba2, hg2, hN2, rfl⟩ := hI1
    refine hHid ?_; clear hHid gHid
    exact hK _ _ ⟨N2, g2, _, Bm2, Bf2, B12, B22, B32, Ba2, hg2, by rw [Nat.pow_succ, show 10000000 * (128 ^ i * 128) = 128 * (10000000 * 128 ^ i) by (exact (Nat.le_antisymm (nl (.leaf (128 ^ i)) [] 1 (.mulL 10000000 (.mulR (.var 0) 128)) (.mulL 128 (.mulL 10000000 (.var 0))) rfl) (nl (.leaf (128 ^ i)) [] 1 (.mulL 128 (.mulL 10000000 (.var 0))) (.mulL 10000000 (.mulR (.var 0) 128)) rfl)))]; exact hN2, by rw [show c + 1 + 5 * (i + 1) = c + 1 + 5 * i + 5 by rfl]⟩
  · intro ρ2 hI1
    refine el_9_3 hI1 ?_
    intro N' g' Bt' Bm' Bf' B1' B2' B3' Ba' hg' hN' hρ2
    clear hI1
    subst hρ2
    rw [rngN_length] at hN'
    have hb4 := Nat.pow_le_pow_right (show 128 > 0 by decide) (show 2 + t ≤ 5 by (exact (nl (.leaf t) [(1, (.add (.var 0) (.num 1)), (.num 4))] 1 (.add (.num 2) (.var 0)) (.num 5) rfl ht)))
    exact law_end (N := N') (g := g') (b := 10000000 * 128 ^ (2 + t)) G hp hp' hq hq' h0 h0' h1 h1' hco hN' (by (exact (nl (.leaf (128 ^ (2 + t))) [(10000000, (.var 0), (.num (128 ^ 5)))] 1 (.add (.mulL 10000000 (.var 0)) (.num 1)) (.num (2 ^ 60)) rfl hb4))) hg'
end
end
section
-- a line of our own: closed facts about scopes and cells (borrows the name size_fits)
local macro_rules | `(tactic| size_fits) => `(tactic| first
  | exact True.intro
  | (with_unfolding_all exact rfl)
  | (with_unfolding_all exact Or.inl rfl)
  | (with_unfolding_all exact Or.inr rfl)
  | (apply And.intro <;> size_fits))
local macro_rules | `(tactic| got_up) => `(tactic| with_reducible (apply up_ag; (case hN => assumption); (case hi => assumption)))
theorem Back.turned {x : Str} {B C : Bnd} {ρ1 ρ2 ρ' : Row} (hk : (ρ1.map (·.1)).Nodup) (u : Upd x C ρ1 ρ') (hm : (x, B) ∈ ρ1) (e : C.addrs = B.addrs) (h2 : (x, C) ∈ ρ2) : Back [x] ρ1 ρ2 ρ' where
  keys := u.keys
  addrs := u.addrs_same e hm hk
  mem := fun y D h => by
    rcases u.mem hk h with ⟨rfl, rfl⟩ | ⟨h1, h3⟩
    · exact .inl ⟨List.mem_singleton.mpr rfl, h2⟩
    · exact .inr ⟨fun h => h1 (List.mem_singleton.mp h), h3⟩
theorem rv_take {m i : Nat} {N : List Int} {n : Int} (h : N[i]? = some n) : (N.take i).map (rv m) ++ [rv m n] = (N.take (i + 1)).map (rv m) := by
  rw [List.take_add_one, h]; simp
section
variable {mg mb : Str → Option Value} {g₀ : Heap} {prog : Program} {w : World} {env : Env} {k : Nat} {ρ ρ' : Row}
/-- [number % x for number in numbers] -/
theorem comp_rest {x : Str} {scope : Scope} {p2 p3 p4 p5 p6 pos : Pos} {B : Bnd} {dn : Addr} {N : List Int} {m : Nat} {Q : Bnd → Row → Prop} (cl : List (Str × Addr))
    (h0 : 0 < m) (hl : N.length ≤ 100) (hm : (("numbers" : Str), B) ∈ ρ) (hB : B.Own dn (N.map V.int)) (hx : (x, Bnd.val (.int (m : Int))) ∈ ρ)
    (hclos : closureFor scope env = pure cl) (hL : ∀ C, Lend env (compEnvC scope cl C env) [x]) (hlo : ∀ C, (compEnvC scope cl C env).kindOf "number" = some .local)
    (hne : x ≠ "number") (hne' : ("numbers" : Str) ≠ x) (hcell : ∀ y ∈ scope.names, y.2 ≠ .cell) (hkind : scope.kind = .function) (hnames : ∀ y ∈ scope.names, y.2 = .local → scope.names.lookup y.1 = some .local)
    (hq : ∀ a, Q (.own a (N.map (rv m))) ρ) :
    EvE mg g₀ prog w env k (.ListComp (.BinOp (.Name "number" p2) .Mod (.Name x p3) p4) [⟨.Name "number" p5, .Name "numbers" p6, [], 0⟩] scope pos) ρ Q := by
  refine EvE.compS ["numbers"] cl (EvC.listOwn hm hB ?_) hclos hcell hkind hnames
  refine ⟨by rw [List.length_map]; exact Nat.le_trans hl (by decide), fun C => ⟨[x], ["number"], [(x, .val (.int (m : Int)))], fun i ys ρ => (∃ B, ρ = ([("number", B), (x, .val (.int (m : Int)))] : Row)) ∧ ys = (N.take i).map (rv m), hL C, List.singleton_sublist.mpr hx, (fun p hp => by
      simp only [List.mem_singleton] at hp; subst hp; exact List.mem_singleton.mpr rfl), (fun y hy h2 => by
      simp only [List.mem_singleton] at hy h2; subst hy; exact hne' h2), (fun y hy => by
      simp only [List.mem_singleton] at hy; subst hy; exact hlo C), ?_, ?_, ⟨⟨_, rfl⟩, rfl⟩, ?_, ?_⟩⟩
  · simp only [List.map_cons, List.map_nil, List.cons_append, List.nil_append, List.nodup_cons, List.mem_singleton, List.not_mem_nil, not_false_eq_true, List.nodup_nil, and_true]
    exact fun h => hne h.symm
  · decide +kernel
  · intro i X ys ρ2 hX _ hI1
    refine hideG fun gHid hHid => ?_
    obtain ⟨⟨B, rfl⟩, rfl⟩ := hI1
    refine hHid ?_; clear hHid gHid
    simp only [List.getElem?_map, Option.map_eq_some_iff] at hX
    refine hideG fun gHid hHid => ?_
    obtain ⟨n, hn, rfl⟩ := hX
    refine hHid ?_; clear hHid gHid
    refine AsX.name (by k_upd) ?_
    refine EvV.bin (EvV.name (by k_memK) ⟨_, rfl, EvV.name (by k_memK) ⟨_, rfl, _, .mod (by lia), ⟨_, rfl⟩, ?_⟩⟩)
    rw [← rv_take hn, Int.fmod_eq_emod_of_nonneg _ (by (clear hn hq hnames hkind hcell hne' hne hlo hL hclos hx hB hm hl h0; (exact Int.natCast_nonneg _))), ← rs_cast h0]; rfl
  · intro hk ys ρ2 hI1
    refine hideG fun gHid hHid => ?_
    obtain ⟨⟨B, rfl⟩, rfl⟩ := hI1
    refine hHid ?_; clear hHid gHid
    refine ⟨_, Back.same hk (ρf := [(x, .val (.int (m : Int)))]) rfl (List.singleton_sublist.mpr hx) (by intro p hp; simp only [List.mem_singleton] at hp; subst hp; k_memK), fun a => ?_⟩
    rw [List.length_map, List.take_length]
    exact hq a
end
section
variable {mg mb : Str → Option Value} {g₀ : Heap} {prog : Program} {w : World}

theorem law_head (G : Gl mg mb g₀ recs) {l : Addr} {vs : List Value} {ns : List Int} (hl : g₀.IsList l vs.toArray) (hI : IntsAre vs ns) (hlen : ns.length ≤ 63) (L a : Addr) (cd : Value) :
    ExS mg g₀ prog w (envOfC (dAt 51).name (dAt 51).scope L a cd) 20 (dAt 51).body [("script", Bnd.is (.ref l)), ("tub", .un), ("w", .un), ("v", .un), ("moduli", .un), ("turn", .un), ("numbers", .un), ("number", .un), ("near", .un), ("far", .un), ("m", .un), ("rests", .un), ("goal", .un), ("form", .un), ("one", .un), ("other", .un), ("many", .un), ("at", .un), ("size", .un), ("row", .un), ("pairs", .un), ("both", .un), ("whole", .un)] fun o _ => o = .ret (.bool true) := by
  conv in (dAt 51).body => whnf
  conv in (dAt 51).scope => whnf
  refine ExS.cons (Ex1.assign (EvE.list (EvVs.cons (EvV.int0 (EvVs.cons (EvV.ofE (EvE.comp ?cl ?h ?hclos)))))))
  case hclos => with_unfolding_all rfl
  case h =>
    refine EvI.list (EvV.ofE (EvE.sliceRaw (by k_memK) hl hI (by (exact Nat.le_trans (by assumption) (by decide))) ?_))
    refine EvP.none (EvP.some (EvV.int32 ⟨_, rfl, fun b => ⟨_, .own _ _, _, rfl, ?_⟩⟩))
    have eX : List.take (clipI (some ((32 : Nat) : Int)) ns.length ns.length - clipI none 0 ns.length) (List.drop (clipI none 0 ns.length) (ns.map V.int)) = (ns.take (min 32 ns.length)).map V.int := by
      simp [clipI, List.map_take]
    rw [eX]
    have lX : (ns.take (min 32 ns.length)).length ≤ 63 := by rw [List.length_take]; (exact (nl (.branch 1 (.leaf (min (min 32 ns.length) ns.length)) (.leaf (min 32 ns.length))) [(1, (.var 0), (.var 1)), (1, (.var 1), (.num 32))] 1 (.var 0) (.num 63) rfl (Nat.min_le_left (min 32 ns.length) (ns.length)) (Nat.min_le_left (32) (ns.length))))
    generalize ns.take (min 32 ns.length) = ms at *
    refine ⟨by rw [List.length_map]; (exact Nat.le_trans (by assumption) (by decide)), fun C => ⟨[], ["grain"], [], fun i ys ρ => (∃ B, ρ = ([("grain", B)] : Row)) ∧ ys = natsL ((ms.take i).map Int.natAbs), Lend.of (by size_fits) (by size_fits), List.nil_sublist _, (fun p hp => by cases hp), (fun x hx => by cases hx), AllP.mem (by size_fits), by decide +kernel, by decide +kernel, ⟨⟨_, rfl⟩, rfl⟩, ?_, ?_⟩⟩
    · intro i X ys ρ2 hX _ hI1
      refine hideG fun gHid hHid => ?_
      obtain ⟨⟨B, rfl⟩, rfl⟩ := hI1
      refine hHid ?_; clear hHid gHid
      simp only [List.getElem?_map, Option.map_eq_some_iff] at hX
      refine hideG fun gHid hHid => ?_
      obtain ⟨n, hn, rfl⟩ := hX
      refine hHid ?_; clear hHid gHid
      refine AsX.name (by k_upd) ?_
      refine EvV.abs G (EvV.intCall G (EvV.name (by k_memK) ⟨_, rfl, _, rfl, ⟨_, rfl⟩, ?_⟩))
      rw [show (if n < 0 then -n else n) = ((n.natAbs : Nat) : Int) by split <;> lia, natsL_snoc, List.take_add_one, hn]
      simp
    · intro hk ys ρ2 hI1
      refine hideG fun gHid hHid => ?_
      obtain ⟨⟨B, rfl⟩, rfl⟩ := hI1
      refine hHid ?_; clear hHid gHid
      refine ⟨_, Back.same hk (ρf := []) rfl (List.nil_sublist _) (by intro p hp; cases hp), fun d1 => ⟨_, .own _ _, ?_⟩⟩
      rw [List.length_map, List.take_length]
      have lS : (ms.map Int.natAbs).length ≤ 63 := by rw [List.length_map]; exact lX
      generalize ms.map Int.natAbs = S at *
      refine EvVs.nil ⟨by simp, fun d => ⟨_, by k_upd, ?_⟩⟩
      -- w, v
      refine ExS.cons (Ex1.assignTup (EvV.tup (EvVs.cons (EvV.bin (EvV.int3 ⟨_, rfl, ?_⟩)))))
      refine EvV.callT G def_law_sifted (Bnd.Own.own _ _) (by k_memK) ?_
      fin_run
      refine ⟨_, (law_sifted_run G (by decide) (by (exact Nat.lt_of_le_of_lt (by assumption) (by decide))) (by decide)).le (by decide), ?_⟩
      intro _ _ hI1
      refine el_1_3 hI1 ?_
      intro c1 hρ0 hρ1 hc1
      clear hI1
      subst hρ0
      subst hρ1
      refine ⟨_, _, .own, by k_upd, ?_⟩
      fin_run
      refine EvV.callT G def_law_sifted (Bnd.Own.own _ _) (by k_memK) ?_
      fin_run
      refine ⟨_, (law_sifted_run G (by decide) (by (exact Nat.lt_of_le_of_lt (by assumption) (by decide))) (by decide)).le (by decide), ?_⟩
      intro _ _ hI1
      refine el_1_3 hI1 ?_
      intro c2 hρ0 hρ1 hc2
      clear hI1
      subst hρ0
      subst hρ1
      refine ⟨_, _, .own, by k_upd, ?_⟩
      ((try have kq1 : 0 + 1 + 1 ≤ 100 := (nl (.leaf 0) [] 1 (.add (.add (.num 0) (.num 1)) (.num 1)) (.num 100) rfl)); fin_run; all_goals (try clear kq1))
      refine AsX.two (by k_upd) (by k_upd) ?_
      -- moduli
      refine ExS.cons (Ex1.assign (EvE.list (EvVs.cons (EvV.item ?_))))
      ((try have kq1 : 0 + 1 + 1 + 1 + 1 + 1 ≤ 100 := (nl (.leaf 0) [] 1 (.add (.add (.add (.add (.add (.num 0) (.num 1)) (.num 1)) (.num 1)) (.num 1)) (.num 1)) (.num 100) rfl)); fin_run; all_goals (try clear kq1))
      refine EvV.callT G def_law_sifted (Bnd.Own.own _ _) (by k_memK) ?_
      fin_run
      refine ⟨_, (law_sifted_run G (by decide) (by (exact Nat.lt_of_le_of_lt (by assumption) (by decide))) (by decide)).le (by decide), ?_⟩
      intro _ _ hI1
      refine el_1_3 hI1 ?_
      intro c3 hρ0 hρ1 hc3
      clear hI1
      subst hρ0
      subst hρ1
      refine ⟨_, _, .own, by k_upd, up_atN (l := [5, 7, 9, 11, 13]) hc3 (by decide) ?_⟩
      refine EvVs.cons (EvV.item ?_)
      ((try have kq1 : 0 + 1 + 1 + 1 + 1 ≤ 100 := (nl (.leaf 0) [] 1 (.add (.add (.add (.add (.num 0) (.num 1)) (.num 1)) (.num 1)) (.num 1)) (.num 100) rfl)); fin_run; all_goals (try clear kq1))
      refine EvV.callT G def_law_sifted (Bnd.Own.own _ _) (by k_memK) ?_
      fin_run
      refine ⟨_, (law_sifted_run G (by decide) (by (exact Nat.lt_of_le_of_lt (by assumption) (by decide))) (by decide)).le (by decide), ?_⟩
      intro _ _ hI1
      refine el_1_3 hI1 ?_
      intro c4 hρ0 hρ1 hc4
      clear hI1
      subst hρ0
      subst hρ1
      refine ⟨_, _, .own, by k_upd, up_atN (l := [8, 16, 17, 19]) hc4 (by decide) ?_⟩
      refine EvVs.nil ⟨by simp, fun d2 => ⟨_, by k_upd, ?_⟩⟩
      have hg : Nat.gcd (dg [5, 7, 9, 11, 13] c3) (dg [8, 16, 17, 19] c4) = 1 ∧ 2 ≤ dg [5, 7, 9, 11, 13] c3 ∧ dg [5, 7, 9, 11, 13] c3 ≤ 19 ∧ 2 ≤ dg [8, 16, 17, 19] c4 ∧ dg [8, 16, 17, 19] c4 ≤ 19 := by
        have : ∀ a : Fin 5, ∀ b : Fin 4, Nat.gcd (dg [5, 7, 9, 11, 13] a) (dg [8, 16, 17, 19] b) = 1 ∧ 2 ≤ dg [5, 7, 9, 11, 13] a ∧ dg [5, 7, 9, 11, 13] a ≤ 19 ∧ 2 ≤ dg [8, 16, 17, 19] b ∧ dg [8, 16, 17, 19] b ≤ 19 := by decide +kernel
        exact this ⟨c3, hc3⟩ ⟨c4, hc4⟩
      generalize dg [5, 7, 9, 11, 13] c3 = m0 at *
      generalize dg [8, 16, 17, 19] c4 = m1 at *
      -- numbers
      refine ExS.cons (Ex1.assign (EvE.comp ?cl2 ?h2 ?hclos2))
      case hclos2 => with_unfolding_all rfl
      case h2 =>
        refine EvI.up1 G (EvV.int3 ⟨_, rfl, by decide, ?_⟩)
        rw [show rngN 0 3 = [.int ((0 : Nat) : Int), .int ((1 : Nat) : Int), .int ((2 : Nat) : Int)] from rfl]
        refine Turning.runs (by simp) ["turn"] ["tub"] [("tub", .own d [.int ((0 + 1 + 1 + 1 + 1 : Nat) : Int), nats S])] rfl (fun C => Lend.of (by size_fits) (by size_fits)) (by repeat (first | exact List.Sublist.slnil | apply List.Sublist.cons_cons | apply List.Sublist.cons)) (fun C => AllP.mem (by size_fits)) (by decide +kernel) (by decide +kernel) (fun C => ?_)
        change CompRuns _ _ _ _ _ _ _ _ _ _ _ [("turn", Bnd.un), ("tub", .own d [.int ((0 + 1 + 1 + 1 + 1 : Nat) : Int), nats S])]
        refine AsX.name (by k_upd) ?_
        refine EvV.bin (EvV.sift (c := 0 + 1 + 1 + 1 + 1) (M := 199) (S := S) (d := d) G (by decide) (by (exact Nat.lt_of_le_of_lt (by assumption) (by decide))) (by decide) rfl (by k_memK) (by decide) fun n0 hn0 => ⟨_, by k_upd, _, rfl, EvV.int99 ⟨_, rfl, _, .sub, ?_⟩⟩)
        refine AsX.name (by k_upd) ?_
        refine EvV.bin (EvV.sift (c := 0 + 1 + 1 + 1 + 1 + 1) (M := 199) (S := S) (d := d) G (by decide) (by (exact Nat.lt_of_le_of_lt (by assumption) (by decide))) (by decide) rfl (by k_memK) (by decide) fun n1 hn1 => ⟨_, by k_upd, _, rfl, EvV.int99 ⟨_, rfl, _, .sub, ?_⟩⟩)
        refine AsX.name (by k_upd) ?_
        refine EvV.bin (EvV.sift (c := 0 + 1 + 1 + 1 + 1 + 1 + 1) (M := 199) (S := S) (d := d) G (by decide) (by (exact Nat.lt_of_le_of_lt (by assumption) (by decide))) (by decide) rfl (by k_memK) (by decide) fun n2 hn2 => ⟨_, by k_upd, _, rfl, EvV.int99 ⟨_, rfl, _, .sub, ?_⟩⟩)
        have hN : Fit [(n0 : Int) - ((99 : Nat) : Int), (n1 : Int) - ((99 : Nat) : Int), (n2 : Int) - ((99 : Nat) : Int)] 10000000 := ⟨rfl, fun n hn => by
          simp only [List.mem_cons, List.not_mem_nil, or_false] at hn
          rcases hn with rfl | rfl | rfl <;> (first | (clear hn2 hn1 hg hc4 hc3 hc2 hc1 lS hk lX eX hlen hI hl G; omega) | (clear hn2 hn0 hg hc4 hc3 hc2 hc1 lS hk lX eX hlen hI hl G; omega) | (clear hn1 hn0 hg hc4 hc3 hc2 hc1 lS hk lX eX hlen hI hl G; omega))⟩
        refine fun hk => ⟨_, Back.turned (x := "tub") (C := .own d [.int ((0 + 1 + 1 + 1 + 1 + 1 + 1 + 1 : Nat) : Int), nats S]) (B := .own d [.int ((0 + 1 + 1 + 1 + 1 : Nat) : Int), nats S]) hk (by k_upd) (by k_memK) rfl (by k_memK), fun dn => ⟨_, (by k_upd : Upd "numbers" (.own dn (List.map V.int [(n0 : Int) - ((99 : Nat) : Int), (n1 : Int) - ((99 : Nat) : Int), (n2 : Int) - ((99 : Nat) : Int)])) _ _), ?_⟩⟩
        generalize [(n0 : Int) - ((99 : Nat) : Int), (n1 : Int) - ((99 : Nat) : Int), (n2 : Int) - ((99 : Nat) : Int)] = N at hN
        have hbig : (10000000 : Nat) < big := by decide +kernel
        have hl := hN.1
        have ha' : ∀ n ∈ N, n.natAbs < big := fun n hn => Nat.lt_of_le_of_lt (hN.2 n hn) hbig
        -- near, far
        refine ExS.cons (Ex1.assignSwap (names := ["near", "far"]) (EvBs.cons ?_))
        refine comp_signed (v := 3 + c1) (N := N) G ?cl3 (by (exact (nl (.leaf c1) [] 1 (.add (.num 0) (.num 1)) (.add (.num 3) (.var 0)) rfl))) (by (exact (nl (.leaf c1) [(1, (.add (.var 0) (.num 1)), (.num 4))] 1 (.add (.num 3) (.var 0)) (.num 10) rfl hc1))) ha' (by (exact (nl (.leaf (N.length)) [(1, (.var 0), (.num 3))] 1 (.var 0) (.num 100) rfl (Nat.le_of_eq hl)))) (by decide) (by k_memK) (Bnd.Own.own _ _) (by k_memK) ?hclos3 ?hL3 ?hlo3 ?hg3 (by decide +kernel) (by decide +kernel) (by decide +kernel) (by size_fits) (by decide +kernel) ?hq3
        case hclos3 => with_unfolding_all rfl
        case hL3 => exact fun C => Lend.of (by size_fits) (by size_fits)
        case hlo3 => exact fun C => by size_fits
        case hg3 => exact fun C => by size_fits
        intro de
        refine EvBs.cons ?_
        refine comp_signed (v := 7 + c2) (N := N) G ?cl4 (by (exact (nl (.leaf c2) [] 1 (.add (.num 0) (.num 1)) (.add (.num 7) (.var 0)) rfl))) (by (exact (nl (.leaf c2) [(1, (.add (.var 0) (.num 1)), (.num 4))] 1 (.add (.num 7) (.var 0)) (.num 10) rfl hc2))) ha' (by (exact (nl (.leaf (N.length)) [(1, (.var 0), (.num 3))] 1 (.var 0) (.num 100) rfl (Nat.le_of_eq hl)))) (by decide) (by k_memK) (Bnd.Own.own _ _) (by k_memK) ?hclos4 ?hL4 ?hlo4 ?hg4 (by decide +kernel) (by decide +kernel) (by decide +kernel) (by size_fits) (by decide +kernel) ?hq4
        case hclos4 => with_unfolding_all rfl
        case hL4 => exact fun C => Lend.of (by size_fits) (by size_fits)
        case hlo4 => exact fun C => by size_fits
        case hg4 => exact fun C => by size_fits
        intro df
        refine EvBs.nil ⟨rfl, by simp, _, Upds.cons (by k_upd) (Upds.cons (by k_upd) Upds.nil), ?_⟩
        -- rests, goal
        refine ExS.cons (assign_tupB (EvBs.cons (EvE.comp2 [] "m" ?cl5 ?h5 ?hclos5)))
        case hclos5 => with_unfolding_all rfl
        case h5 =>
          refine EvC.ofI (EvI.list (EvV.nameOwn (by k_memK) (by k_upd) ⟨_, rfl, ?_⟩))
          refine ⟨by simp, fun C => ⟨["numbers"], [("numbers", .own dn (N.map V.int))], fun i yss ρ => (∃ B, ρ = ([("m", B), ("numbers", .own dn (N.map V.int))] : Row)) ∧ yss = ([m0, m1].take i).map fun m => N.map (rv m), Lend.of (by size_fits) (by size_fits), AllP.mem (by size_fits),
            (by repeat (first | exact List.Sublist.slnil | apply List.Sublist.cons_cons | apply List.Sublist.cons)), (fun p hp => by
              simp only [List.mem_singleton] at hp; subst hp; exact List.mem_singleton.mpr rfl), (fun x hx => by cases hx), (by show ("m" : Str) ∉ (["numbers"] : List Str); decide +kernel), (by size_fits), (fun y c h => by
              have := mem_of_lookup h
              simp only [List.mem_singleton, Prod.mk.injEq] at this
              rw [this.1]; exact List.mem_cons_self), (by show (["numbers"] : List Str).Nodup; decide +kernel), (by decide +kernel), ⟨⟨_, rfl⟩, rfl⟩, ?_, ?_⟩⟩
          · intro i X ys ρ2 hX _ hI1
            refine hideG fun gHid hHid => ?_
            obtain ⟨⟨B, rfl⟩, rfl⟩ := hI1
            refine hHid ?_; clear hHid gHid
            have hX' : ([m0, m1].map fun m : Nat => V.int (m : Int))[i]? = some X := hX
            simp only [List.getElem?_map, Option.map_eq_some_iff] at hX'
            refine hideG fun gHid hHid => ?_
            obtain ⟨m, hm, rfl⟩ := hX'
            refine hHid ?_; clear hHid gHid
            have hm0 : 0 < m := by
              have := List.mem_of_getElem? hm
              simp only [List.mem_cons, List.not_mem_nil, or_false] at this
              rcases this with rfl | rfl <;> (first | (exact (nl (.leaf m) [(1, (.num 2), (.var 0))] 1 (.add (.num 0) (.num 1)) (.var 0) rfl hg.2.1)) | (exact (nl (.leaf m) [(1, (.num 2), (.var 0))] 1 (.add (.num 0) (.num 1)) (.var 0) rfl hg.2.2.2.1)))
            refine AsX.name (by k_upd) ?_
            refine comp_rest (N := N) (m := m) ?cl6 hm0 (by (exact (nl (.leaf (N.length)) [(1, (.var 0), (.num 3))] 1 (.var 0) (.num 100) rfl (Nat.le_of_eq hl)))) (by k_memK) (Bnd.Own.own _ _) (by k_memK) ?hclos6 ?hL6 ?hlo6 (by decide +kernel) (by decide +kernel) (by decide +kernel) (by size_fits) (by decide +kernel) ?hq6
            case hclos6 => with_unfolding_all rfl
            case hL6 => exact fun C => Lend.of (by size_fits) (by size_fits)
            case hlo6 => exact fun C => by size_fits
            exact fun a => ⟨a, _, rfl, ⟨_, rfl⟩, by rw [List.take_add_one, hm]; simp⟩
          · intro hk ys ρ2 hI1
            refine hideG fun gHid hHid => ?_
            obtain ⟨⟨B, rfl⟩, rfl⟩ := hI1
            refine hHid ?_; clear hHid gHid
            refine ⟨_, Back.same (ρf := [("numbers", .own dn (N.map V.int))]) hk rfl (by repeat (first | exact List.Sublist.slnil | apply List.Sublist.cons_cons | apply List.Sublist.cons)) (by intro p hp; simp only [List.mem_singleton] at hp; subst hp; k_memK), ?_⟩
            intro D rows hrows
            obtain ⟨a0, a1, rfl⟩ : ∃ a0 a1, rows = [(a0, N.map (rv m0)), (a1, N.map (rv m1))] := by
              have e : rows.map (·.2) = [N.map (rv m0), N.map (rv m1)] := hrows
              match rows, e with
              | [(a0, _), (a1, _)], e =>
                simp only [List.map_cons, List.map_nil, List.cons.injEq, and_true] at e
                exact ⟨a0, a1, by rw [e.1, e.2]⟩
            refine EvBs.cons (EvE.int0 (EvBs.nil ⟨_, _, _, _, rfl, by k_upd, by k_upd, ?_⟩))
            exact law_mid (c := 0 + 1 + 1 + 1 + 1 + 1 + 1 + 1) (N := N) G (by decide) (by (exact Nat.lt_of_le_of_lt (by assumption) (by decide))) (by (exact (nl (.leaf c1) [] 1 (.add (.num 0) (.num 1)) (.add (.num 3) (.var 0)) rfl))) (by (exact (nl (.leaf c1) [(1, (.add (.var 0) (.num 1)), (.num 4))] 1 (.add (.num 3) (.var 0)) (.num 10) rfl hc1))) (by (exact (nl (.leaf c2) [] 1 (.add (.num 0) (.num 1)) (.add (.num 7) (.var 0)) rfl))) (by (exact (nl (.leaf c2) [(1, (.add (.var 0) (.num 1)), (.num 4))] 1 (.add (.num 7) (.var 0)) (.num 10) rfl hc2))) hg.2.1 hg.2.2.1 hg.2.2.2.1 hg.2.2.2.2 hg.1 hN
end
end
section
theorem ok_law : DefOkC (dAt 51) ["script"] ["tub", "w", "v", "moduli", "turn", "numbers", "number", "near", "far", "m", "rests", "goal", "form", "one", "other", "many", "at", "size", "row", "pairs", "both", "whole"] where
  bind := fun pm cd doc vals h => by
    obtain ⟨x0, rfl⟩ := len1 h
    kernel_rfl
  loc := fun x hx => by
    simp only [List.cons_append, List.nil_append, List.mem_cons, List.not_mem_nil, or_false] at hx
    rcases hx with rfl | rfl | rfl | rfl | rfl | rfl | rfl | rfl | rfl | rfl | rfl | rfl | rfl | rfl | rfl | rfl | rfl | rfl | rfl | rfl | rfl | rfl | rfl
    all_goals first
      | exact .inl (by decide +kernel)
      | exact .inr ⟨by decide +kernel, fun n => by with_unfolding_all rfl⟩
  nodup := by decide +kernel
  dbg := by decide +kernel
  co := by decide +kernel
  gen := by decide +kernel
  kind := by decide +kernel
theorem mem_law : dAt 51 ∈ recs := List.mem_map.mpr ⟨51, by decide, rfl⟩
section
variable {mg mb : Str → Option Value} {g₀ : Heap} {prog : Program} {w : World}
theorem St.cellsIs {d : DefRec} {n0 : Str} {locals : List Str} {v : Value} {z : PH} {h h₁ : Heap} {a : Addr} {cd : Value} (D : DefOkC d [n0] locals) (hn0 : d.scope.names.lookup n0 = some .local) (root : ∀ b o, g₀.get? b = some o → h.get? b = some o) (zin : Le z h.get?)
    (F : Fr h h.objs.size h₁ (bindL (envOfC d.name d.scope h.objs.size a cd).kindOf ([n0].zip [v]) fun _ => none))
    (X : Cl h.objs.size (cellsFrom (h.objs.size + 1) d.scope.names []) h₁ (bindC (envOfC d.name d.scope h.objs.size a cd).kindOf ([n0].zip [v]) fun _ => none)) :
    St mg g₀ (envOfC d.name d.scope h.objs.size a cd) h.get? (fun b => (∃ o, h.get? b = some o) ∧ z b = none) ((n0, Bnd.is v) :: locals.map fun x => (x, Bnd.un)) z h₁ := by
  have zin1 : Le z h₁.get? := fun b o e => F.keep _ _ (zin _ _ e)
  have cellNone : ∀ n c, (cellsFrom (h.objs.size + 1) d.scope.names []).lookup n = some c → h.get? c = none := fun n c e => fresh_ge (Nat.le_of_lt (X.above n c (mem_of_lookup e)))
  have keys : ((n0, Bnd.is v) :: locals.map fun x => (x, Bnd.un)).map (·.1) = [n0] ++ locals := by
    show n0 :: List.map _ (List.map _ locals) = n0 :: locals
    rw [List.map_map]; exact congrArg _ (List.map_id _)
  have addrs : Row.addrs ((n0, Bnd.is v) :: locals.map fun x => (x, Bnd.un)) = [] := by
    simp only [Row.addrs, List.flatMap_cons, Bnd.addrs, List.nil_append, List.flatMap_map]
    exact List.flatMap_eq_nil_iff.mpr fun _ _ => rfl
  refine ⟨root, F.keep, zin1, fun b hb => hb.2, fresh_size _, none_of_le zin (fresh_size _), ⟨_, F.ns, fun x B hm => ?_⟩, by rw [addrs]; exact .nil, fun x y c hx hy => apart_inj X.apart (mem_of_lookup hx) (mem_of_lookup hy), by rw [keys]; exact D.nodup, by rw [keys]; exact D.dbg, fun b hb => let ⟨o, e⟩ := hb.1; ⟨o, F.keep _ _ e⟩⟩
  have hx : x ∈ [n0] ++ locals := by
    rw [← keys]; exact List.mem_map.mpr ⟨_, hm, rfl⟩
  rcases List.mem_cons.mp hm with e | hm'
  · cases e
    refine ⟨some v, .inl ⟨hn0, ?_⟩, rfl⟩
    have k : (envOfC d.name d.scope h.objs.size a cd).kindOf n0 = some .local := hn0
    simp [bindL, k]
  · refine hideG fun gHid hHid => ?_
    obtain ⟨y, hy, e⟩ := List.mem_map.mp hm'
    refine hHid ?_; clear hHid gHid
    cases e
    rcases D.loc x hx with k | ⟨k, hc⟩
    · exact ⟨_, .inl ⟨k, rfl⟩, trivial⟩
    · refine hideG fun gHid hHid => ?_
      obtain ⟨c, ec⟩ := Option.isSome_iff_exists.mp (hc (h.objs.size + 1))
      refine hHid ?_; clear hHid gHid
      exact ⟨_, .inr ⟨.inl k, c, ec, X.cell x c ec, cellNone x c ec, none_of_le zin (cellNone x c ec)⟩, trivial⟩

theorem law_call {s : Shared} (G : Gl mg mb s.heap recs) {A : Around} {l a : Addr} {vs : List Value} {ns : List Int} (hl : s.heap.IsList l vs.toArray) (hI : IntsAre vs ns) (hlen : ns.length ≤ 63) (ok : OkC 21 A) (hf : mg "law" = some (.ref a)) {Q : Value → Shared → Prop} {E : Value → Shared → Prop}
    (hQ : ∀ h' tk, Grow s.heap h' → Q (.bool true) { s with heap := h', toks := tk }) : wpAny (model prog w) A (call (.ref a) [.ref l]) Q E s := by
  refine hideG fun gHid hHid => ?_
  obtain ⟨a', o, pm, code, doc, e1, e2, e3, e4⟩ := G.fn (dAt 51) mem_law
  refine hHid ?_; clear hHid gHid
  have en : (dAt 51).name = "law" := by decide +kernel
  rw [en, hf] at e1; cases e1
  refine wpAny_call (call_cells_ret (by have := ok.depth; (exact (nl (.branch 1 (.leaf (A.depth)) (.leaf recursionLimit)) [(1, (.add (.add (.var 0) (.num 21)) (.num 1)), (.var 1))] 1 (.add (.var 0) (.num 1)) (.var 1) rfl this))) e2 e3 G.nolimit e4 (ok_law.bind _ _ _ [.ref l] rfl) (fun x hx => ?_) (fun h₁ tk F X => ?_) ok_law.co ok_law.gen ok_law.kind)
  · rcases ok_law.loc x.1 (List.mem_append_left _ (List.of_mem_zip hx).1) with k | ⟨k, hc⟩
    · exact .inl k
    · exact .inr ⟨k, hc _⟩
  · have S := St.cellsIs (mg := mg) (g₀ := s.heap) (z := fun _ => none) ok_law (by decide +kernel) (fun _ _ e => e) (fun _ _ e => by cases e) F X
    refine (law_head G hl hI hlen _ _ _).run _ _ _ (fun _ => none) { s with heap := h₁, toks := tk } _ _ (ok.deeperC ok_law.kind) S ?_
    intro fl o ρ' z' h' tk ho hz S' r'
    subst ho
    cases fl <;> simp only [FlowR] at r'
    cases r'
    exact hQ _ _ fun b o e => S'.kept _ _ e
end
end
end Mine
namespace Mine
open PySem PySem.Calls
theorem gl_of_top {p : Program} (hr : recsOf p = recs) {loose : List Str} {mean : ExcName → Option Value} {mg mb : Str → Option Value} {h : Heap} (T : Top p loose mean mg mb h)
    (fr : ∀ x ∈ (["len", "range", "abs", "int", "min", "any", "enumerate", "zip"] : List Str), x ∉ startupNames ∧ x ∉ loose ∧ x ∉ (recsOf p).map (·.name) ∧ x ∉ (litsOf p).map (·.1) ∧ x ∉ (clssOf p loose).map (·.name)) : Gl mg mb h recs := by
  have f : ∀ x ∈ (["len", "range", "abs", "int", "min", "any", "enumerate", "zip"] : List Str), mg x = none := fun x hx => let ⟨a, b, c, d, e⟩ := fr x hx; T.free x a b c d e
  have b : ∀ x : Str, x ≠ "__name__" → mb x = bootBuiltins x := T.builtins
  refine ⟨T.g, T.b, T.nolimit, fun d hd => T.fn d (hr ▸ hd), ⟨f _ (by simp), ?_⟩, ⟨f _ (by simp), ?_⟩, ⟨f _ (by simp), ?_⟩, ⟨f _ (by simp), ?_⟩, ⟨f _ (by simp), ?_⟩, ⟨f _ (by simp), ?_⟩, ⟨f _ (by simp), ?_⟩, ⟨f _ (by simp), ?_⟩⟩
  all_goals
    rw [b _ (by decide +kernel)]
    kernel_rfl
theorem vw_recs : recsOf vw = recs := by kernel_rfl
theorem vw_free : ∀ x ∈ (["len", "range", "abs", "int", "min", "any", "enumerate", "zip"] : List Str), x ∉ startupNames ∧ x ∉ looseW vw [] ∧ x ∉ (recsOf vw).map (·.name) ∧ x ∉ (litsOf vw).map (·.1) ∧ x ∉ (clssOf vw (looseW vw [])).map (·.name) := by
  decide +kernel
end Mine
set_option maxHeartbeats 8000000

theorem PySem.Challenge.cw_tk0051_01_holds : PySem.Challenge.rw_tk0051_01.Holds := by
  refine holds_law Mine.vw_said fun said => ?_
  refine holds_open (r := PySem.Challenge.rw_tk0051_01.row) (q := Mine.vw) (loose := []) (XP := XL Mine.vw []) (YP := Hook.says Hook.none) (d := Mine.dAt 51) (kwd := []) Mine.vw_left (Hook.of _) (Hook.keeps _) (fun s e => xl_of s (Bool.and_eq_true_iff.mp e).1) XL.keeps (by kernel_rfl) (by kernel_rfl) (by kernel_rfl) (fun s e => recFacts_of (Bool.and_eq_true_iff.mp e).2) (by rfl) said Mine.vw_well ⟨rfl, rfl, rfl, rfl, rfl, by decide +kernel⟩ ?hw ?hc
  case hw => w_witness2
  case hc =>
    intro w s₀ s₁ mg mb G Y fa o pm cd doc dV kV ho hd' hcd hD hmg hg args vals as hpre hlay hrd hwl hlo
    refine Ground.open G ?_
    intro T B D TE TW
    wrow_args hpre hlay hrd hwl hlo
    rename_i ns _ _ _ _ _ _ _ l vs _ hL _ _ _ hI _ hlen _
    refine Mine.law_call (Mine.gl_of_top Mine.vw_recs T Mine.vw_free) hL hI (by omega) ⟨rfl, by decide +kernel, by decide +kernel⟩ hmg ?_
    intro h' tk gr
    refine ⟨.inl ⟨.bool true, .bool true, [], rfl, ?_, .bool true, ?_, ?_⟩, .of_keep gr, rfl, .of_eq hg⟩
    · intro cls
      rfl
    · wrow_post
    · intro _
      exact ⟨.nil, fun a ha => by cases ha⟩
