import PyProof.Rows.All
import Wide.All
import OpenK.AllK
import Wide.FinOn
import KE.KStateDown
import PyProof.RulesMatch
import HandS.ForMost
import HandS.IsInst
import HandS.Wide
import HandS.WideBits
import HandS.Codes
import HandS.Defaults
import HandS.Head0
import HandS.Head1
import HandS.Head2
import HandS.HeadEnd
import HandS.HeadHook1
import HandS.HeadHook2
import PySem.Challenge.RW_stillwords_k01_five_rules_of_division
set_option Elab.async false
set_option linter.all false
set_option maxRecDepth 100000
set_option maxHeartbeats 4000000
/-! SWBase: what all proofs of this seat share: match over texts, the heap's growth, operators by short names. -/
namespace SW
open PySem L2 PyProof.Rows
abbrev Frag := PySem.W.Frag

/-! ### match x: case 'text': .. case _: .. -/
structure PMs (X : Cx) (cs : List MatchCase) (t : V → TS) : Prop where
  run : ∀ (first : Bool) (pins : List (Addr × Obj)) (s : Shared) (σ : L2.St) (H : Hp) (D : Ends) (v : V) (u : Value), Inv X pins σ H s → RelV v u → t v D σ H →
    wpAny (model X.prog X.w) X.A (matchCases cs X.env u first) (SP X pins D) X.xe s
def mNil : V → TS := fun _ D σ H => D.nx σ H
def mStr (c : Str) (tb : TS) (tr : V → TS) : V → TS := fun v D σ H => ∃ z, v = .str z ∧ if decide (z = c) = true then tb D σ H else tr v D σ H
def mElse (tb : TS) : V → TS := fun _ D σ H => tb D σ H
def tMatch (te : TE) (tm : V → TS) : TS := fun D σ H => te σ H fun v H1 => tm v D σ H1
section
variable {X : Cx}
theorem pm_nil : PMs X [] mNil := ⟨fun _ _ _ σ H _ _ _ I _ h => wpAny_matchCases_nil ⟨σ, H, I, h⟩⟩
theorem pm_else {body : List Stmt} {pos : Pos} {rest : List MatchCase} {tb : TS} (hb : PSs X body tb) : PMs X (⟨.MatchAs none none pos, none, body⟩ :: rest) (mElse tb) := by
  refine ⟨fun first pins s σ H D v u I r h => ?_⟩
  refine wpAny_matchCases_cons (wpAny_matchPattern_Capture ?_)
  exact wpAny_assignInOrder_none (hb.run pins s σ H D I h)
theorem pm_str {c : Str} {k : Nat} {p1 p2 : Pos} {body : List Stmt} {rest : List MatchCase} {tb : TS} {tr : V → TS} (hb : PSs X body tb) (hr : PMs X rest tr) :
    PMs X (⟨.MatchValue (.Constant (.str c) k p1) p2, none, body⟩ :: rest) (mStr c tb tr) := by
  refine ⟨fun first pins s σ H D v u I r h => ?_⟩
  obtain ⟨z, rfl, h⟩ := h
  refine wpAny_matchCases_cons (wpAny_matchPattern_Value ?_)
  refine thn ((pe_str (X := X) (x := c) (j := k) (pos := p1)).run pins s σ H (fun v H' => v = .str c ∧ H' = H) I ⟨rfl, rfl⟩) fun x s1 ⟨y, H1, I1, r1, e1, e2⟩ => ?_
  subst e1 e2
  refine thn ((op_eq (X := X)) pins s1 σ _ (.str z) (.str c) u x (fun v H' => v = .bl (decide (V.str z = V.str c)) ∧ H' = _) I1 r r1 ⟨rfl, rfl, rfl⟩) fun b s2 ⟨y2, H2, I2, r2, e3, e4⟩ => ?_
  subst e3 e4
  cases r2
  refine wpAny_truthy_bool ?_
  by_cases hz : z = c
  · have e : decide (V.str z = V.str c) = true := decide_eq_true (congrArg V.str hz)
    rw [e]
    rw [if_pos (decide_eq_true hz)] at h
    exact wpAny_assignInOrder_none (hb.run pins s2 σ _ D I2 h)
  · have e : decide (V.str z = V.str c) = false := decide_eq_false fun q => hz (V.str.inj q)
    rw [e]
    rw [if_neg (by rw [decide_eq_false hz]; decide)] at h
    exact hr.run false pins s2 σ _ D (.str z) u I2 r h
theorem ps_match {e : Expr} {cs : List MatchCase} {pos : Pos} {te : TE} {tm : V → TS} (he : PE X e te) (hc : PMs X cs tm) : PS X (.Match e cs pos) (tMatch te tm) := by
  refine ⟨fun pins s σ H D I h => ?_⟩
  exact wpAny_Match (thn (he.run pins s σ H _ I h) fun u s1 ⟨v, H1, I1, r1, q1⟩ => hc.run true pins s1 σ H1 D v u I1 r1 q1)
end

/-! ### operators by short names -/
abbrev oAdd : R2 := rI0 fun i j => .int (i + j)
abbrev oSub : R2 := rI0 fun i j => .int (i - j)
abbrev oMul : R2 := rI CMul fun i j => .int (i * j)
abbrev oMulW : R2 := rI CMulW fun i j => .int (i * j)
abbrev oDiv : R2 := rI CDivW fun i j => .int (i / j)
abbrev oMod : R2 := rI (fun _ j => 0 < j) fun i j => .int (i % j)
abbrev oPow : R2 := rI CPow fun i j => .int (i ^ j.toNat)
abbrev oLt : R2 := rI0 fun i j => .bl (decide (i < j))
abbrev oLe : R2 := rI0 fun i j => .bl (decide (i ≤ j))
abbrev oGt : R2 := rI0 fun i j => .bl (decide (j < i))
abbrev oGe : R2 := rI0 fun i j => .bl (decide (j ≤ i))
abbrev oNeg : V → Hp → VK → Prop := rU fun i => .int (-i)
abbrev bAbs : List V → Hp → VK → Prop := fun xs H Q => ∃ i, xs = [.int i] ∧ Q (.int (if i < 0 then -i else i)) H
abbrev bMax2 : List V → Hp → VK → Prop := fun xs H Q => ∃ i j, xs = [.int i, .int j] ∧ Q (.int (if j > i then j else i)) H
abbrev bMin2 : List V → Hp → VK → Prop := fun xs H Q => ∃ i j, xs = [.int i, .int j] ∧ Q (.int (if j < i then j else i)) H
abbrev bInt : List V → Hp → VK → Prop := fun xs H Q => (∃ i, xs = [.int i] ∧ Q (.int i) H) ∨ ∃ k, xs = [.bl k] ∧ Q (.int (if k then 1 else 0)) H
abbrev bLen (K : Frag) : List V → Hp → VK → Prop := fun xs H Q => ∃ p ys, xs = [.ref p] ∧ (SqL K H p ys ∨ SqT K H p ys) ∧ Q (.int ys.length) H
abbrev bList (K : Frag) : List V → Hp → VK → Prop := fun xs H Q => ∃ p ys, xs = [.ref p] ∧ (SqL K H p ys ∨ SqT K H p ys) ∧ ∀ l, H l = none → Q (.ref l) (upd H l (.lst ys))
abbrev bDivmod : List V → Hp → VK → Prop := fun xs H Q => ∃ i j, xs = [.int i, .int j] ∧ CDivP i j ∧ ∀ p, H p = none → Q (.ref p) (upd H p (.tup [.int (i / j), .int (i % j)]))
/-- a body run from these arguments -/
abbrev Runs (t : TS) (N : List Str) (vs : List V) (H : Hp) (Q : VK) : Prop := t { nx := fun _ H' => Q .non H', rt := Q } (start N vs) H
theorem pe_c0 {X : Cx} {k j : Nat} {x : Str} {sp : Sp} {dvs : List V} {p pos : Pos} (c : C8.Cal X.prog X.w X.K X.mg X.base k x sp dvs) (hr : Room j X.A) (hk : k ≤ j) (hg : Gl X x)
    (hdb : (x == ("__debug__" : Str)) = false := by decide) : PE X (.Call (.Name x p) [] [] pos) (tCall sp dvs E0 tNil) := by
  obtain ⟨f, fd, ps, ds, F, hm, kp, b, d⟩ := c.ex
  exact pe_call0 F (hr.mono hk) hg hm kp b d pass0 hdb
/-- a method's rule in the form that pe_bm wants -/
theorem toR {X : Cx} {id : String} {r : V → List V → Hp → VK → Prop} (h : MtM X id r) : MtR X id r := h

/-! ### the heap grows; all but one stay -/
def Ex (H H' : Hp) : Prop := ∀ a o, H a = some o → H' a = some o
theorem Ex.refl (H : Hp) : Ex H H := fun _ _ h => h
theorem Ex.trans {H H1 H2 : Hp} (a : Ex H H1) (b : Ex H1 H2) : Ex H H2 := fun c o h => b c o (a c o h)
theorem Ex.new {H : Hp} {p : Addr} {o : HO} (h : H p = none) : Ex H (upd H p o) := fun a u e => by
  rw [upd_ne (ne_of_none e h)]
  exact e
theorem Ex.free {H H' : Hp} (e : Ex H H') {l : Addr} (h : H' l = Option.none) : H l = Option.none := by
  cases q : H l with
  | none => rfl
  | some o =>
    rw [e l o q] at h
    cases h
theorem Ex.rd {H H' : Hp} {a : Addr} {u : HO} (e : Ex H H') (h : Rd H a u) : Rd H' a u := by
  rcases h with h | ⟨o, h⟩
  · exact Or.inl (e a _ h)
  · exact Or.inr ⟨o, e a _ h⟩
theorem Ex.l {K : Frag} {H H' : Hp} {a : Addr} {xs : List V} (e : Ex H H') (h : SqL K H a xs) : SqL K H' a xs := h.imp e.rd id
theorem Ex.t {K : Frag} {H H' : Hp} {a : Addr} {xs : List V} (e : Ex H H') (h : SqT K H a xs) : SqT K H' a xs := h.imp e.rd id
/-- all but the object at p -/
def But (p : Addr) (H H' : Hp) : Prop := ∀ a o, a ≠ p → H a = some o → H' a = some o
theorem But.refl (p : Addr) (H : Hp) : But p H H := fun _ _ _ h => h
theorem But.trans {p : Addr} {H H1 H2 : Hp} (a : But p H H1) (b : But p H1 H2) : But p H H2 := fun c o n h => b c o n (a c o n h)
theorem But.upd {p : Addr} {H : Hp} {o : HO} : But p H (upd H p o) := fun a u n e => by rw [upd_ne n]; exact e
theorem Ex.but {p : Addr} {H H' : Hp} (e : Ex H H') : But p H H' := fun a o _ h => e a o h
theorem But.rd {p : Addr} {H H' : Hp} {a : Addr} {u : HO} (e : But p H H') (n : a ≠ p) (h : Rd H a u) : Rd H' a u := by
  rcases h with h | ⟨o, h⟩
  · exact Or.inl (e a _ n h)
  · exact Or.inr ⟨o, e a _ n h⟩
theorem But.l {K : Frag} {p : Addr} {H H' : Hp} {a : Addr} {xs : List V} (e : But p H H') (n : a ≠ p) (h : SqL K H a xs) : SqL K H' a xs := h.imp (e.rd n) id
theorem But.t {K : Frag} {p : Addr} {H H' : Hp} {a : Addr} {xs : List V} (e : But p H H') (n : a ≠ p) (h : SqT K H a xs) : SqT K H' a xs := h.imp (e.rd n) id
/-- p was new: all that was tracked stays -/
theorem But.ex {p : Addr} {H H' : Hp} (e : But p H H') (n : H p = none) : Ex H H' := fun a o h => e a o (ne_of_none h n) h
/-- .. behind a new object at p -/
theorem But.ex2 {p : Addr} {H H0 H' : Hp} (e : But p H0 H') (x : Ex H H0) (n : H p = none) : Ex H H' := fun a o h => e a o (ne_of_none h n) (x a o h)

/-! ### a value of a known kind -/
def isIntV : V → Bool
  | .int _ => true
  | _ => false
def isStrV : V → Bool
  | .str _ => true
  | _ => false
def isBoolV : V → Bool
  | .bl _ => true
  | _ => false
def isTupV (K : Frag) (H : Hp) (v : V) : Prop := TyX K H v (.type "tuple")
/-- a value whose class isinstance can tell -/
def Kno (K : Frag) (H : Hp) (v : V) : Prop := ∃ t : String, (t = "int" ∨ t = "bool" ∨ t = "str" ∨ t = "NoneType" ∨ t = "tuple" ∨ t = "list" ∨ t = "dict") ∧ TyX K H v (.type t)
theorem Kno.int {K : Frag} {H : Hp} {i : Int} : Kno K H (.int i) := ⟨"int", .inl rfl, .base (.int i)⟩
theorem Kno.str {K : Frag} {H : Hp} {i : Str} : Kno K H (.str i) := ⟨"str", .inr (.inr (.inl rfl)), .base (.str i)⟩
theorem ty_int {K : Frag} {H : Hp} {v : V} {t : String} (h : TyX K H v (.type t)) : isIntV v = decide (t = "int") := by
  cases h with
  | base b => cases b <;> rfl
  | _ => rfl
theorem ty_str {K : Frag} {H : Hp} {v : V} {t : String} (h : TyX K H v (.type t)) : isStrV v = decide (t = "str") := by
  cases h with
  | base b => cases b <;> rfl
  | _ => rfl
theorem ty_bool {K : Frag} {H : Hp} {v : V} {t : String} (h : TyX K H v (.type t)) : isBoolV v = decide (t = "bool") := by
  cases h with
  | base b => cases b <;> rfl
  | _ => rfl
theorem kno_int {K : Frag} {H : Hp} {v : V} (h : Kno K H v) : ∃ t u, ClsV (.ty "int") u ∧ TyX K H v t ∧ PySem.W.kitOne K t u = some (isIntV v || isBoolV v) := by
  obtain ⟨t, ht, h⟩ := h
  refine ⟨_, _, .ty _, h, ?_⟩
  rw [ty_int h, ty_bool h]
  rcases ht with rfl | rfl | rfl | rfl | rfl | rfl | rfl <;> exact kit_ty (by decide +kernel)
theorem kno_bool {K : Frag} {H : Hp} {v : V} (h : Kno K H v) : ∃ t u, ClsV (.ty "bool") u ∧ TyX K H v t ∧ PySem.W.kitOne K t u = some (isBoolV v) := by
  obtain ⟨t, ht, h⟩ := h
  refine ⟨_, _, .ty _, h, ?_⟩
  rw [ty_bool h]
  rcases ht with rfl | rfl | rfl | rfl | rfl | rfl | rfl <;> exact kit_ty (by decide +kernel)
theorem kno_str {K : Frag} {H : Hp} {v : V} (h : Kno K H v) : ∃ t u, ClsV (.ty "str") u ∧ TyX K H v t ∧ PySem.W.kitOne K t u = some (isStrV v) := by
  obtain ⟨t, ht, h⟩ := h
  refine ⟨_, _, .ty _, h, ?_⟩
  rw [ty_str h]
  rcases ht with rfl | rfl | rfl | rfl | rfl | rfl | rfl <;> exact kit_ty (by decide +kernel)

/-! ### ifs over a decision -/
theorem ifd {p A B : Prop} [Decidable p] (h1 : p → A) (h2 : ¬ p → B) : if decide p = true then A else B := by
  by_cases h : p
  · rw [if_pos (decide_eq_true h)]
    exact h1 h
  · rw [if_neg (by rw [decide_eq_false h]; decide)]
    exact h2 h
theorem ifn {p A B : Prop} [Decidable p] (h1 : ¬ p → A) (h2 : p → B) : if (!decide p) = true then A else B := by
  by_cases h : p
  · rw [if_neg (by rw [decide_eq_true h]; decide)]
    exact h2 h
  · rw [if_pos (by rw [decide_eq_false h]; rfl)]
    exact h1 h
theorem ifb {b : Bool} {A B : Prop} (h1 : b = true → A) (h2 : b = false → B) : if b = true then A else B := by
  cases b with
  | true => exact h1 rfl
  | false => exact h2 rfl
theorem ifT {b : Bool} {A B : Prop} (e : b = true) (h1 : A) : if b = true then A else B := by rw [if_pos e]; exact h1
theorem ifF {b : Bool} {A B : Prop} (e : b = false) (h1 : B) : if b = true then A else B := by rw [if_neg (by rw [e]; decide)]; exact h1
/-- x and y, y a comparison -/
theorem andV_pure {c c2 : Bool} {H : Hp} {Q : VK} {tb : TE} {σ : L2.St} (h2 : c = true → ∀ Q' : VK, Q' (.bl c2) H → tb σ H Q') (q : Q (.bl (c && c2)) H) : if c = true then tb σ H Q else Q (.bl false) H := by
  cases c with
  | true => exact h2 rfl Q q
  | false => exact q
theorem divOk {i j : Int} (h : i.natAbs < 2 ^ 3000) (hj : 0 < j) : CDivP i j := by
  refine divp_ok hj ?_
  have b : Builtin.Int.intBits i ≤ i.natAbs.log2 + 1 := by unfold Builtin.Int.intBits; split <;> omega
  have x := PySem.Flt.log2_lt_of (by decide : 0 < 3000) h
  omega
theorem size2 : 2 ≤ sizeLine := by decide
theorem size_le {n : Nat} (h : n ≤ 1000) : n ≤ sizeLine := Nat.le_trans h (by decide)
/-! ### the head's facts, with one more Bool of one's own -/
abbrev AlX : Type := He.AlD × Bool
def SaysX (fa : List He.Fa) (fn : List He.DefD) (ex : Frag → Bool) (K : Frag) : Prop := He.SaysD fa fn K ∧ ex K = true
def obsX (fa : List He.Fa) (fn : List He.DefD) (ex : Frag → Bool) (K : Frag) : AlX := (He.obsD fa fn K, ex K)
def obsXG (n : Nat) (fa : List He.Fa) (fn : List He.DefD) (ex : Frag → Bool) (g : Addr → Option Obj) : AlX := obsX fa fn ex (He.frG g (He.asD g n))
def hookX (n : Nat) (fa : List He.Fa) (fn : List He.DefD) (ex : Frag → Bool) : PySem.W.Hook where
  α := AlX
  obs := fun s => obsXG n fa fn ex s.heap.get?
  val := fun _ => (He.valD fn, true)
  says := fun _ h => ∃ K : Frag, K.In h ∧ SaysX fa fn ex K
  of := fun _ _ e => ⟨_, He.frG_in, congrArg Prod.fst e, congrArg Prod.snd e⟩
  keeps := fun _ _ _ ⟨K, hK, c⟩ k => ⟨K, PySem.W.Frag.In.keeps hK k, c⟩
theorem obsXG_eq {n : Nat} {fa : List He.Fa} {fn : List He.DefD} {ex : Frag → Bool} {g : Addr → Option Obj} {s : Shared} (h : ∀ a, g a = s.heap.get? a) : obsXG n fa fn ex g = (hookX n fa fn ex).obs s := by
  have e : g = s.heap.get? := funext h
  rw [e] <;> rfl
end SW


namespace SW
/-- the sign of a number -/
def sgn (n : Int) : Int := (if 0 < n then 1 else 0) - (if n < 0 then 1 else 0)
inductive Rule where
  | down | up | zero | positive | near
  deriving DecidableEq
def isGreater (r : Rule) (sign ds part size : Int) : Bool :=
  match r with
  | .down => decide (sign * ds < 0)
  | .up => decide (0 < sign * ds)
  | .positive => decide (sign < 0)
  | .near => decide (size < 2 * part) || (decide (2 * part = size) && decide (sign < 0))
  | .zero => false
def absI (x : Int) : Int := if x < 0 then -x else x
def divided (r : Rule) (x d : Int) : Int × Int :=
  if 0 < absI x % absI d ∧ isGreater r (sgn x) (sgn d) (absI x % absI d) (absI d) = true then
    (sgn x * sgn d * (absI x / absI d + 1), sgn x * (absI x % absI d - absI d))
  else (sgn x * sgn d * (absI x / absI d), sgn x * (absI x % absI d))
def b2 (b : Bool) : Int := if b then 1 else 0
/-- the law's own -/
def lawPart (r : Rule) (x d : Int) : Int :=
  match r with
  | .down => x % absI d - absI d * b2 (decide (d < 0) && decide (0 < x % absI d))
  | .up => x % absI d - absI d * b2 (decide (0 < d) && decide (0 < x % absI d))
  | .zero => x % absI d - absI d * b2 (decide (x < 0) && decide (0 < x % absI d))
  | .near => x % absI d - absI d * b2 (decide (absI d < 2 * (x % absI d)))
  | .positive => x % absI d
def spun (d : Int) : Int := 1 - 2 * b2 (decide (d < 0))
def lawDivide (r : Rule) (x d : Int) : Int × Int := ((x - lawPart r x d) / absI d * spun d, lawPart r x d)

theorem absI_pos {d : Int} (h : d ≠ 0) : 0 < absI d := by unfold absI; split <;> omega
theorem sgn_pos {d : Int} (h : 0 < d) : sgn d = 1 := by unfold sgn; rw [if_pos h, if_neg (by omega)]; rfl
theorem sgn_neg {d : Int} (h : d < 0) : sgn d = -1 := by unfold sgn; rw [if_neg (by omega), if_pos h]; rfl
theorem sgn_zero : sgn 0 = 0 := rfl
/-- quotient and remainder are fixed -/
theorem div_of {s x q r : Int} (hs : 0 < s) (e : x = s * q + r) (h0 : 0 ≤ r) (h1 : r < s) : x / s = q ∧ x % s = r := by
  subst e
  constructor
  · rw [Int.add_comm, Int.add_mul_ediv_left _ _ (by omega), Int.ediv_eq_zero_of_lt h0 h1]; omega
  · rw [Int.add_comm, Int.add_mul_emod_self_left, Int.emod_eq_of_lt h0 h1]
theorem exact_of {s x q : Int} (hs : 0 < s) (e : x = s * q) : x / s = q := (div_of (r := 0) hs (by omega) (by omega) hs).1

/-- the law's division of s * q + r, with 0 ≤ r < s -/
theorem law_eq (r : Rule) (x d : Int) (hd : d ≠ 0) : lawDivide r x d = divided r x d := by
  have hs := absI_pos hd
  generalize hS : absI d = s at hs
  have e1 := Int.mul_ediv_add_emod (absI x) s
  have e2 := Int.emod_nonneg (absI x) (show s ≠ 0 by omega)
  have e3 := Int.emod_lt_of_pos (absI x) hs
  generalize hq : absI x / s = q at e1
  generalize hp : absI x % s = p at e1 e2 e3
  have hspun : spun d = sgn d := by
    unfold spun
    rcases Int.lt_or_gt_of_ne hd with h | h
    · rw [sgn_neg h]; simp [b2, h]
    · rw [sgn_pos h]; simp [b2, Int.not_lt.mpr (Int.le_of_lt h)]
  -- x's own remainder
  have main : ∀ (k : Int), lawPart r x d = (if x < 0 then -1 else 1) * (p - s * k) → lawDivide r x d = (((if x < 0 then -1 else 1) * (q + k)) * sgn d, (if x < 0 then -1 else 1) * (p - s * k)) := by
    intro k hk
    unfold lawDivide
    rw [hS, hk, hspun]
    congr 2
    refine exact_of hs ?_
    have hx : x = (if x < 0 then -1 else 1) * absI x := by unfold absI; split <;> omega
    generalize hσ : (if x < 0 then (-1 : Int) else 1) = σ at hx
    rw [hx, ← e1]
    simp only [Int.mul_sub, Int.mul_add, Int.mul_left_comm]
    rw [Int.mul_left_comm s σ q, Int.mul_left_comm s σ k]
    omega
  have mx : x % s = if x < 0 then (if p = 0 then 0 else s - p) else p := by
    split
    · rename_i h
      have hx : x = -absI x := by unfold absI; rw [if_pos h]; omega
      split
      · rename_i h0
        refine (div_of (q := -q) hs ?_ (by omega) hs).2
        rw [hx, ← e1, h0, Int.mul_neg]; omega
      · refine (div_of (q := -q - 1) hs ?_ (by omega) (by omega)).2
        rw [hx, ← e1, Int.mul_sub, Int.mul_neg]; omega
    · rename_i h
      have hx : x = absI x := by unfold absI; rw [if_neg h]
      rw [hx, hp]
  have fin : ∀ (g : Bool), isGreater r (sgn x) (sgn d) p s = g → lawPart r x d = (if x < 0 then -1 else 1) * (p - s * (if 0 < p ∧ g = true then 1 else 0)) → lawDivide r x d = divided r x d := by
    intro g hg hk
    rw [main _ hk]
    unfold divided
    rw [hS, hq, hp, hg]
    by_cases c : 0 < p ∧ g = true
    · rw [if_pos c, if_pos c, Int.mul_one]
      have hx0 : x ≠ 0 := by
        intro e; subst e
        have : absI 0 = 0 := rfl
        rw [this] at hp
        simp at hp
        omega
      have hσ : sgn x = if x < 0 then -1 else 1 := by
        split
        · exact sgn_neg (by assumption)
        · exact sgn_pos (by omega)
      rw [hσ]
      congr 1
      rw [Int.mul_assoc, Int.mul_assoc, Int.mul_comm (sgn d)]
    · rw [if_neg c, if_neg c, Int.mul_zero, Int.sub_zero, Int.add_zero]
      by_cases hx0 : x = 0
      · subst hx0
        have h0 : absI 0 = 0 := rfl
        rw [h0] at hp hq
        simp at hp hq
        subst hp; subst hq
        simp [sgn_zero]
      have hσ : sgn x = if x < 0 then -1 else 1 := by
        split
        · exact sgn_neg (by assumption)
        · exact sgn_pos (by omega)
      rw [hσ]
      congr 1
      rw [Int.mul_assoc, Int.mul_assoc, Int.mul_comm (sgn d)]
  refine fin _ rfl ?_
  rcases Int.lt_or_gt_of_ne hd with h | h
  · have sd : sgn d = -1 := sgn_neg h
    rcases Int.lt_trichotomy x 0 with hx | hx | hx
    · rw [sgn_neg hx, sd]
      cases r <;> simp only [lawPart, isGreater, hS, mx, if_pos hx, b2, h, hx, decide_true, Bool.true_and, decide_eq_true_eq, Bool.or_eq_true, Bool.and_eq_true] <;> (repeat' split) <;> first | omega | (simp_all <;> omega)
    · subst hx
      have h0 : absI 0 = 0 := rfl
      rw [h0] at hp
      simp at hp
      subst hp
      have hsn : ¬ s < 0 := by omega
      cases r <;> simp [lawPart, isGreater, hS, b2, hsn]
    · have hxn : ¬ x < 0 := by omega
      rw [sgn_pos hx, sd]
      cases r <;> simp only [lawPart, isGreater, hS, mx, if_neg hxn, b2, h, hx, hxn, decide_true, decide_false, Bool.true_and, Bool.false_and, decide_eq_true_eq, Bool.or_eq_true, Bool.and_eq_true] <;> (repeat' split) <;> first | omega | (simp_all <;> omega)
  · have hdn : ¬ d < 0 := by omega
    have sd : sgn d = 1 := sgn_pos h
    rcases Int.lt_trichotomy x 0 with hx | hx | hx
    · rw [sgn_neg hx, sd]
      cases r <;> simp only [lawPart, isGreater, hS, mx, if_pos hx, b2, h, hdn, hx, decide_true, decide_false, Bool.true_and, Bool.false_and, decide_eq_true_eq, Bool.or_eq_true, Bool.and_eq_true] <;> (repeat' split) <;> first | omega | (simp_all <;> omega)
    · subst hx
      have h0 : absI 0 = 0 := rfl
      rw [h0] at hp
      simp at hp
      subst hp
      have hsn : ¬ s < 0 := by omega
      cases r <;> simp [lawPart, isGreater, hS, b2, hsn]
    · have hxn : ¬ x < 0 := by omega
      rw [sgn_pos hx, sd]
      cases r <;> simp only [lawPart, isGreater, hS, mx, if_neg hxn, b2, h, hdn, hx, hxn, decide_true, decide_false, Bool.true_and, Bool.false_and, decide_eq_true_eq, Bool.or_eq_true, Bool.and_eq_true] <;> (repeat' split) <;> first | omega | (simp_all <;> omega)

theorem absI_abs (d : Int) : absI d = (d.natAbs : Int) := by unfold absI; split <;> omega
theorem sgn_mul_absI (d : Int) : sgn d * absI d = d := by
  rcases Int.lt_trichotomy d 0 with h | h | h
  · rw [sgn_neg h]; unfold absI; rw [if_pos h]; omega
  · subst h; rfl
  · rw [sgn_pos h]; unfold absI; rw [if_neg (by omega)]; omega
/-- x = later * base + part, part smaller than the base -/
theorem divided_right (r : Rule) (x d : Int) (hd : d ≠ 0) : x = (divided r x d).1 * d + (divided r x d).2 ∧ absI (divided r x d).2 < absI d := by
  have hs := absI_pos hd
  have e0 := sgn_mul_absI d
  have e4 := sgn_mul_absI x
  have e1 := Int.mul_ediv_add_emod (absI x) (absI d)
  have e2 := Int.emod_nonneg (absI x) (show absI d ≠ 0 by omega)
  have e3 := Int.emod_lt_of_pos (absI x) hs
  have hsg : sgn d * sgn d = 1 := by
    rcases Int.lt_or_gt_of_ne hd with h | h
    · rw [sgn_neg h]; rfl
    · rw [sgn_pos h]; rfl
  have hx3 : sgn x = 0 ∨ sgn x = 1 ∨ sgn x = -1 := by
    rcases Int.lt_trichotomy x 0 with h | h | h
    · exact .inr (.inr (sgn_neg h))
    · subst h; exact .inl rfl
    · exact .inr (.inl (sgn_pos h))
  unfold divided
  generalize absI x / absI d = q at *
  generalize absI x % absI d = p at *
  have key : ∀ k : Int, sgn x * sgn d * k * d = sgn x * (absI d * k) := fun k => by
    have e5 : sgn x * sgn d * k * d = sgn x * sgn d * k * (sgn d * absI d) := by rw [e0]
    rw [e5, show sgn x * sgn d * k * (sgn d * absI d) = (sgn d * sgn d) * (sgn x * (absI d * k)) by
      simp only [Int.mul_comm, Int.mul_left_comm, Int.mul_assoc], hsg, Int.one_mul]
  split
  · rename_i c
    refine ⟨?_, ?_⟩
    · show x = sgn x * sgn d * (q + 1) * d + sgn x * (p - absI d)
      rw [key, ← Int.mul_add, show absI d * (q + 1) + (p - absI d) = absI x by rw [Int.mul_add]; omega, e4]
    · show absI (sgn x * (p - absI d)) < absI d
      generalize absI d = s at *
      rcases hx3 with h | h | h <;> rw [h] <;> unfold absI <;> (repeat' split) <;> omega
  · refine ⟨?_, ?_⟩
    · show x = sgn x * sgn d * q * d + sgn x * p
      rw [key, ← Int.mul_add, e1, e4]
    · show absI (sgn x * p) < absI d
      generalize absI d = s at *
      rcases hx3 with h | h | h <;> rw [h] <;> unfold absI <;> (repeat' split) <;> omega
def carried (r : Rule) (sign base figure : Int) : Int × Int :=
  if figure = absI base then (1, 0)
  else if 0 < figure ∧ isGreater r sign (sgn base) figure (absI base) = true then (1, sign * (figure - absI base))
  else (0, sign * figure)
theorem carried_eq (r : Rule) (sign base high figure : Int) (hb : base ≠ 0) (hsg : sign = 1 ∨ sign = -1) (hh : 0 ≤ high) (h0 : 0 ≤ figure) (h1 : figure ≤ absI base) :
    carried r sign base figure = (sign * spun base * (lawDivide r (sign * (absI base * high + figure)) base).1 - high, (lawDivide r (sign * (absI base * high + figure)) base).2) := by
  rw [law_eq _ _ _ hb]
  have hs := absI_pos hb
  have hspun : spun base = sgn base := by
    unfold spun
    rcases Int.lt_or_gt_of_ne hb with h | h
    · rw [sgn_neg h]; simp [b2, h]
    · rw [sgn_pos h]; simp [b2, Int.not_lt.mpr (Int.le_of_lt h)]
  have hsb : sgn base * sgn base = 1 := by
    rcases Int.lt_or_gt_of_ne hb with h | h
    · rw [sgn_neg h]; rfl
    · rw [sgn_pos h]; rfl
  have hss : sign * sign = 1 := by rcases hsg with h | h <;> rw [h] <;> rfl
  have hn : 0 ≤ absI base * high := Int.mul_nonneg (by omega) hh
  generalize hS : absI base = s at *
  have habs : absI (sign * (s * high + figure)) = s * high + figure := by
    rcases hsg with h | h <;> rw [h] <;> unfold absI <;> split <;> omega
  have back : ∀ k : Int, sign * sgn base * (sign * sgn base * k) = k := fun k => by
    rw [show sign * sgn base * (sign * sgn base * k) = (sign * sign) * ((sgn base * sgn base) * k) by
      simp only [Int.mul_comm, Int.mul_left_comm, Int.mul_assoc], hss, hsb]; omega
  unfold divided
  rw [hS, habs, hspun]
  by_cases hz : s * high + figure = 0
  · have f0 : figure = 0 := by omega
    have hm : s * high = 0 := by omega
    have hi0 : high = 0 := by
      rcases Int.mul_eq_zero.mp hm with h | h
      · omega
      · exact h
    subst f0; subst hi0
    unfold carried
    rw [hS]
    have hns : ¬ (0 : Int) = s := by omega
    simp [hns]
  have hsx : sgn (sign * (s * high + figure)) = sign := by
    rcases hsg with h | h
    · rw [h]; exact sgn_pos (by omega)
    · rw [h]; exact sgn_neg (by omega)
  rw [hsx]
  unfold carried
  rw [hS]
  by_cases hf : figure = s
  · obtain ⟨q1, q2⟩ := div_of (s := s) (x := s * high + figure) (q := high + 1) (r := 0) hs (by rw [Int.mul_add]; omega) (by omega) hs
    rw [q1, q2, if_pos hf, if_neg (by omega)]
    show (1, 0) = (sign * sgn base * (sign * sgn base * (high + 1)) - high, sign * 0)
    rw [back]
    congr 1 <;> omega
  · obtain ⟨q1, q2⟩ := div_of (s := s) (x := s * high + figure) (q := high) (r := figure) hs rfl h0 (by omega)
    rw [q1, q2, if_neg hf]
    split
    · show (1, sign * (figure - s)) = (sign * sgn base * (sign * sgn base * (high + 1)) - high, sign * (figure - s))
      rw [back]
      congr 1; omega
    · show (0, sign * figure) = (sign * sgn base * (sign * sgn base * high) - high, sign * figure)
      rw [back]
      congr 1; omega

/-- the rules' names -/
def rname : Rule → PySem.Str
  | .down => "down"
  | .up => "up"
  | .zero => "zero"
  | .positive => "positive"
  | .near => "near"
def ruleVs : List L2.V := [.str "down", .str "up", .str "zero", .str "positive", .str "near"]
theorem ruleVs_mem {v : L2.V} (h : v ∈ ruleVs) : ∃ r, v = .str (rname r) := by
  rcases List.mem_cons.mp h with rfl | h
  · exact ⟨.down, rfl⟩
  rcases List.mem_cons.mp h with rfl | h
  · exact ⟨.up, rfl⟩
  rcases List.mem_cons.mp h with rfl | h
  · exact ⟨.zero, rfl⟩
  rcases List.mem_cons.mp h with rfl | h
  · exact ⟨.positive, rfl⟩
  rcases List.mem_cons.mp h with rfl | h
  · exact ⟨.near, rfl⟩
  · exact absurd h (by simp)
theorem sgn_cases (n : Int) : sgn n = 0 ∨ sgn n = 1 ∨ sgn n = -1 := by unfold sgn; split <;> split <;> omega
end SW


namespace SW
open PySem L2 PyProof.Rows
local macro_rules | `(tactic| walk_at "go") => `(tactic| repeat (first
  | refine ⟨_, rfl, ?_⟩
  | refine ⟨_, _, rfl, rfl, ?_⟩
  | refine ⟨rfl, ?_⟩
  | refine .inl ⟨_, rfl, ?_⟩
  | refine .inr ⟨_, rfl, ?_⟩))
local macro_rules | `(tactic| walk_at "n") => `(tactic| ((try dsimp only); first | decide | omega | (exact Nat.le_of_ble_eq_true rfl) | (simp; done)))

def TabRULES (K : Frag) : Prop := ∀ H : Hp, SqT K H (He.ga K "RULES") [.str "down", .str "up", .str "zero", .str "positive", .str "near"]
/-! ### rule_names -/
def sp_rule_names (K : Frag) : Sp := fun vs H Q _ => vs = [] ∧ ∀ p, H p = none → Q (.ref p) (upd H p (.lst ruleVs))
theorem len_rule_names (K : Frag) (vs : List V) (H : Hp) (Q : VK) (E : XK) (h : sp_rule_names K vs H Q E) : vs.length = 0 := by obtain ⟨rfl, _⟩ := h; rfl
def n_rule_names : List Str := []
def t_rule_names (K : Frag) : TS := (tRet (tCB (bList K) (tCons (tC (.ref (He.ga K "RULES"))) tNil)))

theorem pure_rule_names (K : Frag) (tb_RULES : TabRULES K) (vs : List V) (H : Hp) (Q : VK) (E : XK) (h : sp_rule_names K vs H Q E) : Runs (t_rule_names K) n_rule_names vs H Q := by
  obtain ⟨rfl, h⟩ := h
  exact ⟨_, _, rfl, .inr (tb_RULES H), fun l hl => h l hl⟩

/-! ### is_rule -/
def isRuleV : V → Bool
  | .str z => inV (.str z) ruleVs
  | _ => false
theorem isRule_rname (r : Rule) : isRuleV (.str (rname r)) = true := by cases r <;> rfl
def sp_is_rule (K : Frag) : Sp := fun vs H Q _ => ∃ v, vs = [v] ∧ Kno K H v ∧ Q (.bl (isRuleV v)) H
theorem len_is_rule (K : Frag) (vs : List V) (H : Hp) (Q : VK) (E : XK) (h : sp_is_rule K vs H Q E) : vs.length = 1 := by obtain ⟨v, rfl, _⟩ := h; rfl
def n_is_rule : List Str := ["value"]
def t_is_rule (K : Frag) : TS := (tRet (tAndV (tCB (rIsi K) (tCons (tVar 0) (tCons (tC (.ty "str")) tNil))) (tOp (rIn K false) (tVar 0) (tC (.ref (He.ga K "RULES"))))))

theorem pure_is_rule (K : Frag) (tb_RULES : TabRULES K) (vs : List V) (H : Hp) (Q : VK) (E : XK) (h : sp_is_rule K vs H Q E) : Runs (t_is_rule K) n_is_rule vs H Q := by
  obtain ⟨v, rfl, hk, h⟩ := h
  obtain ⟨t, u, h1, h2, h3⟩ := kno_str hk
  refine ⟨_, rfl, _, _, t, u, _, rfl, h1, h2, h3, _, rfl, ?_⟩
  cases v with
  | str z =>
    refine ifT rfl ?_
    exact ⟨_, rfl, _, _, rfl, .inr (tb_RULES H), rfl, rfl, h⟩
  | _ =>
    refine ifF rfl ?_
    exact h

/-! ### require_rule -/
def sp_require_rule (K : Frag) : Sp := fun vs H Q _ => ∃ r, vs = [.str (rname r)] ∧ Q .non H
theorem len_require_rule (K : Frag) (vs : List V) (H : Hp) (Q : VK) (E : XK) (h : sp_require_rule K vs H Q E) : vs.length = 1 := by obtain ⟨v, rfl, _⟩ := h; rfl
def n_require_rule : List Str := ["value"]
def t_require_rule (K : Frag) : TS := (tIfS (tNot (tB (tCall (sp_is_rule K) [] E0 (tCons (tVar 0) tNil)))) tNever tNext)

theorem pure_require_rule (K : Frag) (vs : List V) (H : Hp) (Q : VK) (E : XK) (h : sp_require_rule K vs H Q E) : Runs (t_require_rule K) n_require_rule vs H Q := by
  obtain ⟨r, rfl, h⟩ := h
  refine ⟨_, rfl, _, rfl, .str, _, rfl, ?_⟩
  rw [isRule_rname]
  exact h

/-! ### is_integer -/
def sp_is_integer (K : Frag) : Sp := fun vs H Q _ => ∃ v, vs = [v] ∧ Kno K H v ∧ Q (.bl (isIntV v)) H
theorem len_is_integer (K : Frag) (vs : List V) (H : Hp) (Q : VK) (E : XK) (h : sp_is_integer K vs H Q E) : vs.length = 1 := by obtain ⟨v, rfl, _⟩ := h; rfl
def n_is_integer : List Str := ["value"]
def t_is_integer (K : Frag) : TS := (tRet (tAndV (tCB (rIsi K) (tCons (tVar 0) (tCons (tC (.ty "int")) tNil))) (tNotV (tCB (rIsi K) (tCons (tVar 0) (tCons (tC (.ty "bool")) tNil))))))

theorem pure_is_integer (K : Frag) (vs : List V) (H : Hp) (Q : VK) (E : XK) (h : sp_is_integer K vs H Q E) : Runs (t_is_integer K) n_is_integer vs H Q := by
  obtain ⟨v, rfl, hk, h⟩ := h
  obtain ⟨t, u, h1, h2, h3⟩ := kno_int hk
  obtain ⟨t', u', h1', h2', h3'⟩ := kno_bool hk
  refine ⟨_, rfl, _, _, t, u, _, rfl, h1, h2, h3, _, rfl, ?_⟩
  cases e : (isIntV v || isBoolV v) with
  | true =>
    refine ifT rfl ?_
    refine ⟨_, rfl, _, _, t', u', _, rfl, h1', h2', h3', _, rfl, ?_⟩
    have z : (!isBoolV v) = isIntV v := by cases v <;> first | rfl | (cases e)
    rw [z]; exact h
  | false =>
    refine ifF rfl ?_
    have z : isIntV v = false := by cases v <;> first | rfl | (cases e)
    rw [z] at h; exact h

/-! ### is_sign -/
def isSignV : V → Bool
  | .int n => decide (n = -1 ∨ n = 1)
  | _ => false
def sp_is_sign (K : Frag) : Sp := fun vs H Q _ => ∃ v, vs = [v] ∧ Kno K H v ∧ ∀ H', Ex H H' → Q (.bl (isSignV v)) H'
theorem len_is_sign (K : Frag) (vs : List V) (H : Hp) (Q : VK) (E : XK) (h : sp_is_sign K vs H Q E) : vs.length = 1 := by obtain ⟨v, rfl, _⟩ := h; rfl
def n_is_sign : List Str := ["value"]
def t_is_sign (K : Frag) : TS := (tRet (tAndV (tCall (sp_is_integer K) [] E0 (tCons (tVar 0) tNil)) (tOp (rIn K false) (tVar 0) (tTup (tCons (tUn oNeg (tC (.int 1))) (tCons (tC (.int 1)) tNil))))))

theorem pure_is_sign (K : Frag) (vs : List V) (H : Hp) (Q : VK) (E : XK) (h : sp_is_sign K vs H Q E) : Runs (t_is_sign K) n_is_sign vs H Q := by
  obtain ⟨v, rfl, hk, h⟩ := h
  refine ⟨_, rfl, _, rfl, hk, _, rfl, ?_⟩
  cases v with
  | int n =>
    refine ifT rfl ?_
    refine ⟨_, rfl, _, rfl, size2, fun p hp => ?_⟩
    refine ⟨p, _, rfl, .inr (.inl (.inl upd_same)), rfl, rfl, ?_⟩
    have e : inV (.int n) [.int (-1), .int 1] = isSignV (.int n) := by
      show ((-1 == n) || ((1 == n) || false)) = decide (n = -1 ∨ n = 1)
      rw [Bool.or_false]
      by_cases h1 : n = -1
      · subst h1; rfl
      · by_cases h2 : n = 1
        · subst h2; rfl
        · rw [decide_eq_false (by omega)]
          simp only [Bool.or_eq_false_iff, beq_eq_false_iff_ne]
          omega
    have q := h _ (Ex.new hp (o := .tup [.int (-1), .int 1]))
    rw [← e] at q
    exact q
  | _ =>
    refine ifF rfl ?_
    exact h H (Ex.refl H)

/-! ### is_base -/
def isBaseV : V → Bool
  | .int n => decide (2 ≤ absI n) && decide (absI n ≤ 10)
  | _ => false
def sp_is_base (K : Frag) : Sp := fun vs H Q _ => ∃ v, vs = [v] ∧ Kno K H v ∧ Q (.bl (isBaseV v)) H
theorem len_is_base (K : Frag) (vs : List V) (H : Hp) (Q : VK) (E : XK) (h : sp_is_base K vs H Q E) : vs.length = 1 := by obtain ⟨v, rfl, _⟩ := h; rfl
def n_is_base : List Str := ["value"]
def t_is_base (K : Frag) : TS := (tRet (tAndV (tCall (sp_is_integer K) [] E0 (tCons (tVar 0) tNil)) (tChain oLe oLe (tC (.int 2)) (tCB bAbs (tCons (tVar 0) tNil)) (tC (.int 10)))))

theorem pure_is_base (K : Frag) (vs : List V) (H : Hp) (Q : VK) (E : XK) (h : sp_is_base K vs H Q E) : Runs (t_is_base K) n_is_base vs H Q := by
  obtain ⟨v, rfl, hk, h⟩ := h
  refine ⟨_, rfl, _, rfl, hk, _, rfl, ?_⟩
  cases v with
  | int n =>
    refine ifT rfl ?_
    refine ⟨_, rfl, _, rfl, _, _, rfl, rfl, _, rfl, ?_⟩
    refine ifd (fun h1 => ?_) fun h1 => ?_
    · refine ⟨_, _, rfl, rfl, ?_⟩
      have e : isBaseV (.int n) = decide (absI n ≤ 10) := by show (decide (2 ≤ absI n) && _) = _; rw [decide_eq_true (show 2 ≤ absI n from h1)]; rfl
      rw [e] at h; exact h
    · have e : isBaseV (.int n) = false := by show (decide (2 ≤ absI n) && _) = _; rw [decide_eq_false (show ¬ 2 ≤ absI n from h1)]; rfl
      rw [e] at h; exact h
  | _ =>
    refine ifF rfl ?_
    exact h

/-! ### is_between -/
def isBetweenV (lo hi : Int) : V → Bool
  | .int n => decide (lo ≤ n) && decide (n ≤ hi)
  | _ => false
def sp_is_between (K : Frag) : Sp := fun vs H Q _ => ∃ v lo hi, vs = [v, .int lo, .int hi] ∧ Kno K H v ∧ Q (.bl (isBetweenV lo hi v)) H
theorem len_is_between (K : Frag) (vs : List V) (H : Hp) (Q : VK) (E : XK) (h : sp_is_between K vs H Q E) : vs.length = 3 := by obtain ⟨v, _, _, rfl, _⟩ := h; rfl
def n_is_between : List Str := ["value", "least", "greatest"]
def t_is_between (K : Frag) : TS := (tRet (tAndV (tCall (sp_is_integer K) [] E0 (tCons (tVar 0) tNil)) (tChain oLe oLe (tVar 1) (tVar 0) (tVar 2))))

theorem pure_is_between (K : Frag) (vs : List V) (H : Hp) (Q : VK) (E : XK) (h : sp_is_between K vs H Q E) : Runs (t_is_between K) n_is_between vs H Q := by
  obtain ⟨v, lo, hi, rfl, hk, h⟩ := h
  refine ⟨_, rfl, _, rfl, hk, _, rfl, ?_⟩
  cases v with
  | int n =>
    refine ifT rfl ?_
    refine ⟨_, rfl, _, rfl, _, _, rfl, rfl, _, rfl, ?_⟩
    refine ifd (fun h1 => ?_) fun h1 => ?_
    · refine ⟨_, rfl, _, _, rfl, rfl, ?_⟩
      have e : isBetweenV lo hi (.int n) = decide (n ≤ hi) := by show (decide (lo ≤ n) && _) = _; rw [decide_eq_true h1]; rfl
      rw [e] at h; exact h
    · have e : isBetweenV lo hi (.int n) = false := by show (decide (lo ≤ n) && _) = _; rw [decide_eq_false h1]; rfl
      rw [e] at h; exact h
  | _ =>
    refine ifF rfl ?_
    exact h

/-! ### is_greater -/
def sp_is_greater (K : Frag) : Sp := fun vs H Q _ => ∃ (r : Rule) (sign ds part size : Int), vs = [.str (rname r), .int sign, .int ds, .int part, .int size] ∧ (-(2 ^ 64) < sign ∧ sign < 2 ^ 64) ∧ Q (.bl (isGreater r sign ds part size)) H
theorem len_is_greater (K : Frag) (vs : List V) (H : Hp) (Q : VK) (E : XK) (h : sp_is_greater K vs H Q E) : vs.length = 5 := by obtain ⟨_, _, _, _, _, rfl, _⟩ := h; rfl
def n_is_greater : List Str := ["rule", "sign", "divisor_sign", "part", "size"]
def t_is_greater (K : Frag) : TS := (tMatch (tVar 0) (mStr "down" (tRet (tOp oLt (tOp oMul (tVar 1) (tVar 2)) (tC (.int 0)))) (mStr "up" (tRet (tOp oGt (tOp oMul (tVar 1) (tVar 2)) (tC (.int 0)))) (mStr "positive" (tRet (tOp oLt (tVar 1) (tC (.int 0)))) (mStr "near" (tRet (tOrV (tOp oGt (tOp oMul (tC (.int 2)) (tVar 3)) (tVar 4)) (tAndV (tOp rEq (tOp oMul (tC (.int 2)) (tVar 3)) (tVar 4)) (tOp oLt (tVar 1) (tC (.int 0)))))) (mElse (tRet (tC (.bl false)))))))))

theorem pure_is_greater (K : Frag) (vs : List V) (H : Hp) (Q : VK) (E : XK) (h : sp_is_greater K vs H Q E) : Runs (t_is_greater K) n_is_greater vs H Q := by
  obtain ⟨r, sign, ds, part, size, rfl, hb, h⟩ := h
  cases r with
  | down =>
    refine ⟨_, rfl, _, rfl, ifT rfl ?_⟩
    exact ⟨_, rfl, _, rfl, _, _, rfl, rfl, .inl hb, _, _, rfl, rfl, h⟩
  | up =>
    refine ⟨_, rfl, _, rfl, ifF rfl ⟨_, rfl, ifT rfl ?_⟩⟩
    exact ⟨_, rfl, _, rfl, _, _, rfl, rfl, .inl hb, _, _, rfl, rfl, h⟩
  | positive =>
    refine ⟨_, rfl, _, rfl, ifF rfl ⟨_, rfl, ifF rfl ⟨_, rfl, ifT rfl ?_⟩⟩⟩
    exact ⟨_, rfl, _, _, rfl, rfl, h⟩
  | near =>
    refine ⟨_, rfl, _, rfl, ifF rfl ⟨_, rfl, ifF rfl ⟨_, rfl, ifF rfl ⟨_, rfl, ifT rfl ?_⟩⟩⟩⟩
    refine ⟨_, rfl, _, _, rfl, rfl, .inl (by decide), _, rfl, _, _, rfl, rfl, _, rfl, ?_⟩
    refine ifd (fun h1 => ?_) fun h1 => ?_
    · have e : isGreater .near sign ds part size = true := by
        show (decide (size < 2 * part) || _) = true
        rw [decide_eq_true h1]; rfl
      rw [e] at h; exact h
    · refine ⟨_, rfl, _, _, rfl, rfl, .inl (by decide), _, rfl, rfl, _, rfl, ?_⟩
      have e0 : isGreater .near sign ds part size = (decide (2 * part = size) && decide (sign < 0)) := by
        show (decide (size < 2 * part) || _) = _
        rw [decide_eq_false h1]; rfl
      refine ifd (fun h2 => ?_) fun h2 => ?_
      · refine ⟨_, rfl, _, _, rfl, rfl, ?_⟩
        rw [e0, decide_eq_true (V.int.inj h2)] at h; exact h
      · rw [e0, decide_eq_false (fun q => h2 (congrArg V.int q))] at h; exact h
  | zero =>
    refine ⟨_, rfl, _, rfl, ifF rfl ⟨_, rfl, ifF rfl ⟨_, rfl, ifF rfl ⟨_, rfl, ifF rfl ?_⟩⟩⟩⟩
    exact h

/-! ### sign_of -/
def sp_sign_of (K : Frag) : Sp := fun vs H Q _ => ∃ n, vs = [.int n] ∧ Q (.int (sgn n)) H
theorem len_sign_of (K : Frag) (vs : List V) (H : Hp) (Q : VK) (E : XK) (h : sp_sign_of K vs H Q E) : vs.length = 1 := by obtain ⟨n, rfl, _⟩ := h; rfl
def n_sign_of : List Str := ["number"]
def t_sign_of (K : Frag) : TS := (tRet (tOp oSub (tCB bInt (tCons (tOp oGt (tVar 0) (tC (.int 0))) tNil)) (tCB bInt (tCons (tOp oLt (tVar 0) (tC (.int 0))) tNil))))

theorem pure_sign_of (K : Frag) (vs : List V) (H : Hp) (Q : VK) (E : XK) (h : sp_sign_of K vs H Q E) : Runs (t_sign_of K) n_sign_of vs H Q := by
  obtain ⟨n, rfl, h⟩ := h
  walk_at "go"
  have e : (if decide (0 < n) = true then (1 : Int) else 0) - (if decide (n < 0) = true then 1 else 0) = sgn n := by unfold sgn; simp
  rw [← e] at h
  exact h

/-! ### carried -/
def sp_carried (K : Frag) : Sp := fun vs H Q _ => ∃ (r : Rule) (sign base fig : Int), vs = [.str (rname r), .int sign, .int base, .int fig] ∧ (-(2 ^ 64) < sign ∧ sign < 2 ^ 64) ∧
  ∀ p H', Ex H H' → H' p = some (.tup [.int (carried r sign base fig).1, .int (carried r sign base fig).2]) → Q (.ref p) H'
theorem len_carried (K : Frag) (vs : List V) (H : Hp) (Q : VK) (E : XK) (h : sp_carried K vs H Q E) : vs.length = 4 := by obtain ⟨_, _, _, _, rfl, _⟩ := h; rfl
def n_carried : List Str := ["rule", "sign", "base", "figure", "size"]
def t_carried (K : Frag) : TS := (tSeq (tAsg (tCB bAbs (tCons (tVar 2) tNil)) (gName 4)) (tSeq (tIfS (tTest (tOp rEq (tVar 3) (tVar 4))) (tRet (tTup (tCons (tC (.int 1)) (tCons (tC (.int 0)) tNil)))) tNext) (tSeq (tIfS (tAnd (tTest (tOp oGt (tVar 3) (tC (.int 0)))) (tB (tCall (sp_is_greater K) [] E0 (tCons (tVar 0) (tCons (tVar 1) (tCons (tCall (sp_sign_of K) [] E0 (tCons (tVar 2) tNil)) (tCons (tVar 3) (tCons (tVar 4) tNil)))))))) (tRet (tTup (tCons (tC (.int 1)) (tCons (tOp oMul (tVar 1) (tOp oSub (tVar 3) (tVar 4))) tNil)))) tNext) (tRet (tTup (tCons (tC (.int 0)) (tCons (tOp oMul (tVar 1) (tVar 3)) tNil)))))))

theorem pure_carried (K : Frag) (vs : List V) (H : Hp) (Q : VK) (E : XK) (h : sp_carried K vs H Q E) : Runs (t_carried K) n_carried vs H Q := by
  obtain ⟨r, sign, base, fig, rfl, hb, h⟩ := h
  refine ⟨_, rfl, _, rfl, _, rfl, _, rfl, rfl, _, rfl, ?_⟩
  have tl : ∀ (a b : Int), carried r sign base fig = (a, b) → ∀ p, H p = none → Q (.ref p) (upd H p (.tup [.int a, .int b])) := fun a b e p hp => by
    refine h p _ (Ex.new hp) ?_
    rw [e]
    exact upd_same
  refine ifd (fun c => ?_) fun c => ?_
  · refine ⟨size2, tl _ _ ?_⟩
    unfold carried
    exact if_pos (V.int.inj c)
  · have c' : ¬ fig = absI base := fun q => c (congrArg V.int q)
    refine ⟨_, rfl, _, _, rfl, rfl, _, rfl, ?_⟩
    refine ifd (fun c1 => ?_) fun c1 => ?_
    · refine ⟨_, rfl, _, rfl, _, rfl, _, rfl, _, rfl, _, rfl, r, _, _, _, _, rfl, hb, _, rfl, ?_⟩
      refine ifb (fun c2 => ?_) fun c2 => ?_
      · refine ⟨_, rfl, _, rfl, _, rfl, _, _, rfl, rfl, _, _, rfl, rfl, .inl hb, size2, tl _ _ ?_⟩
        unfold carried
        rw [if_neg c', if_pos ⟨c1, c2⟩]
        rfl
      · refine ⟨_, rfl, _, rfl, _, _, rfl, rfl, .inl hb, size2, tl _ _ ?_⟩
        unfold carried
        rw [if_neg c', if_neg (fun z => by rw [show isGreater r sign (sgn base) fig (absI base) = false from c2] at z; cases z.2)]
    · refine ifF rfl ?_
      refine ⟨_, rfl, _, rfl, _, _, rfl, rfl, .inl hb, size2, tl _ _ ?_⟩
      unfold carried
      rw [if_neg c', if_neg (fun z => c1 z.1)]

/-! ### carry -/
def sp_carry (K : Frag) : Sp := fun vs H Q _ => ∃ (r : Rule) (sign base fig : Int), vs = [.str (rname r), .int sign, .int base, .int fig] ∧ (sign = -1 ∨ sign = 1) ∧ (2 ≤ absI base ∧ absI base ≤ 10) ∧ (0 ≤ fig ∧ fig ≤ absI base) ∧
  ∀ p H', Ex H H' → H' p = some (.tup [.int (carried r sign base fig).1, .int (carried r sign base fig).2]) → Q (.ref p) H'
theorem len_carry (K : Frag) (vs : List V) (H : Hp) (Q : VK) (E : XK) (h : sp_carry K vs H Q E) : vs.length = 4 := by obtain ⟨_, _, _, _, rfl, _⟩ := h; rfl
def n_carry : List Str := ["rule", "sign", "base", "figure"]
def t_carry (K : Frag) : TS := (tSeq (tDrop (tCall (sp_require_rule K) [] E0 (tCons (tVar 0) tNil))) (tSeq (tIfS (tNot (tB (tCall (sp_is_sign K) [] E0 (tCons (tVar 1) tNil)))) tNever tNext) (tSeq (tIfS (tNot (tB (tCall (sp_is_base K) [] E0 (tCons (tVar 2) tNil)))) tNever tNext) (tSeq (tIfS (tNot (tB (tCall (sp_is_between K) [] E0 (tCons (tVar 3) (tCons (tC (.int 0)) (tCons (tCB bAbs (tCons (tVar 2) tNil)) tNil)))))) tNever tNext) (tRet (tCall (sp_carried K) [] E0 (tCons (tVar 0) (tCons (tVar 1) (tCons (tVar 2) (tCons (tVar 3) tNil))))))))))

theorem pure_carry (K : Frag) (vs : List V) (H : Hp) (Q : VK) (E : XK) (h : sp_carry K vs H Q E) : Runs (t_carry K) n_carry vs H Q := by
  obtain ⟨r, sign, base, fig, rfl, hs, hb, hf, h⟩ := h
  refine ⟨_, rfl, r, rfl, ?_⟩
  refine ⟨_, rfl, _, rfl, .int, fun H1 e1 => ⟨_, rfl, ?_⟩⟩
  refine ifF (by show (!decide (sign = -1 ∨ sign = 1)) = false; rw [decide_eq_true hs]; rfl) ?_
  refine ⟨_, rfl, _, rfl, .int, _, rfl, ?_⟩
  refine ifF (by show (!(decide (2 ≤ absI base) && decide (absI base ≤ 10))) = false; rw [decide_eq_true hb.1, decide_eq_true hb.2]; rfl) ?_
  refine ⟨_, rfl, _, rfl, _, rfl, _, _, _, rfl, .int, _, rfl, ?_⟩
  refine ifF (by show (!(decide (0 ≤ fig) && decide (fig ≤ absI base))) = false; rw [decide_eq_true hf.1, decide_eq_true hf.2]; rfl) ?_
  refine ⟨_, rfl, _, rfl, _, rfl, _, rfl, r, _, _, _, rfl, by omega, fun p H' e hp => ?_⟩
  exact h p H' (e1.trans e) hp

/-! ### _law_pool -/
def sp_law_pool (K : Frag) : Sp := fun vs H Q _ => ∃ (a : Addr) (ns : List Int) (k : Nat), vs = [.ref a, .int k] ∧ SqL K H a (ns.map V.int) ∧ k < 1000 ∧
  ∀ p c s H', H p = none → 0 ≤ c → 0 ≤ s → s < 2147483647 → H' = upd H p (.lst [.int c, .int s]) → Q (.ref p) H'
theorem len_law_pool (K : Frag) (vs : List V) (H : Hp) (Q : VK) (E : XK) (h : sp_law_pool K vs H Q E) : vs.length = 2 := by obtain ⟨_, _, _, rfl, _⟩ := h; rfl
def n_law_pool : List Str := ["script", "k", "cell", "seed"]
def t_law_pool (K : Frag) : TS := (tSeq (tAsg (tC (.int 0)) (gName 2)) (tSeq (tIfS (tTest (tOp oLt (tVar 1) (tCB (bLen K) (tCons (tVar 0) tNil)))) (tAsg (tOp (rIxL K) (tVar 0) (tVar 1)) (gName 2)) tNext) (tSeq (tAsg (tOp oMod (tOp oPow (tOp oAdd (tOp oAdd (tOp oMod (tCB bInt (tCons (tVar 2) tNil)) (tC (.int 2147483629))) (tOp oMul (tOp oMul (tC (.int 7919)) (tVar 1)) (tVar 1))) (tC (.int 31))) (tC (.int 3))) (tC (.int 2147483647))) (gName 3)) (tSeq (tIfS (tTest (tOp oLt (tVar 2) (tOp oPow (tC (.int 10)) (tC (.int 18))))) (tAsg (tC (.int 0)) (gName 2)) tNext) (tRet (tLst (tCons (tVar 2) (tCons (tVar 3) tNil))))))))

theorem pure_law_pool (K : Frag) (vs : List V) (H : Hp) (Q : VK) (E : XK) (h : sp_law_pool K vs H Q E) : Runs (t_law_pool K) n_law_pool vs H Q := by
  obtain ⟨a, ns, k, rfl, ha, hk, h⟩ := h
  have tl : ∀ c : Int, (tSeq (tAsg (tOp oMod (tOp oPow (tOp oAdd (tOp oAdd (tOp oMod (tCB bInt (tCons (tVar 2) tNil)) (tC (.int 2147483629))) (tOp oMul (tOp oMul (tC (.int 7919)) (tVar 1)) (tVar 1))) (tC (.int 31))) (tC (.int 3))) (tC (.int 2147483647))) (gName 3)) (tSeq (tIfS (tTest (tOp oLt (tVar 2) (tOp oPow (tC (.int 10)) (tC (.int 18))))) (tAsg (tC (.int 0)) (gName 2)) tNext) (tRet (tLst (tCons (tVar 2) (tCons (tVar 3) tNil))))))
        { nx := fun _ H' => Q .non H', rt := Q } [some (.ref a), some (.int k), some (.int c), none] H := by
    intro c
    have m0 := Int.emod_nonneg c (show (2147483629 : Int) ≠ 0 by decide)
    have m1 := Int.emod_lt_of_pos c (show (0 : Int) < 2147483629 by decide)
    have k2 : (0 : Int) ≤ 7919 * k * k ∧ 7919 * (k : Int) * k ≤ 7919000000 := by
      have hk' : (k : Int) < 1000 := by omega
      have h0 : (0 : Int) ≤ k := by omega
      have e1 : (k : Int) * k ≤ 1000 * 1000 := Int.mul_le_mul (by omega) (by omega) h0 (by omega)
      have e2 : (0 : Int) ≤ k * k := Int.mul_nonneg h0 h0
      rw [Int.mul_assoc]; omega
    refine ⟨_, rfl, .inl ⟨_, rfl, _, _, rfl, rfl, by walk_at "n", _, rfl, _, _, rfl, rfl, .inl (by decide), _, rfl, _, _, rfl, rfl, .inr (by omega), ?_⟩⟩
    refine ⟨_, _, rfl, rfl, _, _, rfl, rfl, _, _, rfl, rfl, ⟨by decide, by decide, ?_⟩, _, _, rfl, rfl, by walk_at "n", ?_⟩
    · show (c % 2147483629 + 7919 * (k : Int) * k + 31).natAbs < 2 ^ 64
      omega
    have s0 : 0 ≤ (c % 2147483629 + 7919 * (k : Int) * k + 31) ^ (3 : Int).toNat % 2147483647 := Int.emod_nonneg _ (by decide)
    have s1 : (c % 2147483629 + 7919 * (k : Int) * k + 31) ^ (3 : Int).toNat % 2147483647 < 2147483647 := Int.emod_lt_of_pos _ (by decide)
    refine ⟨_, rfl, _, _, rfl, rfl, ⟨by decide, by decide, by decide⟩, _, _, rfl, rfl, _, rfl, ?_⟩
    refine ifd (fun h1 => ?_) fun h1 => ?_
    · exact ⟨_, rfl, _, rfl, size2, fun p hp => h p 0 _ _ hp (by decide) s0 s1 rfl⟩
    · have c0 : (10 : Int) ^ (18 : Int).toNat ≤ c := by omega
      have : (0 : Int) ≤ 10 ^ (18 : Int).toNat := by decide
      exact ⟨_, rfl, _, rfl, size2, fun p hp => h p c _ _ hp (by omega) s0 s1 rfl⟩
  refine ⟨_, rfl, _, rfl, _, _, rfl, .inl ha, _, _, rfl, rfl, _, rfl, ?_⟩
  refine ifd (fun h1 => ?_) fun h1 => ?_
  · have h2 : k < ns.length := by rw [List.length_map] at h1; omega
    refine ⟨_, rfl, _, rfl, a, _, _, .int ns[k], rfl, rfl, ha, ?_, ?_⟩
    · exact atI_nat (by simp [h2])
    · exact tl _
  · exact tl 0

/-! ### _law_draw -/
/-- the pool of a law's draws: what is left of a great cell, the seed -/
def PoolAt (H : Hp) (p : Addr) : Prop := ∃ c s : Int, H p = some (.lst [.int c, .int s]) ∧ 0 ≤ c ∧ 0 ≤ s ∧ s < 2147483647
theorem PoolAt.mk' {H : Hp} {p : Addr} {c s : Int} (hc : 0 ≤ c) (h0 : 0 ≤ s) (h1 : s < 2147483647) : PoolAt (upd H p (.lst [.int c, .int s])) p := ⟨c, s, upd_same, hc, h0, h1⟩
theorem PoolAt.ne {H : Hp} {p : Addr} (h : PoolAt H p) : H p ≠ none := by obtain ⟨c, s, e, _⟩ := h; rw [e]; exact fun z => nomatch z
theorem PoolAt.ex {H H' : Hp} {p : Addr} (h : PoolAt H p) (e : Ex H H') : PoolAt H' p := by obtain ⟨c, s, e1, q⟩ := h; exact ⟨c, s, e _ _ e1, q⟩
def sp_law_draw (K : Frag) : Sp := fun vs H Q _ => ∃ (p : Addr) (many : Int), vs = [.ref p, .int many] ∧ PoolAt H p ∧ 0 < many ∧ many < 2 ^ 100 ∧
  ∀ d H', 0 ≤ d → d < many → But p H H' → PoolAt H' p → Q (.int d) H'
theorem len_law_draw (K : Frag) (vs : List V) (H : Hp) (Q : VK) (E : XK) (h : sp_law_draw K vs H Q E) : vs.length = 2 := by obtain ⟨_, _, rfl, _⟩ := h; rfl
def n_law_draw : List Str := ["pool", "many", "digit"]
def t_law_draw (K : Frag) : TS := (tSeq (tIfS (tTest (tOp oGt (tOp (rIxL K) (tVar 0) (tC (.int 0))) (tC (.int 0)))) (tSeq (tAsg (tOp oMod (tCB bInt (tCons (tOp (rIxL K) (tVar 0) (tC (.int 0))) tNil)) (tVar 1)) (gName 2)) (tSeq (tAsg (tOp oDiv (tOp (rIxL K) (tVar 0) (tC (.int 0))) (tVar 1)) (gSub (tVar 0) (tC (.int 0)) rSetL)) (tRet (tVar 2)))) tNext) (tSeq (tAsg (tOp oMod (tCB bInt (tCons (tOp oAdd (tOp oMul (tOp (rIxL K) (tVar 0) (tC (.int 1))) (tC (.int 48271))) (tC (.int 11))) tNil)) (tC (.int 2147483647))) (gSub (tVar 0) (tC (.int 1)) rSetL)) (tRet (tOp oMod (tOp oDiv (tOp oMod (tCB bInt (tCons (tOp oMul (tOp (rIxL K) (tVar 0) (tC (.int 1))) (tOp (rIxL K) (tVar 0) (tC (.int 1)))) tNil)) (tC (.int 2147483629))) (tC (.int 64))) (tVar 1)))))

theorem pure_law_draw (K : Frag) (vs : List V) (H : Hp) (Q : VK) (E : XK) (h : sp_law_draw K vs H Q E) : Runs (t_law_draw K) n_law_draw vs H Q := by
  obtain ⟨p, many, rfl, ⟨c, s, hp, hc, h0, h1⟩, hm, hm2, h⟩ := h
  have i0 : atI [V.int c, V.int s] 0 = some (.int c) := rfl
  have i1 : atI [V.int c, V.int s] 1 = some (.int s) := rfl
  refine ⟨_, rfl, p, _, _, _, rfl, rfl, .of hp, i0, _, _, rfl, rfl, _, rfl, ?_⟩
  refine ifd (fun h2 => ?_) fun h2 => ?_
  · refine ⟨_, rfl, p, _, _, _, rfl, rfl, .of hp, i0, .inl ⟨_, rfl, _, rfl, _, _, rfl, rfl, hm, ?_⟩⟩
    refine ⟨_, rfl, p, _, _, _, rfl, rfl, .of hp, i0, _, rfl, _, _, rfl, rfl, wide_div hm (b := 100) (by omega) (by decide) (by decide), ?_⟩
    refine ⟨_, rfl, p, _, _, 0, rfl, rfl, hp, rfl, _, rfl, ?_⟩
    exact h _ _ (Int.emod_nonneg _ (by omega)) (Int.emod_lt_of_pos _ hm) But.upd (PoolAt.mk' (Int.ediv_nonneg hc (by omega)) h0 h1)
  · refine ⟨_, rfl, p, _, _, _, rfl, rfl, .of hp, i1, _, _, rfl, rfl, .inr (by decide), _, _, rfl, rfl, .inl ⟨_, rfl, _, _, rfl, rfl, by walk_at "n", ?_⟩⟩
    refine ⟨_, rfl, p, _, _, 1, rfl, rfl, hp, rfl, ?_⟩
    have s0 : 0 ≤ (s * 48271 + 11) % 2147483647 := Int.emod_nonneg _ (by decide)
    have s1 : (s * 48271 + 11) % 2147483647 < 2147483647 := Int.emod_lt_of_pos _ (by decide)
    have hp2 : upd H p (.lst ([V.int c, V.int s].set 1 (.int ((s * 48271 + 11) % 2147483647)))) p = some (.lst [.int c, .int ((s * 48271 + 11) % 2147483647)]) := upd_same
    refine ⟨_, rfl, p, _, _, _, rfl, rfl, .of hp2, rfl, _, rfl, p, _, _, _, rfl, rfl, .of hp2, rfl, _, _, rfl, rfl, .inl ⟨by omega, by omega⟩, .inl ⟨_, rfl, _, _, rfl, rfl, by walk_at "n", _, _, rfl, rfl, wide_div (by decide) (b := 100) (by decide) (by decide) (by decide), _, rfl, _, _, rfl, rfl, hm, ?_⟩⟩
    exact h _ _ (Int.emod_nonneg _ (by omega)) (Int.emod_lt_of_pos _ hm) But.upd (PoolAt.mk' hc s0 s1)

/-! ### _law_choose -/
def sp_law_choose (K : Frag) : Sp := fun vs H Q _ => ∃ (p l : Addr) (xs : List V), vs = [.ref p, .ref l] ∧ PoolAt H p ∧ l ≠ p ∧ SqL K H l xs ∧ xs ≠ [] ∧ xs.length ≤ 1000 ∧
  ∀ x H', x ∈ xs → But p H H' → PoolAt H' p → Q x H'
theorem len_law_choose (K : Frag) (vs : List V) (H : Hp) (Q : VK) (E : XK) (h : sp_law_choose K vs H Q E) : vs.length = 2 := by obtain ⟨_, _, _, rfl, _⟩ := h; rfl
def n_law_choose : List Str := ["pool", "items"]
def t_law_choose (K : Frag) : TS := (tRet (tOp (rIxL K) (tVar 1) (tCall (sp_law_draw K) [] E0 (tCons (tVar 0) (tCons (tCB (bLen K) (tCons (tVar 1) tNil)) tNil)))))

theorem pure_law_choose (K : Frag) (vs : List V) (H : Hp) (Q : VK) (E : XK) (h : sp_law_choose K vs H Q E) : Runs (t_law_choose K) n_law_choose vs H Q := by
  obtain ⟨p, l, xs, rfl, hp, hne, hl, h0, h1, h⟩ := h
  have hz : 0 < xs.length := List.length_pos_iff.mpr h0
  refine ⟨_, rfl, _, rfl, _, rfl, _, _, rfl, .inl hl, p, _, rfl, hp, by omega, by omega, fun d H' d0 d1 hb hp' => ?_⟩
  obtain ⟨j, rfl⟩ : ∃ j : Nat, d = j := ⟨d.toNat, by omega⟩
  have hj : j < xs.length := by omega
  refine ⟨l, xs, _, xs[j], rfl, rfl, hb.l hne hl, atI_nat (by simp [hj]), ?_⟩
  exact h _ _ (List.getElem_mem hj) hb hp'

/-! ### _law_number -/
def sp_law_number (K : Frag) : Sp := fun vs H Q _ => ∃ (p : Addr), vs = [.ref p] ∧ PoolAt H p ∧ ∀ x H', absI x ≤ 10 ^ 20 → But p H H' → PoolAt H' p → Q (.int x) H'
theorem len_law_number (K : Frag) (vs : List V) (H : Hp) (Q : VK) (E : XK) (h : sp_law_number K vs H Q E) : vs.length = 1 := by obtain ⟨_, rfl, _⟩ := h; rfl
def n_law_number : List Str := ["pool", "some"]
def t_law_number (K : Frag) : TS := (tSeq (tAsg (tLst (tCons (tOp oSub (tCall (sp_law_draw K) [] E0 (tCons (tVar 0) (tCons (tC (.int 41)) tNil))) (tC (.int 20))) (tCons (tOp oSub (tCall (sp_law_draw K) [] E0 (tCons (tVar 0) (tCons (tC (.int 2001)) tNil))) (tC (.int 1000))) (tCons (tOp oSub (tCall (sp_law_draw K) [] E0 (tCons (tVar 0) (tCons (tOp oPow (tC (.int 10)) (tC (.int 20))) tNil))) (tOp oPow (tC (.int 10)) (tC (.int 19)))) tNil)))) (gName 1)) (tRet (tCall (sp_law_choose K) [] E0 (tCons (tVar 0) (tCons (tVar 1) tNil)))))

theorem pure_law_number (K : Frag) (vs : List V) (H : Hp) (Q : VK) (E : XK) (h : sp_law_number K vs H Q E) : Runs (t_law_number K) n_law_number vs H Q := by
  obtain ⟨p, rfl, hp, h⟩ := h
  refine ⟨_, rfl, p, _, rfl, hp, by decide, by decide, fun d1 H1 a1 b1 e1 p1 => ⟨_, _, rfl, rfl, ?_⟩⟩
  refine ⟨_, rfl, p, _, rfl, p1, by decide, by decide, fun d2 H2 a2 b2 e2 p2 => ⟨_, _, rfl, rfl, ?_⟩⟩
  refine ⟨_, rfl, _, _, rfl, rfl, ⟨by decide, by decide, by decide⟩, p, _, rfl, p2, by decide, by decide, fun d3 H3 a3 b3 e3 p3 => ⟨_, _, rfl, rfl, ⟨by decide, by decide, by decide⟩, _, _, rfl, rfl, ?_⟩⟩
  refine ⟨size_le (Nat.le_of_ble_eq_true rfl), fun l hl => ?_⟩
  have hne : l ≠ p := fun z => by subst z; exact p3.ne hl
  have e4 : Ex H3 (upd H3 l _) := Ex.new hl (o := .lst [.int (d1 - 20), .int (d2 - 1000), .int (d3 - 10 ^ (19 : Int).toNat)])
  refine ⟨_, rfl, _, rfl, p, l, _, rfl, p3.ex e4, hne, .of upd_same, (fun z => nomatch z), Nat.le_of_ble_eq_true rfl, fun x H5 hx e5 p5 => ?_⟩
  have hb : But p H H5 := ((e1.trans e2).trans e3).trans (e4.but.trans e5)
  have x3 : (10 : Int) ^ (19 : Int).toNat = 10000000000000000000 := by decide
  have x4 : (10 : Int) ^ (20 : Int).toNat = 100000000000000000000 := by decide
  have hx : x ∈ [V.int (d1 - 20), V.int (d2 - 1000), V.int (d3 - 10000000000000000000)] := hx
  have b3 : d3 < 100000000000000000000 := b3
  rcases List.mem_cons.mp hx with rfl | hx
  · exact h _ _ (by unfold absI; split <;> omega) hb p5
  rcases List.mem_cons.mp hx with rfl | hx
  · exact h _ _ (by unfold absI; split <;> omega) hb p5
  rcases List.mem_cons.mp hx with rfl | hx
  · exact h _ _ (by unfold absI; split <;> omega) hb p5
  · exact absurd hx (by simp)

/-! ### divided -/
def DivPre (x d : Int) : Prop := absI x < 2 ^ 3000 ∧ d ≠ 0 ∧ absI d < 2 ^ 64
def sp_divided (K : Frag) : Sp := fun vs H Q _ => ∃ (r : Rule) (x d : Int), vs = [.str (rname r), .int x, .int d] ∧ DivPre x d ∧
  ∀ p H', Ex H H' → H' p = some (.tup [.int (divided r x d).1, .int (divided r x d).2]) → Q (.ref p) H'
theorem len_divided (K : Frag) (vs : List V) (H : Hp) (Q : VK) (E : XK) (h : sp_divided K vs H Q E) : vs.length = 3 := by obtain ⟨_, _, _, rfl, _⟩ := h; rfl
def n_divided : List Str := ["rule", "x", "divisor", "size", "sign", "whole", "part"]
def t_divided (K : Frag) : TS := (tSeq (tPar 3 4 (tCons (tCB bAbs (tCons (tVar 2) tNil)) (tCons (tCall (sp_sign_of K) [] E0 (tCons (tVar 1) tNil)) tNil))) (tSeq (tAsg (tCB bDivmod (tCons (tCB bAbs (tCons (tVar 1) tNil)) (tCons (tVar 3) tNil))) (gTup K 2 (gCons (gName 5) (gCons (gName 6) gNil)))) (tSeq (tIfS (tAnd (tTest (tOp oGt (tVar 6) (tC (.int 0)))) (tB (tCall (sp_is_greater K) [] E0 (tCons (tVar 0) (tCons (tVar 4) (tCons (tCall (sp_sign_of K) [] E0 (tCons (tVar 2) tNil)) (tCons (tVar 6) (tCons (tVar 3) tNil)))))))) (tPar 5 6 (tCons (tOp oAdd (tVar 5) (tC (.int 1))) (tCons (tOp oSub (tVar 6) (tVar 3)) tNil))) tNext) (tRet (tTup (tCons (tOp oMul (tOp oMul (tVar 4) (tCall (sp_sign_of K) [] E0 (tCons (tVar 2) tNil))) (tVar 5)) (tCons (tOp oMul (tVar 4) (tVar 6)) tNil)))))))

theorem pure_divided (K : Frag) (vs : List V) (H : Hp) (Q : VK) (E : XK) (h : sp_divided K vs H Q E) : Runs (t_divided K) n_divided vs H Q := by
  obtain ⟨r, x, d, rfl, ⟨hx, hd, hd2⟩, h⟩ := h
  have hs := absI_pos hd
  have sb : ∀ n, -(2 ^ 64) < sgn n ∧ sgn n < 2 ^ 64 := fun n => by unfold sgn; split <;> split <;> omega
  refine ⟨_, rfl, _, rfl, _, rfl, _, rfl, _, _, rfl, ?_⟩
  refine ⟨_, rfl, _, rfl, _, rfl, _, _, rfl, divOk (by have := absI_abs x; omega) hs, fun p hp => ?_⟩
  refine ⟨p, _, rfl, .inl (.inl upd_same), rfl, _, _, rfl, _, _, rfl, rfl, ?_⟩
  have e1 : Ex H (upd H p (.tup [.int (absI x / absI d), .int (absI x % absI d)])) := Ex.new hp
  -- part > 0 and is_greater
  have tl : ∀ (w pt : Int), sgn x * sgn d * w = (divided r x d).1 → sgn x * pt = (divided r x d).2 →
      ∀ H', Ex H H' → (tRet (tTup (tCons (tOp oMul (tOp oMul (tVar 4) (tCall (sp_sign_of K) [] E0 (tCons (tVar 2) tNil))) (tVar 5)) (tCons (tOp oMul (tVar 4) (tVar 6)) tNil))))
        { nx := fun _ H' => Q .non H', rt := Q } [some (.str (rname r)), some (.int x), some (.int d), some (.int (absI d)), some (.int (sgn x)), some (.int w), some (.int pt)] H' := by
    intro w pt h1 h2 H' e
    refine ⟨_, rfl, _, rfl, _, rfl, _, _, rfl, rfl, .inl (sb x), _, rfl, _, _, rfl, rfl, .inl ?_, _, rfl, _, rfl, _, _, rfl, rfl, .inl (sb x), size2, fun p2 hp2 => ?_⟩
    · have := sgn_cases x; have := sgn_cases d
      rcases sgn_cases x with a | a | a <;> rcases sgn_cases d with b | b | b <;> rw [a, b] <;> decide
    · refine h p2 _ (e.trans (Ex.new hp2)) ?_
      rw [← h1, ← h2]
      exact upd_same
  refine ⟨_, rfl, _, _, rfl, rfl, _, rfl, ?_⟩
  refine ifd (fun c1 => ?_) fun c1 => ?_
  · refine ⟨_, rfl, _, rfl, _, rfl, _, rfl, _, rfl, _, rfl, r, _, _, _, _, rfl, sb x, _, rfl, ?_⟩
    refine ifb (fun c2 => ?_) fun c2 => ?_
    · refine ⟨_, rfl, _, _, rfl, rfl, _, rfl, _, rfl, _, _, rfl, rfl, _, _, rfl, ?_⟩
      have e : divided r x d = (sgn x * sgn d * (absI x / absI d + 1), sgn x * (absI x % absI d - absI d)) := if_pos ⟨c1, c2⟩
      exact tl _ _ (congrArg Prod.fst e).symm (congrArg Prod.snd e).symm _ e1
    · have e : divided r x d = (sgn x * sgn d * (absI x / absI d), sgn x * (absI x % absI d)) := if_neg fun z => Bool.noConfusion (z.2.symm.trans c2)
      exact tl _ _ (congrArg Prod.fst e).symm (congrArg Prod.snd e).symm _ e1
  · refine ifF rfl ?_
    have e : divided r x d = (sgn x * sgn d * (absI x / absI d), sgn x * (absI x % absI d)) := if_neg fun z => c1 z.1
    exact tl _ _ (congrArg Prod.fst e).symm (congrArg Prod.snd e).symm _ e1

/-! ### divide -/
def sp_divide (K : Frag) : Sp := sp_divided K
theorem len_divide (K : Frag) (vs : List V) (H : Hp) (Q : VK) (E : XK) (h : sp_divide K vs H Q E) : vs.length = 3 := by obtain ⟨_, _, _, rfl, _⟩ := h; rfl
def n_divide : List Str := ["rule", "x", "base"]
def t_divide (K : Frag) : TS := (tSeq (tDrop (tCall (sp_require_rule K) [] E0 (tCons (tVar 0) tNil))) (tSeq (tIfS (tNot (tB (tCall (sp_is_integer K) [] E0 (tCons (tVar 1) tNil)))) tNever tNext) (tSeq (tIfS (tOr (tNot (tB (tCall (sp_is_integer K) [] E0 (tCons (tVar 2) tNil)))) (tTest (tOp rEq (tVar 2) (tC (.int 0))))) tNever tNext) (tRet (tCall (sp_divided K) [] E0 (tCons (tVar 0) (tCons (tVar 1) (tCons (tVar 2) tNil))))))))

theorem pure_divide (K : Frag) (vs : List V) (H : Hp) (Q : VK) (E : XK) (h : sp_divide K vs H Q E) : Runs (t_divide K) n_divide vs H Q := by
  obtain ⟨r, x, d, rfl, hd, h⟩ := h
  refine ⟨_, rfl, r, rfl, ?_⟩
  refine ⟨_, rfl, _, rfl, .int, _, rfl, ifF rfl ?_⟩
  refine ⟨_, rfl, _, rfl, .int, _, rfl, ifF rfl ?_⟩
  refine ⟨_, rfl, rfl, _, rfl, ?_⟩
  refine ifF (decide_eq_false fun q => hd.2.1 (V.int.inj q)) ?_
  exact ⟨_, rfl, _, rfl, _, rfl, r, x, d, rfl, hd, h⟩

/-! ### _law_divide -/
def sp_law_divide (K : Frag) : Sp := fun vs H Q _ => ∃ (r : Rule) (x d : Int), vs = [.str (rname r), .int x, .int d] ∧ (d ≠ 0 ∧ absI d < 2 ^ 64) ∧
  ∀ p H', Ex H H' → H' p = some (.tup [.int (lawDivide r x d).1, .int (lawDivide r x d).2]) → Q (.ref p) H'
theorem len_law_divide (K : Frag) (vs : List V) (H : Hp) (Q : VK) (E : XK) (h : sp_law_divide K vs H Q E) : vs.length = 3 := by obtain ⟨_, _, _, rfl, _⟩ := h; rfl
def n_law_divide : List Str := ["rule", "x", "base", "size", "spun", "part"]
def t_law_divide (K : Frag) : TS := (tSeq (tPar 3 4 (tCons (tCB bAbs (tCons (tVar 2) tNil)) (tCons (tOp oSub (tC (.int 1)) (tOp oMul (tC (.int 2)) (tCB bInt (tCons (tOp oLt (tVar 2) (tC (.int 0))) tNil)))) tNil))) (tSeq (tAsg (tOp oMod (tCB bInt (tCons (tVar 1) tNil)) (tVar 3)) (gName 5)) (tSeq (tIfS (tTest (tOp rEq (tVar 0) (tC (.str "down")))) (tAsg (tOp oSub (tVar 5) (tOp oMul (tVar 3) (tCB bInt (tCons (tAndV (tOp oLt (tVar 2) (tC (.int 0))) (tOp oGt (tVar 5) (tC (.int 0)))) tNil)))) (gName 5)) (tIfS (tTest (tOp rEq (tVar 0) (tC (.str "up")))) (tAsg (tOp oSub (tVar 5) (tOp oMul (tVar 3) (tCB bInt (tCons (tAndV (tOp oGt (tVar 2) (tC (.int 0))) (tOp oGt (tVar 5) (tC (.int 0)))) tNil)))) (gName 5)) (tIfS (tTest (tOp rEq (tVar 0) (tC (.str "zero")))) (tAsg (tOp oSub (tVar 5) (tOp oMul (tVar 3) (tCB bInt (tCons (tAndV (tOp oLt (tVar 1) (tC (.int 0))) (tOp oGt (tVar 5) (tC (.int 0)))) tNil)))) (gName 5)) (tIfS (tTest (tOp rEq (tVar 0) (tC (.str "near")))) (tAsg (tOp oSub (tVar 5) (tOp oMul (tVar 3) (tCB bInt (tCons (tOp oGt (tOp oMul (tC (.int 2)) (tVar 5)) (tVar 3)) tNil)))) (gName 5)) tNext)))) (tRet (tTup (tCons (tOp oMul (tOp oDiv (tOp oSub (tVar 1) (tVar 5)) (tVar 3)) (tVar 4)) (tCons (tVar 5) tNil)))))))

theorem pure_law_divide (K : Frag) (vs : List V) (H : Hp) (Q : VK) (E : XK) (h : sp_law_divide K vs H Q E) : Runs (t_law_divide K) n_law_divide vs H Q := by
  obtain ⟨r, x, d, rfl, ⟨hd, hd2⟩, h⟩ := h
  have hs := absI_pos hd
  have b2r : ∀ b, (-(2 ^ 64) < b2 b ∧ b2 b < 2 ^ 64) := fun b => by cases b <;> decide
  have spr : (-(2 ^ 64) < spun d ∧ spun d < 2 ^ 64) := by
    unfold spun
    cases decide (d < 0) <;> decide
  have sprs : -(2 ^ 64) < (2 : Int) ∧ (2 : Int) < 2 ^ 64 := by decide
  refine ⟨_, rfl, _, rfl, _, rfl, _, _, rfl, rfl, .inr ⟨_, rfl, _, _, rfl, rfl, .inl sprs, _, _, rfl, rfl, _, _, rfl, ?_⟩⟩
  refine ⟨_, rfl, .inl ⟨_, rfl, _, rfl, _, _, rfl, rfl, hs, ?_⟩⟩
  have tl : ∀ pt : Int, lawPart r x d = pt → (tRet (tTup (tCons (tOp oMul (tOp oDiv (tOp oSub (tVar 1) (tVar 5)) (tVar 3)) (tVar 4)) (tCons (tVar 5) tNil)))) { nx := fun _ H' => Q .non H', rt := Q }
      [some (.str (rname r)), some (.int x), some (.int d), some (.int (absI d)), some (.int (spun d)), some (.int pt)] H := by
    intro pt e
    refine ⟨_, rfl, _, rfl, _, _, rfl, rfl, _, rfl, _, _, rfl, rfl, wide_div hs (b := 64) (by omega) (by decide) (by decide), _, rfl, _, _, rfl, rfl, .inr spr, _, rfl, size2, fun p hp => ?_⟩
    refine h p _ (Ex.new hp) ?_
    show upd H p _ p = some (.tup [.int ((x - lawPart r x d) / absI d * spun d), .int (lawPart r x d)])
    rw [e]
    exact upd_same
  refine ⟨_, rfl, rfl, _, rfl, ?_⟩
  cases r with
  | down =>
    refine ifT (by decide +kernel) ?_
    refine ⟨_, rfl, _, rfl, _, rfl, _, _, rfl, rfl, _, rfl, ?_⟩
    refine andV_pure (c2 := decide (0 < x % absI d)) (fun _ Q' q' => ⟨_, rfl, _, _, rfl, rfl, q'⟩) ?_
    exact .inr ⟨_, rfl, _, _, rfl, rfl, .inr (b2r _), _, _, rfl, rfl, tl _ rfl⟩
  | up =>
    refine ifF (by decide +kernel) ?_
    refine ⟨_, rfl, rfl, _, rfl, ifT (by decide +kernel) ?_⟩
    refine ⟨_, rfl, _, rfl, _, rfl, _, _, rfl, rfl, _, rfl, ?_⟩
    refine andV_pure (c2 := decide (0 < x % absI d)) (fun _ Q' q' => ⟨_, rfl, _, _, rfl, rfl, q'⟩) ?_
    exact .inr ⟨_, rfl, _, _, rfl, rfl, .inr (b2r _), _, _, rfl, rfl, tl _ rfl⟩
  | zero =>
    refine ifF (by decide +kernel) ?_
    refine ⟨_, rfl, rfl, _, rfl, ifF (by decide +kernel) ?_⟩
    refine ⟨_, rfl, rfl, _, rfl, ifT (by decide +kernel) ?_⟩
    refine ⟨_, rfl, _, rfl, _, rfl, _, _, rfl, rfl, _, rfl, ?_⟩
    refine andV_pure (c2 := decide (0 < x % absI d)) (fun _ Q' q' => ⟨_, rfl, _, _, rfl, rfl, q'⟩) ?_
    exact .inr ⟨_, rfl, _, _, rfl, rfl, .inr (b2r _), _, _, rfl, rfl, tl _ rfl⟩
  | near =>
    refine ifF (by decide +kernel) ?_
    refine ⟨_, rfl, rfl, _, rfl, ifF (by decide +kernel) ?_⟩
    refine ⟨_, rfl, rfl, _, rfl, ifF (by decide +kernel) ?_⟩
    refine ⟨_, rfl, rfl, _, rfl, ifT (by decide +kernel) ?_⟩
    refine ⟨_, rfl, _, rfl, _, rfl, _, _, rfl, rfl, .inl sprs, _, rfl, _, _, rfl, rfl, ?_⟩
    exact .inr ⟨_, rfl, _, _, rfl, rfl, .inr (b2r _), _, _, rfl, rfl, tl _ rfl⟩
  | positive =>
    refine ifF (by decide +kernel) ?_
    refine ⟨_, rfl, rfl, _, rfl, ifF (by decide +kernel) ?_⟩
    refine ⟨_, rfl, rfl, _, rfl, ifF (by decide +kernel) ?_⟩
    refine ⟨_, rfl, rfl, _, rfl, ifF (by decide +kernel) ?_⟩
    exact tl _ rfl

/-! ### _law_carries_right -/
def sp_law_carries_right (K : Frag) : Sp := fun vs H Q _ => ∃ (r : Rule) (sign base high : Int), vs = [.str (rname r), .int sign, .int base, .int high] ∧ (sign = -1 ∨ sign = 1) ∧ (2 ≤ absI base ∧ absI base ≤ 10) ∧ 0 ≤ high ∧
  ∀ H', Ex H H' → Q (.bl true) H'
theorem len_law_carries_right (K : Frag) (vs : List V) (H : Hp) (Q : VK) (E : XK) (h : sp_law_carries_right K vs H Q E) : vs.length = 4 := by obtain ⟨_, _, _, _, rfl, _⟩ := h; rfl
def n_law_carries_right : List Str := ["rule", "sign", "base", "high", "size", "figure", "x", "later", "part", "spun"]
def t_law_carries_right (K : Frag) : TS := (tSeq (tAsg (tCB bAbs (tCons (tVar 2) tNil)) (gName 4)) (tSeq (tFor (iRng1 (tCons (tOp oAdd (tVar 4) (tC (.int 1))) tNil)) (gName 5) (tSeq (tAsg (tOp oMul (tVar 1) (tOp oAdd (tOp oMul (tVar 4) (tVar 3)) (tVar 5))) (gName 6)) (tSeq (tAsg (tCall (sp_law_divide K) [] E0 (tCons (tVar 0) (tCons (tVar 6) (tCons (tVar 2) tNil)))) (gTup K 2 (gCons (gName 7) (gCons (gName 8) gNil)))) (tSeq (tAsg (tOp oMul (tVar 1) (tOp oSub (tC (.int 1)) (tOp oMul (tC (.int 2)) (tCB bInt (tCons (tOp oLt (tVar 2) (tC (.int 0))) tNil))))) (gName 9)) (tIfS (tTest (tOp (rNeD K) (tCall (sp_carry K) [] E0 (tCons (tVar 0) (tCons (tVar 1) (tCons (tVar 2) (tCons (tVar 5) tNil))))) (tTup (tCons (tOp oSub (tOp oMul (tVar 9) (tVar 7)) (tVar 3)) (tCons (tVar 8) tNil))))) (tRet (tC (.bl false))) tNext))))) (tRet (tC (.bl true)))))

theorem pure_law_carries_right (K : Frag) (vs : List V) (H : Hp) (Q : VK) (E : XK) (h : sp_law_carries_right K vs H Q E) : Runs (t_law_carries_right K) n_law_carries_right vs H Q := by
  obtain ⟨r, sign, base, high, rfl, hs, hb, hh, h⟩ := h
  have hb0 : base ≠ 0 := fun z => by rw [z] at hb; exact absurd hb.1 (by decide)
  refine ⟨_, rfl, _, rfl, _, rfl, _, _, rfl, rfl, _, rfl, ?_⟩
  have hsz : (if base < 0 then -base else base) = absI base := rfl
  rw [hsz]
  refine ⟨by omega, by omega, for_range (lo := 0) (n := (absI base + 1).toNat) (fun i σ H' => Ex H H' ∧ ∃ o5 o6 o7 o8 o9, σ = [some (.str (rname r)), some (.int sign), some (.int base), some (.int high), some (.int (absI base)), o5, o6, o7, o8, o9]) ⟨Ex.refl H, _, _, _, _, _, rfl⟩ ?_ ?_⟩
  · rintro i σ H1 hi ⟨e1, o5, o6, o7, o8, o9, rfl⟩
    have hi2 : (0 : Int) + (i : Int) = i := by omega
    rw [hi2]
    have hi3 : (i : Int) ≤ absI base := by omega
    have ss : -(2 ^ 64) < sign ∧ sign < 2 ^ 64 := by omega
    refine ⟨_, rfl, _, rfl, _, rfl, _, _, rfl, rfl, .inl (by omega), _, rfl, _, _, rfl, rfl, _, _, rfl, rfl, .inl ss, ?_⟩
    refine ⟨_, rfl, _, rfl, _, rfl, r, _, _, rfl, ⟨hb0, by omega⟩, fun p H2 e2 hp => ?_⟩
    refine ⟨p, _, rfl, .of hp, rfl, _, _, rfl, _, _, rfl, rfl, ?_⟩
    have sprs : -(2 ^ 64) < (2 : Int) ∧ (2 : Int) < 2 ^ 64 := by decide
    refine ⟨_, rfl, _, rfl, _, _, rfl, rfl, .inr ⟨_, rfl, _, _, rfl, rfl, .inl sprs, _, _, rfl, rfl, _, _, rfl, rfl, .inl ss, ?_⟩⟩
    refine ⟨_, rfl, _, rfl, _, rfl, _, rfl, r, _, _, _, rfl, hs, hb, ⟨by omega, hi3⟩, fun p3 H3 e3 hp3 => ?_⟩
    have sp64 : -(2 ^ 64) < sign * spun base ∧ sign * spun base < 2 ^ 64 := by
      unfold spun
      rcases hs with rfl | rfl <;> cases decide (base < 0) <;> decide
    refine ⟨_, rfl, _, rfl, _, _, rfl, rfl, .inl sp64, _, rfl, _, _, rfl, rfl, _, rfl, size2, fun p4 hp4 => ?_⟩
    have n34 : p3 ≠ p4 := ne_of_none hp3 hp4
    refine ⟨_, _, .tup (.of (by rw [upd_ne n34]; exact hp3)) (.cons (.int _) (.cons (.int _) .nil)), .tup (.of upd_same) (.cons (.int _) (.cons (.int _) .nil)), rfl, rfl, _, rfl, ?_⟩
    have eq := carried_eq r sign base high i hb0 (by omega) hh (by omega) hi3
    refine ifF ?_ ?_
    · have e1 := congrArg Prod.fst eq
      have e2 := congrArg Prod.snd eq
      rw [e1, e2]
      exact congrArg not (SeqAt.eqv_refl _ rfl)
    · exact ⟨((e1.trans e2).trans e3).trans (Ex.new hp4), _, _, _, _, _, rfl⟩
  · rintro σ H1 ⟨e1, o5, o6, o7, o8, o9, rfl⟩
    exact h H1 e1

/-! ### law -/
def sp_law (K : Frag) : Sp := fun vs H Q _ => ∃ (a : Addr) (ns : List Int), vs = [.ref a] ∧ SqL K H a (ns.map V.int) ∧ ns.length ≤ 63 ∧ ∀ H', Q (.bl true) H'
theorem len_law (K : Frag) (vs : List V) (H : Hp) (Q : VK) (E : XK) (h : sp_law K vs H Q E) : vs.length = 1 := by obtain ⟨_, _, rfl, _⟩ := h; rfl
def n_law : List Str := ["script", "rules", "told", "k", "pool", "turn", "rule", "x", "base", "later", "part", "high"]
def t_law (K : Frag) : TS := (tSeq (tAsg (tLst (tCons (tC (.str "down")) (tCons (tC (.str "up")) (tCons (tC (.str "zero")) (tCons (tC (.str "positive")) (tCons (tC (.str "near")) tNil)))))) (gName 1)) (tSeq (tAsg (tCall (sp_rule_names K) [] E0 tNil) (gName 2)) (tSeq (tDrop (tBM0 K "list" rClear (tVar 2))) (tSeq (tIfS (tOr (tTest (tOp (rNeD K) (tCall (sp_rule_names K) [] E0 tNil) (tVar 1))) (tTest (tOp (rNeD K) (tCall (sp_carry K) [] E0 (tCons (tC (.str "down")) (tCons (tUn oNeg (tC (.int 1))) (tCons (tC (.int 10)) (tCons (tC (.int 7)) tNil))))) (tTup (tCons (tC (.int 1)) (tCons (tC (.int 3)) tNil)))))) (tRet (tC (.bl false))) tNext) (tSeq (tFor (iRng1 (tCons (tCB bMax2 (tCons (tC (.int 1)) (tCons (tCB bMin2 (tCons (tCB (bLen K) (tCons (tVar 0) tNil)) (tCons (tC (.int 12)) tNil))) tNil))) tNil)) (gName 3) (tSeq (tAsg (tCall (sp_law_pool K) [] E0 (tCons (tVar 0) (tCons (tVar 3) tNil))) (gName 4)) (tSeq (tFor (iRng1 (tCons (tC (.int 12)) tNil)) (gName 5) (tSeq (tPar 6 7 (tCons (tCall (sp_law_choose K) [] E0 (tCons (tVar 4) (tCons (tVar 1) tNil))) (tCons (tCall (sp_law_number K) [] E0 (tCons (tVar 4) tNil)) tNil))) (tSeq (tAsg (tOp oMul (tCall (sp_law_choose K) [] E0 (tCons (tVar 4) (tCons (tLst (tCons (tC (.int 1)) (tCons (tUn oNeg (tC (.int 1))) tNil))) tNil))) (tOp oAdd (tC (.int 1)) (tCall (sp_law_draw K) [] E0 (tCons (tVar 4) (tCons (tCall (sp_law_choose K) [] E0 (tCons (tVar 4) (tCons (tLst (tCons (tC (.int 12)) (tCons (tOp oPow (tC (.int 10)) (tC (.int 12))) tNil))) tNil))) tNil))))) (gName 8)) (tSeq (tAsg (tCall (sp_divide K) [] E0 (tCons (tVar 6) (tCons (tVar 7) (tCons (tVar 8) tNil)))) (gTup K 2 (gCons (gName 9) (gCons (gName 10) gNil)))) (tIfS (tOr (tTest (tOp (rNeD K) (tTup (tCons (tVar 9) (tCons (tVar 10) tNil))) (tCall (sp_law_divide K) [] E0 (tCons (tVar 6) (tCons (tVar 7) (tCons (tVar 8) tNil)))))) (tOr (tTest (tOp rNe (tVar 7) (tOp oAdd (tOp oMul (tVar 9) (tVar 8)) (tVar 10)))) (tTest (tOp oGe (tCB bAbs (tCons (tVar 10) tNil)) (tCB bAbs (tCons (tVar 8) tNil)))))) (tRet (tC (.bl false))) tNext))))) (tSeq (tAsg (tCall (sp_law_choose K) [] E0 (tCons (tVar 4) (tCons (tLst (tCons (tC (.int 0)) (tCons (tC (.int 0)) (tCons (tC (.int 1)) (tCons (tCall (sp_law_draw K) [] E0 (tCons (tVar 4) (tCons (tOp oPow (tC (.int 10)) (tC (.int 20))) tNil))) tNil))))) tNil))) (gName 11)) (tSeq (tAsg (tOp oMul (tCall (sp_law_choose K) [] E0 (tCons (tVar 4) (tCons (tLst (tCons (tC (.int 1)) (tCons (tUn oNeg (tC (.int 1))) tNil))) tNil))) (tOp oAdd (tC (.int 2)) (tCall (sp_law_draw K) [] E0 (tCons (tVar 4) (tCons (tC (.int 9)) tNil))))) (gName 8)) (tFor (iList K (tVar 1)) (gName 6) (tIfS (tOr (tNot (tB (tCall (sp_law_carries_right K) [] E0 (tCons (tVar 6) (tCons (tC (.int 1)) (tCons (tVar 8) (tCons (tVar 11) tNil))))))) (tNot (tB (tCall (sp_law_carries_right K) [] E0 (tCons (tVar 6) (tCons (tUn oNeg (tC (.int 1))) (tCons (tVar 8) (tCons (tVar 11) tNil)))))))) (tRet (tC (.bl false))) tNext))))))) (tRet (tC (.bl true))))))))

theorem pure_law (K : Frag) (vs : List V) (H : Hp) (Q : VK) (E : XK) (h : sp_law K vs H Q E) : Runs (t_law K) n_law vs H Q := by
  obtain ⟨a, ns, rfl, ha, hl, h⟩ := h
  refine ⟨size_le (by decide), fun r hr => ?_⟩
  have hr1 : ∀ H' : Hp, Ex (upd H r (.lst ruleVs)) H' → H' r = some (.lst ruleVs) := fun H' e => e _ _ upd_same
  have ha1 : SqL K (upd H r (.lst ruleVs)) a (ns.map V.int) := (Ex.new hr).l ha
  show (tSeq _ _ : TS) _ [some (.ref a), some (.ref r), none, none, none, none, none, none, none, none, none, none] (upd H r (.lst ruleVs))
  generalize hH1 : upd H r (.lst ruleVs) = H1 at hr1 ha1 ⊢
  refine ⟨rfl, fun q hq => ?_⟩
  have hq1 : (upd H1 q (.lst ruleVs)) q = some (.lst ruleVs) := upd_same
  refine ⟨_, rfl, .inl ⟨rfl, _, .of hq1⟩, q, _, rfl, rfl, hq1, ?_⟩
  have eq1 : Ex H1 (upd (upd H1 q (.lst ruleVs)) q (.lst [])) := by rw [upd_upd]; exact Ex.new hq
  generalize hH2 : upd (upd H1 q (.lst ruleVs)) q (.lst []) = H2 at eq1 ⊢
  -- rule_names() != rules
  refine ⟨rfl, fun q2 hq2 => ⟨_, rfl, ?_⟩⟩
  have e2 : Ex H1 (upd H2 q2 (.lst ruleVs)) := eq1.trans (Ex.new hq2)
  have drules : ∀ p H', H' p = some (.lst ruleVs) → Dp K H' (.ref p) (.list [.str "down", .str "up", .str "zero", .str "positive", .str "near"]) := fun p H' z =>
    .lst (.of z) (.cons (.str _) (.cons (.str _) (.cons (.str _) (.cons (.str _) (.cons (.str _) .nil)))))
  refine ⟨_, _, drules q2 _ upd_same, drules r _ (hr1 _ e2), by decide +kernel, by decide +kernel, _, rfl, ?_⟩
  refine ifF (congrArg not (SeqAt.eqv_refl _ (by decide +kernel))) ?_
  -- carry("down", -1, 10, 7) != (1, 3)
  generalize hH3 : upd H2 q2 (.lst ruleVs) = H3 at e2 ⊢
  refine ⟨1, rfl, .down, -1, 10, 7, rfl, by decide, by decide, by decide, fun p4 H4 e4 hp4 => ?_⟩
  refine ⟨size2, fun p5 hp5 => ?_⟩
  have n45 : p4 ≠ p5 := ne_of_none hp4 hp5
  refine ⟨_, _, .tup (.of (by rw [upd_ne n45]; exact hp4)) (.cons (.int _) (.cons (.int _) .nil)), .tup (.of upd_same) (.cons (.int _) (.cons (.int _) .nil)), rfl, rfl, _, rfl, ?_⟩
  refine ifF (congrArg not (SeqAt.eqv_refl (.tuple [.int 1, .int 3]) (by rfl))) ?_
  have e5 : Ex H1 (upd H4 p5 (.tup [.int 1, .int 3])) := (e2.trans e4).trans (Ex.new hp5)
  generalize upd H4 p5 (.tup [.int 1, .int 3]) = H5 at e5 ⊢
  -- for k in range(max(1, min(len(script), 12)))
  refine ⟨_, rfl, _, _, rfl, .inl (e5.l ha1), _, _, rfl, _, _, rfl, _, rfl, ?_⟩
  have hm : ∃ m : Nat, (if (if (12 : Int) < ((ns.map V.int).length : Int) then (12 : Int) else ((ns.map V.int).length : Int)) > 1 then (if (12 : Int) < ((ns.map V.int).length : Int) then (12 : Int) else ((ns.map V.int).length : Int)) else (1 : Int)) = (m : Int) ∧ m ≤ 12 := by
    refine ⟨_, (Int.toNat_of_nonneg ?_).symm, ?_⟩ <;> (repeat' split) <;> omega
  obtain ⟨m, hm1, hm2⟩ := hm
  rw [hm1]
  refine ⟨by omega, by omega, for_range (lo := 0) (n := (m : Int).toNat) (fun _ σ H' => Ex H1 H' ∧ ∃ o3 o4 o5 o6 o7 o8 o9 o10 o11, σ = [some (.ref a), some (.ref r), some (.ref q), o3, o4, o5, o6, o7, o8, o9, o10, o11]) ⟨e5, _, _, _, _, _, _, _, _, _, rfl⟩ ?_ ?_⟩
  · rintro i σ H6 hi ⟨e6, o3, o4, o5, o6, o7, o8, o9, o10, o11, rfl⟩
    have hi2 : (0 : Int) + (i : Int) = i := by omega
    rw [hi2]
    refine ⟨_, rfl, _, rfl, a, ns, i, rfl, e6.l ha1, by omega, fun p c s H7 hp hc h0 h1 hH7 => ?_⟩
    have p7 : PoolAt H7 p := by rw [hH7]; exact PoolAt.mk' hc h0 h1
    have e7 : Ex H1 H7 := by rw [hH7]; exact e6.trans (Ex.new hp)
    have pr : H1 p = none := e6.free hp
    have nrp : r ≠ p := ne_of_none (hr1 H1 (Ex.refl _)) pr
    -- what stays behind draws
    have go : ∀ {Ha Hb : Hp}, Ex H1 Ha → But p Ha Hb → Ex H1 Hb := fun ea eb => eb.ex2 ea pr
    -- for turn in range(12)
    refine ⟨12, rfl, by decide, by decide, for_range (lo := 0) (n := 12) (fun _ σ H' => Ex H1 H' ∧ PoolAt H' p ∧ ∃ o5 o6 o7 o8 o9 o10 o11, σ = [some (.ref a), some (.ref r), some (.ref q), some (.int i), some (.ref p), o5, o6, o7, o8, o9, o10, o11]) ⟨e7, p7, _, _, _, _, _, _, _, rfl⟩ ?_ ?_⟩
    · rintro j σ H8 hj ⟨e8, p8, o5, o6, o7, o8, o9, o10, o11, rfl⟩
      -- rule, x = choose, number
      refine ⟨_, rfl, _, rfl, p, r, _, rfl, p8, nrp, .of (hr1 _ e8), (fun z => nomatch z), Nat.le_of_ble_eq_true rfl, fun v H9 hv b9 p9 => ?_⟩
      obtain ⟨ru, rfl⟩ := ruleVs_mem hv
      refine ⟨_, rfl, p, rfl, p9, fun x H10 hx b10 p10 => ⟨_, _, rfl, ?_⟩⟩
      have e10 := go (go e8 b9) b10
      -- base
      refine ⟨_, rfl, 1, rfl, size_le (Nat.le_of_ble_eq_true rfl), fun l1 hl1 => ?_⟩
      refine ⟨p, l1, _, rfl, p10.ex (Ex.new hl1), (fun z => by subst z; exact p10.ne hl1), .of upd_same, (fun z => nomatch z), Nat.le_of_ble_eq_true rfl, fun v1 H11 hv1 b11 p11 => ?_⟩
      have e11 := go (e10.trans (Ex.new hl1)) b11
      obtain ⟨s1, hs1, rfl⟩ : ∃ s1 : Int, (s1 = 1 ∨ s1 = -1) ∧ v1 = .int s1 := by
        rcases List.mem_cons.mp hv1 with rfl | hv1
        · exact ⟨1, .inl rfl, rfl⟩
        rcases List.mem_cons.mp hv1 with rfl | hv1
        · exact ⟨-1, .inr rfl, rfl⟩
        · exact absurd hv1 (by simp)
      refine ⟨_, rfl, _, rfl, _, _, rfl, rfl, ⟨by decide, by decide, by decide⟩, size_le (Nat.le_of_ble_eq_true rfl), fun l2 hl2 => ?_⟩
      refine ⟨p, l2, _, rfl, p11.ex (Ex.new hl2), (fun z => by subst z; exact p11.ne hl2), .of upd_same, (fun z => nomatch z), Nat.le_of_ble_eq_true rfl, fun v2 H12 hv2 b12 p12 => ?_⟩
      have e12 := go (e11.trans (Ex.new hl2)) b12
      obtain ⟨m2, hm2', rfl⟩ : ∃ m2 : Int, (1 ≤ m2 ∧ m2 ≤ 1000000000000) ∧ v2 = .int m2 := by
        rcases List.mem_cons.mp hv2 with rfl | hv2
        · exact ⟨12, by decide, rfl⟩
        rcases List.mem_cons.mp hv2 with rfl | hv2
        · exact ⟨_, by decide, rfl⟩
        · exact absurd hv2 (by simp)
      refine ⟨p, m2, rfl, p12, by omega, by omega, fun d H13 d0 d1 b13 p13 => ⟨_, _, rfl, rfl, _, _, rfl, rfl, .inl (by omega), ?_⟩⟩
      have e13 := go e12 b13
      have hbase : s1 * (1 + d) = s1 * (1 + d) := rfl
      have hb : s1 * (1 + d) ≠ 0 ∧ absI (s1 * (1 + d)) < 2 ^ 64 ∧ (-(2 ^ 64) < s1 * (1 + d) ∧ s1 * (1 + d) < 2 ^ 64) := by
        unfold absI
        rcases hs1 with rfl | rfl <;> refine ⟨by omega, ?_, by omega⟩ <;> split <;> omega
      -- later, part = divide(rule, x, base)
      refine ⟨_, rfl, _, rfl, _, rfl, ru, x, s1 * (1 + d), rfl, ⟨Int.lt_of_le_of_lt hx (by decide +kernel), hb.1, hb.2.1⟩, fun p14 H14 e14 hp14 => ?_⟩
      refine ⟨p14, _, rfl, .of hp14, rfl, _, _, rfl, _, _, rfl, rfl, ?_⟩
      -- (later, part) != _law_divide(rule, x, base)
      refine ⟨_, rfl, _, rfl, size2, fun p15 hp15 => ?_⟩
      refine ⟨_, rfl, _, rfl, _, rfl, ru, x, s1 * (1 + d), rfl, ⟨hb.1, hb.2.1⟩, fun p16 H16 e16 hp16 => ?_⟩
      refine ⟨_, _, .tup (.of (e16 _ _ upd_same)) (.cons (.int _) (.cons (.int _) .nil)), .tup (.of hp16) (.cons (.int _) (.cons (.int _) .nil)), rfl, rfl, _, rfl, ?_⟩
      refine ifF ?_ ?_
      · rw [law_eq ru x (s1 * (1 + d)) hb.1]
        exact congrArg not (SeqAt.eqv_refl _ rfl)
      obtain ⟨dr1, dr2⟩ := divided_right ru x (s1 * (1 + d)) hb.1
      refine ⟨_, rfl, _, rfl, _, rfl, _, _, rfl, rfl, .inr hb.2.2, _, rfl, _, _, rfl, rfl, rfl, _, rfl, ?_⟩
      refine ifF ?_ ?_
      · exact congrArg not (decide_eq_true (congrArg V.int dr1))
      refine ⟨_, rfl, _, rfl, _, rfl, _, rfl, _, _, rfl, rfl, _, rfl, ?_⟩
      refine ifF (decide_eq_false ?_) ?_
      · show ¬ absI (s1 * (1 + d)) ≤ absI (divided ru x (s1 * (1 + d))).2
        omega
      refine ⟨?_, ?_, _, _, _, _, _, _, _, rfl⟩
      · exact ((e13.trans e14).trans (Ex.new hp15)).trans e16
      · exact p13.ex ((e14.trans (Ex.new hp15)).trans e16)
    · rintro σ H8 ⟨e8, p8, o5, o6, o7, o8, o9, o10, o11, rfl⟩
      -- high
      refine ⟨_, rfl, _, rfl, _, _, rfl, rfl, ⟨by decide, by decide, by decide⟩, p, _, rfl, p8, by walk_at "n", by walk_at "n", fun d H9 d0 d1 b9 p9 => ⟨size_le (Nat.le_of_ble_eq_true rfl), fun l1 hl1 => ?_⟩⟩
      have e9 := go e8 b9
      refine ⟨p, l1, _, rfl, p9.ex (Ex.new hl1), (fun z => by subst z; exact p9.ne hl1), .of upd_same, (fun z => nomatch z), Nat.le_of_ble_eq_true rfl, fun v1 H10 hv1 b10 p10 => ?_⟩
      have e10 := go (e9.trans (Ex.new hl1)) b10
      obtain ⟨high, hh, rfl⟩ : ∃ high : Int, 0 ≤ high ∧ v1 = .int high := by
        rcases List.mem_cons.mp hv1 with rfl | hv1
        · exact ⟨0, by decide, rfl⟩
        rcases List.mem_cons.mp hv1 with rfl | hv1
        · exact ⟨0, by decide, rfl⟩
        rcases List.mem_cons.mp hv1 with rfl | hv1
        · exact ⟨1, by decide, rfl⟩
        rcases List.mem_cons.mp hv1 with rfl | hv1
        · exact ⟨d, d0, rfl⟩
        · exact absurd hv1 (by simp)
      -- base
      refine ⟨_, rfl, 1, rfl, size2, fun l2 hl2 => ?_⟩
      refine ⟨p, l2, _, rfl, p10.ex (Ex.new hl2), (fun z => by subst z; exact p10.ne hl2), .of upd_same, (fun z => nomatch z), Nat.le_of_ble_eq_true rfl, fun v2 H11 hv2 b11 p11 => ?_⟩
      have e11 := go (e10.trans (Ex.new hl2)) b11
      obtain ⟨s1, hs1, rfl⟩ : ∃ s1 : Int, (s1 = 1 ∨ s1 = -1) ∧ v2 = .int s1 := by
        rcases List.mem_cons.mp hv2 with rfl | hv2
        · exact ⟨1, .inl rfl, rfl⟩
        rcases List.mem_cons.mp hv2 with rfl | hv2
        · exact ⟨-1, .inr rfl, rfl⟩
        · exact absurd hv2 (by simp)
      refine ⟨_, rfl, p, _, rfl, p11, by decide, by decide, fun d2 H12 d20 d21 b12 p12 => ⟨_, _, rfl, rfl, _, _, rfl, rfl, .inl (by omega), ?_⟩⟩
      have e12 := go e11 b12
      have hbase : s1 * (2 + d2) = s1 * (2 + d2) := rfl
      have hb : 2 ≤ absI (s1 * (2 + d2)) ∧ absI (s1 * (2 + d2)) ≤ 10 := by
        unfold absI
        rcases hs1 with rfl | rfl <;> split <;> omega
      -- for rule in rules
      refine ⟨_, rfl, r, rfl, ⟨_, .of (hr1 _ e12)⟩, for_list (xs := ruleVs) (fun _ σ H' => Ex H1 H' ∧ ∃ o5 o6, σ = [some (.ref a), some (.ref r), some (.ref q), some (.int i), some (.ref p), o5, o6, o7, some (.int (s1 * (2 + d2))), o9, o10, some (.int high)]) ⟨e12, _, _, rfl⟩ (fun i σ H' _ z => .of (hr1 _ z.1)) ?_ ?_⟩
      · rintro j v σ H13 hv ⟨e13, o5, o6, rfl⟩
        obtain ⟨ru, rfl⟩ := ruleVs_mem (List.mem_of_getElem? hv)
        refine ⟨_, rfl, _, rfl, _, rfl, ru, 1, s1 * (2 + d2), high, rfl, by decide, hb, hh, fun H14 e14 => ⟨_, rfl, ?_⟩⟩
        refine ifF rfl ?_
        refine ⟨_, rfl, 1, rfl, _, rfl, _, rfl, ru, _, s1 * (2 + d2), high, rfl, by decide, hb, hh, fun H15 e15 => ⟨_, rfl, ?_⟩⟩
        refine ifF rfl ?_
        exact ⟨(e13.trans e14).trans e15, _, _, rfl⟩
      · rintro σ H13 ⟨e13, o5, o6, rfl⟩
        exact ⟨e13, _, _, _, _, _, _, _, _, _, rfl⟩
  · rintro σ H6 ⟨e6, o3, o4, o5, o6, o7, o8, o9, o10, o11, rfl⟩
    exact h H6

/-! ### the text -/
def top (i : Nat) : Stmt := PySem.Challenge.pw_stillwords_k01_five_rules_of_division.main.body.getD i (.Pass ⟨0, 0, 0, 0⟩)
structure Bt (mg : Str → Option Value) : Prop where
  abs_ : mg "abs" = none
  bool_ : mg "bool" = none
  divmod_ : mg "divmod" = none
  int_ : mg "int" = none
  isinstance_ : mg "isinstance" = none
  len_ : mg "len" = none
  list_ : mg "list" = none
  max_ : mg "max" = none
  min_ : mg "min" = none
  range_ : mg "range" = none
  str_ : mg "str" = none

abbrev s_rule_names : Stmt := (top 13)
theorem sc_rule_names : FnScope n_rule_names [] (defScope s_rule_names) := ⟨rfl, rfl, rfl, by decide +kernel, rfl, by decide +kernel, by decide +kernel⟩
theorem f_rule_names {P : Program} {w : World} {K : Frag} {mg : Str → Option Value} {base : Heap} {a : Addr} {fd : FuncData} (B : Bt mg) (g_RULES : mg "RULES" = some (.ref (He.ga K "RULES"))) (tb_RULES : TabRULES K)
    (F : FunD K "rule_names" "rule_names" (defArgs s_rule_names) (defBody s_rule_names) (defScope s_rule_names) [] [] a fd) : FnOk P w K mg base CX0 1 a fd [] (sp_rule_names K) := by
  refine F.ok (k := 0) sc_rule_names (len_rule_names K) (fun cdv A outer s H vs Q E hr h => ⟨t_rule_names K, PSs.nox ?_, pure_rule_names K tb_RULES vs H Q E h⟩)
  exact (pss_one (ps_ret (pe_callTy call_list_of rfl B.list_ (by decide +kernel) (pa_cons (pe_glob rfl g_RULES rfl) pa_nil))))
theorem b_rule_names {K : Frag} {a : Addr} {fd : FuncData} (F : FunD K "rule_names" "rule_names" (defArgs s_rule_names) (defBody s_rule_names) (defScope s_rule_names) [] [] a fd) : Binds K fd [] [] :=
  F.bindsN fun _ _ _ _ _ _ us hl => match us, hl with | [], _ => rfl

abbrev s_is_rule : Stmt := (top 14)
theorem sc_is_rule : FnScope n_is_rule ["value"] (defScope s_is_rule) := ⟨rfl, rfl, rfl, by decide +kernel, rfl, by decide +kernel, by decide +kernel⟩
theorem f_is_rule {P : Program} {w : World} {K : Frag} {mg : Str → Option Value} {base : Heap} {a : Addr} {fd : FuncData} (B : Bt mg) (g_RULES : mg "RULES" = some (.ref (He.ga K "RULES"))) (tb_RULES : TabRULES K)
    (F : FunD K "is_rule" "is_rule" (defArgs s_is_rule) (defBody s_is_rule) (defScope s_is_rule) [] [] a fd) : FnOk P w K mg base CX0 1 a fd ["value"] (sp_is_rule K) := by
  refine F.ok (k := 0) sc_is_rule (len_is_rule K) (fun cdv A outer s H vs Q E hr h => ⟨t_is_rule K, PSs.nox ?_, pure_is_rule K tb_RULES vs H Q E h⟩)
  exact (pss_one (ps_ret (pe_and (pe_callB call_isi rfl B.isinstance_ (by decide +kernel) (pa_cons (pv 0) (pa_cons (pe_bltn rfl B.str_ (by decide +kernel) rfl) pa_nil))) (pe_one (pe_cmpR op_in_seq (pv 0) (pe_glob rfl g_RULES rfl) rfl)))))
theorem b_is_rule {K : Frag} {a : Addr} {fd : FuncData} (F : FunD K "is_rule" "is_rule" (defArgs s_is_rule) (defBody s_is_rule) (defScope s_is_rule) [] [] a fd) : Binds K fd ["value"] [] :=
  F.bindsN fun _ _ _ _ _ _ us hl => match us, hl with | [_], _ => rfl

abbrev s_require_rule : Stmt := (top 15)
theorem sc_require_rule : FnScope n_require_rule ["value"] (defScope s_require_rule) := ⟨rfl, rfl, rfl, by decide +kernel, rfl, by decide +kernel, by decide +kernel⟩
theorem f_require_rule {P : Program} {w : World} {K : Frag} {mg : Str → Option Value} {base : Heap} {a : Addr} {fd : FuncData} (c_is_rule : C8.Cal P w K mg base 1 "is_rule" (sp_is_rule K) [])
    (F : FunD K "require_rule" "require_rule" (defArgs s_require_rule) (defBody s_require_rule) (defScope s_require_rule) [] [] a fd) : FnOk P w K mg base CX0 2 a fd ["value"] (sp_require_rule K) := by
  refine F.ok (k := 1) sc_require_rule (len_require_rule K) (fun cdv A outer s H vs Q E hr h => ⟨t_require_rule K, PSs.nox ?_, pure_require_rule K vs H Q E h⟩)
  exact (pss_one (ps_if (pt_not (pt_val (C8.pe_c c_is_rule hr (by decide) rfl (pa_cons (pv 0) pa_nil)))) (pss_one ps_never) pss_nil))
theorem b_require_rule {K : Frag} {a : Addr} {fd : FuncData} (F : FunD K "require_rule" "require_rule" (defArgs s_require_rule) (defBody s_require_rule) (defScope s_require_rule) [] [] a fd) : Binds K fd ["value"] [] :=
  F.bindsN fun _ _ _ _ _ _ us hl => match us, hl with | [_], _ => rfl

abbrev s_is_integer : Stmt := (top 6)
theorem sc_is_integer : FnScope n_is_integer ["value"] (defScope s_is_integer) := ⟨rfl, rfl, rfl, by decide +kernel, rfl, by decide +kernel, by decide +kernel⟩
theorem f_is_integer {P : Program} {w : World} {K : Frag} {mg : Str → Option Value} {base : Heap} {a : Addr} {fd : FuncData} (B : Bt mg)
    (F : FunD K "is_integer" "is_integer" (defArgs s_is_integer) (defBody s_is_integer) (defScope s_is_integer) [] [] a fd) : FnOk P w K mg base CX0 1 a fd ["value"] (sp_is_integer K) := by
  refine F.ok (k := 0) sc_is_integer (len_is_integer K) (fun cdv A outer s H vs Q E hr h => ⟨t_is_integer K, PSs.nox ?_, pure_is_integer K vs H Q E h⟩)
  exact (pss_one (ps_ret (pe_and (pe_callB call_isi rfl B.isinstance_ (by decide +kernel) (pa_cons (pv 0) (pa_cons (pe_bltn rfl B.int_ (by decide +kernel) rfl) pa_nil))) (pe_one (pe_not (pe_callB call_isi rfl B.isinstance_ (by decide +kernel) (pa_cons (pv 0) (pa_cons (pe_bltn rfl B.bool_ (by decide +kernel) rfl) pa_nil))))))))
theorem b_is_integer {K : Frag} {a : Addr} {fd : FuncData} (F : FunD K "is_integer" "is_integer" (defArgs s_is_integer) (defBody s_is_integer) (defScope s_is_integer) [] [] a fd) : Binds K fd ["value"] [] :=
  F.bindsN fun _ _ _ _ _ _ us hl => match us, hl with | [_], _ => rfl

abbrev s_is_sign : Stmt := (top 9)
theorem sc_is_sign : FnScope n_is_sign ["value"] (defScope s_is_sign) := ⟨rfl, rfl, rfl, by decide +kernel, rfl, by decide +kernel, by decide +kernel⟩
theorem f_is_sign {P : Program} {w : World} {K : Frag} {mg : Str → Option Value} {base : Heap} {a : Addr} {fd : FuncData} (c_is_integer : C8.Cal P w K mg base 1 "is_integer" (sp_is_integer K) [])
    (F : FunD K "is_sign" "is_sign" (defArgs s_is_sign) (defBody s_is_sign) (defScope s_is_sign) [] [] a fd) : FnOk P w K mg base CX0 2 a fd ["value"] (sp_is_sign K) := by
  refine F.ok (k := 1) sc_is_sign (len_is_sign K) (fun cdv A outer s H vs Q E hr h => ⟨t_is_sign K, PSs.nox ?_, pure_is_sign K vs H Q E h⟩)
  exact (pss_one (ps_ret (pe_and (C8.pe_c c_is_integer hr (by decide) rfl (pa_cons (pv 0) pa_nil)) (pe_one (pe_cmpR op_in_seq (pv 0) (pe_tup (pa_cons (pe_un un_neg pe_int) (pa_cons pe_int pa_nil))) rfl)))))
theorem b_is_sign {K : Frag} {a : Addr} {fd : FuncData} (F : FunD K "is_sign" "is_sign" (defArgs s_is_sign) (defBody s_is_sign) (defScope s_is_sign) [] [] a fd) : Binds K fd ["value"] [] :=
  F.bindsN fun _ _ _ _ _ _ us hl => match us, hl with | [_], _ => rfl

abbrev s_is_base : Stmt := (top 8)
theorem sc_is_base : FnScope n_is_base ["value"] (defScope s_is_base) := ⟨rfl, rfl, rfl, by decide +kernel, rfl, by decide +kernel, by decide +kernel⟩
theorem f_is_base {P : Program} {w : World} {K : Frag} {mg : Str → Option Value} {base : Heap} {a : Addr} {fd : FuncData} (B : Bt mg) (c_is_integer : C8.Cal P w K mg base 1 "is_integer" (sp_is_integer K) [])
    (F : FunD K "is_base" "is_base" (defArgs s_is_base) (defBody s_is_base) (defScope s_is_base) [] [] a fd) : FnOk P w K mg base CX0 2 a fd ["value"] (sp_is_base K) := by
  refine F.ok (k := 1) sc_is_base (len_is_base K) (fun cdv A outer s H vs Q E hr h => ⟨t_is_base K, PSs.nox ?_, pure_is_base K vs H Q E h⟩)
  exact (pss_one (ps_ret (pe_and (C8.pe_c c_is_integer hr (by decide) rfl (pa_cons (pv 0) pa_nil)) (pe_one (pe_chain op_le op_le pe_int (pe_callB call_abs rfl B.abs_ (by decide +kernel) (pa_cons (pv 0) pa_nil)) pe_int)))))
theorem b_is_base {K : Frag} {a : Addr} {fd : FuncData} (F : FunD K "is_base" "is_base" (defArgs s_is_base) (defBody s_is_base) (defScope s_is_base) [] [] a fd) : Binds K fd ["value"] [] :=
  F.bindsN fun _ _ _ _ _ _ us hl => match us, hl with | [_], _ => rfl

abbrev s_is_between : Stmt := (top 7)
theorem sc_is_between : FnScope n_is_between ["value", "least", "greatest"] (defScope s_is_between) := ⟨rfl, rfl, rfl, by decide +kernel, rfl, by decide +kernel, by decide +kernel⟩
theorem f_is_between {P : Program} {w : World} {K : Frag} {mg : Str → Option Value} {base : Heap} {a : Addr} {fd : FuncData} (c_is_integer : C8.Cal P w K mg base 1 "is_integer" (sp_is_integer K) [])
    (F : FunD K "is_between" "is_between" (defArgs s_is_between) (defBody s_is_between) (defScope s_is_between) [] [] a fd) : FnOk P w K mg base CX0 2 a fd ["value", "least", "greatest"] (sp_is_between K) := by
  refine F.ok (k := 1) sc_is_between (len_is_between K) (fun cdv A outer s H vs Q E hr h => ⟨t_is_between K, PSs.nox ?_, pure_is_between K vs H Q E h⟩)
  exact (pss_one (ps_ret (pe_and (C8.pe_c c_is_integer hr (by decide) rfl (pa_cons (pv 0) pa_nil)) (pe_one (pe_chain op_le op_le (pv 1) (pv 0) (pv 2))))))
theorem b_is_between {K : Frag} {a : Addr} {fd : FuncData} (F : FunD K "is_between" "is_between" (defArgs s_is_between) (defBody s_is_between) (defScope s_is_between) [] [] a fd) : Binds K fd ["value", "least", "greatest"] [] :=
  F.bindsN fun _ _ _ _ _ _ us hl => match us, hl with | [_, _, _], _ => rfl

abbrev s_is_greater : Stmt := (top 16)
theorem sc_is_greater : FnScope n_is_greater ["rule", "sign", "divisor_sign", "part", "size"] (defScope s_is_greater) := ⟨rfl, rfl, rfl, by decide +kernel, rfl, by decide +kernel, by decide +kernel⟩
theorem f_is_greater {P : Program} {w : World} {K : Frag} {mg : Str → Option Value} {base : Heap} {a : Addr} {fd : FuncData}
    (F : FunD K "is_greater" "is_greater" (defArgs s_is_greater) (defBody s_is_greater) (defScope s_is_greater) [] [] a fd) : FnOk P w K mg base CX0 1 a fd ["rule", "sign", "divisor_sign", "part", "size"] (sp_is_greater K) := by
  refine F.ok (k := 0) sc_is_greater (len_is_greater K) (fun cdv A outer s H vs Q E hr h => ⟨t_is_greater K, PSs.nox ?_, pure_is_greater K vs H Q E h⟩)
  exact (pss_one (ps_match (pv 0) (pm_str (pss_one (ps_ret (pe_cmpR op_lt (pe_op op_mul (pv 1) (pv 2)) pe_int (nomark _)))) (pm_str (pss_one (ps_ret (pe_cmpR op_gt (pe_op op_mul (pv 1) (pv 2)) pe_int (nomark _)))) (pm_str (pss_one (ps_ret (pe_cmpR op_lt (pv 1) pe_int (nomark _)))) (pm_str (pss_one (ps_ret (pe_or (pe_cmpR op_gt (pe_op op_mul pe_int (pv 3)) (pv 4) (nomark _)) (pe_one (pe_and (pe_cmpR op_eq (pe_op op_mul pe_int (pv 3)) (pv 4) (nomark _)) (pe_one (pe_cmpR op_lt (pv 1) pe_int (nomark _)))))))) (pm_else (pss_one (ps_ret pe_bl)))))))))
theorem b_is_greater {K : Frag} {a : Addr} {fd : FuncData} (F : FunD K "is_greater" "is_greater" (defArgs s_is_greater) (defBody s_is_greater) (defScope s_is_greater) [] [] a fd) : Binds K fd ["rule", "sign", "divisor_sign", "part", "size"] [] :=
  F.bindsN fun _ _ _ _ _ _ us hl => match us, hl with | [_, _, _, _, _], _ => rfl

abbrev s_sign_of : Stmt := (top 10)
theorem sc_sign_of : FnScope n_sign_of ["number"] (defScope s_sign_of) := ⟨rfl, rfl, rfl, by decide +kernel, rfl, by decide +kernel, by decide +kernel⟩
theorem f_sign_of {P : Program} {w : World} {K : Frag} {mg : Str → Option Value} {base : Heap} {a : Addr} {fd : FuncData} (B : Bt mg)
    (F : FunD K "sign_of" "sign_of" (defArgs s_sign_of) (defBody s_sign_of) (defScope s_sign_of) [] [] a fd) : FnOk P w K mg base CX0 1 a fd ["number"] (sp_sign_of K) := by
  refine F.ok (k := 0) sc_sign_of (len_sign_of K) (fun cdv A outer s H vs Q E hr h => ⟨t_sign_of K, PSs.nox ?_, pure_sign_of K vs H Q E h⟩)
  exact (pss_one (ps_ret (pe_op op_sub (pe_callTy call_int1 rfl B.int_ (by decide +kernel) (pa_cons (pe_cmpR op_gt (pv 0) pe_int (nomark _)) pa_nil)) (pe_callTy call_int1 rfl B.int_ (by decide +kernel) (pa_cons (pe_cmpR op_lt (pv 0) pe_int (nomark _)) pa_nil)))))
theorem b_sign_of {K : Frag} {a : Addr} {fd : FuncData} (F : FunD K "sign_of" "sign_of" (defArgs s_sign_of) (defBody s_sign_of) (defScope s_sign_of) [] [] a fd) : Binds K fd ["number"] [] :=
  F.bindsN fun _ _ _ _ _ _ us hl => match us, hl with | [_], _ => rfl

abbrev s_carried : Stmt := (top 19)
theorem sc_carried : FnScope n_carried ["rule", "sign", "base", "figure"] (defScope s_carried) := ⟨rfl, rfl, rfl, by decide +kernel, rfl, by decide +kernel, by decide +kernel⟩
theorem f_carried {P : Program} {w : World} {K : Frag} {mg : Str → Option Value} {base : Heap} {a : Addr} {fd : FuncData} (B : Bt mg) (c_is_greater : C8.Cal P w K mg base 1 "is_greater" (sp_is_greater K) []) (c_sign_of : C8.Cal P w K mg base 1 "sign_of" (sp_sign_of K) [])
    (F : FunD K "carried" "carried" (defArgs s_carried) (defBody s_carried) (defScope s_carried) [] [] a fd) : FnOk P w K mg base CX0 2 a fd ["rule", "sign", "base", "figure"] (sp_carried K) := by
  refine F.ok (k := 1) sc_carried (len_carried K) (fun cdv A outer s H vs Q E hr h => ⟨t_carried K, PSs.nox ?_, pure_carried K vs H Q E h⟩)
  exact (pss_cons (ps_set (i := 4) sc_carried.nd rfl (.inl rfl) (pe_callB call_abs rfl B.abs_ (by decide +kernel) (pa_cons (pv 2) pa_nil))) (pss_cons (ps_if (pt_cmpR op_eq (pv 3) (pv 4) (nomark _)) (pss_one (ps_ret (pe_tup (pa_cons pe_int (pa_cons pe_int pa_nil))))) pss_nil) (pss_cons (ps_if (PW.pt (pw_and (pt_cmpR op_gt (pv 3) pe_int (nomark _)) (pw_and1 (pt_val (C8.pe_c c_is_greater hr (by decide) rfl (pa_cons (pv 0) (pa_cons (pv 1) (pa_cons (C8.pe_c c_sign_of hr (by decide) rfl (pa_cons (pv 2) pa_nil)) (pa_cons (pv 3) (pa_cons (pv 4) pa_nil)))))))))) (pss_one (ps_ret (pe_tup (pa_cons pe_int (pa_cons (pe_op op_mul (pv 1) (pe_op op_sub (pv 3) (pv 4))) pa_nil))))) pss_nil) (pss_one (ps_ret (pe_tup (pa_cons pe_int (pa_cons (pe_op op_mul (pv 1) (pv 3)) pa_nil))))))))
theorem b_carried {K : Frag} {a : Addr} {fd : FuncData} (F : FunD K "carried" "carried" (defArgs s_carried) (defBody s_carried) (defScope s_carried) [] [] a fd) : Binds K fd ["rule", "sign", "base", "figure"] [] :=
  F.bindsN fun _ _ _ _ _ _ us hl => match us, hl with | [_, _, _, _], _ => rfl

abbrev s_carry : Stmt := (top 20)
theorem sc_carry : FnScope n_carry ["rule", "sign", "base", "figure"] (defScope s_carry) := ⟨rfl, rfl, rfl, by decide +kernel, rfl, by decide +kernel, by decide +kernel⟩
theorem f_carry {P : Program} {w : World} {K : Frag} {mg : Str → Option Value} {base : Heap} {a : Addr} {fd : FuncData} (B : Bt mg) (c_require_rule : C8.Cal P w K mg base 2 "require_rule" (sp_require_rule K) []) (c_is_sign : C8.Cal P w K mg base 2 "is_sign" (sp_is_sign K) []) (c_is_base : C8.Cal P w K mg base 2 "is_base" (sp_is_base K) []) (c_is_between : C8.Cal P w K mg base 2 "is_between" (sp_is_between K) []) (c_carried : C8.Cal P w K mg base 2 "carried" (sp_carried K) [])
    (F : FunD K "carry" "carry" (defArgs s_carry) (defBody s_carry) (defScope s_carry) [] [] a fd) : FnOk P w K mg base CX0 3 a fd ["rule", "sign", "base", "figure"] (sp_carry K) := by
  refine F.ok (k := 2) sc_carry (len_carry K) (fun cdv A outer s H vs Q E hr h => ⟨t_carry K, PSs.nox ?_, pure_carry K vs H Q E h⟩)
  exact (pss_cons (ps_expr (C8.pe_c c_require_rule hr (by decide) rfl (pa_cons (pv 0) pa_nil))) (pss_cons (ps_if (pt_not (pt_val (C8.pe_c c_is_sign hr (by decide) rfl (pa_cons (pv 1) pa_nil)))) (pss_one ps_never) pss_nil) (pss_cons (ps_if (pt_not (pt_val (C8.pe_c c_is_base hr (by decide) rfl (pa_cons (pv 2) pa_nil)))) (pss_one ps_never) pss_nil) (pss_cons (ps_if (pt_not (pt_val (C8.pe_c c_is_between hr (by decide) rfl (pa_cons (pv 3) (pa_cons pe_int (pa_cons (pe_callB call_abs rfl B.abs_ (by decide +kernel) (pa_cons (pv 2) pa_nil)) pa_nil)))))) (pss_one ps_never) pss_nil) (pss_one (ps_ret (C8.pe_c c_carried hr (by decide) rfl (pa_cons (pv 0) (pa_cons (pv 1) (pa_cons (pv 2) (pa_cons (pv 3) pa_nil)))))))))))
theorem b_carry {K : Frag} {a : Addr} {fd : FuncData} (F : FunD K "carry" "carry" (defArgs s_carry) (defBody s_carry) (defScope s_carry) [] [] a fd) : Binds K fd ["rule", "sign", "base", "figure"] [] :=
  F.bindsN fun _ _ _ _ _ _ us hl => match us, hl with | [_, _, _, _], _ => rfl

abbrev s_law_pool : Stmt := (top 22)
theorem sc_law_pool : FnScope n_law_pool ["script", "k"] (defScope s_law_pool) := ⟨rfl, rfl, rfl, by decide +kernel, rfl, by decide +kernel, by decide +kernel⟩
theorem f_law_pool {P : Program} {w : World} {K : Frag} {mg : Str → Option Value} {base : Heap} {a : Addr} {fd : FuncData} (B : Bt mg)
    (F : FunD K "_law_pool" "_law_pool" (defArgs s_law_pool) (defBody s_law_pool) (defScope s_law_pool) [] [] a fd) : FnOk P w K mg base CX0 1 a fd ["script", "k"] (sp_law_pool K) := by
  refine F.ok (k := 0) sc_law_pool (len_law_pool K) (fun cdv A outer s H vs Q E hr h => ⟨t_law_pool K, PSs.nox ?_, pure_law_pool K vs H Q E h⟩)
  exact (pss_cons (ps_set (i := 2) sc_law_pool.nd rfl (.inl rfl) pe_int) (pss_cons (ps_if (pt_cmpR op_lt (pv 1) (pe_callB call_len_seq rfl B.len_ (by decide +kernel) (pa_cons (pv 0) pa_nil)) (nomark _)) (pss_one (ps_set (i := 2) sc_law_pool.nd rfl (.inl rfl) (pe_ix ix_list (pv 0) (pv 1) (fun _ _ => rfl)))) pss_nil) (pss_cons (ps_set (i := 3) sc_law_pool.nd rfl (.inl rfl) (pe_op op_mod (pe_op op_pow (pe_op op_add (pe_op op_add (pe_op op_mod (pe_callTy call_int1 rfl B.int_ (by decide +kernel) (pa_cons (pv 2) pa_nil)) pe_int) (pe_op op_mul (pe_op op_mul pe_int (pv 1)) (pv 1))) pe_int) pe_int) pe_int)) (pss_cons (ps_if (pt_cmpR op_lt (pv 2) (pe_op op_pow pe_int pe_int) (nomark _)) (pss_one (ps_set (i := 2) sc_law_pool.nd rfl (.inl rfl) pe_int)) pss_nil) (pss_one (ps_ret (pe_lst (pa_cons (pv 2) (pa_cons (pv 3) pa_nil)))))))))
theorem b_law_pool {K : Frag} {a : Addr} {fd : FuncData} (F : FunD K "_law_pool" "_law_pool" (defArgs s_law_pool) (defBody s_law_pool) (defScope s_law_pool) [] [] a fd) : Binds K fd ["script", "k"] [] :=
  F.bindsN fun _ _ _ _ _ _ us hl => match us, hl with | [_, _], _ => rfl

abbrev s_law_draw : Stmt := (top 23)
theorem sc_law_draw : FnScope n_law_draw ["pool", "many"] (defScope s_law_draw) := ⟨rfl, rfl, rfl, by decide +kernel, rfl, by decide +kernel, by decide +kernel⟩
theorem f_law_draw {P : Program} {w : World} {K : Frag} {mg : Str → Option Value} {base : Heap} {a : Addr} {fd : FuncData} (B : Bt mg)
    (F : FunD K "_law_draw" "_law_draw" (defArgs s_law_draw) (defBody s_law_draw) (defScope s_law_draw) [] [] a fd) : FnOk P w K mg base CX0 1 a fd ["pool", "many"] (sp_law_draw K) := by
  refine F.ok (k := 0) sc_law_draw (len_law_draw K) (fun cdv A outer s H vs Q E hr h => ⟨t_law_draw K, PSs.nox ?_, pure_law_draw K vs H Q E h⟩)
  exact (pss_cons (ps_if (pt_cmpR op_gt (pe_ix ix_list (pv 0) pe_int (fun _ _ => rfl)) pe_int (nomark _)) (pss_cons (ps_set (i := 2) sc_law_draw.nd rfl (.inl rfl) (pe_op op_mod (pe_callTy call_int1 rfl B.int_ (by decide +kernel) (pa_cons (pe_ix ix_list (pv 0) pe_int (fun _ _ => rfl)) pa_nil)) (pv 1))) (pss_cons (ps_asg (pe_op op_fdivW (pe_ix ix_list (pv 0) pe_int (fun _ _ => rfl)) (pv 1)) (pg_sub (pv 0) pe_int set_list)) (pss_one (ps_ret (pv 2))))) pss_nil) (pss_cons (ps_asg (pe_op op_mod (pe_callTy call_int1 rfl B.int_ (by decide +kernel) (pa_cons (pe_op op_add (pe_op op_mul (pe_ix ix_list (pv 0) pe_int (fun _ _ => rfl)) pe_int) pe_int) pa_nil)) pe_int) (pg_sub (pv 0) pe_int set_list)) (pss_one (ps_ret (pe_op op_mod (pe_op op_fdivW (pe_op op_mod (pe_callTy call_int1 rfl B.int_ (by decide +kernel) (pa_cons (pe_op op_mul (pe_ix ix_list (pv 0) pe_int (fun _ _ => rfl)) (pe_ix ix_list (pv 0) pe_int (fun _ _ => rfl))) pa_nil)) pe_int) pe_int) (pv 1))))))
theorem b_law_draw {K : Frag} {a : Addr} {fd : FuncData} (F : FunD K "_law_draw" "_law_draw" (defArgs s_law_draw) (defBody s_law_draw) (defScope s_law_draw) [] [] a fd) : Binds K fd ["pool", "many"] [] :=
  F.bindsN fun _ _ _ _ _ _ us hl => match us, hl with | [_, _], _ => rfl

abbrev s_law_choose : Stmt := (top 24)
theorem sc_law_choose : FnScope n_law_choose ["pool", "items"] (defScope s_law_choose) := ⟨rfl, rfl, rfl, by decide +kernel, rfl, by decide +kernel, by decide +kernel⟩
theorem f_law_choose {P : Program} {w : World} {K : Frag} {mg : Str → Option Value} {base : Heap} {a : Addr} {fd : FuncData} (B : Bt mg) (c_law_draw : C8.Cal P w K mg base 1 "_law_draw" (sp_law_draw K) [])
    (F : FunD K "_law_choose" "_law_choose" (defArgs s_law_choose) (defBody s_law_choose) (defScope s_law_choose) [] [] a fd) : FnOk P w K mg base CX0 2 a fd ["pool", "items"] (sp_law_choose K) := by
  refine F.ok (k := 1) sc_law_choose (len_law_choose K) (fun cdv A outer s H vs Q E hr h => ⟨t_law_choose K, PSs.nox ?_, pure_law_choose K vs H Q E h⟩)
  exact (pss_one (ps_ret (pe_ix ix_list (pv 1) (C8.pe_c c_law_draw hr (by decide) rfl (pa_cons (pv 0) (pa_cons (pe_callB call_len_seq rfl B.len_ (by decide +kernel) (pa_cons (pv 1) pa_nil)) pa_nil))) (fun _ _ => rfl))))
theorem b_law_choose {K : Frag} {a : Addr} {fd : FuncData} (F : FunD K "_law_choose" "_law_choose" (defArgs s_law_choose) (defBody s_law_choose) (defScope s_law_choose) [] [] a fd) : Binds K fd ["pool", "items"] [] :=
  F.bindsN fun _ _ _ _ _ _ us hl => match us, hl with | [_, _], _ => rfl

abbrev s_law_number : Stmt := (top 26)
theorem sc_law_number : FnScope n_law_number ["pool"] (defScope s_law_number) := ⟨rfl, rfl, rfl, by decide +kernel, rfl, by decide +kernel, by decide +kernel⟩
theorem f_law_number {P : Program} {w : World} {K : Frag} {mg : Str → Option Value} {base : Heap} {a : Addr} {fd : FuncData} (c_law_draw : C8.Cal P w K mg base 1 "_law_draw" (sp_law_draw K) []) (c_law_choose : C8.Cal P w K mg base 2 "_law_choose" (sp_law_choose K) [])
    (F : FunD K "_law_number" "_law_number" (defArgs s_law_number) (defBody s_law_number) (defScope s_law_number) [] [] a fd) : FnOk P w K mg base CX0 3 a fd ["pool"] (sp_law_number K) := by
  refine F.ok (k := 2) sc_law_number (len_law_number K) (fun cdv A outer s H vs Q E hr h => ⟨t_law_number K, PSs.nox ?_, pure_law_number K vs H Q E h⟩)
  exact (pss_cons (ps_set (i := 1) sc_law_number.nd rfl (.inl rfl) (pe_lst (pa_cons (pe_op op_sub (C8.pe_c c_law_draw hr (by decide) rfl (pa_cons (pv 0) (pa_cons pe_int pa_nil))) pe_int) (pa_cons (pe_op op_sub (C8.pe_c c_law_draw hr (by decide) rfl (pa_cons (pv 0) (pa_cons pe_int pa_nil))) pe_int) (pa_cons (pe_op op_sub (C8.pe_c c_law_draw hr (by decide) rfl (pa_cons (pv 0) (pa_cons (pe_op op_pow pe_int pe_int) pa_nil))) (pe_op op_pow pe_int pe_int)) pa_nil))))) (pss_one (ps_ret (C8.pe_c c_law_choose hr (by decide) rfl (pa_cons (pv 0) (pa_cons (pv 1) pa_nil))))))
theorem b_law_number {K : Frag} {a : Addr} {fd : FuncData} (F : FunD K "_law_number" "_law_number" (defArgs s_law_number) (defBody s_law_number) (defScope s_law_number) [] [] a fd) : Binds K fd ["pool"] [] :=
  F.bindsN fun _ _ _ _ _ _ us hl => match us, hl with | [_], _ => rfl

abbrev s_divided : Stmt := (top 17)
theorem sc_divided : FnScope n_divided ["rule", "x", "divisor"] (defScope s_divided) := ⟨rfl, rfl, rfl, by decide +kernel, rfl, by decide +kernel, by decide +kernel⟩
theorem f_divided {P : Program} {w : World} {K : Frag} {mg : Str → Option Value} {base : Heap} {a : Addr} {fd : FuncData} (B : Bt mg) (c_sign_of : C8.Cal P w K mg base 1 "sign_of" (sp_sign_of K) []) (c_is_greater : C8.Cal P w K mg base 1 "is_greater" (sp_is_greater K) [])
    (F : FunD K "divided" "divided" (defArgs s_divided) (defBody s_divided) (defScope s_divided) [] [] a fd) : FnOk P w K mg base CX0 2 a fd ["rule", "x", "divisor"] (sp_divided K) := by
  refine F.ok (k := 1) sc_divided (len_divided K) (fun cdv A outer s H vs Q E hr h => ⟨t_divided K, PSs.nox ?_, pure_divided K vs H Q E h⟩)
  exact (pss_cons (ps_par (by rfl) sc_divided.nd (i := 3) (j := 4) rfl rfl (by decide) rfl rfl (pa_cons (pe_callB call_abs rfl B.abs_ (by decide +kernel) (pa_cons (pv 2) pa_nil)) (pa_cons (C8.pe_c c_sign_of hr (by decide) rfl (pa_cons (pv 1) pa_nil)) pa_nil)) (by rfl)) (pss_cons (ps_asg (pe_callB call_divmodW rfl B.divmod_ (by decide +kernel) (pa_cons (pe_callB call_abs rfl B.abs_ (by decide +kernel) (pa_cons (pv 1) pa_nil)) (pa_cons (pv 3) pa_nil))) (pg_tup (by rfl) (pgs_cons (pg_name (i := 5) sc_divided.nd rfl (.inl rfl)) (pgs_cons (pg_name (i := 6) sc_divided.nd rfl (.inl rfl)) pgs_nil)))) (pss_cons (ps_if (PW.pt (pw_and (pt_cmpR op_gt (pv 6) pe_int (nomark _)) (pw_and1 (pt_val (C8.pe_c c_is_greater hr (by decide) rfl (pa_cons (pv 0) (pa_cons (pv 4) (pa_cons (C8.pe_c c_sign_of hr (by decide) rfl (pa_cons (pv 2) pa_nil)) (pa_cons (pv 6) (pa_cons (pv 3) pa_nil)))))))))) (pss_one (ps_par (by rfl) sc_divided.nd (i := 5) (j := 6) rfl rfl (by decide) rfl rfl (pa_cons (pe_op op_add (pv 5) pe_int) (pa_cons (pe_op op_sub (pv 6) (pv 3)) pa_nil)) (by rfl))) pss_nil) (pss_one (ps_ret (pe_tup (pa_cons (pe_op op_mul (pe_op op_mul (pv 4) (C8.pe_c c_sign_of hr (by decide) rfl (pa_cons (pv 2) pa_nil))) (pv 5)) (pa_cons (pe_op op_mul (pv 4) (pv 6)) pa_nil))))))))
theorem b_divided {K : Frag} {a : Addr} {fd : FuncData} (F : FunD K "divided" "divided" (defArgs s_divided) (defBody s_divided) (defScope s_divided) [] [] a fd) : Binds K fd ["rule", "x", "divisor"] [] :=
  F.bindsN fun _ _ _ _ _ _ us hl => match us, hl with | [_, _, _], _ => rfl

abbrev s_divide : Stmt := (top 18)
theorem sc_divide : FnScope n_divide ["rule", "x", "base"] (defScope s_divide) := ⟨rfl, rfl, rfl, by decide +kernel, rfl, by decide +kernel, by decide +kernel⟩
theorem f_divide {P : Program} {w : World} {K : Frag} {mg : Str → Option Value} {base : Heap} {a : Addr} {fd : FuncData} (c_require_rule : C8.Cal P w K mg base 2 "require_rule" (sp_require_rule K) []) (c_is_integer : C8.Cal P w K mg base 1 "is_integer" (sp_is_integer K) []) (c_divided : C8.Cal P w K mg base 2 "divided" (sp_divided K) [])
    (F : FunD K "divide" "divide" (defArgs s_divide) (defBody s_divide) (defScope s_divide) [] [] a fd) : FnOk P w K mg base CX0 3 a fd ["rule", "x", "base"] (sp_divide K) := by
  refine F.ok (k := 2) sc_divide (len_divide K) (fun cdv A outer s H vs Q E hr h => ⟨t_divide K, PSs.nox ?_, pure_divide K vs H Q E h⟩)
  exact (pss_cons (ps_expr (C8.pe_c c_require_rule hr (by decide) rfl (pa_cons (pv 0) pa_nil))) (pss_cons (ps_if (pt_not (pt_val (C8.pe_c c_is_integer hr (by decide) rfl (pa_cons (pv 1) pa_nil)))) (pss_one ps_never) pss_nil) (pss_cons (ps_if (PW.pt (pw_or (pt_not (pt_val (C8.pe_c c_is_integer hr (by decide) rfl (pa_cons (pv 2) pa_nil)))) (pw_or1 (pt_cmpR op_eq (pv 2) pe_int (nomark _))))) (pss_one ps_never) pss_nil) (pss_one (ps_ret (C8.pe_c c_divided hr (by decide) rfl (pa_cons (pv 0) (pa_cons (pv 1) (pa_cons (pv 2) pa_nil)))))))))
theorem b_divide {K : Frag} {a : Addr} {fd : FuncData} (F : FunD K "divide" "divide" (defArgs s_divide) (defBody s_divide) (defScope s_divide) [] [] a fd) : Binds K fd ["rule", "x", "base"] [] :=
  F.bindsN fun _ _ _ _ _ _ us hl => match us, hl with | [_, _, _], _ => rfl

abbrev s_law_divide : Stmt := (top 25)
theorem sc_law_divide : FnScope n_law_divide ["rule", "x", "base"] (defScope s_law_divide) := ⟨rfl, rfl, rfl, by decide +kernel, rfl, by decide +kernel, by decide +kernel⟩
theorem f_law_divide {P : Program} {w : World} {K : Frag} {mg : Str → Option Value} {base : Heap} {a : Addr} {fd : FuncData} (B : Bt mg)
    (F : FunD K "_law_divide" "_law_divide" (defArgs s_law_divide) (defBody s_law_divide) (defScope s_law_divide) [] [] a fd) : FnOk P w K mg base CX0 1 a fd ["rule", "x", "base"] (sp_law_divide K) := by
  refine F.ok (k := 0) sc_law_divide (len_law_divide K) (fun cdv A outer s H vs Q E hr h => ⟨t_law_divide K, PSs.nox ?_, pure_law_divide K vs H Q E h⟩)
  exact (pss_cons (ps_par (by rfl) sc_law_divide.nd (i := 3) (j := 4) rfl rfl (by decide) rfl rfl (pa_cons (pe_callB call_abs rfl B.abs_ (by decide +kernel) (pa_cons (pv 2) pa_nil)) (pa_cons (pe_op op_sub pe_int (pe_op op_mul pe_int (pe_callTy call_int1 rfl B.int_ (by decide +kernel) (pa_cons (pe_cmpR op_lt (pv 2) pe_int (nomark _)) pa_nil)))) pa_nil)) (by rfl)) (pss_cons (ps_set (i := 5) sc_law_divide.nd rfl (.inl rfl) (pe_op op_mod (pe_callTy call_int1 rfl B.int_ (by decide +kernel) (pa_cons (pv 1) pa_nil)) (pv 3))) (pss_cons (ps_if (pt_cmpR op_eq (pv 0) pe_str (nomark _)) (pss_one (ps_set (i := 5) sc_law_divide.nd rfl (.inl rfl) (pe_op op_sub (pv 5) (pe_op op_mul (pv 3) (pe_callTy call_int1 rfl B.int_ (by decide +kernel) (pa_cons (pe_and (pe_cmpR op_lt (pv 2) pe_int (nomark _)) (pe_one (pe_cmpR op_gt (pv 5) pe_int (nomark _)))) pa_nil)))))) (pss_one (ps_if (pt_cmpR op_eq (pv 0) pe_str (nomark _)) (pss_one (ps_set (i := 5) sc_law_divide.nd rfl (.inl rfl) (pe_op op_sub (pv 5) (pe_op op_mul (pv 3) (pe_callTy call_int1 rfl B.int_ (by decide +kernel) (pa_cons (pe_and (pe_cmpR op_gt (pv 2) pe_int (nomark _)) (pe_one (pe_cmpR op_gt (pv 5) pe_int (nomark _)))) pa_nil)))))) (pss_one (ps_if (pt_cmpR op_eq (pv 0) pe_str (nomark _)) (pss_one (ps_set (i := 5) sc_law_divide.nd rfl (.inl rfl) (pe_op op_sub (pv 5) (pe_op op_mul (pv 3) (pe_callTy call_int1 rfl B.int_ (by decide +kernel) (pa_cons (pe_and (pe_cmpR op_lt (pv 1) pe_int (nomark _)) (pe_one (pe_cmpR op_gt (pv 5) pe_int (nomark _)))) pa_nil)))))) (pss_one (ps_if (pt_cmpR op_eq (pv 0) pe_str (nomark _)) (pss_one (ps_set (i := 5) sc_law_divide.nd rfl (.inl rfl) (pe_op op_sub (pv 5) (pe_op op_mul (pv 3) (pe_callTy call_int1 rfl B.int_ (by decide +kernel) (pa_cons (pe_cmpR op_gt (pe_op op_mul pe_int (pv 5)) (pv 3) (nomark _)) pa_nil)))))) pss_nil))))))) (pss_one (ps_ret (pe_tup (pa_cons (pe_op op_mul (pe_op op_fdivW (pe_op op_sub (pv 1) (pv 5)) (pv 3)) (pv 4)) (pa_cons (pv 5) pa_nil))))))))
theorem b_law_divide {K : Frag} {a : Addr} {fd : FuncData} (F : FunD K "_law_divide" "_law_divide" (defArgs s_law_divide) (defBody s_law_divide) (defScope s_law_divide) [] [] a fd) : Binds K fd ["rule", "x", "base"] [] :=
  F.bindsN fun _ _ _ _ _ _ us hl => match us, hl with | [_, _, _], _ => rfl

abbrev s_law_carries_right : Stmt := (top 27)
theorem sc_law_carries_right : FnScope n_law_carries_right ["rule", "sign", "base", "high"] (defScope s_law_carries_right) := ⟨rfl, rfl, rfl, by decide +kernel, rfl, by decide +kernel, by decide +kernel⟩
theorem f_law_carries_right {P : Program} {w : World} {K : Frag} {mg : Str → Option Value} {base : Heap} {a : Addr} {fd : FuncData} (B : Bt mg) (c_law_divide : C8.Cal P w K mg base 1 "_law_divide" (sp_law_divide K) []) (c_carry : C8.Cal P w K mg base 3 "carry" (sp_carry K) [])
    (F : FunD K "_law_carries_right" "_law_carries_right" (defArgs s_law_carries_right) (defBody s_law_carries_right) (defScope s_law_carries_right) [] [] a fd) : FnOk P w K mg base CX0 4 a fd ["rule", "sign", "base", "high"] (sp_law_carries_right K) := by
  refine F.ok (k := 3) sc_law_carries_right (len_law_carries_right K) (fun cdv A outer s H vs Q E hr h => ⟨t_law_carries_right K, PSs.nox ?_, pure_law_carries_right K vs H Q E h⟩)
  exact (pss_cons (ps_set (i := 4) sc_law_carries_right.nd rfl (.inl rfl) (pe_callB call_abs rfl B.abs_ (by decide +kernel) (pa_cons (pv 2) pa_nil))) (pss_cons (ps_for PassesOwn.never rfl (pi_range1 rfl B.range_ (pa_cons (pe_op op_add (pv 4) pe_int) pa_nil)) (pg_name (i := 5) sc_law_carries_right.nd rfl (.inl rfl)) (pss_cons (ps_set (i := 6) sc_law_carries_right.nd rfl (.inl rfl) (pe_op op_mul (pv 1) (pe_op op_add (pe_op op_mul (pv 4) (pv 3)) (pv 5)))) (pss_cons (ps_asg (C8.pe_c c_law_divide hr (by decide) rfl (pa_cons (pv 0) (pa_cons (pv 6) (pa_cons (pv 2) pa_nil)))) (pg_tup (by rfl) (pgs_cons (pg_name (i := 7) sc_law_carries_right.nd rfl (.inl rfl)) (pgs_cons (pg_name (i := 8) sc_law_carries_right.nd rfl (.inl rfl)) pgs_nil)))) (pss_cons (ps_set (i := 9) sc_law_carries_right.nd rfl (.inl rfl) (pe_op op_mul (pv 1) (pe_op op_sub pe_int (pe_op op_mul pe_int (pe_callTy call_int1 rfl B.int_ (by decide +kernel) (pa_cons (pe_cmpR op_lt (pv 2) pe_int (nomark _)) pa_nil)))))) (pss_one (ps_if (pt_cmpR (op_neD hr.units) (C8.pe_c c_carry hr (by decide) rfl (pa_cons (pv 0) (pa_cons (pv 1) (pa_cons (pv 2) (pa_cons (pv 5) pa_nil))))) (pe_tup (pa_cons (pe_op op_sub (pe_op op_mul (pv 9) (pv 7)) (pv 3)) (pa_cons (pv 8) pa_nil))) (nomark _)) (pss_one (ps_ret pe_bl)) pss_nil)))))) (pss_one (ps_ret pe_bl))))
theorem b_law_carries_right {K : Frag} {a : Addr} {fd : FuncData} (F : FunD K "_law_carries_right" "_law_carries_right" (defArgs s_law_carries_right) (defBody s_law_carries_right) (defScope s_law_carries_right) [] [] a fd) : Binds K fd ["rule", "sign", "base", "high"] [] :=
  F.bindsN fun _ _ _ _ _ _ us hl => match us, hl with | [_, _, _, _], _ => rfl

abbrev s_law : Stmt := (top 28)
theorem sc_law : FnScope n_law ["script"] (defScope s_law) := ⟨rfl, rfl, rfl, by decide +kernel, rfl, by decide +kernel, by decide +kernel⟩
theorem f_law {P : Program} {w : World} {K : Frag} {mg : Str → Option Value} {base : Heap} {a : Addr} {fd : FuncData} (B : Bt mg) (c_rule_names : C8.Cal P w K mg base 1 "rule_names" (sp_rule_names K) []) (c_carry : C8.Cal P w K mg base 3 "carry" (sp_carry K) []) (c_law_pool : C8.Cal P w K mg base 1 "_law_pool" (sp_law_pool K) []) (c_law_number : C8.Cal P w K mg base 3 "_law_number" (sp_law_number K) []) (c_law_choose : C8.Cal P w K mg base 2 "_law_choose" (sp_law_choose K) []) (c_law_draw : C8.Cal P w K mg base 1 "_law_draw" (sp_law_draw K) []) (c_divide : C8.Cal P w K mg base 3 "divide" (sp_divide K) []) (c_law_divide : C8.Cal P w K mg base 1 "_law_divide" (sp_law_divide K) []) (c_law_carries_right : C8.Cal P w K mg base 4 "_law_carries_right" (sp_law_carries_right K) [])
    (F : FunD K "law" "law" (defArgs s_law) (defBody s_law) (defScope s_law) [] [] a fd) : FnOk P w K mg base CX0 5 a fd ["script"] (sp_law K) := by
  refine F.ok (k := 4) sc_law (len_law K) (fun cdv A outer s H vs Q E hr h => ⟨t_law K, PSs.nox ?_, pure_law K vs H Q E h⟩)
  exact (pss_cons (ps_set (i := 1) sc_law.nd rfl (.inl rfl) (pe_lst (pa_cons pe_str (pa_cons pe_str (pa_cons pe_str (pa_cons pe_str (pa_cons pe_str pa_nil))))))) (pss_cons (ps_set (i := 2) sc_law.nd rfl (.inl rfl) (pe_c0 c_rule_names hr (by decide) rfl)) (pss_cons (ps_expr (pe_bm0 PySem.F.plainAttrs_list PySem.F.slot_list_clear PySem.F.type_list_clear mt_clear (pv 2))) (pss_cons (ps_if (PW.pt (pw_or (pt_cmpR (op_neD hr.units) (pe_c0 c_rule_names hr (by decide) rfl) (pv 1) (nomark _)) (pw_or1 (pt_cmpR (op_neD hr.units) (C8.pe_c c_carry hr (by decide) rfl (pa_cons pe_str (pa_cons (pe_un un_neg pe_int) (pa_cons pe_int (pa_cons pe_int pa_nil))))) (pe_tup (pa_cons pe_int (pa_cons pe_int pa_nil))) (nomark _))))) (pss_one (ps_ret pe_bl)) pss_nil) (pss_cons (ps_for PassesOwn.never rfl (pi_range1 rfl B.range_ (pa_cons (pe_callB (call_max2 rfl) rfl B.max_ (by decide +kernel) (pa_cons pe_int (pa_cons (pe_callB (call_min2 rfl) rfl B.min_ (by decide +kernel) (pa_cons (pe_callB call_len_seq rfl B.len_ (by decide +kernel) (pa_cons (pv 0) pa_nil)) (pa_cons pe_int pa_nil))) pa_nil))) pa_nil)) (pg_name (i := 3) sc_law.nd rfl (.inl rfl)) (pss_cons (ps_set (i := 4) sc_law.nd rfl (.inl rfl) (C8.pe_c c_law_pool hr (by decide) rfl (pa_cons (pv 0) (pa_cons (pv 3) pa_nil)))) (pss_cons (ps_for PassesOwn.never rfl (pi_range1 rfl B.range_ (pa_cons pe_int pa_nil)) (pg_name (i := 5) sc_law.nd rfl (.inl rfl)) (pss_cons (ps_par (by rfl) sc_law.nd (i := 6) (j := 7) rfl rfl (by decide) rfl rfl (pa_cons (C8.pe_c c_law_choose hr (by decide) rfl (pa_cons (pv 4) (pa_cons (pv 1) pa_nil))) (pa_cons (C8.pe_c c_law_number hr (by decide) rfl (pa_cons (pv 4) pa_nil)) pa_nil)) (by rfl)) (pss_cons (ps_set (i := 8) sc_law.nd rfl (.inl rfl) (pe_op op_mul (C8.pe_c c_law_choose hr (by decide) rfl (pa_cons (pv 4) (pa_cons (pe_lst (pa_cons pe_int (pa_cons (pe_un un_neg pe_int) pa_nil))) pa_nil))) (pe_op op_add pe_int (C8.pe_c c_law_draw hr (by decide) rfl (pa_cons (pv 4) (pa_cons (C8.pe_c c_law_choose hr (by decide) rfl (pa_cons (pv 4) (pa_cons (pe_lst (pa_cons pe_int (pa_cons (pe_op op_pow pe_int pe_int) pa_nil))) pa_nil))) pa_nil)))))) (pss_cons (ps_asg (C8.pe_c c_divide hr (by decide) rfl (pa_cons (pv 6) (pa_cons (pv 7) (pa_cons (pv 8) pa_nil)))) (pg_tup (by rfl) (pgs_cons (pg_name (i := 9) sc_law.nd rfl (.inl rfl)) (pgs_cons (pg_name (i := 10) sc_law.nd rfl (.inl rfl)) pgs_nil)))) (pss_one (ps_if (PW.pt (pw_or (pt_cmpR (op_neD hr.units) (pe_tup (pa_cons (pv 9) (pa_cons (pv 10) pa_nil))) (C8.pe_c c_law_divide hr (by decide) rfl (pa_cons (pv 6) (pa_cons (pv 7) (pa_cons (pv 8) pa_nil)))) (nomark _)) (pw_or (pt_cmpR op_ne (pv 7) (pe_op op_add (pe_op op_mul (pv 9) (pv 8)) (pv 10)) (nomark _)) (pw_or1 (pt_cmpR op_ge (pe_callB call_abs rfl B.abs_ (by decide +kernel) (pa_cons (pv 10) pa_nil)) (pe_callB call_abs rfl B.abs_ (by decide +kernel) (pa_cons (pv 8) pa_nil)) (nomark _)))))) (pss_one (ps_ret pe_bl)) pss_nil)))))) (pss_cons (ps_set (i := 11) sc_law.nd rfl (.inl rfl) (C8.pe_c c_law_choose hr (by decide) rfl (pa_cons (pv 4) (pa_cons (pe_lst (pa_cons pe_int (pa_cons pe_int (pa_cons pe_int (pa_cons (C8.pe_c c_law_draw hr (by decide) rfl (pa_cons (pv 4) (pa_cons (pe_op op_pow pe_int pe_int) pa_nil))) pa_nil))))) pa_nil)))) (pss_cons (ps_set (i := 8) sc_law.nd rfl (.inl rfl) (pe_op op_mul (C8.pe_c c_law_choose hr (by decide) rfl (pa_cons (pv 4) (pa_cons (pe_lst (pa_cons pe_int (pa_cons (pe_un un_neg pe_int) pa_nil))) pa_nil))) (pe_op op_add pe_int (C8.pe_c c_law_draw hr (by decide) rfl (pa_cons (pv 4) (pa_cons pe_int pa_nil)))))) (pss_one (ps_for PassesOwn.never rfl (pi_list (pv 1)) (pg_name (i := 6) sc_law.nd rfl (.inl rfl)) (pss_one (ps_if (PW.pt (pw_or (pt_not (pt_val (C8.pe_c c_law_carries_right hr (by decide) rfl (pa_cons (pv 6) (pa_cons pe_int (pa_cons (pv 8) (pa_cons (pv 11) pa_nil))))))) (pw_or1 (pt_not (pt_val (C8.pe_c c_law_carries_right hr (by decide) rfl (pa_cons (pv 6) (pa_cons (pe_un un_neg pe_int) (pa_cons (pv 8) (pa_cons (pv 11) pa_nil)))))))))) (pss_one (ps_ret pe_bl)) pss_nil))))))))) (pss_one (ps_ret pe_bl)))))))
theorem b_law {K : Frag} {a : Addr} {fd : FuncData} (F : FunD K "law" "law" (defArgs s_law) (defBody s_law) (defScope s_law) [] [] a fd) : Binds K fd ["script"] [] :=
  F.bindsN fun _ _ _ _ _ _ us hl => match us, hl with | [_], _ => rfl

/-! ### the head: facts by names, the run -/
def d_rule_names : He.DefD := ⟨("rule_names", none), "rule_names", "rule_names", defArgs s_rule_names, defBody s_rule_names, defScope s_rule_names, [], []⟩
def d_is_rule : He.DefD := ⟨("is_rule", none), "is_rule", "is_rule", defArgs s_is_rule, defBody s_is_rule, defScope s_is_rule, [], []⟩
def d_require_rule : He.DefD := ⟨("require_rule", none), "require_rule", "require_rule", defArgs s_require_rule, defBody s_require_rule, defScope s_require_rule, [], []⟩
def d_is_integer : He.DefD := ⟨("is_integer", none), "is_integer", "is_integer", defArgs s_is_integer, defBody s_is_integer, defScope s_is_integer, [], []⟩
def d_is_sign : He.DefD := ⟨("is_sign", none), "is_sign", "is_sign", defArgs s_is_sign, defBody s_is_sign, defScope s_is_sign, [], []⟩
def d_is_base : He.DefD := ⟨("is_base", none), "is_base", "is_base", defArgs s_is_base, defBody s_is_base, defScope s_is_base, [], []⟩
def d_is_between : He.DefD := ⟨("is_between", none), "is_between", "is_between", defArgs s_is_between, defBody s_is_between, defScope s_is_between, [], []⟩
def d_is_greater : He.DefD := ⟨("is_greater", none), "is_greater", "is_greater", defArgs s_is_greater, defBody s_is_greater, defScope s_is_greater, [], []⟩
def d_sign_of : He.DefD := ⟨("sign_of", none), "sign_of", "sign_of", defArgs s_sign_of, defBody s_sign_of, defScope s_sign_of, [], []⟩
def d_carried : He.DefD := ⟨("carried", none), "carried", "carried", defArgs s_carried, defBody s_carried, defScope s_carried, [], []⟩
def d_carry : He.DefD := ⟨("carry", none), "carry", "carry", defArgs s_carry, defBody s_carry, defScope s_carry, [], []⟩
def d_law_pool : He.DefD := ⟨("_law_pool", none), "_law_pool", "_law_pool", defArgs s_law_pool, defBody s_law_pool, defScope s_law_pool, [], []⟩
def d_law_draw : He.DefD := ⟨("_law_draw", none), "_law_draw", "_law_draw", defArgs s_law_draw, defBody s_law_draw, defScope s_law_draw, [], []⟩
def d_law_choose : He.DefD := ⟨("_law_choose", none), "_law_choose", "_law_choose", defArgs s_law_choose, defBody s_law_choose, defScope s_law_choose, [], []⟩
def d_law_number : He.DefD := ⟨("_law_number", none), "_law_number", "_law_number", defArgs s_law_number, defBody s_law_number, defScope s_law_number, [], []⟩
def d_divided : He.DefD := ⟨("divided", none), "divided", "divided", defArgs s_divided, defBody s_divided, defScope s_divided, [], []⟩
def d_divide : He.DefD := ⟨("divide", none), "divide", "divide", defArgs s_divide, defBody s_divide, defScope s_divide, [], []⟩
def d_law_divide : He.DefD := ⟨("_law_divide", none), "_law_divide", "_law_divide", defArgs s_law_divide, defBody s_law_divide, defScope s_law_divide, [], []⟩
def d_law_carries_right : He.DefD := ⟨("_law_carries_right", none), "_law_carries_right", "_law_carries_right", defArgs s_law_carries_right, defBody s_law_carries_right, defScope s_law_carries_right, [], []⟩
def d_law : He.DefD := ⟨("law", none), "law", "law", defArgs s_law, defBody s_law, defScope s_law, [], []⟩
def fn_ : List He.DefD := [d_rule_names, d_is_rule, d_require_rule, d_is_integer, d_is_sign, d_is_base, d_is_between, d_is_greater, d_sign_of, d_carried, d_carry, d_law_pool, d_law_draw, d_law_choose, d_law_number, d_divided, d_divide, d_law_divide, d_law_carries_right, d_law]
def fa_ : List He.Fa := [.glo "rule_names", .glo "is_rule", .glo "require_rule", .glo "is_integer", .glo "is_sign", .glo "is_base", .glo "is_between", .glo "is_greater", .glo "sign_of", .glo "carried", .glo "carry", .glo "_law_pool", .glo "_law_draw", .glo "_law_choose", .glo "_law_number", .glo "divided", .glo "divide", .glo "_law_divide", .glo "_law_carries_right", .glo "law", .free "abs", .free "bool", .free "divmod", .free "int", .free "isinstance", .free "len", .free "list", .free "max", .free "min", .free "range", .free "str", .glo "RULES"]
def ex_ (K : Frag) : Bool := He.tupB K "RULES" [.str "down", .str "up", .str "zero", .str "positive", .str "near"]
theorem facts_ {P : Program} {w : World} {K : Frag} {h : Heap} {mg : Str → Option Value} {f : Addr} (X : K.In h) (G : h.Ns mainGlobals mg) (hfa : mg ("law" : Str) = some (.ref f)) (c : SaysX fa_ fn_ ex_ K) :
    ∃ fd : FuncData, (∀ (s : Shared) (v : Value), BindsTo s fd ⟨[v], []⟩ [("script", v)]) ∧ ∀ base : Heap, K.In base → base.Ns mainGlobals mg → FnOk P w K mg base CX0 5 f fd ["script"] (sp_law K) := by
  obtain ⟨fd0, F0⟩ := c.1.def_ 0 (d := d_rule_names) rfl
  have m0 : mg "rule_names" = some (.ref (He.ga K "rule_names")) := He.glo_ok X G (c.1.fact 0 (f := .glo "rule_names") rfl)
  obtain ⟨fd1, F1⟩ := c.1.def_ 1 (d := d_is_rule) rfl
  have m1 : mg "is_rule" = some (.ref (He.ga K "is_rule")) := He.glo_ok X G (c.1.fact 1 (f := .glo "is_rule") rfl)
  obtain ⟨fd2, F2⟩ := c.1.def_ 2 (d := d_require_rule) rfl
  have m2 : mg "require_rule" = some (.ref (He.ga K "require_rule")) := He.glo_ok X G (c.1.fact 2 (f := .glo "require_rule") rfl)
  obtain ⟨fd3, F3⟩ := c.1.def_ 3 (d := d_is_integer) rfl
  have m3 : mg "is_integer" = some (.ref (He.ga K "is_integer")) := He.glo_ok X G (c.1.fact 3 (f := .glo "is_integer") rfl)
  obtain ⟨fd4, F4⟩ := c.1.def_ 4 (d := d_is_sign) rfl
  have m4 : mg "is_sign" = some (.ref (He.ga K "is_sign")) := He.glo_ok X G (c.1.fact 4 (f := .glo "is_sign") rfl)
  obtain ⟨fd5, F5⟩ := c.1.def_ 5 (d := d_is_base) rfl
  have m5 : mg "is_base" = some (.ref (He.ga K "is_base")) := He.glo_ok X G (c.1.fact 5 (f := .glo "is_base") rfl)
  obtain ⟨fd6, F6⟩ := c.1.def_ 6 (d := d_is_between) rfl
  have m6 : mg "is_between" = some (.ref (He.ga K "is_between")) := He.glo_ok X G (c.1.fact 6 (f := .glo "is_between") rfl)
  obtain ⟨fd7, F7⟩ := c.1.def_ 7 (d := d_is_greater) rfl
  have m7 : mg "is_greater" = some (.ref (He.ga K "is_greater")) := He.glo_ok X G (c.1.fact 7 (f := .glo "is_greater") rfl)
  obtain ⟨fd8, F8⟩ := c.1.def_ 8 (d := d_sign_of) rfl
  have m8 : mg "sign_of" = some (.ref (He.ga K "sign_of")) := He.glo_ok X G (c.1.fact 8 (f := .glo "sign_of") rfl)
  obtain ⟨fd9, F9⟩ := c.1.def_ 9 (d := d_carried) rfl
  have m9 : mg "carried" = some (.ref (He.ga K "carried")) := He.glo_ok X G (c.1.fact 9 (f := .glo "carried") rfl)
  obtain ⟨fd10, F10⟩ := c.1.def_ 10 (d := d_carry) rfl
  have m10 : mg "carry" = some (.ref (He.ga K "carry")) := He.glo_ok X G (c.1.fact 10 (f := .glo "carry") rfl)
  obtain ⟨fd11, F11⟩ := c.1.def_ 11 (d := d_law_pool) rfl
  have m11 : mg "_law_pool" = some (.ref (He.ga K "_law_pool")) := He.glo_ok X G (c.1.fact 11 (f := .glo "_law_pool") rfl)
  obtain ⟨fd12, F12⟩ := c.1.def_ 12 (d := d_law_draw) rfl
  have m12 : mg "_law_draw" = some (.ref (He.ga K "_law_draw")) := He.glo_ok X G (c.1.fact 12 (f := .glo "_law_draw") rfl)
  obtain ⟨fd13, F13⟩ := c.1.def_ 13 (d := d_law_choose) rfl
  have m13 : mg "_law_choose" = some (.ref (He.ga K "_law_choose")) := He.glo_ok X G (c.1.fact 13 (f := .glo "_law_choose") rfl)
  obtain ⟨fd14, F14⟩ := c.1.def_ 14 (d := d_law_number) rfl
  have m14 : mg "_law_number" = some (.ref (He.ga K "_law_number")) := He.glo_ok X G (c.1.fact 14 (f := .glo "_law_number") rfl)
  obtain ⟨fd15, F15⟩ := c.1.def_ 15 (d := d_divided) rfl
  have m15 : mg "divided" = some (.ref (He.ga K "divided")) := He.glo_ok X G (c.1.fact 15 (f := .glo "divided") rfl)
  obtain ⟨fd16, F16⟩ := c.1.def_ 16 (d := d_divide) rfl
  have m16 : mg "divide" = some (.ref (He.ga K "divide")) := He.glo_ok X G (c.1.fact 16 (f := .glo "divide") rfl)
  obtain ⟨fd17, F17⟩ := c.1.def_ 17 (d := d_law_divide) rfl
  have m17 : mg "_law_divide" = some (.ref (He.ga K "_law_divide")) := He.glo_ok X G (c.1.fact 17 (f := .glo "_law_divide") rfl)
  obtain ⟨fd18, F18⟩ := c.1.def_ 18 (d := d_law_carries_right) rfl
  have m18 : mg "_law_carries_right" = some (.ref (He.ga K "_law_carries_right")) := He.glo_ok X G (c.1.fact 18 (f := .glo "_law_carries_right") rfl)
  obtain ⟨fd19, F19⟩ := c.1.def_ 19 (d := d_law) rfl
  have m19 : mg "law" = some (.ref (He.ga K "law")) := He.glo_ok X G (c.1.fact 19 (f := .glo "law") rfl)
  have B : Bt mg := ⟨He.free_ok X G (c.1.fact 20 (f := .free "abs") rfl), He.free_ok X G (c.1.fact 21 (f := .free "bool") rfl), He.free_ok X G (c.1.fact 22 (f := .free "divmod") rfl), He.free_ok X G (c.1.fact 23 (f := .free "int") rfl), He.free_ok X G (c.1.fact 24 (f := .free "isinstance") rfl), He.free_ok X G (c.1.fact 25 (f := .free "len") rfl), He.free_ok X G (c.1.fact 26 (f := .free "list") rfl), He.free_ok X G (c.1.fact 27 (f := .free "max") rfl), He.free_ok X G (c.1.fact 28 (f := .free "min") rfl), He.free_ok X G (c.1.fact 29 (f := .free "range") rfl), He.free_ok X G (c.1.fact 30 (f := .free "str") rfl)⟩
  have g_RULES : mg "RULES" = some (.ref (He.ga K "RULES")) := He.glo_ok X G (c.1.fact 31 (f := .glo "RULES") rfl)
  have tb_RULES : TabRULES K := fun H => He.tupB_ok c.2 H
  have c_rule_names : ∀ base : Heap, C8.Cal P w K mg base 1 "rule_names" (sp_rule_names K) [] := fun base => ⟨_, _, _, _, f_rule_names B g_RULES tb_RULES F0, m0, F0.kp, b_rule_names F0, .nil⟩
  have c_is_rule : ∀ base : Heap, C8.Cal P w K mg base 1 "is_rule" (sp_is_rule K) [] := fun base => ⟨_, _, _, _, f_is_rule B g_RULES tb_RULES F1, m1, F1.kp, b_is_rule F1, .nil⟩
  have c_require_rule : ∀ base : Heap, C8.Cal P w K mg base 2 "require_rule" (sp_require_rule K) [] := fun base => ⟨_, _, _, _, f_require_rule (c_is_rule base) F2, m2, F2.kp, b_require_rule F2, .nil⟩
  have c_is_integer : ∀ base : Heap, C8.Cal P w K mg base 1 "is_integer" (sp_is_integer K) [] := fun base => ⟨_, _, _, _, f_is_integer B F3, m3, F3.kp, b_is_integer F3, .nil⟩
  have c_is_sign : ∀ base : Heap, C8.Cal P w K mg base 2 "is_sign" (sp_is_sign K) [] := fun base => ⟨_, _, _, _, f_is_sign (c_is_integer base) F4, m4, F4.kp, b_is_sign F4, .nil⟩
  have c_is_base : ∀ base : Heap, C8.Cal P w K mg base 2 "is_base" (sp_is_base K) [] := fun base => ⟨_, _, _, _, f_is_base B (c_is_integer base) F5, m5, F5.kp, b_is_base F5, .nil⟩
  have c_is_between : ∀ base : Heap, C8.Cal P w K mg base 2 "is_between" (sp_is_between K) [] := fun base => ⟨_, _, _, _, f_is_between (c_is_integer base) F6, m6, F6.kp, b_is_between F6, .nil⟩
  have c_is_greater : ∀ base : Heap, C8.Cal P w K mg base 1 "is_greater" (sp_is_greater K) [] := fun base => ⟨_, _, _, _, f_is_greater F7, m7, F7.kp, b_is_greater F7, .nil⟩
  have c_sign_of : ∀ base : Heap, C8.Cal P w K mg base 1 "sign_of" (sp_sign_of K) [] := fun base => ⟨_, _, _, _, f_sign_of B F8, m8, F8.kp, b_sign_of F8, .nil⟩
  have c_carried : ∀ base : Heap, C8.Cal P w K mg base 2 "carried" (sp_carried K) [] := fun base => ⟨_, _, _, _, f_carried B (c_is_greater base) (c_sign_of base) F9, m9, F9.kp, b_carried F9, .nil⟩
  have c_carry : ∀ base : Heap, C8.Cal P w K mg base 3 "carry" (sp_carry K) [] := fun base => ⟨_, _, _, _, f_carry B (c_require_rule base) (c_is_sign base) (c_is_base base) (c_is_between base) (c_carried base) F10, m10, F10.kp, b_carry F10, .nil⟩
  have c_law_pool : ∀ base : Heap, C8.Cal P w K mg base 1 "_law_pool" (sp_law_pool K) [] := fun base => ⟨_, _, _, _, f_law_pool B F11, m11, F11.kp, b_law_pool F11, .nil⟩
  have c_law_draw : ∀ base : Heap, C8.Cal P w K mg base 1 "_law_draw" (sp_law_draw K) [] := fun base => ⟨_, _, _, _, f_law_draw B F12, m12, F12.kp, b_law_draw F12, .nil⟩
  have c_law_choose : ∀ base : Heap, C8.Cal P w K mg base 2 "_law_choose" (sp_law_choose K) [] := fun base => ⟨_, _, _, _, f_law_choose B (c_law_draw base) F13, m13, F13.kp, b_law_choose F13, .nil⟩
  have c_law_number : ∀ base : Heap, C8.Cal P w K mg base 3 "_law_number" (sp_law_number K) [] := fun base => ⟨_, _, _, _, f_law_number (c_law_draw base) (c_law_choose base) F14, m14, F14.kp, b_law_number F14, .nil⟩
  have c_divided : ∀ base : Heap, C8.Cal P w K mg base 2 "divided" (sp_divided K) [] := fun base => ⟨_, _, _, _, f_divided B (c_sign_of base) (c_is_greater base) F15, m15, F15.kp, b_divided F15, .nil⟩
  have c_divide : ∀ base : Heap, C8.Cal P w K mg base 3 "divide" (sp_divide K) [] := fun base => ⟨_, _, _, _, f_divide (c_require_rule base) (c_is_integer base) (c_divided base) F16, m16, F16.kp, b_divide F16, .nil⟩
  have c_law_divide : ∀ base : Heap, C8.Cal P w K mg base 1 "_law_divide" (sp_law_divide K) [] := fun base => ⟨_, _, _, _, f_law_divide B F17, m17, F17.kp, b_law_divide F17, .nil⟩
  have c_law_carries_right : ∀ base : Heap, C8.Cal P w K mg base 4 "_law_carries_right" (sp_law_carries_right K) [] := fun base => ⟨_, _, _, _, f_law_carries_right B (c_law_divide base) (c_carry base) F18, m18, F18.kp, b_law_carries_right F18, .nil⟩
  have e := hfa.symm.trans m19
  cases e
  have b := FunD.bindsA (ps := ["script"]) F19 fun _ _ _ _ _ _ us hl => match us, hl with | [_], _ => rfl
  exact ⟨fd19, fun s v => b s [v] rfl, fun base _ _ => f_law B (c_rule_names base) (c_carry base) (c_law_pool base) (c_law_number base) (c_law_choose base) (c_law_draw base) (c_divide base) (c_law_divide base) (c_law_carries_right base) F19⟩
abbrev Row_ : PySem.W.OpenRow := PySem.W.OpenLaw.row PySem.Challenge.rw_stillwords_k01_five_rules_of_division
abbrev hk_ : PySem.W.Hook := hookX 4 fa_ fn_ ex_
def ob_ (s : PySem.W.SharedT) : AlX := obsXG 4 fa_ fn_ ex_ (HandSHeadRun.getT s)
theorem ob_eq_ (s : PySem.W.SharedT) : ob_ s = hk_.obs s.abs := obsXG_eq (HandSHeadRun.getT_eq s)
def loose_ : List Str := ["__name__", "InvalidRule", "InvalidNumber", "InvalidBase", "InvalidSign", "is_integer", "is_between", "is_base", "is_sign", "sign_of", "RULES", "rule_names", "is_rule", "require_rule", "is_greater", "divided", "divide", "carried", "carry", "_law_pool", "_law_draw", "_law_choose", "_law_divide", "_law_number", "_law_carries_right"]
theorem run_ (w : World) : HandSHeadRun.RunEq Row_ (PySem.W.view Row_.prog [28]) hk_ ob_ 2140 loose_ w := by
  intro os
  kernel_rfl
end SW
open PySem PySem.W PySem.Calls PyProof.Rows
theorem PySem.Challenge.cw_stillwords_k01_five_rules_of_division_holds : PySem.Challenge.rw_stillwords_k01_five_rules_of_division.Holds := by
  w_on; o_law
  refine HandSHeadRun.head_any (r := OpenLaw.row PySem.Challenge.rw_stillwords_k01_five_rules_of_division) (q := view (OpenLaw.row PySem.Challenge.rw_stillwords_k01_five_rules_of_division).prog [28]) (H := SW.hk_) (ob := SW.ob_) (M := 2140) (loose := SW.loose_) (d := HandSHeadRun.topDef (OpenLaw.row PySem.Challenge.rw_stillwords_k01_five_rules_of_division).prog 28) (kwd := []) SW.ob_eq_
    (by kernel_rfl) (fun s => by kernel_rfl) SW.run_ (by kernel_rfl) (by kernel_rfl) (by kernel_rfl) (by rfl) (by first | assumption | decide +kernel) (by decide +kernel) ⟨rfl, rfl, rfl, rfl, rfl, by decide +kernel⟩ ?hw ?hc
  case hw => w_witness2
  case hc =>
    refine L2.walk_ofE (l := PySem.Challenge.rw_stillwords_k01_five_rules_of_division) (n := 63) (k := 5) (x := "script") (CX := L2.CX0) rfl (by decide) (by kernel_rfl) ⟨rfl, by decide, by decide⟩ ?F (fun _ _ _ _ z => z)
    intro w mg fa h Y G hmg0
    obtain ⟨K, KX, c⟩ := Y
    have hmg : mg ("law" : PySem.Str) = some (.ref fa) := by
      have e : (HandSHeadRun.topDef (OpenLaw.row PySem.Challenge.rw_stillwords_k01_five_rules_of_division).prog 28).name = ("law" : PySem.Str) := by kernel_rfl
      rw [← e]
      exact hmg0
    obtain ⟨fd, hb, hF⟩ := SW.facts_ (P := (PySem.Challenge.rw_stillwords_k01_five_rules_of_division).prog) (w := w) KX G hmg c
    exact ⟨K, fd, SW.sp_law K, KX, hb, fun H a ns hl _ hS => ⟨a, ns, rfl, hS, hl, fun _ => rfl⟩, hF⟩
#print axioms PySem.Challenge.cw_stillwords_k01_five_rules_of_division_holds
