import PyProof.Rows.All
import Wide.All
import OpenK.AllK
import Wide.FinOn
import KE.KStateDown
import PyProof.RulesMatch
import HandS.ForMost
import HandS.IsInst
import HandS.Wide
import HandS.WideBits
import HandS.Codes
import HandS.Defaults
import HandS.Head0
import HandS.Head1
import HandS.Head2
import HandS.HeadEnd
import HandS.HeadHook1
import HandS.HeadHook2
import HandS.Walk
import HandS.TupAny
import HandS.Lambda
import KE.KDictKeyed
import KE.KeyNested
import HandS.Comp
import HandS.Steps
import HandS.Deep
import HandS.Star
import HandS.Property
import HandS.WordsExc
import HandS.ExcOwn
import HandS.Spec
import HandS.DictComp
import KE.GoesNew
import HandS.Style
import HandS.Conv
import KE.KSlice
import KE.KRevSl
import HandS.ExcInit
import HandS.ExcField
import HandS.TryMany
import HandS.RaiseMore
import HandS.HeadWalk
import HandS.HeadHook4
import PySem.Challenge.RW_stillwords_k07_whole_one_small_carry
set_option Elab.async false
set_option linter.all false
set_option maxRecDepth 100000
set_option maxHeartbeats 4000000
/-! SWBase: what all proofs of this seat share: match over texts, the heap's growth, operators by short names. -/
namespace SW
open PySem L2 PyProof.Rows
abbrev Frag := PySem.W.Frag

/-! ### match x: case 'text': .. case _: .. -/
structure PMs (X : Cx) (cs : List MatchCase) (t : V → TS) : Prop where
  run : ∀ (first : Bool) (pins : List (Addr × Obj)) (s : Shared) (σ : L2.St) (H : Hp) (D : Ends) (v : V) (u : Value), Inv X pins σ H s → RelV v u → t v D σ H →
    wpAny (model X.prog X.w) X.A (matchCases cs X.env u first) (SP X pins D) X.xe s
def mNil : V → TS := fun _ D σ H => D.nx σ H
def mStr (c : Str) (tb : TS) (tr : V → TS) : V → TS := fun v D σ H => ∃ z, v = .str z ∧ if decide (z = c) = true then tb D σ H else tr v D σ H
def mElse (tb : TS) : V → TS := fun _ D σ H => tb D σ H
def tMatch (te : TE) (tm : V → TS) : TS := fun D σ H => te σ H fun v H1 => tm v D σ H1
section
variable {X : Cx}
theorem pm_nil : PMs X [] mNil := ⟨fun _ _ _ σ H _ _ _ I _ h => wpAny_matchCases_nil ⟨σ, H, I, h⟩⟩
theorem pm_else {body : List Stmt} {pos : Pos} {rest : List MatchCase} {tb : TS} (hb : PSs X body tb) : PMs X (⟨.MatchAs none none pos, none, body⟩ :: rest) (mElse tb) := by
  refine ⟨fun first pins s σ H D v u I r h => ?_⟩
  refine wpAny_matchCases_cons (wpAny_matchPattern_Capture ?_)
  exact wpAny_assignInOrder_none (hb.run pins s σ H D I h)
theorem pm_str {c : Str} {k : Nat} {p1 p2 : Pos} {body : List Stmt} {rest : List MatchCase} {tb : TS} {tr : V → TS} (hb : PSs X body tb) (hr : PMs X rest tr) :
    PMs X (⟨.MatchValue (.Constant (.str c) k p1) p2, none, body⟩ :: rest) (mStr c tb tr) := by
  refine ⟨fun first pins s σ H D v u I r h => ?_⟩
  obtain ⟨z, rfl, h⟩ := h
  refine wpAny_matchCases_cons (wpAny_matchPattern_Value ?_)
  refine thn ((pe_str (X := X) (x := c) (j := k) (pos := p1)).run pins s σ H (fun v H' => v = .str c ∧ H' = H) I ⟨rfl, rfl⟩) fun x s1 ⟨y, H1, I1, r1, e1, e2⟩ => ?_
  subst e1 e2
  refine thn ((op_eq (X := X)) pins s1 σ _ (.str z) (.str c) u x (fun v H' => v = .bl (decide (V.str z = V.str c)) ∧ H' = _) I1 r r1 ⟨rfl, rfl, rfl⟩) fun b s2 ⟨y2, H2, I2, r2, e3, e4⟩ => ?_
  subst e3 e4
  cases r2
  refine wpAny_truthy_bool ?_
  by_cases hz : z = c
  · have e : decide (V.str z = V.str c) = true := decide_eq_true (congrArg V.str hz)
    rw [e]
    rw [if_pos (decide_eq_true hz)] at h
    exact wpAny_assignInOrder_none (hb.run pins s2 σ _ D I2 h)
  · have e : decide (V.str z = V.str c) = false := decide_eq_false fun q => hz (V.str.inj q)
    rw [e]
    rw [if_neg (by rw [decide_eq_false hz]; decide)] at h
    exact hr.run false pins s2 σ _ D (.str z) u I2 r h
theorem ps_match {e : Expr} {cs : List MatchCase} {pos : Pos} {te : TE} {tm : V → TS} (he : PE X e te) (hc : PMs X cs tm) : PS X (.Match e cs pos) (tMatch te tm) := by
  refine ⟨fun pins s σ H D I h => ?_⟩
  exact wpAny_Match (thn (he.run pins s σ H _ I h) fun u s1 ⟨v, H1, I1, r1, q1⟩ => hc.run true pins s1 σ H1 D v u I1 r1 q1)
end

/-! ### operators by short names -/
abbrev oAdd : R2 := rI0 fun i j => .int (i + j)
abbrev oSub : R2 := rI0 fun i j => .int (i - j)
abbrev oMul : R2 := rI CMul fun i j => .int (i * j)
abbrev oMulW : R2 := rI CMulW fun i j => .int (i * j)
abbrev oDiv : R2 := rI CDivW fun i j => .int (i / j)
abbrev oMod : R2 := rI (fun _ j => 0 < j) fun i j => .int (i % j)
abbrev oPow : R2 := rI CPow fun i j => .int (i ^ j.toNat)
abbrev oLt : R2 := rI0 fun i j => .bl (decide (i < j))
abbrev oLe : R2 := rI0 fun i j => .bl (decide (i ≤ j))
abbrev oGt : R2 := rI0 fun i j => .bl (decide (j < i))
abbrev oGe : R2 := rI0 fun i j => .bl (decide (j ≤ i))
abbrev oNeg : V → Hp → VK → Prop := rU fun i => .int (-i)
abbrev bAbs : List V → Hp → VK → Prop := fun xs H Q => ∃ i, xs = [.int i] ∧ Q (.int (if i < 0 then -i else i)) H
abbrev bMax2 : List V → Hp → VK → Prop := fun xs H Q => ∃ i j, xs = [.int i, .int j] ∧ Q (.int (if j > i then j else i)) H
abbrev bMin2 : List V → Hp → VK → Prop := fun xs H Q => ∃ i j, xs = [.int i, .int j] ∧ Q (.int (if j < i then j else i)) H
abbrev bInt : List V → Hp → VK → Prop := fun xs H Q => (∃ i, xs = [.int i] ∧ Q (.int i) H) ∨ ∃ k, xs = [.bl k] ∧ Q (.int (if k then 1 else 0)) H
abbrev bLen (K : Frag) : List V → Hp → VK → Prop := fun xs H Q => ∃ p ys, xs = [.ref p] ∧ (SqL K H p ys ∨ SqT K H p ys) ∧ Q (.int ys.length) H
abbrev bList (K : Frag) : List V → Hp → VK → Prop := fun xs H Q => ∃ p ys, xs = [.ref p] ∧ (SqL K H p ys ∨ SqT K H p ys) ∧ ∀ l, H l = none → Q (.ref l) (upd H l (.lst ys))
abbrev bDivmod : List V → Hp → VK → Prop := fun xs H Q => ∃ i j, xs = [.int i, .int j] ∧ CDivP i j ∧ ∀ p, H p = none → Q (.ref p) (upd H p (.tup [.int (i / j), .int (i % j)]))
/-- a body run from these arguments -/
abbrev Runs (t : TS) (N : List Str) (vs : List V) (H : Hp) (Q : VK) : Prop := t { nx := fun _ H' => Q .non H', rt := Q } (start N vs) H
theorem pe_c0 {X : Cx} {k j : Nat} {x : Str} {sp : Sp} {dvs : List V} {p pos : Pos} (c : C8.Cal X.prog X.w X.K X.mg X.base k x sp dvs) (hr : Room j X.A) (hk : k ≤ j) (hg : Gl X x)
    (hdb : (x == ("__debug__" : Str)) = false := by decide) : PE X (.Call (.Name x p) [] [] pos) (tCall sp dvs E0 tNil) := by
  obtain ⟨f, fd, ps, ds, F, hm, kp, b, d⟩ := c.ex
  exact pe_call0 F (hr.mono hk) hg hm kp b d pass0 hdb
/-- a method's rule in the form that pe_bm wants -/
theorem toR {X : Cx} {id : String} {r : V → List V → Hp → VK → Prop} (h : MtM X id r) : MtR X id r := h

/-! ### the heap grows; all but one stay -/
def Ex (H H' : Hp) : Prop := ∀ a o, H a = some o → H' a = some o
theorem Ex.refl (H : Hp) : Ex H H := fun _ _ h => h
theorem Ex.trans {H H1 H2 : Hp} (a : Ex H H1) (b : Ex H1 H2) : Ex H H2 := fun c o h => b c o (a c o h)
theorem Ex.new {H : Hp} {p : Addr} {o : HO} (h : H p = none) : Ex H (upd H p o) := fun a u e => by
  rw [upd_ne (ne_of_none e h)]
  exact e
theorem Ex.free {H H' : Hp} (e : Ex H H') {l : Addr} (h : H' l = Option.none) : H l = Option.none := by
  cases q : H l with
  | none => rfl
  | some o =>
    rw [e l o q] at h
    cases h
theorem Ex.rd {H H' : Hp} {a : Addr} {u : HO} (e : Ex H H') (h : Rd H a u) : Rd H' a u := by
  rcases h with h | ⟨o, h⟩
  · exact Or.inl (e a _ h)
  · exact Or.inr ⟨o, e a _ h⟩
theorem Ex.l {K : Frag} {H H' : Hp} {a : Addr} {xs : List V} (e : Ex H H') (h : SqL K H a xs) : SqL K H' a xs := h.imp e.rd id
theorem Ex.t {K : Frag} {H H' : Hp} {a : Addr} {xs : List V} (e : Ex H H') (h : SqT K H a xs) : SqT K H' a xs := h.imp e.rd id
/-- all but the object at p -/
def But (p : Addr) (H H' : Hp) : Prop := ∀ a o, a ≠ p → H a = some o → H' a = some o
theorem But.refl (p : Addr) (H : Hp) : But p H H := fun _ _ _ h => h
theorem But.trans {p : Addr} {H H1 H2 : Hp} (a : But p H H1) (b : But p H1 H2) : But p H H2 := fun c o n h => b c o n (a c o n h)
theorem But.upd {p : Addr} {H : Hp} {o : HO} : But p H (upd H p o) := fun a u n e => by rw [upd_ne n]; exact e
theorem Ex.but {p : Addr} {H H' : Hp} (e : Ex H H') : But p H H' := fun a o _ h => e a o h
theorem But.rd {p : Addr} {H H' : Hp} {a : Addr} {u : HO} (e : But p H H') (n : a ≠ p) (h : Rd H a u) : Rd H' a u := by
  rcases h with h | ⟨o, h⟩
  · exact Or.inl (e a _ n h)
  · exact Or.inr ⟨o, e a _ n h⟩
theorem But.l {K : Frag} {p : Addr} {H H' : Hp} {a : Addr} {xs : List V} (e : But p H H') (n : a ≠ p) (h : SqL K H a xs) : SqL K H' a xs := h.imp (e.rd n) id
theorem But.t {K : Frag} {p : Addr} {H H' : Hp} {a : Addr} {xs : List V} (e : But p H H') (n : a ≠ p) (h : SqT K H a xs) : SqT K H' a xs := h.imp (e.rd n) id
/-- p was new: all that was tracked stays -/
theorem But.ex {p : Addr} {H H' : Hp} (e : But p H H') (n : H p = none) : Ex H H' := fun a o h => e a o (ne_of_none h n) h
/-- .. behind a new object at p -/
theorem But.ex2 {p : Addr} {H H0 H' : Hp} (e : But p H0 H') (x : Ex H H0) (n : H p = none) : Ex H H' := fun a o h => e a o (ne_of_none h n) (x a o h)

/-! ### a value of a known kind -/
def isIntV : V → Bool
  | .int _ => true
  | _ => false
def isStrV : V → Bool
  | .str _ => true
  | _ => false
def isBoolV : V → Bool
  | .bl _ => true
  | _ => false
def isTupV (K : Frag) (H : Hp) (v : V) : Prop := TyX K H v (.type "tuple")
/-- a value whose class isinstance can tell -/
def Kno (K : Frag) (H : Hp) (v : V) : Prop := ∃ t : String, (t = "int" ∨ t = "bool" ∨ t = "str" ∨ t = "NoneType" ∨ t = "tuple" ∨ t = "list" ∨ t = "dict") ∧ TyX K H v (.type t)
theorem Kno.int {K : Frag} {H : Hp} {i : Int} : Kno K H (.int i) := ⟨"int", .inl rfl, .base (.int i)⟩
theorem Kno.str {K : Frag} {H : Hp} {i : Str} : Kno K H (.str i) := ⟨"str", .inr (.inr (.inl rfl)), .base (.str i)⟩
theorem ty_int {K : Frag} {H : Hp} {v : V} {t : String} (h : TyX K H v (.type t)) : isIntV v = decide (t = "int") := by
  cases h with
  | base b => cases b <;> rfl
  | _ => rfl
theorem ty_str {K : Frag} {H : Hp} {v : V} {t : String} (h : TyX K H v (.type t)) : isStrV v = decide (t = "str") := by
  cases h with
  | base b => cases b <;> rfl
  | _ => rfl
theorem ty_bool {K : Frag} {H : Hp} {v : V} {t : String} (h : TyX K H v (.type t)) : isBoolV v = decide (t = "bool") := by
  cases h with
  | base b => cases b <;> rfl
  | _ => rfl
theorem kno_int {K : Frag} {H : Hp} {v : V} (h : Kno K H v) : ∃ t u, ClsV (.ty "int") u ∧ TyX K H v t ∧ PySem.W.kitOne K t u = some (isIntV v || isBoolV v) := by
  obtain ⟨t, ht, h⟩ := h
  refine ⟨_, _, .ty _, h, ?_⟩
  rw [ty_int h, ty_bool h]
  rcases ht with rfl | rfl | rfl | rfl | rfl | rfl | rfl <;> exact kit_ty (by decide +kernel)
theorem kno_bool {K : Frag} {H : Hp} {v : V} (h : Kno K H v) : ∃ t u, ClsV (.ty "bool") u ∧ TyX K H v t ∧ PySem.W.kitOne K t u = some (isBoolV v) := by
  obtain ⟨t, ht, h⟩ := h
  refine ⟨_, _, .ty _, h, ?_⟩
  rw [ty_bool h]
  rcases ht with rfl | rfl | rfl | rfl | rfl | rfl | rfl <;> exact kit_ty (by decide +kernel)
theorem kno_str {K : Frag} {H : Hp} {v : V} (h : Kno K H v) : ∃ t u, ClsV (.ty "str") u ∧ TyX K H v t ∧ PySem.W.kitOne K t u = some (isStrV v) := by
  obtain ⟨t, ht, h⟩ := h
  refine ⟨_, _, .ty _, h, ?_⟩
  rw [ty_str h]
  rcases ht with rfl | rfl | rfl | rfl | rfl | rfl | rfl <;> exact kit_ty (by decide +kernel)

/-! ### ifs over a decision -/
theorem ifd {p A B : Prop} [Decidable p] (h1 : p → A) (h2 : ¬ p → B) : if decide p = true then A else B := by
  by_cases h : p
  · rw [if_pos (decide_eq_true h)]
    exact h1 h
  · rw [if_neg (by rw [decide_eq_false h]; decide)]
    exact h2 h
theorem ifn {p A B : Prop} [Decidable p] (h1 : ¬ p → A) (h2 : p → B) : if (!decide p) = true then A else B := by
  by_cases h : p
  · rw [if_neg (by rw [decide_eq_true h]; decide)]
    exact h2 h
  · rw [if_pos (by rw [decide_eq_false h]; rfl)]
    exact h1 h
theorem ifb {b : Bool} {A B : Prop} (h1 : b = true → A) (h2 : b = false → B) : if b = true then A else B := by
  cases b with
  | true => exact h1 rfl
  | false => exact h2 rfl
theorem ifT {b : Bool} {A B : Prop} (e : b = true) (h1 : A) : if b = true then A else B := by rw [if_pos e]; exact h1
theorem ifF {b : Bool} {A B : Prop} (e : b = false) (h1 : B) : if b = true then A else B := by rw [if_neg (by rw [e]; decide)]; exact h1
/-- x and y, y a comparison -/
theorem andV_pure {c c2 : Bool} {H : Hp} {Q : VK} {tb : TE} {σ : L2.St} (h2 : c = true → ∀ Q' : VK, Q' (.bl c2) H → tb σ H Q') (q : Q (.bl (c && c2)) H) : if c = true then tb σ H Q else Q (.bl false) H := by
  cases c with
  | true => exact h2 rfl Q q
  | false => exact q
theorem divOk {i j : Int} (h : i.natAbs < 2 ^ 3000) (hj : 0 < j) : CDivP i j := by
  refine divp_ok hj ?_
  have b : Builtin.Int.intBits i ≤ i.natAbs.log2 + 1 := by unfold Builtin.Int.intBits; split <;> omega
  have x := PySem.Flt.log2_lt_of (by decide : 0 < 3000) h
  omega
theorem size2 : 2 ≤ sizeLine := by decide
theorem size_le {n : Nat} (h : n ≤ 1000) : n ≤ sizeLine := Nat.le_trans h (by decide)
/-! ### the head's facts, with one more Bool of one's own -/
abbrev AlX : Type := He.AlD × Bool
def SaysX (fa : List He.Fa) (fn : List He.DefD) (ex : Frag → Bool) (K : Frag) : Prop := He.SaysD fa fn K ∧ ex K = true
def obsX (fa : List He.Fa) (fn : List He.DefD) (ex : Frag → Bool) (K : Frag) : AlX := (He.obsD fa fn K, ex K)
def obsXG (n : Nat) (fa : List He.Fa) (fn : List He.DefD) (ex : Frag → Bool) (g : Addr → Option Obj) : AlX := obsX fa fn ex (He.frG g (He.asD g n))
def hookX (n : Nat) (fa : List He.Fa) (fn : List He.DefD) (ex : Frag → Bool) : PySem.W.Hook where
  α := AlX
  obs := fun s => obsXG n fa fn ex s.heap.get?
  val := fun _ => (He.valD fn, true)
  says := fun _ h => ∃ K : Frag, K.In h ∧ SaysX fa fn ex K
  of := fun _ _ e => ⟨_, He.frG_in, congrArg Prod.fst e, congrArg Prod.snd e⟩
  keeps := fun _ _ _ ⟨K, hK, c⟩ k => ⟨K, PySem.W.Frag.In.keeps hK k, c⟩
theorem obsXG_eq {n : Nat} {fa : List He.Fa} {fn : List He.DefD} {ex : Frag → Bool} {g : Addr → Option Obj} {s : Shared} (h : ∀ a, g a = s.heap.get? a) : obsXG n fa fn ex g = (hookX n fa fn ex).obs s := by
  have e : g = s.heap.get? := funext h
  rw [e] <;> rfl
end SW


namespace SW
/-- the sign of a number -/
def sgn (n : Int) : Int := (if 0 < n then 1 else 0) - (if n < 0 then 1 else 0)
inductive Rule where
  | down | up | zero | positive | near
  deriving DecidableEq
def isGreater (r : Rule) (sign ds part size : Int) : Bool :=
  match r with
  | .down => decide (sign * ds < 0)
  | .up => decide (0 < sign * ds)
  | .positive => decide (sign < 0)
  | .near => decide (size < 2 * part) || (decide (2 * part = size) && decide (sign < 0))
  | .zero => false
def absI (x : Int) : Int := if x < 0 then -x else x
def divided (r : Rule) (x d : Int) : Int × Int :=
  if 0 < absI x % absI d ∧ isGreater r (sgn x) (sgn d) (absI x % absI d) (absI d) = true then
    (sgn x * sgn d * (absI x / absI d + 1), sgn x * (absI x % absI d - absI d))
  else (sgn x * sgn d * (absI x / absI d), sgn x * (absI x % absI d))
def b2 (b : Bool) : Int := if b then 1 else 0
/-- the law's own -/
def lawPart (r : Rule) (x d : Int) : Int :=
  match r with
  | .down => x % absI d - absI d * b2 (decide (d < 0) && decide (0 < x % absI d))
  | .up => x % absI d - absI d * b2 (decide (0 < d) && decide (0 < x % absI d))
  | .zero => x % absI d - absI d * b2 (decide (x < 0) && decide (0 < x % absI d))
  | .near => x % absI d - absI d * b2 (decide (absI d < 2 * (x % absI d)))
  | .positive => x % absI d
def spun (d : Int) : Int := 1 - 2 * b2 (decide (d < 0))
def lawDivide (r : Rule) (x d : Int) : Int × Int := ((x - lawPart r x d) / absI d * spun d, lawPart r x d)

theorem absI_pos {d : Int} (h : d ≠ 0) : 0 < absI d := by unfold absI; split <;> omega
theorem sgn_pos {d : Int} (h : 0 < d) : sgn d = 1 := by unfold sgn; rw [if_pos h, if_neg (by omega)]; rfl
theorem sgn_neg {d : Int} (h : d < 0) : sgn d = -1 := by unfold sgn; rw [if_neg (by omega), if_pos h]; rfl
theorem sgn_zero : sgn 0 = 0 := rfl
/-- quotient and remainder are fixed -/
theorem div_of {s x q r : Int} (hs : 0 < s) (e : x = s * q + r) (h0 : 0 ≤ r) (h1 : r < s) : x / s = q ∧ x % s = r := by
  subst e
  constructor
  · rw [Int.add_comm, Int.add_mul_ediv_left _ _ (by omega), Int.ediv_eq_zero_of_lt h0 h1]; omega
  · rw [Int.add_comm, Int.add_mul_emod_self_left, Int.emod_eq_of_lt h0 h1]
theorem exact_of {s x q : Int} (hs : 0 < s) (e : x = s * q) : x / s = q := (div_of (r := 0) hs (by omega) (by omega) hs).1

/-- the law's division of s * q + r, with 0 ≤ r < s -/
theorem law_eq (r : Rule) (x d : Int) (hd : d ≠ 0) : lawDivide r x d = divided r x d := by
  have hs := absI_pos hd
  generalize hS : absI d = s at hs
  have e1 := Int.mul_ediv_add_emod (absI x) s
  have e2 := Int.emod_nonneg (absI x) (show s ≠ 0 by omega)
  have e3 := Int.emod_lt_of_pos (absI x) hs
  generalize hq : absI x / s = q at e1
  generalize hp : absI x % s = p at e1 e2 e3
  have hspun : spun d = sgn d := by
    unfold spun
    rcases Int.lt_or_gt_of_ne hd with h | h
    · rw [sgn_neg h]; simp [b2, h]
    · rw [sgn_pos h]; simp [b2, Int.not_lt.mpr (Int.le_of_lt h)]
  -- x's own remainder
  have main : ∀ (k : Int), lawPart r x d = (if x < 0 then -1 else 1) * (p - s * k) → lawDivide r x d = (((if x < 0 then -1 else 1) * (q + k)) * sgn d, (if x < 0 then -1 else 1) * (p - s * k)) := by
    intro k hk
    unfold lawDivide
    rw [hS, hk, hspun]
    congr 2
    refine exact_of hs ?_
    have hx : x = (if x < 0 then -1 else 1) * absI x := by unfold absI; split <;> omega
    generalize hσ : (if x < 0 then (-1 : Int) else 1) = σ at hx
    rw [hx, ← e1]
    simp only [Int.mul_sub, Int.mul_add, Int.mul_left_comm]
    rw [Int.mul_left_comm s σ q, Int.mul_left_comm s σ k]
    omega
  have mx : x % s = if x < 0 then (if p = 0 then 0 else s - p) else p := by
    split
    · rename_i h
      have hx : x = -absI x := by unfold absI; rw [if_pos h]; omega
      split
      · rename_i h0
        refine (div_of (q := -q) hs ?_ (by omega) hs).2
        rw [hx, ← e1, h0, Int.mul_neg]; omega
      · refine (div_of (q := -q - 1) hs ?_ (by omega) (by omega)).2
        rw [hx, ← e1, Int.mul_sub, Int.mul_neg]; omega
    · rename_i h
      have hx : x = absI x := by unfold absI; rw [if_neg h]
      rw [hx, hp]
  have fin : ∀ (g : Bool), isGreater r (sgn x) (sgn d) p s = g → lawPart r x d = (if x < 0 then -1 else 1) * (p - s * (if 0 < p ∧ g = true then 1 else 0)) → lawDivide r x d = divided r x d := by
    intro g hg hk
    rw [main _ hk]
    unfold divided
    rw [hS, hq, hp, hg]
    by_cases c : 0 < p ∧ g = true
    · rw [if_pos c, if_pos c, Int.mul_one]
      have hx0 : x ≠ 0 := by
        intro e; subst e
        have : absI 0 = 0 := rfl
        rw [this] at hp
        simp at hp
        omega
      have hσ : sgn x = if x < 0 then -1 else 1 := by
        split
        · exact sgn_neg (by assumption)
        · exact sgn_pos (by omega)
      rw [hσ]
      congr 1
      rw [Int.mul_assoc, Int.mul_assoc, Int.mul_comm (sgn d)]
    · rw [if_neg c, if_neg c, Int.mul_zero, Int.sub_zero, Int.add_zero]
      by_cases hx0 : x = 0
      · subst hx0
        have h0 : absI 0 = 0 := rfl
        rw [h0] at hp hq
        simp at hp hq
        subst hp; subst hq
        simp [sgn_zero]
      have hσ : sgn x = if x < 0 then -1 else 1 := by
        split
        · exact sgn_neg (by assumption)
        · exact sgn_pos (by omega)
      rw [hσ]
      congr 1
      rw [Int.mul_assoc, Int.mul_assoc, Int.mul_comm (sgn d)]
  refine fin _ rfl ?_
  rcases Int.lt_or_gt_of_ne hd with h | h
  · have sd : sgn d = -1 := sgn_neg h
    rcases Int.lt_trichotomy x 0 with hx | hx | hx
    · rw [sgn_neg hx, sd]
      cases r <;> simp only [lawPart, isGreater, hS, mx, if_pos hx, b2, h, hx, decide_true, Bool.true_and, decide_eq_true_eq, Bool.or_eq_true, Bool.and_eq_true] <;> (repeat' split) <;> first | omega | (simp_all <;> omega)
    · subst hx
      have h0 : absI 0 = 0 := rfl
      rw [h0] at hp
      simp at hp
      subst hp
      have hsn : ¬ s < 0 := by omega
      cases r <;> simp [lawPart, isGreater, hS, b2, hsn]
    · have hxn : ¬ x < 0 := by omega
      rw [sgn_pos hx, sd]
      cases r <;> simp only [lawPart, isGreater, hS, mx, if_neg hxn, b2, h, hx, hxn, decide_true, decide_false, Bool.true_and, Bool.false_and, decide_eq_true_eq, Bool.or_eq_true, Bool.and_eq_true] <;> (repeat' split) <;> first | omega | (simp_all <;> omega)
  · have hdn : ¬ d < 0 := by omega
    have sd : sgn d = 1 := sgn_pos h
    rcases Int.lt_trichotomy x 0 with hx | hx | hx
    · rw [sgn_neg hx, sd]
      cases r <;> simp only [lawPart, isGreater, hS, mx, if_pos hx, b2, h, hdn, hx, decide_true, decide_false, Bool.true_and, Bool.false_and, decide_eq_true_eq, Bool.or_eq_true, Bool.and_eq_true] <;> (repeat' split) <;> first | omega | (simp_all <;> omega)
    · subst hx
      have h0 : absI 0 = 0 := rfl
      rw [h0] at hp
      simp at hp
      subst hp
      have hsn : ¬ s < 0 := by omega
      cases r <;> simp [lawPart, isGreater, hS, b2, hsn]
    · have hxn : ¬ x < 0 := by omega
      rw [sgn_pos hx, sd]
      cases r <;> simp only [lawPart, isGreater, hS, mx, if_neg hxn, b2, h, hdn, hx, hxn, decide_true, decide_false, Bool.true_and, Bool.false_and, decide_eq_true_eq, Bool.or_eq_true, Bool.and_eq_true] <;> (repeat' split) <;> first | omega | (simp_all <;> omega)

theorem absI_abs (d : Int) : absI d = (d.natAbs : Int) := by unfold absI; split <;> omega
theorem sgn_mul_absI (d : Int) : sgn d * absI d = d := by
  rcases Int.lt_trichotomy d 0 with h | h | h
  · rw [sgn_neg h]; unfold absI; rw [if_pos h]; omega
  · subst h; rfl
  · rw [sgn_pos h]; unfold absI; rw [if_neg (by omega)]; omega
/-- x = later * base + part, part smaller than the base -/
theorem divided_right (r : Rule) (x d : Int) (hd : d ≠ 0) : x = (divided r x d).1 * d + (divided r x d).2 ∧ absI (divided r x d).2 < absI d := by
  have hs := absI_pos hd
  have e0 := sgn_mul_absI d
  have e4 := sgn_mul_absI x
  have e1 := Int.mul_ediv_add_emod (absI x) (absI d)
  have e2 := Int.emod_nonneg (absI x) (show absI d ≠ 0 by omega)
  have e3 := Int.emod_lt_of_pos (absI x) hs
  have hsg : sgn d * sgn d = 1 := by
    rcases Int.lt_or_gt_of_ne hd with h | h
    · rw [sgn_neg h]; rfl
    · rw [sgn_pos h]; rfl
  have hx3 : sgn x = 0 ∨ sgn x = 1 ∨ sgn x = -1 := by
    rcases Int.lt_trichotomy x 0 with h | h | h
    · exact .inr (.inr (sgn_neg h))
    · subst h; exact .inl rfl
    · exact .inr (.inl (sgn_pos h))
  unfold divided
  generalize absI x / absI d = q at *
  generalize absI x % absI d = p at *
  have key : ∀ k : Int, sgn x * sgn d * k * d = sgn x * (absI d * k) := fun k => by
    have e5 : sgn x * sgn d * k * d = sgn x * sgn d * k * (sgn d * absI d) := by rw [e0]
    rw [e5, show sgn x * sgn d * k * (sgn d * absI d) = (sgn d * sgn d) * (sgn x * (absI d * k)) by
      simp only [Int.mul_comm, Int.mul_left_comm, Int.mul_assoc], hsg, Int.one_mul]
  split
  · rename_i c
    refine ⟨?_, ?_⟩
    · show x = sgn x * sgn d * (q + 1) * d + sgn x * (p - absI d)
      rw [key, ← Int.mul_add, show absI d * (q + 1) + (p - absI d) = absI x by rw [Int.mul_add]; omega, e4]
    · show absI (sgn x * (p - absI d)) < absI d
      generalize absI d = s at *
      rcases hx3 with h | h | h <;> rw [h] <;> unfold absI <;> (repeat' split) <;> omega
  · refine ⟨?_, ?_⟩
    · show x = sgn x * sgn d * q * d + sgn x * p
      rw [key, ← Int.mul_add, e1, e4]
    · show absI (sgn x * p) < absI d
      generalize absI d = s at *
      rcases hx3 with h | h | h <;> rw [h] <;> unfold absI <;> (repeat' split) <;> omega
def carried (r : Rule) (sign base figure : Int) : Int × Int :=
  if figure = absI base then (1, 0)
  else if 0 < figure ∧ isGreater r sign (sgn base) figure (absI base) = true then (1, sign * (figure - absI base))
  else (0, sign * figure)
theorem carried_eq (r : Rule) (sign base high figure : Int) (hb : base ≠ 0) (hsg : sign = 1 ∨ sign = -1) (hh : 0 ≤ high) (h0 : 0 ≤ figure) (h1 : figure ≤ absI base) :
    carried r sign base figure = (sign * spun base * (lawDivide r (sign * (absI base * high + figure)) base).1 - high, (lawDivide r (sign * (absI base * high + figure)) base).2) := by
  rw [law_eq _ _ _ hb]
  have hs := absI_pos hb
  have hspun : spun base = sgn base := by
    unfold spun
    rcases Int.lt_or_gt_of_ne hb with h | h
    · rw [sgn_neg h]; simp [b2, h]
    · rw [sgn_pos h]; simp [b2, Int.not_lt.mpr (Int.le_of_lt h)]
  have hsb : sgn base * sgn base = 1 := by
    rcases Int.lt_or_gt_of_ne hb with h | h
    · rw [sgn_neg h]; rfl
    · rw [sgn_pos h]; rfl
  have hss : sign * sign = 1 := by rcases hsg with h | h <;> rw [h] <;> rfl
  have hn : 0 ≤ absI base * high := Int.mul_nonneg (by omega) hh
  generalize hS : absI base = s at *
  have habs : absI (sign * (s * high + figure)) = s * high + figure := by
    rcases hsg with h | h <;> rw [h] <;> unfold absI <;> split <;> omega
  have back : ∀ k : Int, sign * sgn base * (sign * sgn base * k) = k := fun k => by
    rw [show sign * sgn base * (sign * sgn base * k) = (sign * sign) * ((sgn base * sgn base) * k) by
      simp only [Int.mul_comm, Int.mul_left_comm, Int.mul_assoc], hss, hsb]; omega
  unfold divided
  rw [hS, habs, hspun]
  by_cases hz : s * high + figure = 0
  · have f0 : figure = 0 := by omega
    have hm : s * high = 0 := by omega
    have hi0 : high = 0 := by
      rcases Int.mul_eq_zero.mp hm with h | h
      · omega
      · exact h
    subst f0; subst hi0
    unfold carried
    rw [hS]
    have hns : ¬ (0 : Int) = s := by omega
    simp [hns]
  have hsx : sgn (sign * (s * high + figure)) = sign := by
    rcases hsg with h | h
    · rw [h]; exact sgn_pos (by omega)
    · rw [h]; exact sgn_neg (by omega)
  rw [hsx]
  unfold carried
  rw [hS]
  by_cases hf : figure = s
  · obtain ⟨q1, q2⟩ := div_of (s := s) (x := s * high + figure) (q := high + 1) (r := 0) hs (by rw [Int.mul_add]; omega) (by omega) hs
    rw [q1, q2, if_pos hf, if_neg (by omega)]
    show (1, 0) = (sign * sgn base * (sign * sgn base * (high + 1)) - high, sign * 0)
    rw [back]
    congr 1 <;> omega
  · obtain ⟨q1, q2⟩ := div_of (s := s) (x := s * high + figure) (q := high) (r := figure) hs rfl h0 (by omega)
    rw [q1, q2, if_neg hf]
    split
    · show (1, sign * (figure - s)) = (sign * sgn base * (sign * sgn base * (high + 1)) - high, sign * (figure - s))
      rw [back]
      congr 1; omega
    · show (0, sign * figure) = (sign * sgn base * (sign * sgn base * high) - high, sign * figure)
      rw [back]
      congr 1; omega

/-- the rules' names -/
def rname : Rule → PySem.Str
  | .down => "down"
  | .up => "up"
  | .zero => "zero"
  | .positive => "positive"
  | .near => "near"
def ruleVs : List L2.V := [.str "down", .str "up", .str "zero", .str "positive", .str "near"]
theorem ruleVs_mem {v : L2.V} (h : v ∈ ruleVs) : ∃ r, v = .str (rname r) := by
  rcases List.mem_cons.mp h with rfl | h
  · exact ⟨.down, rfl⟩
  rcases List.mem_cons.mp h with rfl | h
  · exact ⟨.up, rfl⟩
  rcases List.mem_cons.mp h with rfl | h
  · exact ⟨.zero, rfl⟩
  rcases List.mem_cons.mp h with rfl | h
  · exact ⟨.positive, rfl⟩
  rcases List.mem_cons.mp h with rfl | h
  · exact ⟨.near, rfl⟩
  · exact absurd h (by simp)
theorem sgn_cases (n : Int) : sgn n = 0 ∨ sgn n = 1 ∨ sgn n = -1 := by unfold sgn; split <;> split <;> omega
end SW


/-! SWDat: Python's data as plain trees. A def's reading over data: the names' data (Env), the mutable objects (Mu); the heap is not seen. -/
namespace SW
open PySem L2 PyProof.Rows
/-- what is fixed: the written part, the program, the world -/
structure Kit where
  fr : Frag
  P : Program
  w : World
  T : List (Addr × Str)
instance : CoeOut Kit Frag := ⟨Kit.fr⟩
/-- data; adr a: an object that may still change; scr: a law's script; obj C fs: an instance of the class of that name, that changes no more -/
inductive DT where
  | non | bl (b : Bool) | int (i : Int) | str (s : Str)
  | tup (ds : List DT) | lst (ds : List DT)
  | obj (C : Str) (fs : List (Str × DT))
  | dct (kvs : List (DT × DT))  -- a dict whose keys are tuples
  | dcs (kvs : List (DT × DT))
  | adr (a : Addr)
  | scr (ns : List Int)
/-- an object that may still change: its content -/
inductive MO where
  | lst (ds : List DT)
  | obj (C : Str) (fs : List (Str × DT))
  | dct (kvs : List (DT × DT))
  | dcs (kvs : List (DT × DT))
abbrev Mu := Addr → Option MO
def Mu.put (μ : Mu) (a : Addr) (m : MO) : Mu := fun b => if b = a then some m else μ b
def Mu.out (μ : Mu) (a : Addr) : Mu := fun b => if b = a then none else μ b
theorem Mu.put_same {μ : Mu} {a : Addr} {m : MO} : μ.put a m a = some m := if_pos rfl
theorem Mu.put_ne {μ : Mu} {a b : Addr} {m : MO} (h : b ≠ a) : μ.put a m b = μ b := if_neg h
theorem Mu.out_same {μ : Mu} {a : Addr} : μ.out a a = none := if_pos rfl
theorem Mu.out_ne {μ : Mu} {a b : Addr} (h : b ≠ a) : μ.out a b = μ b := if_neg h
theorem Mu.put_put {μ : Mu} {a : Addr} {m m' : MO} : (μ.put a m).put a m' = μ.put a m' := by
  funext b; unfold Mu.put; split <;> rfl
theorem Mu.put_out {μ : Mu} {a : Addr} {m : MO} (h : μ a = none) : (μ.put a m).out a = μ := by
  funext b
  by_cases e : b = a
  · subst e; rw [Mu.out_same, h]
  · rw [Mu.out_ne e, Mu.put_ne e]
theorem Mu.put_comm {μ : Mu} {a b : Addr} {m m' : MO} (h : a ≠ b) : (μ.put a m).put b m' = (μ.put b m').put a m := by
  funext c; unfold Mu.put
  by_cases h1 : c = b
  · subst h1; rw [if_pos rfl, if_neg (Ne.symm h), if_pos rfl]
  · rw [if_neg h1, if_neg h1]
theorem Mu.put_eq {μ : Mu} {a : Addr} {m : MO} (h : μ a = some m) : μ.put a m = μ := by
  funext b; unfold Mu.put; split
  · rename_i e; rw [e, h]
  · rfl

/-! ### keys of dicts -/
mutual
def keyOf : DT → Option NestedKey
  | .non => some .none
  | .int i => some (.num i)
  | .str s => some (.text s)
  | .tup ds => (keyAll ds).map .tup
  | _ => none
def keyAll : List DT → Option (List NestedKey)
  | [] => some []
  | d :: ds => (keyOf d).bind fun k => (keyAll ds).map fun ks => k :: ks
end
/-- keys that are numbers or texts alone -/
def keyS : DT → Option Key
  | .int i => some (.inl i)
  | .str s => some (.inr s)
  | _ => none
/-- a dict's object: its keys, their tuples, its values -/
def DRaw (P : Program) (w : World) (d : Addr) (xs : List (NestedKey × Addr × Value)) : Heap → Prop := fun h => (d == sysModules) = false ∧ ∃ o es ep, h.get? d = some o ∧ o.ExactDict ∧ o.data = .dict es ep ∧ es.toList = xs.map (entryOfKey (nestedKind P w)) ∧ (xs.map fun x => x.1).Nodup
/-! ### what a value is -/
mutual
inductive Rep (K : Kit) (H : Hp) : V → DT → Prop
  | non : Rep K H .non .non
  | bl (b : Bool) : Rep K H (.bl b) (.bl b)
  | int (i : Int) : Rep K H (.int i) (.int i)
  | str (s : Str) : Rep K H (.str s) (.str s)
  | adr (a : Addr) : Rep K H (.ref a) (.adr a)
  | tup {a : Addr} {xs : List V} {ds : List DT} : SqT K H a xs → RepAll K H xs ds → Rep K H (.ref a) (.tup ds)
  | scr {a : Addr} {ns : List Int} : SqL K H a (ns.map V.int) → Rep K H (.ref a) (.scr ns)
  | lst {a : Addr} {xs : List V} {ds : List DT} : H a = some (.lst xs) → RepAll K H xs ds → Rep K H (.ref a) (.lst ds)
  | obj {a dx : Addr} {C : Str} {fs : List (Str × V)} {ds : List (Str × DT)} : H a = some (.ins (He.ga K C) dx fs) → RepFs K H fs ds → Rep K H (.ref a) (.obj C ds)
  | dctT {a : Addr} {xs : List (NestedKey × Addr × Value)} {kvs : List (DT × DT)} : H a = some (.ext (DRaw K.P K.w a xs)) → RepKV K H xs kvs → Rep K H (.ref a) (.dct kvs)
  | dctS {a : Addr} {ks : List (Key × V)} {kvs : List (DT × DT)} : H a = some (.dK ks) → RepKS K H ks kvs → Rep K H (.ref a) (.dcs kvs)
inductive RepKV (K : Kit) (H : Hp) : List (NestedKey × Addr × Value) → List (DT × DT) → Prop
  | nil : RepKV K H [] []
  | cons {k : NestedKey} {a : Addr} {u : Value} {kd d : DT} {v : V} {r : List (NestedKey × Addr × Value)} {rs : List (DT × DT)} : Rep K H (.ref a) kd → keyOf kd = some k → k.depth ≤ 8 → L2.RelV v u → Rep K H v d → RepKV K H r rs → RepKV K H ((k, a, u) :: r) ((kd, d) :: rs)
inductive RepKS (K : Kit) (H : Hp) : List (Key × V) → List (DT × DT) → Prop
  | nil : RepKS K H [] []
  | cons {k : Key} {kd d : DT} {v : V} {r : List (Key × V)} {rs : List (DT × DT)} : keyS kd = some k → Rep K H v d → RepKS K H r rs → RepKS K H ((k, v) :: r) ((kd, d) :: rs)
inductive RepAll (K : Kit) (H : Hp) : List V → List DT → Prop
  | nil : RepAll K H [] []
  | cons {v : V} {vs : List V} {d : DT} {ds : List DT} : Rep K H v d → RepAll K H vs ds → RepAll K H (v :: vs) (d :: ds)
inductive RepFs (K : Kit) (H : Hp) : List (Str × V) → List (Str × DT) → Prop
  | nil : RepFs K H [] []
  | cons {f : Str} {v : V} {vs : List (Str × V)} {d : DT} {ds : List (Str × DT)} : Rep K H v d → RepFs K H vs ds → RepFs K H ((f, v) :: vs) ((f, d) :: ds)
end
section
variable {K : Kit} {H H' : Hp}
mutual
theorem Rep.mono (e : Ex H H') : ∀ {v : V} {d : DT}, Rep K H v d → Rep K H' v d
  | _, _, .non => .non
  | _, _, .bl b => .bl b
  | _, _, .int i => .int i
  | _, _, .str s => .str s
  | _, _, .adr a => .adr a
  | _, _, .tup h r => .tup (e.t h) (RepAll.mono e r)
  | _, _, .scr h => .scr (e.l h)
  | _, _, .lst h r => .lst (e _ _ h) (RepAll.mono e r)
  | _, _, .obj h r => .obj (e _ _ h) (RepFs.mono e r)
  | _, _, .dctT h r => .dctT (e _ _ h) (RepKV.mono e r)
  | _, _, .dctS h r => .dctS (e _ _ h) (RepKS.mono e r)
theorem RepKV.mono (e : Ex H H') : ∀ {xs : List (NestedKey × Addr × Value)} {ds : List (DT × DT)}, RepKV K H xs ds → RepKV K H' xs ds
  | _, _, .nil => .nil
  | _, _, .cons a b c d f r => .cons (Rep.mono e a) b c d (Rep.mono e f) (RepKV.mono e r)
theorem RepKS.mono (e : Ex H H') : ∀ {xs : List (Key × V)} {ds : List (DT × DT)}, RepKS K H xs ds → RepKS K H' xs ds
  | _, _, .nil => .nil
  | _, _, .cons a f r => .cons a (Rep.mono e f) (RepKS.mono e r)
theorem RepAll.mono (e : Ex H H') : ∀ {vs : List V} {ds : List DT}, RepAll K H vs ds → RepAll K H' vs ds
  | _, _, .nil => .nil
  | _, _, .cons h r => .cons (Rep.mono e h) (RepAll.mono e r)
theorem RepFs.mono (e : Ex H H') : ∀ {vs : List (Str × V)} {ds : List (Str × DT)}, RepFs K H vs ds → RepFs K H' vs ds
  | _, _, .nil => .nil
  | _, _, .cons h r => .cons (Rep.mono e h) (RepFs.mono e r)
end
theorem RepAll.length : ∀ {vs : List V} {ds : List DT}, RepAll K H vs ds → vs.length = ds.length
  | _, _, .nil => rfl
  | _, _, .cons _ r => congrArg (· + 1) r.length
theorem RepAll.get : ∀ {vs : List V} {ds : List DT} {i : Nat} {d : DT}, RepAll K H vs ds → ds[i]? = some d → ∃ v, vs[i]? = some v ∧ Rep K H v d
  | _, _, _, _, .nil, e => by simp at e
  | _, _, 0, _, .cons h _, e => by simp at e; subst e; exact ⟨_, rfl, h⟩
  | _, _, i + 1, d, .cons _ r, e => by
    obtain ⟨v, h1, h2⟩ := RepAll.get (i := i) (d := d) r (by simpa using e)
    exact ⟨v, by simpa using h1, h2⟩
theorem RepAll.getV : ∀ {vs : List V} {ds : List DT} {i : Nat} {v : V}, RepAll K H vs ds → vs[i]? = some v → ∃ d, ds[i]? = some d ∧ Rep K H v d
  | _, _, _, _, .nil, e => by simp at e
  | _, _, 0, _, .cons h _, e => by simp at e; subst e; exact ⟨_, rfl, h⟩
  | _, _, i + 1, d, .cons _ r, e => by
    obtain ⟨v, h1, h2⟩ := RepAll.getV (i := i) (v := d) r (by simpa using e)
    exact ⟨v, by simpa using h1, h2⟩
theorem RepAll.append : ∀ {vs vs' : List V} {ds ds' : List DT}, RepAll K H vs ds → RepAll K H vs' ds' → RepAll K H (vs ++ vs') (ds ++ ds')
  | _, _, _, _, .nil, q => q
  | _, _, _, _, .cons h r, q => .cons h (r.append q)
theorem RepAll.take : ∀ {vs : List V} {ds : List DT} (n : Nat), RepAll K H vs ds → RepAll K H (vs.take n) (ds.take n)
  | _, _, 0, _ => .nil
  | _, _, _ + 1, .nil => .nil
  | _, _, n + 1, .cons h r => .cons h (r.take n)
theorem RepAll.drop : ∀ {vs : List V} {ds : List DT} (n : Nat), RepAll K H vs ds → RepAll K H (vs.drop n) (ds.drop n)
  | _, _, 0, r => r
  | _, _, _ + 1, .nil => .nil
  | _, _, n + 1, .cons _ r => r.drop n
theorem RepAll.set : ∀ {vs : List V} {ds : List DT} {v : V} {d : DT} (i : Nat), RepAll K H vs ds → Rep K H v d → RepAll K H (vs.set i v) (ds.set i d)
  | _, _, _, _, _, .nil, _ => .nil
  | _, _, _, _, 0, .cons _ r, q => .cons q r
  | _, _, _, _, i + 1, .cons h r, q => .cons h (r.set i q)
theorem RepAll.reverse {vs : List V} {ds : List DT} (r : RepAll K H vs ds) : RepAll K H vs.reverse ds.reverse := by
  induction vs generalizing ds with
  | nil => cases r; exact .nil
  | cons v vs ih =>
    cases r with
    | cons h r =>
      rw [List.reverse_cons, List.reverse_cons]
      exact (ih r).append (.cons h .nil)
theorem RepAll.ints : ∀ {vs : List V} {ns : List Int}, RepAll K H vs (ns.map .int) → vs = ns.map V.int
  | _, [], .nil => rfl
  | _, n :: ns, .cons h r => by
    cases h
    rw [RepAll.ints r]; rfl
theorem RepAll.bools : ∀ {vs : List V} {ns : List Bool}, RepAll K H vs (ns.map .bl) → vs = ns.map V.bl
  | _, [], .nil => rfl
  | _, n :: ns, .cons h r => by
    cases h
    rw [RepAll.bools r]; rfl
theorem RepAll.of_ints : ∀ (ns : List Int), RepAll K H (ns.map V.int) (ns.map .int)
  | [] => .nil
  | n :: ns => .cons (.int n) (RepAll.of_ints ns)
theorem RepFs.length : ∀ {vs : List (Str × V)} {ds : List (Str × DT)}, RepFs K H vs ds → vs.length = ds.length
  | _, _, .nil => rfl
  | _, _, .cons _ r => congrArg (· + 1) r.length
theorem RepFs.lookup : ∀ {vs : List (Str × V)} {ds : List (Str × DT)} {f : Str} {d : DT}, RepFs K H vs ds → ds.lookup f = some d → ∃ v, vs.lookup f = some v ∧ Rep K H v d
  | _, _, _, _, .nil, e => nomatch e
  | (g, v) :: vs, (_, d') :: ds, f, d, .cons h r, e => by
    rw [List.lookup_cons] at e ⊢
    cases q : (f == g) with
    | true =>
      rw [q] at e
      have e2 : d' = d := Option.some.inj e
      subst e2
      exact ⟨v, rfl, h⟩
    | false =>
      rw [q] at e
      exact RepFs.lookup r e
theorem RepFs.none : ∀ {vs : List (Str × V)} {ds : List (Str × DT)} {f : Str}, RepFs K H vs ds → ds.lookup f = none → vs.lookup f = none
  | _, _, _, .nil, _ => rfl
  | (g, v) :: vs, (_, d') :: ds, f, .cons h r, e => by
    rw [List.lookup_cons] at e ⊢
    cases q : (f == g) with
    | true => rw [q] at e; cases e
    | false =>
      rw [q] at e
      exact RepFs.none r e
end
/-- a field put into an object's data: its place kept, or at the end -/
def putD (f : Str) (d : DT) : List (Str × DT) → List (Str × DT)
  | [] => [(f, d)]
  | (g, e) :: r => if g = f then (g, d) :: r else (g, e) :: putD f d r
theorem RepFs.put {K : Kit} {H : Hp} {f : Str} {v : V} {d : DT} (h : Rep K H v d) : ∀ {vs : List (Str × V)} {ds : List (Str × DT)}, RepFs K H vs ds → RepFs K H (putF f v vs) (putD f d ds)
  | _, _, .nil => .cons h .nil
  | (g, v') :: vs, (_, d') :: ds, .cons h' r => by
    show RepFs K H (if g = f then _ else _) (if g = f then _ else _)
    by_cases e : g = f
    · rw [if_pos e, if_pos e]; exact .cons h r
    · rw [if_neg e, if_neg e]; exact .cons h' (RepFs.put h r)

/-! ### states -/
/-- what is known (H), what may change (mu), what stands (H1) -/
structure Wd where
  H : Hp
  mu : Mu
  H1 : Hp
def MoAt (K : Kit) (H H1 : Hp) (a : Addr) : MO → Prop
  | .lst ds => ∃ xs, H1 a = some (.lst xs) ∧ RepAll K H xs ds
  | .obj C ds => ∃ dx fs, H1 a = some (.ins (He.ga K C) dx fs) ∧ RepFs K H fs ds
  | .dct kvs => ∃ xs, H1 a = some (.ext (DRaw K.P K.w a xs)) ∧ RepKV K H xs kvs
  | .dcs kvs => ∃ ks, H1 a = some (.dK ks) ∧ RepKS K H ks kvs
/-- an object that is no table of code objects, no code object -/
def NoTab (p : Addr) (u : HO) : Prop := (∀ ps, u ≠ .tbl ps) ∧ ∀ q, u ≠ LamX.CodeO p q
structure Sta (K : Kit) (w : Wd) : Prop where
  ex : Ex w.H w.H1
  mu : ∀ a m, w.mu a = some m → w.H a = none ∧ MoAt K w.H w.H1 a m
  nt : ∀ a ps, w.H a ≠ some (.tbl ps)
  tb : LamX.Tabs K.T w.H1
  tm : ∀ p ∈ K.T, w.mu p.1 = none
/-- from w to w': what neither knew nor might change stays as it was -/
structure Wo (w w' : Wd) : Prop where
  ex : Ex w.H w'.H
  fr : ∀ a o, w.H1 a = some o → w.H a = none → w.mu a = none → (∀ ps, o ≠ .tbl ps) → w'.H1 a = some o ∧ w'.H a = none ∧ w'.mu a = none
theorem Wo.refl (w : Wd) : Wo w w := ⟨Ex.refl _, fun _ _ h h1 h2 _ => ⟨h, h1, h2⟩⟩
theorem Wo.trans {w w1 w2 : Wd} (a : Wo w w1) (b : Wo w1 w2) : Wo w w2 := ⟨a.ex.trans b.ex, fun c o h h1 h2 n => by
  obtain ⟨x, y, z⟩ := a.fr c o h h1 h2 n
  exact b.fr c o x y z n⟩
abbrev DEnv := List (Option DT)
structure Slo (K : Kit) (H : Hp) (σ : L2.St) (env : DEnv) : Prop where
  len : σ.length = env.length
  get : ∀ (i : Nat) (d : DT), env[i]? = some (some d) → ∃ v : V, σ[i]? = some (some v) ∧ Rep K H v d
theorem Slo.mono {K : Kit} {H H' : Hp} {σ : L2.St} {env : DEnv} (e : Ex H H') (s : Slo K H σ env) : Slo K H' σ env := ⟨s.len, fun i d h => by
  obtain ⟨v, h1, h2⟩ := s.get i d h
  exact ⟨v, h1, h2.mono e⟩⟩
theorem Slo.set {K : Kit} {H : Hp} {σ : L2.St} {env : DEnv} {v : V} {d : DT} (s : Slo K H σ env) (i : Nat) (r : Rep K H v d) : Slo K H (σ.set i (some v)) (env.set i (some d)) := ⟨by simp [s.len], fun j d' h => by
  by_cases e : j = i
  · subst e
    rw [List.getElem?_set] at h
    rw [if_pos rfl] at h
    split at h
    · rename_i hl
      have h2 : d = d' := by simpa using h
      subst h2
      exact ⟨v, by rw [List.getElem?_set, if_pos rfl, if_pos (by rw [s.len]; exact hl)], r⟩
    · cases h
  · rw [List.getElem?_set_ne (Ne.symm e)] at h
    rw [List.getElem?_set_ne (Ne.symm e)]
    exact s.get j d' h⟩
theorem Slo.forget {K : Kit} {H : Hp} {σ : L2.St} {env env' : DEnv} (s : Slo K H σ env) (hl : env'.length = env.length) (h : ∀ (i : Nat) d, env'[i]? = some (some d) → env[i]? = some (some d)) : Slo K H σ env' :=
  ⟨s.len.trans hl.symm, fun i d e => s.get i d (h i d e)⟩
/-- at the entry of a def -/
theorem Slo.start {K : Kit} {H : Hp} {N : List Str} {vs : List V} {ds : List DT} (r : RepAll K H vs ds) : Slo K H (L2.start N vs) (ds.map some ++ List.replicate (N.length - ds.length) none) := by
  refine ⟨by simp [L2.start, r.length], fun i d h => ?_⟩
  rw [List.getElem?_append] at h
  split at h
  · rename_i hl
    rw [List.getElem?_map] at h
    cases q : ds[i]? with
    | none => rw [q] at h; cases h
    | some d' =>
      rw [q] at h
      have e : d' = d := by simpa using h
      subst e
      obtain ⟨v, h1, h2⟩ := r.get q
      refine ⟨v, ?_, h2⟩
      have hi : i < vs.length := (List.getElem?_eq_some_iff.mp h1).1
      unfold L2.start
      rw [List.getElem?_append_left (by simpa using hi), List.getElem?_map, h1]
      rfl
  · rw [List.getElem?_replicate] at h
    split at h <;> cases h

section
variable {K : Kit} {w : Wd}
theorem Sta.nil (s : Sta K w) {p : Addr} (h : w.H1 p = none) : w.H p = none ∧ w.mu p = none := by
  refine ⟨s.ex.free h, ?_⟩
  cases q : w.mu p with
  | none => rfl
  | some m =>
    obtain ⟨_, z⟩ := s.mu p m q
    cases m with
    | lst ds => obtain ⟨xs, e, _⟩ := z; rw [h] at e; cases e
    | obj C ds => obtain ⟨dx, fs, e, _⟩ := z; rw [h] at e; cases e
    | dct _ => obtain ⟨_, e, _⟩ := z; rw [h] at e; cases e
    | dcs _ => obtain ⟨_, e, _⟩ := z; rw [h] at e; cases e
theorem MoAt.keep {H H1 H' H2 : Hp} {a : Addr} {m : MO} (z : MoAt K H H1 a m) (e : Ex H H') (k : ∀ o, H1 a = some o → H2 a = some o) : MoAt K H' H2 a m := by
  cases m with
  | lst ds => obtain ⟨xs, h, r⟩ := z; exact ⟨xs, k _ h, r.mono e⟩
  | obj C ds => obtain ⟨dx, fs, h, r⟩ := z; exact ⟨dx, fs, k _ h, r.mono e⟩
  | dct _ => obtain ⟨xs, h, r⟩ := z; exact ⟨xs, k _ h, r.mono e⟩
  | dcs _ => obtain ⟨xs, h, r⟩ := z; exact ⟨xs, k _ h, r.mono e⟩
theorem MoAt.at {H H1 : Hp} {a : Addr} {m : MO} (z : MoAt K H H1 a m) : ∃ o, H1 a = some o := by
  cases m with
  | lst ds => obtain ⟨xs, h, r⟩ := z; exact ⟨_, h⟩
  | obj C ds => obtain ⟨dx, fs, h, r⟩ := z; exact ⟨_, h⟩
  | dct _ => obtain ⟨_, h, _⟩ := z; exact ⟨_, h⟩
  | dcs _ => obtain ⟨_, h, _⟩ := z; exact ⟨_, h⟩
theorem codeO_draw {P : Program} {w : World} {p : Addr} {q : Str} {xs : List (NestedKey × Addr × Value)} : HO.ext (DRaw P w p xs) ≠ LamX.CodeO p q := fun z => by
  unfold LamX.CodeO at z
  injection z with z
  have h := congrFun z { objs := Array.replicate (p + 1) { cls := .none, data := .fields #[.none, .str q 0] } }
  have g : Heap.get? { objs := Array.replicate (p + 1) { cls := .none, data := .fields #[.none, .str q 0] } } p = some { cls := .none, data := .fields #[.none, .str q 0] } := by
    unfold Heap.get?
    simp
  have r : DRaw P w p xs { objs := Array.replicate (p + 1) { cls := .none, data := .fields #[.none, .str q 0] } } := by
    rw [h]; exact ⟨_, _, 0, g, rfl, rfl⟩
  obtain ⟨_, o, es, ep, e, _, d, _⟩ := r
  rw [g] at e
  cases e
  cases d
theorem MoAt.noTab {H H1 : Hp} {a : Addr} {m : MO} {u : HO} (z : MoAt K H H1 a m) (h : H1 a = some u) : NoTab a u := by
  cases m with
  | lst ds => obtain ⟨xs, e, _⟩ := z; rw [h] at e; cases e; exact ⟨(fun _ z => by cases z), (fun _ z => by unfold LamX.CodeO at z; cases z)⟩
  | obj C ds => obtain ⟨dx, fs, e, _⟩ := z; rw [h] at e; cases e; exact ⟨(fun _ z => by cases z), (fun _ z => by unfold LamX.CodeO at z; cases z)⟩
  | dct _ => obtain ⟨_, e, _⟩ := z; rw [h] at e; cases e; exact ⟨(fun _ z => by cases z), fun _ z => codeO_draw z⟩
  | dcs _ => obtain ⟨_, e, _⟩ := z; rw [h] at e; cases e; exact ⟨(fun _ z => by cases z), (fun _ z => by unfold LamX.CodeO at z; cases z)⟩
theorem tabs_upd {T : List (Addr × Str)} {H : Hp} {p : Addr} {o : HO} (t : LamX.Tabs T H) (h : ∀ u, H p = some u → NoTab p u) : LamX.Tabs T (upd H p o) := fun r hr => by
  obtain ⟨ps, h1, h2, h3⟩ := t r hr
  have ne : r.1 ≠ p := fun z => (h _ (z ▸ h1)).1 _ rfl
  refine ⟨ps, (upd_ne ne).trans h1, h2, fun pos cv hc => ?_⟩
  obtain ⟨c, e1, e2⟩ := h3 pos cv hc
  have ne2 : c ≠ p := fun z => by subst z; exact (h _ e2).2 _ rfl
  exact ⟨c, e1, (upd_ne ne2).trans e2⟩
theorem noTab_lst {H : Hp} {p : Addr} {xs : List V} (h : H p = some (.lst xs)) : ∀ u, H p = some u → NoTab p u := fun u e => by
  rw [h] at e; cases e; exact ⟨(fun _ z => by cases z), (fun _ z => by unfold LamX.CodeO at z; cases z)⟩
theorem noTab_dK {H : Hp} {p : Addr} {xs : List (Key × V)} (h : H p = some (.dK xs)) : ∀ u, H p = some u → NoTab p u := fun u e => by
  rw [h] at e; cases e; exact ⟨(fun _ z => by cases z), (fun _ z => by unfold LamX.CodeO at z; cases z)⟩
theorem noTab_draw {P : Program} {w : World} {H : Hp} {p : Addr} {xs : List (NestedKey × Addr × Value)} (h : H p = some (.ext (DRaw P w p xs))) : ∀ u, H p = some u → NoTab p u := fun u e => by
  rw [h] at e; cases e; exact ⟨(fun _ z => by cases z), fun _ z => codeO_draw z⟩
theorem noTab_none {H : Hp} {p : Addr} (h : H p = none) : ∀ u, H p = some u → NoTab p u := fun u e => by rw [h] at e; cases e
theorem Sta.tnm (s : Sta K w) {p : Addr × Str} (hp : p ∈ K.T) {q : Addr} {u : HO} (h : w.H1 q = some u) (n : ∀ ps, u ≠ .tbl ps) : p.1 ≠ q := fun z => by
  obtain ⟨ps, h1, _⟩ := s.tb p hp
  rw [z, h] at h1
  cases h1
  exact n _ rfl
theorem Sta.tne (s : Sta K w) {p : Addr × Str} (hp : p ∈ K.T) {q : Addr} (h : w.H1 q = none) : p.1 ≠ q := fun z => by
  obtain ⟨ps, h1, _⟩ := s.tb p hp
  rw [z, h] at h1
  cases h1
/-- a new object that is known and stays -/
def Wd.new (w : Wd) (p : Addr) (o : HO) : Wd := ⟨upd w.H p o, w.mu, upd w.H1 p o⟩
theorem Sta.new (s : Sta K w) {p : Addr} {o : HO} (h : w.H1 p = none) (ho : ∀ ps, o ≠ .tbl ps := by intro _ z; cases z) : Sta K (w.new p o) ∧ Wo w (w.new p o) := by
  obtain ⟨h1, h2⟩ := s.nil h
  refine ⟨⟨fun a u q => ?_, fun a m q => ?_, fun a ps q => ?_, tabs_upd s.tb (noTab_none h), s.tm⟩, ⟨Ex.new h1, fun a u q1 q2 q3 _ => ?_⟩⟩
  · show upd w.H1 p o a = some u
    have q' : upd w.H p o a = some u := q
    by_cases e : a = p
    · subst e; rw [upd_same] at q' ⊢; exact q'
    · rw [upd_ne e] at q' ⊢; exact s.ex _ _ q'
  · have ne : a ≠ p := fun z => by subst z; have q' : w.mu a = some m := q; rw [h2] at q'; cases q'
    obtain ⟨z1, z2⟩ := s.mu a m q
    exact ⟨(upd_ne ne).trans z1, z2.keep (Ex.new h1) fun u r => (upd_ne ne).trans r⟩
  · have q' : upd w.H p o a = some (.tbl ps) := q
    by_cases e : a = p
    · subst e; rw [upd_same] at q'; exact ho ps (Option.some.inj q')
    · rw [upd_ne e] at q'; exact s.nt _ _ q'
  · have ne : a ≠ p := fun z => by subst z; rw [h] at q1; cases q1
    exact ⟨(upd_ne ne).trans q1, (upd_ne ne).trans q2, q3⟩
/-- a new object that may change -/
def Wd.newM (w : Wd) (p : Addr) (o : HO) (m : MO) : Wd := ⟨w.H, w.mu.put p m, upd w.H1 p o⟩
theorem Sta.newM (s : Sta K w) {p : Addr} {o : HO} {m : MO} (h : w.H1 p = none) (z : MoAt K w.H (upd w.H1 p o) p m) : Sta K (w.newM p o m) ∧ Wo w (w.newM p o m) := by
  obtain ⟨h1, h2⟩ := s.nil h
  refine ⟨⟨fun a u q => ?_, fun a m' q => ?_, s.nt, tabs_upd s.tb (noTab_none h), fun r hr => (Mu.put_ne (s.tne hr h)).trans (s.tm r hr)⟩, ⟨Ex.refl _, fun a u q1 q2 q3 _ => ?_⟩⟩
  · have ne : a ≠ p := fun z => by subst z; have q' : w.H a = some u := q; rw [h1] at q'; cases q'
    exact (upd_ne ne).trans (s.ex a u q)
  · by_cases e : a = p
    · subst e
      have e2 : m = m' := Option.some.inj (Mu.put_same.symm.trans q)
      subst e2
      exact ⟨h1, z⟩
    · obtain ⟨z1, z2⟩ := s.mu a m' ((Mu.put_ne e).symm.trans q)
      exact ⟨z1, z2.keep (Ex.refl _) fun u r => (upd_ne e).trans r⟩
  · have ne : a ≠ p := fun z => by subst z; rw [h] at q1; cases q1
    exact ⟨(upd_ne ne).trans q1, q2, (Mu.put_ne ne).trans q3⟩
/-- an object that may change, changed -/
theorem Sta.write (s : Sta K w) {p : Addr} {o : HO} {m m0 : MO} (h : w.mu p = some m0) (z : MoAt K w.H (upd w.H1 p o) p m) : Sta K (w.newM p o m) ∧ Wo w (w.newM p o m) := by
  obtain ⟨h1, hz⟩ := s.mu p m0 h
  refine ⟨⟨fun a u q => ?_, fun a m' q => ?_, s.nt, tabs_upd s.tb fun u e => hz.noTab e, fun r hr => (Mu.put_ne fun z => by have := s.tm r hr; rw [z, h] at this; cases this).trans (s.tm r hr)⟩, ⟨Ex.refl _, fun a u q1 q2 q3 _ => ?_⟩⟩
  · have ne : a ≠ p := fun z => by subst z; have q' : w.H a = some u := q; rw [h1] at q'; cases q'
    exact (upd_ne ne).trans (s.ex a u q)
  · by_cases e : a = p
    · subst e
      have e2 : m = m' := Option.some.inj (Mu.put_same.symm.trans q)
      subst e2
      exact ⟨h1, z⟩
    · obtain ⟨z1, z2⟩ := s.mu a m' ((Mu.put_ne e).symm.trans q)
      exact ⟨z1, z2.keep (Ex.refl _) fun u r => (upd_ne e).trans r⟩
  · have ne : a ≠ p := fun z => by subst z; rw [h] at q3; cases q3
    exact ⟨(upd_ne ne).trans q1, q2, (Mu.put_ne ne).trans q3⟩
/-- an object changes no more: it is known from here on -/
def Wd.frz (w : Wd) (p : Addr) (o : HO) : Wd := ⟨upd w.H p o, w.mu.out p, w.H1⟩
theorem Sta.freeze (s : Sta K w) {p : Addr} {o : HO} {m : MO} (h : w.mu p = some m) (ho : w.H1 p = some o) : Sta K (w.frz p o) ∧ Wo w (w.frz p o) := by
  obtain ⟨h1, hz⟩ := s.mu p m h
  refine ⟨⟨fun a u q => ?_, fun a m' q => ?_, fun a ps q => ?_, s.tb, fun r hr => (Mu.out_ne fun z => by have := s.tm r hr; rw [z, h] at this; cases this).trans (s.tm r hr)⟩, ⟨Ex.new h1, fun a u q1 q2 q3 _ => ?_⟩⟩
  · have q' : upd w.H p o a = some u := q
    by_cases e : a = p
    · subst e; rw [upd_same] at q'; rw [← q']; exact ho
    · rw [upd_ne e] at q'; exact s.ex _ _ q'
  · have ne : a ≠ p := fun z => by subst z; have q' : w.mu.out a a = some m' := q; rw [Mu.out_same] at q'; cases q'
    obtain ⟨z1, z2⟩ := s.mu a m' ((Mu.out_ne ne).symm.trans q)
    exact ⟨(upd_ne ne).trans z1, z2.keep (Ex.new h1) fun _ r => r⟩
  · have q' : upd w.H p o a = some (.tbl ps) := q
    by_cases e : a = p
    · subst e; rw [upd_same] at q'; exact (hz.noTab ho).1 ps (Option.some.inj q')
    · rw [upd_ne e] at q'; exact s.nt _ _ q'
  · have ne : a ≠ p := fun z => by subst z; rw [h] at q3; cases q3
    exact ⟨q1, (upd_ne ne).trans q2, (Mu.out_ne ne).trans q3⟩
end
end SW


/-! SWRd: readings over data: what an expression, a statement asks of the names' data and the mutable objects. -/
namespace SW
open PySem L2 PyProof.Rows
/-! ### readings -/
abbrev PK := DT → Mu → Prop
abbrev dE := DEnv → Mu → PK → Prop
abbrev dT := DEnv → Mu → (Bool → Mu → Prop) → Prop
abbrev dA := DEnv → Mu → (List DT → Mu → Prop) → Prop
/-- an own error: its class's name, its fields -/
abbrev XKd := Str → List (Str × DT) → Mu → Prop
structure dEnds where
  nx : DEnv → Mu → Prop
  rt : PK
  bk : DEnv → Mu → Prop := fun _ _ => False
  ct : DEnv → Mu → Prop := fun _ _ => False
abbrev dS := dEnds → DEnv → Mu → Prop
/-- the errors wished for, over the state at a def's entry -/
def XR (K : Kit) (B : Wd) (E : XK) (Ψ : XKd) : Prop := ∀ C fs w', Ψ C fs w'.mu → Sta K w' → Wo B w' → ∀ dx vs, w'.H1 dx = some (.xd vs) → RepFs K w'.H vs fs → E (.ref (He.ga K C)) (some dx) w'.H1
/-- what is fixed in a def's body: K, what it may raise -/
structure Bd where
  K : Kit
  E : XK
  Ψ : XKd
abbrev Go (Z : Bd) (B : Wd) (w : Wd) (Φ : PK) (Q : VK) : Prop := ∀ d v w', Φ d w'.mu → Sta Z.K w' → Wo B w' → Ex w.H w'.H → Rep Z.K w'.H v d → Q v w'.H1
def RE (Z : Bd) (te : TE) (de : dE) : Prop := ∀ (B : Wd) (σ : L2.St) (w : Wd) (env : DEnv) (Φ : PK) (Q : VK), XR Z.K B Z.E Z.Ψ → Sta Z.K w → Wo B w → Slo Z.K w.H σ env → de env w.mu Φ → Go Z B w Φ Q → te σ w.H1 Q
def RT (Z : Bd) (tt : TT) (dt : dT) : Prop := ∀ (B : Wd) (σ : L2.St) (w : Wd) (env : DEnv) (Φ : Bool → Mu → Prop) (Q : Bool → Hp → Prop), XR Z.K B Z.E Z.Ψ → Sta Z.K w → Wo B w → Slo Z.K w.H σ env → dt env w.mu Φ →
  (∀ b w', Φ b w'.mu → Sta Z.K w' → Wo B w' → Ex w.H w'.H → Q b w'.H1) → tt σ w.H1 Q
def RA (Z : Bd) (ta : TA) (da : dA) : Prop := ∀ (B : Wd) (σ : L2.St) (w : Wd) (env : DEnv) (Φ : List DT → Mu → Prop) (Q : List V → Hp → Prop), XR Z.K B Z.E Z.Ψ → Sta Z.K w → Wo B w → Slo Z.K w.H σ env → da env w.mu Φ →
  (∀ ds vs w', Φ ds w'.mu → Sta Z.K w' → Wo B w' → Ex w.H w'.H → RepAll Z.K w'.H vs ds → Q vs w'.H1) → ta σ w.H1 Q
/-- a state behind a statement -/
def At (Z : Bd) (B : Wd) (N : DEnv → Mu → Prop) (σ : L2.St) (H1 : Hp) : Prop := ∃ env w, w.H1 = H1 ∧ N env w.mu ∧ Sta Z.K w ∧ Wo B w ∧ Slo Z.K w.H σ env
def AtV (Z : Bd) (B : Wd) (Φ : PK) (v : V) (H1 : Hp) : Prop := ∃ d w, w.H1 = H1 ∧ Φ d w.mu ∧ Sta Z.K w ∧ Wo B w ∧ Rep Z.K w.H v d
structure Rel (Z : Bd) (B : Wd) (De : dEnds) (D : Ends) : Prop where
  nx : ∀ σ H, At Z B De.nx σ H → D.nx σ H
  rt : ∀ v H, AtV Z B De.rt v H → D.rt v H
  bk : ∀ σ H, At Z B De.bk σ H → D.bk σ H
  ct : ∀ σ H, At Z B De.ct σ H → D.ct σ H
def RS (Z : Bd) (ts : TS) (ds : dS) : Prop := ∀ (B : Wd) (σ : L2.St) (w : Wd) (env : DEnv) (De : dEnds) (D : Ends), XR Z.K B Z.E Z.Ψ → Sta Z.K w → Wo B w → Slo Z.K w.H σ env → ds De env w.mu → Rel Z B De D → ts D σ w.H1
/-- a target: what it does to the names -/
abbrev dG := DT → DEnv → Mu → (DEnv → Mu → Prop) → Prop
/-- a target's own names are at vs -/
def RG (Z : Bd) (tg : TG) (dg : dG) (vs : List Nat) : Prop := ∀ (B : Wd) (σ : L2.St) (w : Wd) (env : DEnv) (v : V) (d : DT) (N : DEnv → Mu → Prop) (Q : L2.St → Hp → Prop), XR Z.K B Z.E Z.Ψ → Sta Z.K w → Wo B w → Slo Z.K w.H σ env → Rep Z.K w.H v d → dg d env w.mu N →
  (∀ env' σ' w', N env' w'.mu → Sta Z.K w' → Wo B w' → Ex w.H w'.H → Slo Z.K w'.H σ' env' → wipe σ' vs = wipe σ vs → Q σ' w'.H1) → tg v σ w.H1 Q
abbrev dGs := List DT → DEnv → Mu → (DEnv → Mu → Prop) → Prop
def RGs (Z : Bd) (tg : TGs) (dg : dGs) (vs : List Nat) : Prop := ∀ (B : Wd) (σ : L2.St) (w : Wd) (env : DEnv) (v : List V) (d : List DT) (N : DEnv → Mu → Prop) (Q : L2.St → Hp → Prop), XR Z.K B Z.E Z.Ψ → Sta Z.K w → Wo B w → Slo Z.K w.H σ env → RepAll Z.K w.H v d → dg d env w.mu N →
  (∀ env' σ' w', N env' w'.mu → Sta Z.K w' → Wo B w' → Ex w.H w'.H → Slo Z.K w'.H σ' env' → wipe σ' vs = wipe σ vs → Q σ' w'.H1) → tg v σ w.H1 Q

section
variable {Z : Bd}
/-! ### names, constants -/
def dVar (i : Nat) : dE := fun env μ Φ => ∃ d, env[i]? = some (some d) ∧ Φ d μ
def dC (d : DT) : dE := fun _ μ Φ => Φ d μ
theorem re_var {i : Nat} : RE Z (tVar i) (dVar i) := fun B σ w env Φ Q xr st wo sl h k => by
  obtain ⟨d, hd, h⟩ := h
  obtain ⟨v, hv, r⟩ := sl.get i d hd
  exact ⟨v, hv, k d v w h st wo (Ex.refl _) r⟩
theorem re_c {v : V} {d : DT} (r : ∀ H, Rep Z.K H v d) : RE Z (tC v) (dC d) := fun B σ w env Φ Q xr st wo sl h k => k d v w h st wo (Ex.refl _) (r _)
theorem re_int {n : Int} : RE Z (tC (.int n)) (dC (.int n)) := re_c fun _ => .int n
theorem re_str {n : Str} : RE Z (tC (.str n)) (dC (.str n)) := re_c fun _ => .str n
theorem re_bl {n : Bool} : RE Z (tC (.bl n)) (dC (.bl n)) := re_c fun _ => .bl n
theorem re_non : RE Z (tC .non) (dC .non) := re_c fun _ => .non
/-- a name whose list changes no more -/
def dVarF (i : Nat) : dE := fun env μ Φ => ∃ a m, env[i]? = some (some (.adr a)) ∧ μ a = some m ∧ match m with
  | .lst ds => Φ (.lst ds) (μ.out a)
  | .obj C fs => Φ (.obj C fs) (μ.out a)
  | .dct kvs => Φ (.dct kvs) (μ.out a)
  | .dcs kvs => Φ (.dcs kvs) (μ.out a)
theorem re_varF {i : Nat} : RE Z (tVar i) (dVarF i) := fun B σ w env Φ Q xr st wo sl h k => by
  obtain ⟨a, m, hd, hm, h⟩ := h
  obtain ⟨v, hv, r⟩ := sl.get i _ hd
  cases r
  obtain ⟨h0, z⟩ := st.mu a m hm
  cases m with
  | lst ds =>
    obtain ⟨xs, e, r⟩ := z
    obtain ⟨s2, w2⟩ := st.freeze hm e
    have ex : Ex w.H (upd w.H a (.lst xs)) := Ex.new h0
    exact ⟨_, hv, k _ _ (w.frz a (.lst xs)) h s2 (wo.trans w2) ex (.lst upd_same (r.mono ex))⟩
  | obj C fs =>
    obtain ⟨dx, xs, e, r⟩ := z
    obtain ⟨s2, w2⟩ := st.freeze hm e
    have ex : Ex w.H (upd w.H a (.ins (He.ga Z.K C) dx xs)) := Ex.new h0
    exact ⟨_, hv, k _ _ (w.frz a (.ins (He.ga Z.K C) dx xs)) h s2 (wo.trans w2) ex (.obj upd_same (r.mono ex))⟩
  | dct kvs =>
    obtain ⟨xs, e, r⟩ := z
    obtain ⟨s2, w2⟩ := st.freeze hm e
    have ex : Ex w.H (upd w.H a (.ext (DRaw Z.K.P Z.K.w a xs))) := Ex.new h0
    exact ⟨_, hv, k _ _ (w.frz a (.ext (DRaw Z.K.P Z.K.w a xs))) h s2 (wo.trans w2) ex (.dctT upd_same (r.mono ex))⟩
  | dcs kvs =>
    obtain ⟨xs, e, r⟩ := z
    obtain ⟨s2, w2⟩ := st.freeze hm e
    have ex : Ex w.H (upd w.H a (.dK xs)) := Ex.new h0
    exact ⟨_, hv, k _ _ (w.frz a (.dK xs)) h s2 (wo.trans w2) ex (.dctS upd_same (r.mono ex))⟩

/-! ### operations by values -/
abbrev dR2 := DT → DT → Mu → PK → Prop
def RO (Z : Bd) (r : R2) (f : dR2) : Prop := ∀ (B w : Wd) (x y : V) (dx dy : DT) (Φ : PK) (Q : VK), Sta Z.K w → Wo B w → Rep Z.K w.H x dx → Rep Z.K w.H y dy → f dx dy w.mu Φ → Go Z B w Φ Q → r x y w.H1 Q
def dOp (f : dR2) (da db : dE) : dE := fun env μ Φ => da env μ fun x μ1 => db env μ1 fun y μ2 => f x y μ2 Φ
theorem re_op {r : R2} {f : dR2} {ta tb : TE} {da db : dE} (ho : RO Z r f) (ha : RE Z ta da) (hb : RE Z tb db) : RE Z (tOp r ta tb) (dOp f da db) := fun B σ w env Φ Q xr st wo sl h k =>
  ha B σ w env _ _ xr st wo sl h fun x v w1 h1 s1 o1 e1 r1 =>
    hb B σ w1 env _ _ xr s1 o1 (sl.mono e1) h1 fun y u w2 h2 s2 o2 e2 r2 =>
      ho B w2 v u x y Φ Q s2 o2 (r1.mono e2) r2 h2 fun d v' w3 h3 s3 o3 e3 r3 => k d v' w3 h3 s3 o3 ((e1.trans e2).trans e3) r3
abbrev dR1 := DT → Mu → PK → Prop
def RU (Z : Bd) (r : V → Hp → VK → Prop) (f : dR1) : Prop := ∀ (B w : Wd) (x : V) (dx : DT) (Φ : PK) (Q : VK), Sta Z.K w → Wo B w → Rep Z.K w.H x dx → f dx w.mu Φ → Go Z B w Φ Q → r x w.H1 Q
def dUn (f : dR1) (da : dE) : dE := fun env μ Φ => da env μ fun x μ1 => f x μ1 Φ
theorem re_un {r : V → Hp → VK → Prop} {f : dR1} {ta : TE} {da : dE} (ho : RU Z r f) (ha : RE Z ta da) : RE Z (tUn r ta) (dUn f da) := fun B σ w env Φ Q xr st wo sl h k =>
  ha B σ w env _ _ xr st wo sl h fun x v w1 h1 s1 o1 e1 r1 => ho B w1 v x Φ Q s1 o1 r1 h1 fun d v' w3 h3 s3 o3 e3 r3 => k d v' w3 h3 s3 o3 (e1.trans e3) r3
def dI (C : Int → Int → Prop) (g : Int → Int → DT) : dR2 := fun x y μ Φ => ∃ i j, x = .int i ∧ y = .int j ∧ C i j ∧ Φ (g i j) μ
def dI0 (g : Int → Int → DT) : dR2 := fun x y μ Φ => ∃ i j, x = .int i ∧ y = .int j ∧ Φ (g i j) μ
theorem ro_i0 {g : Int → Int → V} {g' : Int → Int → DT} (hg : ∀ i j H, Rep Z.K H (g i j) (g' i j)) : RO Z (rI0 g) (dI0 g') := fun B w x y dx dy Φ Q st wo rx ry h k => by
  obtain ⟨i, j, rfl, rfl, h⟩ := h
  cases rx; cases ry
  exact ⟨i, j, rfl, rfl, k _ _ w h st wo (Ex.refl _) (hg i j _)⟩
theorem ro_i {C : Int → Int → Prop} {g : Int → Int → V} {g' : Int → Int → DT} (hg : ∀ i j H, Rep Z.K H (g i j) (g' i j)) : RO Z (rI C g) (dI C g') := fun B w x y dx dy Φ Q st wo rx ry h k => by
  obtain ⟨i, j, rfl, rfl, c, h⟩ := h
  cases rx; cases ry
  exact ⟨i, j, rfl, rfl, c, k _ _ w h st wo (Ex.refl _) (hg i j _)⟩
abbrev dAdd : dR2 := dI0 fun i j => .int (i + j)
abbrev dSub : dR2 := dI0 fun i j => .int (i - j)
abbrev dMul : dR2 := dI CMul fun i j => .int (i * j)
abbrev dMulW : dR2 := dI CMulW fun i j => .int (i * j)
abbrev dDiv : dR2 := dI CDivW fun i j => .int (i / j)
abbrev dMod : dR2 := dI (fun _ j => 0 < j) fun i j => .int (i % j)
abbrev dPow : dR2 := dI CPow fun i j => .int (i ^ j.toNat)
abbrev dLt : dR2 := dI0 fun i j => .bl (decide (i < j))
abbrev dLe : dR2 := dI0 fun i j => .bl (decide (i ≤ j))
abbrev dGt : dR2 := dI0 fun i j => .bl (decide (j < i))
abbrev dGe : dR2 := dI0 fun i j => .bl (decide (j ≤ i))
theorem ro_add : RO Z oAdd dAdd := ro_i0 fun _ _ _ => .int _
theorem ro_sub : RO Z oSub dSub := ro_i0 fun _ _ _ => .int _
theorem ro_mul : RO Z oMul dMul := ro_i fun _ _ _ => .int _
theorem ro_mulW : RO Z oMulW dMulW := ro_i fun _ _ _ => .int _
theorem ro_div : RO Z oDiv dDiv := ro_i fun _ _ _ => .int _
theorem ro_mod : RO Z oMod dMod := ro_i fun _ _ _ => .int _
theorem ro_pow : RO Z oPow dPow := ro_i fun _ _ _ => .int _
theorem ro_lt : RO Z oLt dLt := ro_i0 fun _ _ _ => .bl _
theorem ro_le : RO Z oLe dLe := ro_i0 fun _ _ _ => .bl _
theorem ro_gt : RO Z oGt dGt := ro_i0 fun _ _ _ => .bl _
theorem ro_ge : RO Z oGe dGe := ro_i0 fun _ _ _ => .bl _
def dNeg : dR1 := fun x μ Φ => ∃ i, x = .int i ∧ Φ (.int (-i)) μ
theorem ru_neg : RU Z oNeg dNeg := fun B w x dx Φ Q st wo rx h k => by
  obtain ⟨i, rfl, h⟩ := h
  cases rx
  exact ⟨i, rfl, k _ _ w h st wo (Ex.refl _) (.int _)⟩

/-! ### tests, and, or, not, if else -/
def dTest (de : dE) : dT := fun env μ Φ => de env μ fun d μ1 => ∃ b, d = .bl b ∧ Φ b μ1
theorem rt_test {te : TE} {de : dE} (h : RE Z te de) : RT Z (tTest te) (dTest de) := fun B σ w env Φ Q xr st wo sl g k =>
  h B σ w env _ _ xr st wo sl g fun d v w1 ⟨b, e, h1⟩ s1 o1 e1 r1 => by
    subst e; cases r1
    exact ⟨b, rfl, k b w1 h1 s1 o1 e1⟩
theorem rt_b {te : TE} {de : dE} (h : RE Z te de) : RT Z (tB te) (dTest de) := fun B σ w env Φ Q xr st wo sl g k =>
  h B σ w env _ _ xr st wo sl g fun d v w1 ⟨b, e, h1⟩ s1 o1 e1 r1 => by
    subst e; cases r1
    exact ⟨b, rfl, k b w1 h1 s1 o1 e1⟩
def dAnd (a b : dT) : dT := fun env μ Φ => a env μ fun c μ1 => (c = true → b env μ1 Φ) ∧ (c = false → Φ false μ1)
def dOr (a b : dT) : dT := fun env μ Φ => a env μ fun c μ1 => (c = true → Φ true μ1) ∧ (c = false → b env μ1 Φ)
def dNot (a : dT) : dT := fun env μ Φ => a env μ fun c μ1 => Φ (!c) μ1
theorem rt_and {ta tb : TT} {da db : dT} (ha : RT Z ta da) (hb : RT Z tb db) : RT Z (tAnd ta tb) (dAnd da db) := fun B σ w env Φ Q xr st wo sl g k =>
  ha B σ w env _ _ xr st wo sl g fun c w1 h1 s1 o1 e1 => by
    cases c with
    | true => exact hb B σ w1 env Φ Q xr s1 o1 (sl.mono e1) (h1.1 rfl) fun b w2 h2 s2 o2 e2 => k b w2 h2 s2 o2 (e1.trans e2)
    | false => exact k false w1 (h1.2 rfl) s1 o1 e1
theorem rt_or {ta tb : TT} {da db : dT} (ha : RT Z ta da) (hb : RT Z tb db) : RT Z (tOr ta tb) (dOr da db) := fun B σ w env Φ Q xr st wo sl g k =>
  ha B σ w env _ _ xr st wo sl g fun c w1 h1 s1 o1 e1 => by
    cases c with
    | false => exact hb B σ w1 env Φ Q xr s1 o1 (sl.mono e1) (h1.2 rfl) fun b w2 h2 s2 o2 e2 => k b w2 h2 s2 o2 (e1.trans e2)
    | true => exact k true w1 (h1.1 rfl) s1 o1 e1
theorem rt_not {ta : TT} {da : dT} (ha : RT Z ta da) : RT Z (tNot ta) (dNot da) := fun B σ w env Φ Q xr st wo sl g k =>
  ha B σ w env _ _ xr st wo sl g fun c w1 h1 s1 o1 e1 => k (!c) w1 h1 s1 o1 e1
/-- .. as values -/
def dAndV (a b : dE) : dE := fun env μ Φ => a env μ fun d μ1 => ∃ c, d = .bl c ∧ (c = true → b env μ1 Φ) ∧ (c = false → Φ (.bl false) μ1)
def dOrV (a b : dE) : dE := fun env μ Φ => a env μ fun d μ1 => ∃ c, d = .bl c ∧ (c = true → Φ (.bl true) μ1) ∧ (c = false → b env μ1 Φ)
def dNotV (a : dE) : dE := fun env μ Φ => a env μ fun d μ1 => ∃ c, d = .bl c ∧ Φ (.bl (!c)) μ1
theorem re_and {ta tb : TE} {da db : dE} (ha : RE Z ta da) (hb : RE Z tb db) : RE Z (tAndV ta tb) (dAndV da db) := fun B σ w env Φ Q xr st wo sl g k =>
  ha B σ w env _ _ xr st wo sl g fun d v w1 ⟨c, e, h1, h2⟩ s1 o1 e1 r1 => by
    subst e; cases r1
    refine ⟨c, rfl, ?_⟩
    cases c with
    | true => exact hb B σ w1 env Φ Q xr s1 o1 (sl.mono e1) (h1 rfl) fun b v2 w2 h2 s2 o2 e2 r2 => k b v2 w2 h2 s2 o2 (e1.trans e2) r2
    | false => exact k _ _ w1 (h2 rfl) s1 o1 e1 (.bl _)
theorem re_or {ta tb : TE} {da db : dE} (ha : RE Z ta da) (hb : RE Z tb db) : RE Z (tOrV ta tb) (dOrV da db) := fun B σ w env Φ Q xr st wo sl g k =>
  ha B σ w env _ _ xr st wo sl g fun d v w1 ⟨c, e, h1, h2⟩ s1 o1 e1 r1 => by
    subst e; cases r1
    refine ⟨c, rfl, ?_⟩
    cases c with
    | false => exact hb B σ w1 env Φ Q xr s1 o1 (sl.mono e1) (h2 rfl) fun b v2 w2 h2 s2 o2 e2 r2 => k b v2 w2 h2 s2 o2 (e1.trans e2) r2
    | true => exact k _ _ w1 (h1 rfl) s1 o1 e1 (.bl _)
theorem re_not {ta : TE} {da : dE} (ha : RE Z ta da) : RE Z (tNotV ta) (dNotV da) := fun B σ w env Φ Q xr st wo sl g k =>
  ha B σ w env _ _ xr st wo sl g fun d v w1 ⟨c, e, h1⟩ s1 o1 e1 r1 => by
    subst e; cases r1
    exact ⟨c, rfl, k _ _ w1 h1 s1 o1 e1 (.bl _)⟩
def dIfE (t : dT) (a b : dE) : dE := fun env μ Φ => t env μ fun c μ1 => (c = true → a env μ1 Φ) ∧ (c = false → b env μ1 Φ)
theorem re_ifE {tt : TT} {ta tb : TE} {dt : dT} {da db : dE} (ht : RT Z tt dt) (ha : RE Z ta da) (hb : RE Z tb db) : RE Z (tIf tt ta tb) (dIfE dt da db) := fun B σ w env Φ Q xr st wo sl g k =>
  ht B σ w env _ _ xr st wo sl g fun c w1 h1 s1 o1 e1 => by
    cases c with
    | true => exact ha B σ w1 env Φ Q xr s1 o1 (sl.mono e1) (h1.1 rfl) fun b v2 w2 h2 s2 o2 e2 r2 => k b v2 w2 h2 s2 o2 (e1.trans e2) r2
    | false => exact hb B σ w1 env Φ Q xr s1 o1 (sl.mono e1) (h1.2 rfl) fun b v2 w2 h2 s2 o2 e2 r2 => k b v2 w2 h2 s2 o2 (e1.trans e2) r2
def dChain (f f' : dR2) (a b c : dE) : dE := fun env μ Φ => a env μ fun x μ1 => b env μ1 fun y μ2 => f x y μ2 fun z μ3 => ∃ k, z = .bl k ∧ (k = true → c env μ3 fun u μ4 => f' y u μ4 Φ) ∧ (k = false → Φ (.bl false) μ3)
theorem re_chain {r r' : R2} {f f' : dR2} {ta tb tc : TE} {da db dc : dE} (ho : RO Z r f) (ho' : RO Z r' f') (ha : RE Z ta da) (hb : RE Z tb db) (hc : RE Z tc dc) : RE Z (tChain r r' ta tb tc) (dChain f f' da db dc) := by
  intro B σ w env Φ Q xr st wo sl h k
  refine ha B σ w env _ _ xr st wo sl h fun x v w1 h1 s1 o1 e1 r1 => ?_
  refine hb B σ w1 env _ _ xr s1 o1 (sl.mono e1) h1 fun y u w2 h2 s2 o2 e2 r2 => ?_
  refine ho B w2 v u x y _ _ s2 o2 (r1.mono e2) r2 h2 fun d v' w3 h3 s3 o3 e3 r3 => ?_
  obtain ⟨c, e, h3, h4⟩ := h3
  subst e; cases r3
  refine ⟨c, rfl, ?_⟩
  cases c with
  | true =>
    refine hc B σ w3 env _ _ xr s3 o3 (sl.mono ((e1.trans e2).trans e3)) (h3 rfl) fun d4 v4 w4 h4 s4 o4 e4 r4 => ?_
    exact ho' B w4 u v4 y d4 Φ Q s4 o4 (r2.mono (e3.trans e4)) r4 h4 fun d5 v5 w5 h5 s5 o5 e5 r5 => k d5 v5 w5 h5 s5 o5 ((((e1.trans e2).trans e3).trans e4).trans e5) r5
  | false => exact k _ _ w3 (h4 rfl) s3 o3 ((e1.trans e2).trans e3) (.bl _)

/-! ### arguments, displays, calls -/
def dNil : dA := fun _ μ Φ => Φ [] μ
def dCons (a : dE) (r : dA) : dA := fun env μ Φ => a env μ fun d μ1 => r env μ1 fun ds μ2 => Φ (d :: ds) μ2
theorem ra_nil : RA Z tNil dNil := fun B σ w env Φ Q xr st wo sl h k => k [] [] w h st wo (Ex.refl _) .nil
theorem ra_cons {ta : TE} {tr : TA} {da : dE} {dr : dA} (ha : RE Z ta da) (hr : RA Z tr dr) : RA Z (tCons ta tr) (dCons da dr) := fun B σ w env Φ Q xr st wo sl h k =>
  ha B σ w env _ _ xr st wo sl h fun x v w1 h1 s1 o1 e1 r1 =>
    hr B σ w1 env _ _ xr s1 o1 (sl.mono e1) h1 fun ds vs w2 h2 s2 o2 e2 r2 => k (x :: ds) (v :: vs) w2 h2 s2 o2 (e1.trans e2) (.cons (r1.mono e2) r2)
def Small (ds : List DT) : Prop := ds.length ≤ 1000000
theorem Small.le {ds : List DT} {n : Nat} (h : Small ds) (e : n = ds.length) : n ≤ sizeLine := by
  rw [e]; exact Nat.le_trans h (by decide)
def dTup (a : dA) : dE := fun env μ Φ => a env μ fun ds μ1 => Small ds ∧ Φ (.tup ds) μ1
def dLst (a : dA) : dE := fun env μ Φ => a env μ fun ds μ1 => Small ds ∧ Φ (.lst ds) μ1
/-- a list that will change -/
def dLstM (a : dA) : dE := fun env μ Φ => a env μ fun ds μ1 => Small ds ∧ ∀ p, μ1 p = none → Φ (.adr p) (μ1.put p (.lst ds))
theorem re_tup {ta : TA} {da : dA} (ha : RA Z ta da) : RE Z (tTup ta) (dTup da) := fun B σ w env Φ Q xr st wo sl h k =>
  ha B σ w env _ _ xr st wo sl h fun ds vs w1 ⟨h0, h1⟩ s1 o1 e1 r1 => ⟨h0.le r1.length, fun p hp => by
    obtain ⟨s2, o2⟩ := s1.new (o := .tup vs) hp
    exact k _ _ (w1.new p _) h1 s2 (o1.trans o2) (e1.trans o2.ex) (.tup (.of upd_same) (r1.mono o2.ex))⟩
theorem re_lst {ta : TA} {da : dA} (ha : RA Z ta da) : RE Z (tLst ta) (dLst da) := fun B σ w env Φ Q xr st wo sl h k =>
  ha B σ w env _ _ xr st wo sl h fun ds vs w1 ⟨h0, h1⟩ s1 o1 e1 r1 => ⟨h0.le r1.length, fun p hp => by
    obtain ⟨s2, o2⟩ := s1.new (o := .lst vs) hp
    exact k _ _ (w1.new p _) h1 s2 (o1.trans o2) (e1.trans o2.ex) (.lst upd_same (r1.mono o2.ex))⟩
theorem re_lstM {ta : TA} {da : dA} (ha : RA Z ta da) : RE Z (tLst ta) (dLstM da) := fun B σ w env Φ Q xr st wo sl h k =>
  ha B σ w env _ _ xr st wo sl h fun ds vs w1 ⟨h0, h1⟩ s1 o1 e1 r1 => ⟨h0.le r1.length, fun p hp => by
    obtain ⟨s2, o2⟩ := s1.newM (o := .lst vs) (m := .lst ds) hp ⟨vs, upd_same, r1⟩
    exact k _ _ (w1.newM p _ _) (h1 p (s1.nil hp).2) s2 (o1.trans o2) (e1.trans o2.ex) (.adr p)⟩
/-- a call by values -/
abbrev dRC := List DT → Mu → PK → Prop
def RC (Z : Bd) (r : List V → Hp → VK → Prop) (f : dRC) : Prop := ∀ (B w : Wd) (xs : List V) (dx : List DT) (Φ : PK) (Q : VK), Sta Z.K w → Wo B w → RepAll Z.K w.H xs dx → f dx w.mu Φ → Go Z B w Φ Q → r xs w.H1 Q
def dCB (f : dRC) (a : dA) : dE := fun env μ Φ => a env μ fun ds μ1 => f ds μ1 Φ
theorem re_cb {r : List V → Hp → VK → Prop} {f : dRC} {ta : TA} {da : dA} (hr : RC Z r f) (ha : RA Z ta da) : RE Z (tCB r ta) (dCB f da) := fun B σ w env Φ Q xr st wo sl h k =>
  ha B σ w env _ _ xr st wo sl h fun ds vs w1 h1 s1 o1 e1 r1 => hr B w1 vs ds Φ Q s1 o1 r1 h1 fun d v' w3 h3 s3 o3 e3 r3 => k d v' w3 h3 s3 o3 (e1.trans e3) r3
/-- an own def: its promise over data -/
abbrev dSp := List DT → Mu → PK → XKd → Prop
def lift (K : Kit) (dsp : dSp) : Sp := fun vs H1 Q E => ∃ (w : Wd) (ds : List DT) (Φ : PK) (Ψ : XKd), w.H1 = H1 ∧ Sta K w ∧ RepAll K w.H vs ds ∧ dsp ds w.mu Φ Ψ ∧
  (∀ d v w', Φ d w'.mu → Sta K w' → Wo w w' → Rep K w'.H v d → Q v w'.H1) ∧ XR K w E Ψ
/-- no error -/
def noX : XKd := fun _ _ _ => False
theorem XR.no {K : Kit} {B : Wd} {E : XK} : XR K B E noX := fun _ _ _ h => h.elim
def dCall (Ψ : XKd) (dsp : dSp) (a : dA) : dE := fun env μ Φ => a env μ fun ds μ1 => dsp ds μ1 Φ Ψ
/-- a call, its errors as the def's own; a call that raises none -/
theorem re_callX {dsp : dSp} {ta : TA} {da : dA} (ha : RA Z ta da) : RE Z (tCall (lift Z.K dsp) [] Z.E ta) (dCall Z.Ψ dsp da) := fun B σ w env Φ Q xr st wo sl h k =>
  ha B σ w env _ _ xr st wo sl h fun ds vs w1 h1 s1 o1 e1 r1 =>
    ⟨w1, ds, Φ, Z.Ψ, rfl, s1, by rw [List.append_nil]; exact r1, h1, fun d v w' hd s2 o2 r2 => k d v w' hd s2 (o1.trans o2) (e1.trans o2.ex) r2, fun C fs w' hp s2 o2 dx vs' hx r => xr C fs w' hp s2 (o1.trans o2) dx vs' hx r⟩
theorem re_call {dsp : dSp} {ta : TA} {da : dA} (ha : RA Z ta da) : RE Z (tCall (lift Z.K dsp) [] E0 ta) (dCall noX dsp da) := fun B σ w env Φ Q xr st wo sl h k =>
  ha B σ w env _ _ xr st wo sl h fun ds vs w1 h1 s1 o1 e1 r1 =>
    ⟨w1, ds, Φ, noX, rfl, s1, by rw [List.append_nil]; exact r1, h1, fun d v w' hd s2 o2 r2 => k d v w' hd s2 (o1.trans o2) (e1.trans o2.ex) r2, XR.no⟩

/-! ### statements -/
def dNext : dS := fun De env μ => De.nx env μ
def dSeq (t u : dS) : dS := fun De env μ => t { De with nx := u De } env μ
theorem rs_next : RS Z tNext dNext := fun B σ w env De D xr st wo sl h r => r.nx σ _ ⟨env, w, rfl, h, st, wo, sl⟩
theorem rs_seq {t u : TS} {dt du : dS} (ht : RS Z t dt) (hu : RS Z u du) : RS Z (tSeq t u) (dSeq dt du) := fun B σ w env De D xr st wo sl h r =>
  ht B σ w env { De with nx := du De } { D with nx := u D } xr st wo sl h ⟨fun σ' H' ⟨env', w', e, h', s', o', l'⟩ => by subst e; exact hu B σ' w' env' De D xr s' o' l' h' r, r.rt, r.bk, r.ct⟩
def dBreak : dS := fun De env μ => De.bk env μ
def dCont : dS := fun De env μ => De.ct env μ
theorem rs_break : RS Z tBreak dBreak := fun B σ w env De D xr st wo sl h r => r.bk σ _ ⟨env, w, rfl, h, st, wo, sl⟩
theorem rs_cont : RS Z tCont dCont := fun B σ w env De D xr st wo sl h r => r.ct σ _ ⟨env, w, rfl, h, st, wo, sl⟩
def dDrop (e : dE) : dS := fun De env μ => e env μ fun _ μ1 => De.nx env μ1
theorem rs_drop {te : TE} {de : dE} (h : RE Z te de) : RS Z (tDrop te) (dDrop de) := fun B σ w env De D xr st wo sl g r =>
  h B σ w env _ _ xr st wo sl g fun d v w1 h1 s1 o1 e1 r1 => r.nx σ _ ⟨env, w1, rfl, h1, s1, o1, sl.mono e1⟩
def dRet (e : dE) : dS := fun De env μ => e env μ De.rt
theorem rs_ret {te : TE} {de : dE} (h : RE Z te de) : RS Z (tRet te) (dRet de) := fun B σ w env De D xr st wo sl g r =>
  h B σ w env _ _ xr st wo sl g fun d v w1 h1 s1 o1 e1 r1 => r.rt v _ ⟨d, w1, rfl, h1, s1, o1, r1⟩
def dRetN : dS := fun De _ μ => De.rt .non μ
theorem rs_retN : RS Z tRetN dRetN := fun B σ w env De D xr st wo sl g r => r.rt .non _ ⟨.non, w, rfl, g, st, wo, .non⟩
def dIf (t : dT) (a b : dS) : dS := fun De env μ => t env μ fun c μ1 => (c = true → a De env μ1) ∧ (c = false → b De env μ1)
theorem rs_if {tt : TT} {ta tb : TS} {dt : dT} {da db : dS} (ht : RT Z tt dt) (ha : RS Z ta da) (hb : RS Z tb db) : RS Z (tIfS tt ta tb) (dIf dt da db) := fun B σ w env De D xr st wo sl g r =>
  ht B σ w env _ _ xr st wo sl g fun c w1 h1 s1 o1 e1 => by
    cases c with
    | true => exact ha B σ w1 env De D xr s1 o1 (sl.mono e1) (h1.1 rfl) r
    | false => exact hb B σ w1 env De D xr s1 o1 (sl.mono e1) (h1.2 rfl) r
def dNever : dS := fun _ _ _ => False
theorem rs_never : RS Z tNever dNever := fun B σ w env De D xr st wo sl g r => g.elim
/-- match over texts -/
abbrev dM := DT → dS
def RM (Z : Bd) (tm : V → TS) (dm : dM) : Prop := ∀ (B : Wd) (σ : L2.St) (w : Wd) (env : DEnv) (v : V) (d : DT) (De : dEnds) (D : Ends), XR Z.K B Z.E Z.Ψ → Sta Z.K w → Wo B w → Slo Z.K w.H σ env → Rep Z.K w.H v d → dm d De env w.mu → Rel Z B De D → tm v D σ w.H1
def dmNil : dM := fun _ De env μ => De.nx env μ
def dmStr (c : Str) (b : dS) (r : dM) : dM := fun d De env μ => ∃ z, d = .str z ∧ (z = c → b De env μ) ∧ (z ≠ c → r d De env μ)
def dmElse (b : dS) : dM := fun _ => b
def dMatch (e : dE) (m : dM) : dS := fun De env μ => e env μ fun d μ1 => m d De env μ1
theorem rm_nil : RM Z mNil dmNil := fun B σ w env v d De D xr st wo sl rv h r => r.nx σ _ ⟨env, w, rfl, h, st, wo, sl⟩
theorem rm_else {tb : TS} {db : dS} (hb : RS Z tb db) : RM Z (mElse tb) (dmElse db) := fun B σ w env v d De D xr st wo sl rv h r => hb B σ w env De D xr st wo sl h r
theorem rm_str {c : Str} {tb : TS} {tr : V → TS} {db : dS} {dr : dM} (hb : RS Z tb db) (hr : RM Z tr dr) : RM Z (mStr c tb tr) (dmStr c db dr) := fun B σ w env v d De D xr st wo sl rv h r => by
  obtain ⟨z, rfl, h1, h2⟩ := h
  cases rv
  exact ⟨z, rfl, ifd (fun e => hb B σ w env De D xr st wo sl (h1 e) r) fun e => hr B σ w env (.str z) (.str z) De D xr st wo sl (.str z) (h2 e) r⟩
theorem rs_match {te : TE} {tm : V → TS} {de : dE} {dm : dM} (he : RE Z te de) (hm : RM Z tm dm) : RS Z (tMatch te tm) (dMatch de dm) := fun B σ w env De D xr st wo sl g r =>
  he B σ w env _ _ xr st wo sl g fun d v w1 h1 s1 o1 e1 r1 => hm B σ w1 env v d De D xr s1 o1 (sl.mono e1) r1 h1 r

/-! ### targets -/
def dName (i : Nat) : dG := fun d env μ N => N (env.set i (some d)) μ
theorem wipe_set : ∀ (vs : List Nat) (σ : L2.St) (i : Nat) (x : Option V), i ∈ vs → wipe (σ.set i x) vs = wipe σ vs
  | [], _, _, _, h => by cases h
  | v :: vs, σ, i, x, h => by
    show (wipe (σ.set i x) vs).set v none = (wipe σ vs).set v none
    have comm : ∀ (us : List Nat) (τ : L2.St) (j : Nat) (y : Option V), (wipe (τ.set j y) us).set j none = (wipe τ us).set j none := by
      intro us
      induction us with
      | nil => intro τ j y; show (τ.set j y).set j none = τ.set j none; rw [List.set_set]
      | cons u us ih =>
        intro τ j y
        show ((wipe (τ.set j y) us).set u none).set j none = ((wipe τ us).set u none).set j none
        by_cases e : u = j
        · subst e; rw [List.set_set, List.set_set, ih]
        · rw [List.set_comm _ _ e, ih, List.set_comm _ _ (Ne.symm e)]
    by_cases e : i = v
    · subst e; exact comm vs σ i x
    · have hi : i ∈ vs := by
        rcases List.mem_cons.mp h with h | h
        · exact absurd h e
        · exact h
      rw [wipe_set vs σ i x hi]
theorem rg_name {i : Nat} {vs : List Nat} (hi : i ∈ vs) : RG Z (gName i) (dName i) vs := fun B σ w env v d N Q xr st wo sl rv h k =>
  k _ _ w h st wo (Ex.refl _) (sl.set i rv) (wipe_set vs σ i _ hi)
def dGNil : dGs := fun ds env μ N => ds = [] ∧ N env μ
def dGCons (g : dG) (r : dGs) : dGs := fun ds env μ N => ∃ d r', ds = d :: r' ∧ g d env μ fun env' μ' => r r' env' μ' N
def dGTup (n : Nat) (g : dGs) : dG := fun d env μ N => ∃ ds, d = .tup ds ∧ ds.length = n ∧ g ds env μ N
theorem rgs_nil {vs : List Nat} : RGs Z gNil dGNil vs := fun B σ w env v d N Q xr st wo sl rv h k => by
  obtain ⟨rfl, h⟩ := h
  cases rv
  exact ⟨rfl, k env σ w h st wo (Ex.refl _) sl rfl⟩
theorem rgs_cons {tg : TG} {tr : TGs} {dg : dG} {dr : dGs} {vs : List Nat} (hg : RG Z tg dg vs) (hr : RGs Z tr dr vs) : RGs Z (gCons tg tr) (dGCons dg dr) vs := fun B σ w env v d N Q xr st wo sl rv h k => by
  obtain ⟨d1, r', rfl, h⟩ := h
  cases rv with
  | cons r1 rr =>
    exact ⟨_, _, rfl, hg B σ w env _ _ _ _ xr st wo sl r1 h fun env' σ' w' h1 s1 o1 e1 l1 q1 =>
      hr B σ' w' env' _ _ N Q xr s1 o1 l1 (rr.mono e1) h1 fun env2 σ2 w2 h2 s2 o2 e2 l2 q2 => k env2 σ2 w2 h2 s2 o2 (e1.trans e2) l2 (q2.trans q1)⟩
theorem rg_tup {n : Nat} {tg : TGs} {dg : dGs} {vs : List Nat} (hg : RGs Z tg dg vs) : RG Z (gTup Z.K n tg) (dGTup n dg) vs := fun B σ w env v d N Q xr st wo sl rv h k => by
  obtain ⟨ds, rfl, hl, h⟩ := h
  cases rv with
  | tup hs ra => exact ⟨_, _, rfl, st.ex.t hs, ra.length.trans hl, hg B σ w env _ ds N Q xr st wo sl ra h k⟩
def dAsg (e : dE) (g : dG) : dS := fun De env μ => e env μ fun d μ1 => g d env μ1 De.nx
theorem rs_asg {te : TE} {tg : TG} {de : dE} {dg : dG} {vs : List Nat} (he : RE Z te de) (hg : RG Z tg dg vs) : RS Z (tAsg te tg) (dAsg de dg) := fun B σ w env De D xr st wo sl g r =>
  he B σ w env _ _ xr st wo sl g fun d v w1 h1 s1 o1 e1 r1 => hg B σ w1 env v d _ _ xr s1 o1 (sl.mono e1) r1 h1 fun env' σ' w' h2 s2 o2 e2 l2 _ => r.nx σ' _ ⟨env', w', rfl, h2, s2, o2, l2⟩
def dPar (i j : Nat) (a : dA) : dS := fun De env μ => a env μ fun ds μ1 => ∃ x y, ds = [x, y] ∧ De.nx ((env.set i (some x)).set j (some y)) μ1
theorem rs_par {i j : Nat} {ta : TA} {da : dA} (ha : RA Z ta da) : RS Z (tPar i j ta) (dPar i j da) := fun B σ w env De D xr st wo sl g r =>
  ha B σ w env _ _ xr st wo sl g fun ds vs w1 ⟨x, y, e, h1⟩ s1 o1 e1 r1 => by
    subst e
    cases r1 with
    | cons r1 rr =>
      cases rr with
      | cons r2 rr =>
        cases rr
        exact ⟨_, _, rfl, r.nx _ _ ⟨_, w1, rfl, h1, s1, o1, ((sl.mono e1).set i r1).set j r2⟩⟩
end
end SW


/-! SWRd2: readings over data: walks (for, comprehensions, while), sequences, changed objects. -/
namespace SW
open PySem L2 PyProof.Rows
theorem XR.trans {K : Kit} {B w : Wd} {E : XK} {Ψ : XKd} (x : XR K B E Ψ) (o : Wo B w) : XR K w E Ψ := fun C fs w' h s o' dx vs hx r => x C fs w' h s (o.trans o') dx vs hx r
theorem At.trans {Z : Bd} {B w : Wd} {N : DEnv → Mu → Prop} {σ : L2.St} {H : Hp} (o : Wo B w) (a : At Z w N σ H) : At Z B N σ H := by
  obtain ⟨env, w', e, h, s, o', l⟩ := a
  exact ⟨env, w', e, h, s, o.trans o', l⟩
theorem AtV.trans {Z : Bd} {B w : Wd} {N : PK} {v : V} {H : Hp} (o : Wo B w) (a : AtV Z w N v H) : AtV Z B N v H := by
  obtain ⟨env, w', e, h, s, o', l⟩ := a
  exact ⟨env, w', e, h, s, o.trans o', l⟩
/-! ### objects outside: neither known nor tracked -/
def Wd.know (w : Wd) (p : Addr) (o : HO) : Wd := ⟨upd w.H p o, w.mu, w.H1⟩
def Wd.give (w : Wd) (p : Addr) (m : MO) : Wd := ⟨w.H, w.mu.put p m, w.H1⟩
def Wd.outw (w : Wd) (p : Addr) (o : HO) : Wd := ⟨w.H, w.mu, upd w.H1 p o⟩
/-- within a comprehension nothing is raised -/
abbrev Bd.calm (Z : Bd) : Bd := ⟨Z.K, E0, noX⟩
section
variable {K : Kit} {w B : Wd} {p : Addr} {o : HO}
theorem Sta.know (s : Sta K w) (ho : w.H1 p = some o) (h : w.H p = none) (hm : w.mu p = none) (hn : ∀ ps, o ≠ .tbl ps := by intro _ z; cases z) : Sta K (w.know p o) := by
  refine ⟨fun a u q => ?_, fun a m q => ?_, fun a ps q => ?_, s.tb, s.tm⟩
  · have q' : upd w.H p o a = some u := q
    by_cases e : a = p
    · subst e; rw [upd_same] at q'; rw [← q']; exact ho
    · rw [upd_ne e] at q'; exact s.ex _ _ q'
  · have ne : a ≠ p := fun z => by subst z; have q' : w.mu a = some m := q; rw [hm] at q'; cases q'
    obtain ⟨z1, z2⟩ := s.mu a m q
    exact ⟨(upd_ne ne).trans z1, z2.keep (Ex.new h) fun u r => r⟩
  · have q' : upd w.H p o a = some (.tbl ps) := q
    by_cases e : a = p
    · subst e; rw [upd_same] at q'; exact hn ps (Option.some.inj q')
    · rw [upd_ne e] at q'; exact s.nt _ _ q'
theorem Wo.know (b : Wo B w) (h : w.H p = none) (hB : ∀ u, (∀ ps, u ≠ .tbl ps) → B.H1 p = some u → B.H p = none → B.mu p = none → False) : Wo B (w.know p o) := by
  refine ⟨b.ex.trans (Ex.new h), fun a u q1 q2 q3 nt => ?_⟩
  have ne : a ≠ p := fun z => by subst z; exact hB u nt q1 q2 q3
  obtain ⟨x, y, z⟩ := b.fr a u q1 q2 q3 nt
  exact ⟨x, (upd_ne ne).trans y, z⟩
theorem Sta.give {m : MO} (s : Sta K w) (h : w.H p = none) (hm : w.mu p = none) (z : MoAt K w.H w.H1 p m) : Sta K (w.give p m) := by
  refine ⟨s.ex, fun a m' q => ?_, s.nt, s.tb, fun r hr => (Mu.put_ne fun e => by obtain ⟨ps, h1, _⟩ := s.tb r hr; rw [e] at h1; exact (z.noTab h1).1 _ rfl).trans (s.tm r hr)⟩
  by_cases e : a = p
  · subst e
    have e2 : m = m' := Option.some.inj (Mu.put_same.symm.trans q)
    subst e2
    exact ⟨h, z⟩
  · exact s.mu a m' ((Mu.put_ne e).symm.trans q)
theorem Wo.give {m : MO} (b : Wo B w) (hB : ∀ u, (∀ ps, u ≠ .tbl ps) → B.H1 p = some u → B.H p = none → B.mu p = none → False) : Wo B (w.give p m) := by
  refine ⟨b.ex, fun a u q1 q2 q3 nt => ?_⟩
  have ne : a ≠ p := fun z => by subst z; exact hB u nt q1 q2 q3
  obtain ⟨x, y, z⟩ := b.fr a u q1 q2 q3 nt
  exact ⟨x, y, (Mu.put_ne ne).trans z⟩
theorem Sta.outw (s : Sta K w) (h : w.H p = none) (hm : w.mu p = none) (hn : ∀ u, w.H1 p = some u → NoTab p u) : Sta K (w.outw p o) := by
  refine ⟨fun a u q => ?_, fun a m q => ?_, s.nt, tabs_upd s.tb hn, s.tm⟩
  · have ne : a ≠ p := fun z => by subst z; have q' : w.H a = some u := q; rw [h] at q'; cases q'
    exact (upd_ne ne).trans (s.ex a u q)
  · have ne : a ≠ p := fun z => by subst z; have q' : w.mu a = some m := q; rw [hm] at q'; cases q'
    obtain ⟨z1, z2⟩ := s.mu a m q
    exact ⟨z1, z2.keep (Ex.refl _) fun u r => (upd_ne ne).trans r⟩
theorem Wo.outw (b : Wo B w) (hB : B.H1 p = none) : Wo B (w.outw p o) := by
  refine ⟨b.ex, fun a u q1 q2 q3 nt => ?_⟩
  have ne : a ≠ p := fun z => by subst z; rw [hB] at q1; cases q1
  obtain ⟨x, y, z⟩ := b.fr a u q1 q2 q3 nt
  exact ⟨(upd_ne ne).trans x, y, z⟩
end

/-! ### walks -/
structure ItOk (K : Kit) (w : Wd) (J : It) (items : List DT) : Prop where
  ex : ∃ G Y, Walk J items.length G Y ∧ (∀ w', Sta K w' → Ex w.H w'.H → G w'.H1) ∧
    ∀ i w' x H', Sta K w' → Ex w.H w'.H → i < items.length → Y i w'.H1 x H' → ∃ w2, w2.H1 = H' ∧ w2.mu = w'.mu ∧ Sta K w2 ∧ Wo w' w2 ∧ ∃ d, items[i]? = some d ∧ Rep K w2.H x d
abbrev dIt := DEnv → Mu → (List DT → Mu → Prop) → Prop
def RI (Z : Bd) (ti : TI) (di : dIt) : Prop := ∀ (B : Wd) (σ : L2.St) (w : Wd) (env : DEnv) (Φ : List DT → Mu → Prop) (R : It → Hp → Prop), XR Z.K B Z.E Z.Ψ → Sta Z.K w → Wo B w → Slo Z.K w.H σ env → di env w.mu Φ →
  (∀ items J w', Φ items w'.mu → Sta Z.K w' → Wo B w' → Ex w.H w'.H → ItOk Z.K w' J items → R J w'.H1) → ti σ w.H1 R
theorem itok_at {K : Kit} {w : Wd} {J : It} {vs : List V} {ds : List DT} {G : Hp → Prop} (wk : Walk J vs.length G (YAt vs)) (r : RepAll K w.H vs ds) (hG : ∀ w', Sta K w' → Ex w.H w'.H → G w'.H1) : ItOk K w J ds := by
  refine ⟨G, YAt vs, r.length ▸ wk, hG, fun i w' x H' s e hi hy => ?_⟩
  obtain ⟨rfl, hx⟩ := hy
  obtain ⟨d, hd, rd⟩ := r.getV hx
  exact ⟨w', rfl, rfl, s, Wo.refl _, d, hd, rd.mono e⟩
def dIList (de : dE) : dIt := fun env μ Φ => de env μ fun d μ1 => ∃ ds, d = .lst ds ∧ Φ ds μ1
def dITup (de : dE) : dIt := fun env μ Φ => de env μ fun d μ1 => ∃ ds, d = .tup ds ∧ Φ ds μ1
section
variable {Z : Bd}
theorem ri_list {te : TE} {de : dE} (h : RE Z te de) : RI Z (iList Z.K te) (dIList de) := fun B σ w env Φ R xr st wo sl g k =>
  h B σ w env _ _ xr st wo sl g fun d v w1 ⟨ds, e, h1⟩ s1 o1 e1 r1 => by
    subst e
    cases r1 with
    | lst hs ra => exact ⟨_, rfl, ⟨_, .of (s1.ex _ _ hs)⟩, k ds _ w1 h1 s1 o1 e1 (itok_at walk_list ra fun w' s' e' => .of (s'.ex _ _ (e' _ _ hs)))⟩
theorem ri_tup {te : TE} {de : dE} (h : RE Z te de) : RI Z (iTup Z.K te) (dITup de) := fun B σ w env Φ R xr st wo sl g k =>
  h B σ w env _ _ xr st wo sl g fun d v w1 ⟨ds, e, h1⟩ s1 o1 e1 r1 => by
    subst e
    cases r1 with
    | tup hs ra => exact ⟨_, rfl, ⟨_, s1.ex.t hs⟩, k ds _ w1 h1 s1 o1 e1 (itok_at walk_tup ra fun w' s' e' => s'.ex.t (e'.t hs))⟩
def rngD (lo : Int) (n : Nat) : List DT := (List.range n).map fun (i : Nat) => .int (lo + (i : Int))
theorem rngD_len {lo : Int} {n : Nat} : (rngD lo n).length = n := by simp [rngD]
theorem itok_range {K : Kit} {w : Wd} {lo : Int} {n : Nat} : ItOk K w (Itr lo n) (rngD lo n) := by
  refine ⟨fun _ => True, YFn fun i => V.int (lo + ↑i), by rw [rngD_len]; exact walk_range, fun _ _ _ => trivial, fun i w' x H' s e hi hy => ?_⟩
  obtain ⟨rfl, rfl⟩ := hy
  rw [rngD_len] at hi
  exact ⟨w', rfl, rfl, s, Wo.refl _, .int (lo + i), by simp [rngD, hi], .int _⟩
def dIRng1 (a : dA) : dIt := fun env μ Φ => a env μ fun ds μ1 => ∃ j, ds = [.int j] ∧ -2 ^ 62 ≤ j ∧ j < 2 ^ 62 ∧ Φ (rngD 0 j.toNat) μ1
def dIRng2 (a : dA) : dIt := fun env μ Φ => a env μ fun ds μ1 => ∃ i j, ds = [.int i, .int j] ∧ (-2 ^ 62 ≤ i ∧ i < 2 ^ 62 ∧ -2 ^ 62 ≤ j ∧ j < 2 ^ 62) ∧ Φ (rngD i (j - i).toNat) μ1
theorem ri_rng1 {ta : TA} {da : dA} (h : RA Z ta da) : RI Z (iRng1 ta) (dIRng1 da) := fun B σ w env Φ R xr st wo sl g k =>
  h B σ w env _ _ xr st wo sl g fun ds vs w1 ⟨j, e, b1, b2, h1⟩ s1 o1 e1 r1 => by
    subst e
    cases r1 with
    | cons r rr => cases r; cases rr; exact ⟨j, rfl, b1, b2, k _ _ w1 h1 s1 o1 e1 itok_range⟩
theorem ri_rng2 {ta : TA} {da : dA} (h : RA Z ta da) : RI Z (iRng2 ta) (dIRng2 da) := fun B σ w env Φ R xr st wo sl g k =>
  h B σ w env _ _ xr st wo sl g fun ds vs w1 ⟨i, j, e, b, h1⟩ s1 o1 e1 r1 => by
    subst e
    cases r1 with
    | cons r rr =>
      cases r
      cases rr with
      | cons r rr => cases r; cases rr; exact ⟨i, j, rfl, b, k _ _ w1 h1 s1 o1 e1 itok_range⟩
/-- pairs made turn by turn -/
theorem itok_pair {K : Kit} {w : Wd} {J : It} {ps : List (DT × DT)} {G : Hp → Prop} {xs ys : Nat → Option V} (wk : Walk J ps.length G (YPair xs ys))
    (r : ∀ i p, ps[i]? = some p → (∀ x, xs i = some x → Rep K w.H x p.1) ∧ (∀ y, ys i = some y → Rep K w.H y p.2)) (hG : ∀ w', Sta K w' → Ex w.H w'.H → G w'.H1) :
    ItOk K w J (ps.map fun p => .tup [p.1, p.2]) := by
  refine ⟨G, YPair xs ys, (List.length_map ..).symm ▸ wk, hG, fun i w' x H' s e hi hy => ?_⟩
  obtain ⟨T, x, y, rfl, hT, rfl, hx, hy⟩ := hy
  rw [List.length_map] at hi
  obtain ⟨s2, o2⟩ := s.new (o := .tup [x, y]) hT
  obtain ⟨r1, r2⟩ := r i ps[i] (by simp [hi])
  have e2 := e.trans o2.ex
  exact ⟨w'.new T _, rfl, rfl, s2, o2, _, by simp [hi], .tup (.of upd_same) (.cons ((r1 x hx).mono e2) (.cons ((r2 y hy).mono e2) .nil))⟩
def dIZip (a : dA) : dIt := fun env μ Φ => a env μ fun ds μ1 => ∃ xs ys, ds = [.lst xs, .lst ys] ∧ Φ ((xs.zip ys).map fun p => .tup [p.1, p.2]) μ1
theorem zip_get {α β : Type} {xs : List α} {ys : List β} {i : Nat} {p : α × β} (h : (xs.zip ys)[i]? = some p) : xs[i]? = some p.1 ∧ ys[i]? = some p.2 := by
  rw [List.getElem?_zip_eq_some] at h; exact h
theorem ri_zip {ta : TA} {da : dA} (h : RA Z ta da) : RI Z (iZip Z.K ta) (dIZip da) := fun B σ w env Φ R xr st wo sl g k =>
  h B σ w env _ _ xr st wo sl g fun ds vs w1 ⟨xs, ys, e, h1⟩ s1 o1 e1 r1 => by
    subst e
    cases r1 with
    | cons r rr =>
      cases rr with
      | cons r' rr =>
        cases rr
        cases r with
        | lst hs ra =>
          cases r' with
          | lst hs' ra' =>
            refine ⟨_, _, _, _, rfl, .of (s1.ex _ _ hs), .of (s1.ex _ _ hs'), k _ _ w1 h1 s1 o1 e1 ?_⟩
            refine itok_pair (walk_zip ?_) (fun i p hp => ?_) fun w' s' e' => ⟨.of (s'.ex _ _ (e' _ _ hs)), .of (s'.ex _ _ (e' _ _ hs'))⟩
            · rw [List.length_zip, ra.length, ra'.length]
            · obtain ⟨p1, p2⟩ := zip_get hp
              refine ⟨fun x hx => ?_, fun y hy => ?_⟩
              · obtain ⟨d, hd, rd⟩ := ra.getV hx
                rw [p1] at hd; cases hd; exact rd
              · obtain ⟨d, hd, rd⟩ := ra'.getV hy
                rw [p2] at hd; cases hd; exact rd
def dIEnum (a : dA) : dIt := fun env μ Φ => a env μ fun ds μ1 => ∃ xs, ds = [.lst xs] ∧ Φ (xs.zipIdx.map fun p => .tup [.int p.2, p.1]) μ1
theorem ri_enum {ta : TA} {da : dA} (h : RA Z ta da) : RI Z (iEnum Z.K ta) (dIEnum da) := fun B σ w env Φ R xr st wo sl g k =>
  h B σ w env _ _ xr st wo sl g fun ds vs w1 ⟨xs, e, h1⟩ s1 o1 e1 r1 => by
    subst e
    cases r1 with
    | cons r rr =>
      cases rr
      cases r with
      | lst hs ra =>
        refine ⟨_, _, rfl, .of (s1.ex _ _ hs), k _ _ w1 h1 s1 o1 e1 ?_⟩
        have q := itok_pair (K := Z.K) (w := w1) (ps := xs.zipIdx.map fun p => (DT.int p.2, p.1)) (J := Ite Z.K _) (G := fun H => SqL Z.K H _ _) (xs := fun i => some (V.int ↑i)) (ys := fun i => _) (by rw [List.length_map, List.length_zipIdx, ← ra.length]; exact walk_enum (a := ‹Addr›)) (fun i p hp => ?_) fun w' s' e' => .of (s'.ex _ _ (e' _ _ hs))
        · rw [List.map_map] at q; exact q
        · rw [List.getElem?_map, List.getElem?_zipIdx] at hp
          cases q : xs[i]? with
          | none => rw [q] at hp; cases hp
          | some d =>
            rw [q] at hp
            have e2 : (DT.int ((0 + i : Nat) : Int), d) = p := by simpa using hp
            subst e2
            refine ⟨fun x hx => ?_, fun y hy => ?_⟩
            · have e3 : V.int ↑i = x := Option.some.inj hx
              subst e3; rw [Nat.zero_add]; exact .int _
            · obtain ⟨d', hd, rd⟩ := ra.getV hy
              rw [q] at hd; cases hd; exact rd
/-! ### for -/
def dLoop (dg : dG) (db : dS) (De : dEnds) : List DT → DEnv → Mu → Prop
  | [] => De.nx
  | x :: xs => fun env μ => dg x env μ fun env' μ' => db { nx := dLoop dg db De xs, rt := De.rt, bk := De.nx, ct := dLoop dg db De xs } env' μ'
def dFor (di : dIt) (dg : dG) (db : dS) : dS := fun De env μ => di env μ fun items μ1 => dLoop dg db De items env μ1
theorem drop_at {α : Type} {xs : List α} {i : Nat} {d : α} (h : xs[i]? = some d) : xs.drop i = d :: xs.drop (i + 1) := by
  obtain ⟨hi, e⟩ := List.getElem?_eq_some_iff.mp h
  rw [List.drop_eq_getElem_cons hi, e]
theorem rs_for {ti : TI} {tg : TG} {tb : TS} {di : dIt} {dg : dG} {db : dS} {vs : List Nat} (hi : RI Z ti di) (hg : RG Z tg dg vs) (hb : RS Z tb db) : RS Z (tFor ti tg tb) (dFor di dg db) := fun B σ w env De D xr st wo sl g r =>
  hi B σ w env _ _ xr st wo sl g fun items J w1 h1 s1 o1 e1 ok => by
    obtain ⟨G, Y, wk, hG, hY⟩ := ok
    refine for_it wk (fun i => At Z w1 (dLoop dg db De (items.drop i))) ⟨env, w1, rfl, h1, s1, Wo.refl _, sl.mono e1⟩ (fun i σ' H' _ ⟨env', w', e, _, s', o', _⟩ => e ▸ hG w' s' o'.ex) (fun i x σ' H' H'' hi ⟨env', w', e, h', s', o', l'⟩ hy => ?_) fun σ' H' ⟨env', w', e, h', s', o', l'⟩ => ?_
    · subst e
      obtain ⟨w2, e2, m2, s2, o2, d, hd, rd⟩ := hY i w' x H'' s' o'.ex hi hy
      subst e2
      rw [drop_at hd] at h'
      refine hg w1 σ' w2 env' x d _ _ (xr.trans o1) s2 (o'.trans o2) (l'.mono o2.ex) rd (m2 ▸ h') fun env3 σ3 w3 h3 s3 o3 e3 l3 _ => ?_
      exact hb w1 σ3 w3 env3 _ _ (xr.trans o1) s3 o3 l3 h3 ⟨fun _ _ a => a, fun v H a => r.rt v H (a.trans o1), fun σ H a => r.nx σ H (a.trans o1), fun _ _ a => a⟩
    · rw [List.drop_length] at h'
      exact r.nx σ' H' ⟨env', w', e, h', s', o1.trans o', l'⟩
/-! ### while: an invariant over data, with a measure -/
def dWhile (t : dT) (b : dS) : dS := fun De env μ => ∃ I : Nat → DEnv → Mu → Prop, (∃ m, I m env μ) ∧ ∀ m env μ, I m env μ → t env μ fun c μ1 =>
  (c = true → b { nx := fun e u => ∃ m', m' < m ∧ I m' e u, rt := De.rt, bk := De.nx, ct := fun e u => ∃ m', m' < m ∧ I m' e u } env μ1) ∧ (c = false → De.nx env μ1)
theorem rs_while {tt : TT} {tb : TS} {dt : dT} {db : dS} (ht : RT Z tt dt) (hb : RS Z tb db) : RS Z (tWhile tt tb) (dWhile dt db) := fun B σ w env De D xr st wo sl ⟨I, ⟨m, h0⟩, hI⟩ r => by
  refine ⟨fun m => At Z B (I m), ⟨m, env, w, rfl, h0, st, wo, sl⟩, fun m σ' H' ⟨env', w', e, h', s', o', l'⟩ => ?_⟩
  subst e
  refine ht B σ' w' env' _ _ xr s' o' l' (hI m env' w'.mu h') fun c w2 h2 s2 o2 e2 => ?_
  cases c with
  | true =>
    refine ⟨fun σ3 H3 => ∃ m', m' < m ∧ At Z B (I m') σ3 H3, fun _ _ a => a, ?_⟩
    refine hb B σ' w2 env' _ _ xr s2 o2 (l'.mono e2) (h2.1 rfl) ⟨fun σ3 H3 a => ?_, r.rt, r.nx, fun σ3 H3 a => ?_⟩
    · obtain ⟨e3, w3, q, ⟨m', lt, h3⟩, x, y, z⟩ := a
      exact ⟨m', lt, e3, w3, q, h3, x, y, z⟩
    · obtain ⟨e3, w3, q, ⟨m', lt, h3⟩, x, y, z⟩ := a
      exact ⟨m', lt, e3, w3, q, h3, x, y, z⟩
  | false => exact r.nx σ' _ ⟨env', w2, rfl, h2.2 rfl, s2, o2, l'.mono e2⟩
/-! ### comprehensions -/
def wipeD (env : DEnv) : List Nat → DEnv
  | [] => env
  | i :: is => (wipeD env is).set i none
theorem Slo.setN {K : Kit} {H : Hp} {σ : L2.St} {env : DEnv} (s : Slo K H σ env) (i : Nat) : Slo K H (σ.set i none) (env.set i none) := ⟨by simp [s.len], fun j d' h => by
  by_cases e : j = i
  · subst e
    rw [List.getElem?_set, if_pos rfl] at h
    split at h <;> cases h
  · rw [List.getElem?_set_ne (Ne.symm e)] at h ⊢
    exact s.get j d' h⟩
theorem Slo.wipe {K : Kit} {H : Hp} {σ : L2.St} {env : DEnv} (s : Slo K H σ env) : ∀ vs, Slo K H (L2.wipe σ vs) (wipeD env vs)
  | [] => s
  | i :: is => (s.wipe is).setN i
theorem wipe_comm (vs : List Nat) (σ : L2.St) (i : Nat) : (wipe (σ.set i none) vs).set i none = (wipe σ vs).set i none := by
  have := wipe_set (i :: vs) σ i none (.head _)
  exact this
theorem wipe_setc : ∀ (vs : List Nat) (σ : L2.St) (i : Nat), wipe (σ.set i none) vs = (wipe σ vs).set i none
  | [], _, _ => rfl
  | v :: vs, σ, i => by
    show (wipe (σ.set i none) vs).set v none = ((wipe σ vs).set v none).set i none
    rw [wipe_setc vs σ i]
    by_cases e : i = v
    · subst e; rfl
    · rw [List.set_comm _ _ e]
theorem wipe_wipe (vs : List Nat) (σ : L2.St) : wipe (wipe σ vs) vs = wipe σ vs := by
  induction vs with
  | nil => rfl
  | cons v vs ih =>
    show (wipe ((wipe σ vs).set v none) vs).set v none = (wipe σ vs).set v none
    rw [wipe_setc, ih, List.set_set]
def dYes : dT := fun _ μ Φ => Φ true μ
theorem rt_yes : RT Z tYes dYes := fun B σ w env Φ Q xr st wo sl g k => k true w g st wo (Ex.refl _)
def dLcGo (dg : dG) (dt : dT) (de : dE) (env : DEnv) : List DT → List DT → Mu → (List DT → Mu → Prop) → Prop
  | [], acc, μ, Φ => Φ acc μ
  | x :: xs, acc, μ, Φ => dg x env μ fun env' μ' => dt env' μ' fun b μ2 => (b = true → de env' μ2 fun y μ3 => Small acc ∧ dLcGo dg dt de env xs (acc ++ [y]) μ3 Φ) ∧ (b = false → dLcGo dg dt de env xs acc μ2 Φ)
def dLcR (di : dIt) (dg : dG) (dt : dT) (de : dE) (vs : List Nat) : DEnv → Mu → (List DT → Mu → Prop) → Prop := fun env μ Φ => di env μ fun items μ1 => dLcGo dg dt de (wipeD env vs) items [] μ1 Φ
def dLc (di : dIt) (dg : dG) (dt : dT) (de : dE) (vs : List Nat) : dE := fun env μ Φ => dLcR di dg dt de vs env μ fun acc μ1 => Φ (.lst acc) μ1
/-- .. a list that will change -/
def dLcM (di : dIt) (dg : dG) (dt : dT) (de : dE) (vs : List Nat) : dE := fun env μ Φ => dLcR di dg dt de vs env μ fun acc μ1 => ∀ p, μ1 p = none → Φ (.adr p) (μ1.put p (.lst acc))
theorem Small.lt {ds : List DT} {n : Nat} (h : Small ds) (e : n = ds.length) : n < sizeLine := by
  rw [e]; exact Nat.lt_of_le_of_lt h (by decide)
theorem re_lcR {ti : TI} {tg : TG} {tt : TT} {te : TE} {di : dIt} {dg : dG} {dt : dT} {de : dE} {vs : List Nat} (hi : RI Z ti di) (hg : RG Z.calm tg dg vs) (ht : RT Z.calm tt dt) (he : RE Z.calm te de)
    {B : Wd} {σ : L2.St} {w : Wd} {env : DEnv} {Φ : List DT → Mu → Prop} {Q : VK} (xr : XR Z.K B Z.E Z.Ψ) (st : Sta Z.K w) (wo : Wo B w) (sl : Slo Z.K w.H σ env) (g : dLcR di dg dt de vs env w.mu Φ)
    (k : ∀ acc accV p w', Φ acc w'.mu → Sta Z.K w' → Wo B w' → Ex w.H w'.H → w'.H1 p = some (.lst accV) → w'.H p = none → w'.mu p = none → (∀ u, (∀ ps, u ≠ .tbl ps) → B.H1 p = some u → B.H p = none → B.mu p = none → False) → RepAll Z.K w'.H accV acc → Q (.ref p) w'.H1) :
    tLc ti tg tt te vs σ w.H1 Q :=
  hi B σ w env _ _ xr st wo sl g fun items J w1 h1 s1 o1 e1 ok p hp => by
    obtain ⟨G, Y, wk, hG, hY⟩ := ok
    obtain ⟨n1, n2⟩ := s1.nil hp
    have hB : ∀ u, (∀ ps, u ≠ .tbl ps) → B.H1 p = some u → B.H p = none → B.mu p = none → False := fun u nt q1 q2 q3 => by
      have := (o1.fr p u q1 q2 q3 nt).1; rw [hp] at this; cases this
    refine lc_it wk (fun i H => ∃ (w' : Wd) (acc : List DT) (accV : List V), w'.H1 = H ∧ dLcGo dg dt de (wipeD env vs) (items.drop i) acc w'.mu Φ ∧ Sta Z.K w' ∧ Wo w1 w' ∧ w'.H1 p = some (.lst accV) ∧ w'.H p = none ∧ w'.mu p = none ∧ RepAll Z.K w'.H accV acc)
      ⟨w1.outw p (.lst []), [], [], rfl, (show dLcGo dg dt de (wipeD env vs) items [] w1.mu Φ from h1), s1.outw n1 n2 (noTab_none hp), (Wo.refl w1).outw hp, upd_same, n1, n2, .nil⟩ (fun i H hi ⟨w', acc, accV, e, _, s', o', _⟩ => e ▸ hG w' s' o'.ex) (fun i x H H' hi ⟨w', acc, accV, e, h', s', o', q1, q2, q3, ra⟩ hy => ?_) fun H ⟨w', acc, accV, e, h', s', o', q1, q2, q3, ra⟩ => ?_
    · subst e
      obtain ⟨w2, e2, m2, s2, o2, d, hd, rd⟩ := hY i w' x H' s' o'.ex hi hy
      subst e2
      obtain ⟨q1, q2, q3⟩ := o2.fr p _ q1 q2 q3 (fun _ z => by cases z)
      rw [drop_at hd] at h'
      have ex2 : Ex w.H w2.H := (e1.trans o'.ex).trans o2.ex
      refine hg w2 (wipe σ vs) w2 (wipeD env vs) x d _ _ XR.no s2 (Wo.refl _) ((sl.mono ex2).wipe vs) rd (m2 ▸ h') fun env3 σ3 w3 h3 s3 o3 e3 l3 wp => ?_
      refine ⟨wp.trans (wipe_wipe vs σ), ?_⟩
      refine ht w2 σ3 w3 env3 _ _ XR.no s3 o3 l3 h3 fun b w4 h4 s4 o4 e4 => ?_
      cases b with
      | true =>
        refine he w2 σ3 w4 env3 _ _ XR.no s4 o4 (l3.mono e4) (h4.1 rfl) fun d5 v5 w5 h5 s5 o5 e5 r5 => ?_
        obtain ⟨z1, z2, z3⟩ := o5.fr p _ q1 q2 q3 (fun _ z => by cases z)
        refine ⟨accV, z1, h5.1.lt ra.length, ?_⟩
        exact ⟨w5.outw p (.lst (accV ++ [v5])), acc ++ [d5], accV ++ [v5], rfl, h5.2, s5.outw z2 z3 (noTab_lst z1), ((o'.trans o2).trans o5).outw hp, upd_same, z2, z3, (ra.mono (o2.ex.trans o5.ex)).append (.cons r5 .nil)⟩
      | false =>
        obtain ⟨z1, z2, z3⟩ := o4.fr p _ q1 q2 q3 (fun _ z => by cases z)
        exact ⟨w4, acc, accV, rfl, h4.2 rfl, s4, (o'.trans o2).trans o4, z1, z2, z3, ra.mono (o2.ex.trans o4.ex)⟩
    · subst e
      rw [List.drop_length] at h'
      exact k acc accV p w' h' s' (o1.trans o') (e1.trans o'.ex) q1 q2 q3 hB ra
theorem re_lc {ti : TI} {tg : TG} {tt : TT} {te : TE} {di : dIt} {dg : dG} {dt : dT} {de : dE} {vs : List Nat} (hi : RI Z ti di) (hg : RG Z.calm tg dg vs) (ht : RT Z.calm tt dt) (he : RE Z.calm te de) : RE Z (tLc ti tg tt te vs) (dLc di dg dt de vs) := fun B σ w env Φ Q xr st wo sl g k =>
  re_lcR hi hg ht he xr st wo sl g fun acc accV p w' h' s' o' e' q1 q2 q3 hB ra =>
    k _ _ (w'.know p (.lst accV)) h' (s'.know q1 q2 q3) (o'.know q2 hB) (e'.trans (Ex.new q2)) (.lst upd_same (ra.mono (Ex.new q2)))
theorem re_lcM {ti : TI} {tg : TG} {tt : TT} {te : TE} {di : dIt} {dg : dG} {dt : dT} {de : dE} {vs : List Nat} (hi : RI Z ti di) (hg : RG Z.calm tg dg vs) (ht : RT Z.calm tt dt) (he : RE Z.calm te de) : RE Z (tLc ti tg tt te vs) (dLcM di dg dt de vs) := fun B σ w env Φ Q xr st wo sl g k =>
  re_lcR hi hg ht he xr st wo sl g fun acc accV p w' h' s' o' e' q1 q2 q3 hB ra =>
    k _ _ (w'.give p (.lst acc)) (h' p q3) (s'.give q2 q3 ⟨accV, q1, ra⟩) (o'.give hB) e' (.adr p)
end
end SW


/-! SWRd3: readings over data: sequences, comparisons, builtins, lists that change, fields of objects. -/
namespace SW
open PySem L2 PyProof.Rows
/-! ### sequences -/
def seqOf (μ : Mu) : DT → Option (List DT)
  | .tup ds => some ds
  | .lst ds => some ds
  | .scr ns => some (ns.map .int)
  | .adr a => match μ a with
    | some (.lst ds) => some ds
    | _ => none
  | _ => none
def lstOf (μ : Mu) : DT → Option (List DT)
  | .lst ds => some ds
  | .scr ns => some (ns.map .int)
  | .adr a => match μ a with
    | some (.lst ds) => some ds
    | _ => none
  | _ => none
section
variable {K : Kit} {w : Wd} {v : V} {d : DT} {ds : List DT}
theorem lst_at (s : Sta K w) (r : Rep K w.H v d) (h : lstOf w.mu d = some ds) : ∃ p xs, v = .ref p ∧ SqL K w.H1 p xs ∧ RepAll K w.H xs ds := by
  cases r with
  | lst hs ra => cases h; exact ⟨_, _, rfl, .of (s.ex _ _ hs), ra⟩
  | scr hs => cases h; exact ⟨_, _, rfl, s.ex.l hs, RepAll.of_ints _⟩
  | adr a =>
    cases q : w.mu a with
    | none => simp only [lstOf, q] at h; cases h
    | some m =>
      cases m with
      | lst es =>
        simp only [lstOf, q] at h; cases h
        obtain ⟨_, xs, e, ra⟩ := s.mu a _ q
        exact ⟨a, xs, rfl, .of e, ra⟩
      | obj C fs => simp only [lstOf, q] at h; cases h
      | dct _ => simp only [lstOf, q] at h; cases h
      | dcs _ => simp only [lstOf, q] at h; cases h
  | _ => cases h
theorem seq_at (s : Sta K w) (r : Rep K w.H v d) (h : seqOf w.mu d = some ds) : ∃ p xs, v = .ref p ∧ (SqL K w.H1 p xs ∨ SqT K w.H1 p xs) ∧ RepAll K w.H xs ds := by
  cases r with
  | tup hs ra => cases h; exact ⟨_, _, rfl, .inr (s.ex.t hs), ra⟩
  | lst hs ra => obtain ⟨p, xs, e, l, r⟩ := lst_at s (.lst hs ra) (ds := ds) h; exact ⟨p, xs, e, .inl l, r⟩
  | scr hs => obtain ⟨p, xs, e, l, r⟩ := lst_at s (.scr hs) (ds := ds) h; exact ⟨p, xs, e, .inl l, r⟩
  | adr a => obtain ⟨p, xs, e, l, r⟩ := lst_at s (.adr a) (ds := ds) h; exact ⟨p, xs, e, .inl l, r⟩
  | _ => cases h
end
theorem at_rep {K : Kit} {H : Hp} {xs : List V} {ds : List DT} {i : Int} {d : DT} (r : RepAll K H xs ds) (h : atI ds i = some d) : ∃ v, atI xs i = some v ∧ Rep K H v d := by
  unfold atI at h ⊢
  rw [r.length]
  cases q : ixN ds.length i with
  | none => rw [q] at h; cases h
  | some j => rw [q] at h; exact r.get h
def cutD {α : Type} (xs : List α) (lo hi : Option Int) : List α := (xs.drop (HT.sIx xs.length 0 lo)).take (HT.sIx xs.length xs.length hi - HT.sIx xs.length 0 lo)
theorem RepAll.cut {K : Kit} {H : Hp} {xs : List V} {ds : List DT} (r : RepAll K H xs ds) (lo hi : Option Int) : RepAll K H (cutV xs lo hi) (cutD ds lo hi) := by
  unfold cutV cutD
  rw [r.length]
  exact (r.drop _).take _
section
variable {Z : Bd}
/-- a step that changes nothing known: done at the same state -/
theorem done {B w : Wd} {Φ : PK} {Q : VK} {v : V} {d : DT} (st : Sta Z.K w) (wo : Wo B w) (k : Go Z B w Φ Q) (h : Φ d w.mu) (r : Rep Z.K w.H v d) : Q v w.H1 := k d v w h st wo (Ex.refl _) r
/-- .. with a new known object -/
theorem doneN {B w : Wd} {Φ : PK} {Q : VK} {p : Addr} {o : HO} {d : DT} (st : Sta Z.K w) (wo : Wo B w) (k : Go Z B w Φ Q) (hp : w.H1 p = none) (h : Φ d w.mu) (r : ∀ e : Ex w.H (upd w.H p o), Rep Z.K (upd w.H p o) (.ref p) d) (ho : ∀ ps, o ≠ .tbl ps := by intro _ z; cases z) : Q (.ref p) (upd w.H1 p o) := by
  obtain ⟨s2, o2⟩ := st.new (o := o) hp ho
  exact k d (.ref p) (w.new p o) h s2 (wo.trans o2) o2.ex (r o2.ex)
/-- .. with a new object that may change -/
theorem doneM {B w : Wd} {Φ : PK} {Q : VK} {p : Addr} {xs : List V} {ds : List DT} (st : Sta Z.K w) (wo : Wo B w) (k : Go Z B w Φ Q) (hp : w.H1 p = none) (h : Φ (.adr p) (w.mu.put p (.lst ds))) (r : RepAll Z.K w.H xs ds) : Q (.ref p) (upd w.H1 p (.lst xs)) := by
  obtain ⟨s2, o2⟩ := st.newM (o := .lst xs) (m := .lst ds) hp ⟨xs, upd_same, r⟩
  exact k _ _ (w.newM p _ _) h s2 (wo.trans o2) o2.ex (.adr p)
def dIx : dR2 := fun x y μ Φ => ∃ ds i d, seqOf μ x = some ds ∧ y = .int i ∧ atI ds i = some d ∧ Φ d μ
theorem ro_ix : RO Z (rIx Z.K) dIx := fun B w x y dx dy Φ Q st wo rx ry h k => by
  obtain ⟨ds, i, d, h1, rfl, h2, h⟩ := h
  cases ry
  obtain ⟨p, xs, rfl, hs, ra⟩ := seq_at st rx h1
  obtain ⟨v, hv, rv⟩ := at_rep ra h2
  rcases hs with hs | hs
  · exact .inl ⟨p, xs, i, v, rfl, rfl, hs, hv, done st wo k h rv⟩
  · exact .inr (.inl ⟨p, xs, i, v, rfl, rfl, hs, hv, done st wo k h rv⟩)
/-! ### slices -/
abbrev dO := DEnv → Mu → (Option Int → Mu → Prop) → Prop
def RP (Z : Bd) (to : TO) (d : dO) : Prop := ∀ (B : Wd) (σ : L2.St) (w : Wd) (env : DEnv) (Φ : Option Int → Mu → Prop) (Q : Option Int → Hp → Prop), XR Z.K B Z.E Z.Ψ → Sta Z.K w → Wo B w → Slo Z.K w.H σ env → d env w.mu Φ →
  (∀ b w', Φ b w'.mu → Sta Z.K w' → Wo B w' → Ex w.H w'.H → Q b w'.H1) → to σ w.H1 Q
def dNoPart : dO := fun _ μ Φ => Φ none μ
def dPart (e : dE) : dO := fun env μ Φ => e env μ fun d μ1 => ∃ i, d = .int i ∧ Φ (some i) μ1
theorem rp_no : RP Z tNoPart dNoPart := fun B σ w env Φ Q xr st wo sl g k => k none w g st wo (Ex.refl _)
theorem rp_part {te : TE} {de : dE} (h : RE Z te de) : RP Z (tPart te) (dPart de) := fun B σ w env Φ Q xr st wo sl g k =>
  h B σ w env _ _ xr st wo sl g fun d v w1 ⟨i, e, h1⟩ s1 o1 e1 r1 => by
    subst e; cases r1
    exact ⟨i, rfl, k _ w1 h1 s1 o1 e1⟩
abbrev dSlR := DT → Option Int → Option Int → Mu → PK → Prop
def RSl (Z : Bd) (r : V → Option Int → Option Int → Hp → VK → Prop) (f : dSlR) : Prop := ∀ (B w : Wd) (x : V) (dx : DT) (lo hi : Option Int) (Φ : PK) (Q : VK), Sta Z.K w → Wo B w → Rep Z.K w.H x dx → f dx lo hi w.mu Φ → Go Z B w Φ Q → r x lo hi w.H1 Q
def dSl (f : dSlR) (e : dE) (l h : dO) : dE := fun env μ Φ => e env μ fun d μ1 => l env μ1 fun i μ2 => h env μ2 fun j μ3 => f d i j μ3 Φ
theorem re_sl {r : V → Option Int → Option Int → Hp → VK → Prop} {f : dSlR} {te : TE} {tl th : TO} {de : dE} {dl dh : dO} (hr : RSl Z r f) (he : RE Z te de) (hl : RP Z tl dl) (hh : RP Z th dh) : RE Z (tSl r te tl th) (dSl f de dl dh) := fun B σ w env Φ Q xr st wo sl g k =>
  he B σ w env _ _ xr st wo sl g fun d v w1 h1 s1 o1 e1 r1 =>
    hl B σ w1 env _ _ xr s1 o1 (sl.mono e1) h1 fun i w2 h2 s2 o2 e2 =>
      hh B σ w2 env _ _ xr s2 o2 ((sl.mono e1).mono e2) h2 fun j w3 h3 s3 o3 e3 =>
        hr B w3 v d i j Φ Q s3 o3 ((r1.mono e2).mono e3) h3 fun d4 v4 w4 h4 s4 o4 e4 r4 => k d4 v4 w4 h4 s4 o4 (((e1.trans e2).trans e3).trans e4) r4
def dSlT : dSlR := fun d lo hi μ Φ => ∃ ds, d = .tup ds ∧ Φ (.tup (cutD ds lo hi)) μ
def dSlL : dSlR := fun d lo hi μ Φ => ∃ ds, lstOf μ d = some ds ∧ Φ (.lst (cutD ds lo hi)) μ
theorem cut_all {α : Type} {xs : List α} {lo hi : Option Int} (h : HT.sIx xs.length 0 lo = 0 ∧ HT.sIx xs.length xs.length hi = xs.length) : cutD xs lo hi = xs := by
  unfold cutD; rw [h.1, h.2]; simp
theorem rsl_t : RSl Z (rSlA Z.K) dSlT := fun B w x dx lo hi Φ Q st wo rx h k => by
  obtain ⟨ds, rfl, h⟩ := h
  cases rx with
  | tup hs ra =>
    refine ⟨_, _, rfl, st.ex.t hs, fun q => ?_, fun _ p hp => doneN st wo k hp h fun e => .tup (.of upd_same) ((ra.cut lo hi).mono e)⟩
    rw [ra.length] at q
    rw [cut_all q] at h
    exact done st wo k h (.tup hs ra)
theorem rsl_l : RSl Z (rSlL Z.K) dSlL := fun B w x dx lo hi Φ Q st wo rx h k => by
  obtain ⟨ds, h1, h⟩ := h
  obtain ⟨p, xs, rfl, hs, ra⟩ := lst_at st rx h1
  exact ⟨_, _, rfl, hs, fun p hp => doneN st wo k hp h fun e => .lst upd_same ((ra.cut lo hi).mono e)⟩
/-! ### builtins -/
theorem rall1 {K : Kit} {H : Hp} {xs : List V} {d : DT} (r : RepAll K H xs [d]) : ∃ x, xs = [x] ∧ Rep K H x d := by
  cases r with
  | cons r rr => cases rr; exact ⟨_, rfl, r⟩
theorem rall2 {K : Kit} {H : Hp} {xs : List V} {d d' : DT} (r : RepAll K H xs [d, d']) : ∃ x y, xs = [x, y] ∧ Rep K H x d ∧ Rep K H y d' := by
  cases r with
  | cons r rr =>
    obtain ⟨y, rfl, h⟩ := rall1 rr
    exact ⟨_, y, rfl, r, h⟩
def dAbs : dRC := fun ds μ Φ => ∃ i, ds = [.int i] ∧ Φ (.int (if i < 0 then -i else i)) μ
theorem rc_abs : RC Z bAbs dAbs := fun B w xs dx Φ Q st wo r h k => by
  obtain ⟨i, rfl, h⟩ := h
  obtain ⟨x, rfl, r1⟩ := rall1 r
  cases r1
  exact ⟨i, rfl, done st wo k h (.int _)⟩
def dInt : dRC := fun ds μ Φ => (∃ i, ds = [.int i] ∧ Φ (.int i) μ) ∨ ∃ b, ds = [.bl b] ∧ Φ (.int (if b then 1 else 0)) μ
theorem rc_int : RC Z bInt dInt := fun B w xs dx Φ Q st wo r h k => by
  rcases h with ⟨i, rfl, h⟩ | ⟨b, rfl, h⟩
  · obtain ⟨x, rfl, r1⟩ := rall1 r
    cases r1
    exact .inl ⟨i, rfl, done st wo k h (.int _)⟩
  · obtain ⟨x, rfl, r1⟩ := rall1 r
    cases r1
    exact .inr ⟨b, rfl, done st wo k h (.int _)⟩
def dMax2 : dRC := fun ds μ Φ => ∃ i j, ds = [.int i, .int j] ∧ Φ (.int (if j > i then j else i)) μ
def dMin2 : dRC := fun ds μ Φ => ∃ i j, ds = [.int i, .int j] ∧ Φ (.int (if j < i then j else i)) μ
theorem rc_max2 : RC Z bMax2 dMax2 := fun B w xs dx Φ Q st wo r h k => by
  obtain ⟨i, j, rfl, h⟩ := h
  obtain ⟨x, y, rfl, r1, r2⟩ := rall2 r
  cases r1; cases r2
  exact ⟨i, j, rfl, done st wo k h (.int _)⟩
theorem rc_min2 : RC Z bMin2 dMin2 := fun B w xs dx Φ Q st wo r h k => by
  obtain ⟨i, j, rfl, h⟩ := h
  obtain ⟨x, y, rfl, r1, r2⟩ := rall2 r
  cases r1; cases r2
  exact ⟨i, j, rfl, done st wo k h (.int _)⟩
def dDivmod : dRC := fun ds μ Φ => ∃ i j, ds = [.int i, .int j] ∧ CDivP i j ∧ Φ (.tup [.int (i / j), .int (i % j)]) μ
theorem rc_divmod : RC Z bDivmod dDivmod := fun B w xs dx Φ Q st wo r h k => by
  obtain ⟨i, j, rfl, c, h⟩ := h
  obtain ⟨x, y, rfl, r1, r2⟩ := rall2 r
  cases r1; cases r2
  exact ⟨i, j, rfl, c, fun p hp => doneN st wo k hp h fun e => .tup (.of upd_same) (.cons (.int _) (.cons (.int _) .nil))⟩
def dLen : dRC := fun ds μ Φ => ∃ x xs, ds = [x] ∧ seqOf μ x = some xs ∧ Φ (.int xs.length) μ
theorem rc_len : RC Z (bLen Z.K) dLen := fun B w xs dx Φ Q st wo r h k => by
  obtain ⟨x, ys, rfl, h1, h⟩ := h
  obtain ⟨v, rfl, r1⟩ := rall1 r
  obtain ⟨p, zs, rfl, hs, ra⟩ := seq_at st r1 h1
  refine ⟨p, zs, rfl, hs, ?_⟩
  rw [ra.length]
  exact done st wo k h (.int _)
def dList : dRC := fun ds μ Φ => ∃ x xs, ds = [x] ∧ seqOf μ x = some xs ∧ Φ (.lst xs) μ
def dListM : dRC := fun ds μ Φ => ∃ x xs, ds = [x] ∧ seqOf μ x = some xs ∧ ∀ p, μ p = none → Φ (.adr p) (μ.put p (.lst xs))
theorem rc_list : RC Z (bList Z.K) dList := fun B w xs dx Φ Q st wo r h k => by
  obtain ⟨x, ys, rfl, h1, h⟩ := h
  obtain ⟨v, rfl, r1⟩ := rall1 r
  obtain ⟨p, zs, rfl, hs, ra⟩ := seq_at st r1 h1
  exact ⟨p, zs, rfl, hs, fun p hp => doneN st wo k hp h fun e => .lst upd_same (ra.mono e)⟩
theorem rc_listM : RC Z (bList Z.K) dListM := fun B w xs dx Φ Q st wo r h k => by
  obtain ⟨x, ys, rfl, h1, h⟩ := h
  obtain ⟨v, rfl, r1⟩ := rall1 r
  obtain ⟨p, zs, rfl, hs, ra⟩ := seq_at st r1 h1
  exact ⟨p, zs, rfl, hs, fun p hp => doneM st wo k hp (h p (st.nil hp).2) ra⟩
abbrev bTuple (K : Frag) : List V → Hp → VK → Prop := fun xs H Q => ∃ p ys, xs = [.ref p] ∧ ((SqL K H p ys ∧ ∀ l, H l = none → Q (.ref l) (upd H l (.tup ys))) ∨ SqT K H p ys ∧ Q (.ref p) H)
def dTuple : dRC := fun ds μ Φ => ∃ x xs, ds = [x] ∧ seqOf μ x = some xs ∧ Φ (.tup xs) μ
theorem rc_tuple : RC Z (bTuple Z.K) dTuple := fun B w xs dx Φ Q st wo r h k => by
  obtain ⟨x, ys, rfl, h1, h⟩ := h
  obtain ⟨v, rfl, r1⟩ := rall1 r
  have old : ∀ {d : DT}, lstOf w.mu d = some ys → Rep Z.K w.H v d → bTuple Z.K [v] w.H1 Q := fun {d} h1 r => by
    obtain ⟨p, zs, rfl, hs, ra⟩ := lst_at st r h1
    exact ⟨p, zs, rfl, .inl ⟨hs, fun l hl => doneN st wo k hl h fun e => .tup (.of upd_same) (ra.mono e)⟩⟩
  cases r1 with
  | tup hs ra => cases h1; exact ⟨_, _, rfl, .inr ⟨st.ex.t hs, done st wo k h (.tup hs ra)⟩⟩
  | lst hs ra => exact old (d := .lst _) h1 (.lst hs ra)
  | scr hs => exact old (d := .scr _) h1 (.scr hs)
  | adr a => exact old (d := .adr a) h1 (.adr a)
  | _ => cases h1
def dSum : dRC := fun ds μ Φ => ∃ (x : DT) (ns : List Int), ds = [x] ∧ lstOf μ x = some (ns.map .int) ∧ Φ (.int ns.sum) μ
theorem rc_sum : RC Z (rSum Z.K) dSum := fun B w xs dx Φ Q st wo r h k => by
  obtain ⟨x, ns, rfl, h1, h⟩ := h
  obtain ⟨v, rfl, r1⟩ := rall1 r
  obtain ⟨p, zs, rfl, hs, ra⟩ := lst_at st r1 h1
  rw [ra.ints] at hs
  exact ⟨p, ns, rfl, hs, done st wo k h (.int _)⟩
def dAll : dRC := fun ds μ Φ => ∃ (x : DT) (bs : List Bool), ds = [x] ∧ lstOf μ x = some (bs.map .bl) ∧ Φ (.bl (bs.all id)) μ
theorem rc_all : RC Z (rAll Z.K) dAll := fun B w xs dx Φ Q st wo r h k => by
  obtain ⟨x, ns, rfl, h1, h⟩ := h
  obtain ⟨v, rfl, r1⟩ := rall1 r
  obtain ⟨p, zs, rfl, hs, ra⟩ := lst_at st r1 h1
  rw [ra.bools] at hs
  exact ⟨p, ns, rfl, hs, done st wo k h (.bl _)⟩
/-! ### comparisons -/
def dEq : dR2 := fun x y μ Φ => (∃ i j, x = .int i ∧ y = .int j ∧ Φ (.bl (decide (i = j))) μ) ∨ (∃ i j, x = .str i ∧ y = .str j ∧ Φ (.bl (decide (i = j))) μ) ∨ (∃ i j, x = .bl i ∧ y = .bl j ∧ Φ (.bl (decide (i = j))) μ)
def dNe : dR2 := fun x y μ Φ => (∃ i j, x = .int i ∧ y = .int j ∧ Φ (.bl (!decide (i = j))) μ) ∨ (∃ i j, x = .str i ∧ y = .str j ∧ Φ (.bl (!decide (i = j))) μ) ∨ (∃ i j, x = .bl i ∧ y = .bl j ∧ Φ (.bl (!decide (i = j))) μ)
theorem dec_int {i j : Int} : decide (V.int i = V.int j) = decide (i = j) := by simp
theorem dec_str {i j : Str} : decide (V.str i = V.str j) = decide (i = j) := by simp
theorem dec_bl {i j : Bool} : decide (V.bl i = V.bl j) = decide (i = j) := by simp
theorem ro_eq : RO Z rEq dEq := fun B w x y dx dy Φ Q st wo rx ry h k => by
  rcases h with ⟨i, j, rfl, rfl, h⟩ | ⟨i, j, rfl, rfl, h⟩ | ⟨i, j, rfl, rfl, h⟩ <;> cases rx <;> cases ry
  · exact ⟨rfl, by rw [dec_int]; exact done st wo k h (.bl _)⟩
  · exact ⟨rfl, by rw [dec_str]; exact done st wo k h (.bl _)⟩
  · exact ⟨rfl, by rw [dec_bl]; exact done st wo k h (.bl _)⟩
theorem ro_ne : RO Z rNe dNe := fun B w x y dx dy Φ Q st wo rx ry h k => by
  rcases h with ⟨i, j, rfl, rfl, h⟩ | ⟨i, j, rfl, rfl, h⟩ | ⟨i, j, rfl, rfl, h⟩ <;> cases rx <;> cases ry
  · exact ⟨rfl, by rw [dec_int]; exact done st wo k h (.bl _)⟩
  · exact ⟨rfl, by rw [dec_str]; exact done st wo k h (.bl _)⟩
  · exact ⟨rfl, by rw [dec_bl]; exact done st wo k h (.bl _)⟩
def isNon : DT → Bool
  | .non => true
  | _ => false
theorem rep_non {K : Kit} {H : Hp} {v : V} {d : DT} (r : Rep K H v d) : decide (v = V.non) = isNon d := by
  cases r <;> first | rfl | exact decide_eq_false (fun z => nomatch z)
def dIsN : dR2 := fun x y μ Φ => y = .non ∧ Φ (.bl (isNon x)) μ
def dNotN : dR2 := fun x y μ Φ => y = .non ∧ Φ (.bl (!isNon x)) μ
theorem ro_isN : RO Z rIsN dIsN := fun B w x y dx dy Φ Q st wo rx ry h k => by
  obtain ⟨rfl, h⟩ := h
  cases ry
  exact ⟨rfl, by rw [rep_non rx]; exact done st wo k h (.bl _)⟩
theorem ro_notN : RO Z rNotN dNotN := fun B w x y dx dy Φ Q st wo rx ry h k => by
  obtain ⟨rfl, h⟩ := h
  cases ry
  exact ⟨rfl, by rw [rep_non rx]; exact done st wo k h (.bl _)⟩
/-! ### deep comparisons: plain data -/
mutual
def pyOf : DT → PyData
  | .non => .none
  | .bl b => .bool b
  | .int i => .int i
  | .str s => .str s
  | .tup ds => .tuple (pyAll ds)
  | .lst ds => .list (pyAll ds)
  | .scr ns => .list (ns.map .int)
  | _ => .none
def pyAll : List DT → List PyData
  | [] => []
  | d :: ds => pyOf d :: pyAll ds
end
/-! plain data at most n deep, texts that stand -/
mutual
def okN : Nat → DT → Bool
  | _, .non => true
  | _, .bl _ => true
  | _, .int _ => true
  | _, .str s => PyData.strOk s
  | n, .tup ds => match n with
    | 0 => false
    | m + 1 => okAll m ds
  | n, .lst ds => match n with
    | 0 => false
    | m + 1 => okAll m ds
  | _, _ => false
def okAll : Nat → List DT → Bool
  | _, [] => true
  | n, d :: ds => okN n d && okAll n ds
end
mutual
theorem ok_lay : ∀ {n : Nat} {d : DT}, okN n d = true → (pyOf d).canLay0 = true ∧ (pyOf d).depth ≤ n
  | _, .non, _ => ⟨rfl, Nat.zero_le _⟩
  | _, .bl _, _ => ⟨rfl, Nat.zero_le _⟩
  | _, .int _, _ => ⟨rfl, Nat.zero_le _⟩
  | _, .str s, h => ⟨by simpa only [okN, pyOf, PyData.canLay0] using h, Nat.zero_le _⟩
  | 0, .tup ds, h => by simp only [okN] at h; cases h
  | 0, .lst ds, h => by simp only [okN] at h; cases h
  | n + 1, .tup ds, h => by
    obtain ⟨a, b⟩ := ok_layAll (n := n) (ds := ds) (by simpa only [okN] using h)
    exact ⟨by simpa only [pyOf, PyData.canLay0] using a, by simp only [pyOf, PyData.depth]; omega⟩
  | n + 1, .lst ds, h => by
    obtain ⟨a, b⟩ := ok_layAll (n := n) (ds := ds) (by simpa only [okN] using h)
    exact ⟨by simpa only [pyOf, PyData.canLay0] using a, by simp only [pyOf, PyData.depth]; omega⟩
  | _, .obj _ _, h => by simp only [okN] at h; cases h
  | _, .dct _, h => by simp only [okN] at h; cases h
  | _, .dcs _, h => by simp only [okN] at h; cases h
  | _, .adr _, h => by simp only [okN] at h; cases h
  | _, .scr _, h => by simp only [okN] at h; cases h
theorem ok_layAll : ∀ {n : Nat} {ds : List DT}, okAll n ds = true → PyData.canLayAll0 (pyAll ds) = true ∧ PyData.depthAll (pyAll ds) ≤ n
  | _, [], _ => ⟨rfl, Nat.zero_le _⟩
  | n, d :: ds, h => by
    simp only [okAll, Bool.and_eq_true] at h
    obtain ⟨a, b⟩ := ok_lay h.1
    obtain ⟨a', b'⟩ := ok_layAll h.2
    exact ⟨by simp only [pyAll, PyData.canLayAll0, a, a', Bool.and_self], by simp only [pyAll, PyData.depthAll]; omega⟩
end
theorem ok_shaped {n : Nat} {d : DT} (h : okN n d = true) (hn : n ≤ 64) : SeqAt.shaped (pyOf d) = true := by
  obtain ⟨a, b⟩ := ok_lay h
  unfold SeqAt.shaped
  rw [a, Bool.true_and]
  exact decide_eq_true (Nat.le_trans b hn)
mutual
theorem Rep.dp {K : Kit} {H : Hp} : ∀ {n : Nat} {v : V} {d : DT}, Rep K H v d → okN n d = true → Dp K H v (pyOf d)
  | _, _, _, .non, _ => .non
  | _, _, _, .bl b, _ => .bl b
  | _, _, _, .int b, _ => .int b
  | _, _, _, .str b, _ => .str b
  | 0, _, _, .tup hs r, h => by simp only [okN] at h; cases h
  | 0, _, _, .lst hs r, h => by simp only [okN] at h; cases h
  | n + 1, _, _, .tup hs r, h => .tup hs (RepAll.dp (n := n) r (by simpa only [okN] using h))
  | n + 1, _, _, .lst hs r, h => .lst (.of hs) (RepAll.dp (n := n) r (by simpa only [okN] using h))
  | _, _, _, .obj _ _, h => by simp only [okN] at h; cases h
  | _, _, _, .adr _, h => by simp only [okN] at h; cases h
  | _, _, _, .scr _, h => by simp only [okN] at h; cases h
theorem RepAll.dp {K : Kit} {H : Hp} : ∀ {n : Nat} {v : List V} {d : List DT}, RepAll K H v d → okAll n d = true → DpAll K H v (pyAll d)
  | _, _, _, .nil, _ => .nil
  | n, _, _, .cons r rr, h => by
    simp only [okAll, Bool.and_eq_true] at h
    exact .cons (Rep.dp r h.1) (RepAll.dp rr h.2)
end
mutual
theorem Dp.mono' {K : Kit} {H H' : Hp} (e : Ex H H') : ∀ {v : V} {d : PyData}, Dp K H v d → Dp K H' v d
  | _, _, .non => .non
  | _, _, .bl b => .bl b
  | _, _, .int b => .int b
  | _, _, .str b => .str b
  | _, _, .tup hs r => .tup (e.t hs) (DpAll.mono' e r)
  | _, _, .lst hs r => .lst (e.l hs) (DpAll.mono' e r)
theorem DpAll.mono' {K : Kit} {H H' : Hp} (e : Ex H H') : ∀ {v : List V} {d : List PyData}, DpAll K H v d → DpAll K H' v d
  | _, _, .nil => .nil
  | _, _, .cons r rr => .cons (Dp.mono' e r) (DpAll.mono' e rr)
end
/-- plain values, told apart by == -/
def eqD (x y : DT) : Bool := (pyOf x).eqv (pyOf y)
def ok8 (d : DT) : Prop := okN 8 d = true
def dEqD : dR2 := fun x y μ Φ => ok8 x ∧ ok8 y ∧ Φ (.bl (eqD x y)) μ
def dNeD : dR2 := fun x y μ Φ => ok8 x ∧ ok8 y ∧ Φ (.bl (!eqD x y)) μ
theorem ro_eqD : RO Z (rEqD Z.K) dEqD := fun B w x y dx dy Φ Q st wo rx ry h k => by
  obtain ⟨h1, h2, h⟩ := h
  exact ⟨_, _, Dp.mono' st.ex (rx.dp h1), Dp.mono' st.ex (ry.dp h2), ok_shaped h1 (by decide), ok_shaped h2 (by decide), done st wo k h (.bl _)⟩
theorem ro_neD : RO Z (rNeD Z.K) dNeD := fun B w x y dx dy Φ Q st wo rx ry h k => by
  obtain ⟨h1, h2, h⟩ := h
  exact ⟨_, _, Dp.mono' st.ex (rx.dp h1), Dp.mono' st.ex (ry.dp h2), ok_shaped h1 (by decide), ok_shaped h2 (by decide), done st wo k h (.bl _)⟩
/-! ### in -/
def flatD : DT → Bool
  | .non | .bl _ | .int _ | .str _ => true
  | _ => false
theorem rep_flat {K : Kit} {H : Hp} {v : V} {d : DT} (r : Rep K H v d) (h : flatD d = true) : flatV v = true := by
  cases r <;> first | rfl | cases h
theorem rep_flats {K : Kit} {H : Hp} : ∀ {v : List V} {d : List DT}, RepAll K H v d → d.all flatD = true → v.all flatV = true
  | _, _, .nil, _ => rfl
  | _, _, .cons r rr, h => by
    simp only [List.all_cons, Bool.and_eq_true] at h ⊢
    exact ⟨rep_flat r h.1, rep_flats rr h.2⟩
theorem rep_eqV {K : Kit} {H : Hp} {v u : V} {d e : DT} (r : Rep K H v d) (r' : Rep K H u e) (h : flatD d = true) (h' : flatD e = true) : eqV v u = eqD d e := by
  cases r <;> first | cases h | skip
  all_goals cases r' <;> first | (cases h'; done) | (simp only [eqV, eqD, pyOf, PyData.eqv]; done)
theorem rep_inV {K : Kit} {H : Hp} {u : V} {e : DT} (r' : Rep K H u e) (h' : flatD e = true) : ∀ {v : List V} {d : List DT}, RepAll K H v d → d.all flatD = true → inV u v = d.any fun z => eqD z e
  | _, _, .nil, _ => rfl
  | _, _, .cons r rr, h => by
    simp only [List.all_cons, Bool.and_eq_true] at h
    show (eqV _ u || inV u _) = (eqD _ e || _)
    rw [rep_eqV r r' h.1 h', rep_inV r' h' rr h.2]
def inD (x : DT) (ds : List DT) : Bool := ds.any fun z => eqD z x
def dIn (neg : Bool) : dR2 := fun x y μ Φ => ∃ ds, seqOf μ y = some ds ∧ flatD x = true ∧ ds.all flatD = true ∧ Φ (.bl (if neg then !inD x ds else inD x ds)) μ
theorem ro_in {neg : Bool} : RO Z (rIn Z.K neg) (dIn neg) := fun B w x y dx dy Φ Q st wo rx ry h k => by
  obtain ⟨ds, h1, h2, h3, h⟩ := h
  obtain ⟨p, xs, rfl, hs, ra⟩ := seq_at st ry h1
  refine ⟨p, xs, rfl, hs, rep_flat rx h2, rep_flats ra h3, ?_⟩
  rw [rep_inV rx h2 ra h3]
  exact done st wo k h (.bl _)
theorem pyAll_map (ds : List DT) : pyAll ds = ds.map pyOf := by
  induction ds with
  | nil => rfl
  | cons d ds ih => show pyOf d :: pyAll ds = _; rw [ih]; rfl
theorem okAll_of {n : Nat} : ∀ {ds : List DT}, (∀ d ∈ ds, okN n d = true) → okAll n ds = true
  | [], _ => rfl
  | d :: ds, h => by
    simp only [okAll, Bool.and_eq_true]
    exact ⟨h d (.head _), okAll_of fun x hx => h x (.tail _ hx)⟩
def dInL (neg : Bool) : dR2 := fun x y μ Φ => ∃ ds, lstOf μ y = some ds ∧ okN 7 x = true ∧ okAll 7 ds = true ∧ Φ (.bl (if neg then !inD x ds else inD x ds)) μ
theorem any_py (x : DT) (ds : List DT) : ((pyAll ds).any fun z => z.eqv (pyOf x)) = inD x ds := by
  rw [pyAll_map, List.any_map]; rfl
theorem shaped_list {n : Nat} {ds : List DT} (h : okAll n ds = true) (hn : n < 64) : SeqAt.shaped (.list (pyAll ds)) = true := ok_shaped (d := .lst ds) (n := n + 1) h hn
theorem ro_inL : RO Z (rInD Z.K) (dInL false) := fun B w x y dx dy Φ Q st wo rx ry h k => by
  obtain ⟨ds, h1, h2, h3, h⟩ := h
  obtain ⟨p, xs, rfl, hs, ra⟩ := lst_at st ry h1
  refine ⟨_, _, Dp.mono' st.ex (rx.dp h2), .lst hs (DpAll.mono' st.ex (ra.dp h3)), ok_shaped h2 (by decide), shaped_list h3 (by decide), ?_⟩
  rw [any_py]
  exact done st wo k h (.bl _)
end
end SW


/-! SWRd4: readings over data: lists that change, objects, kinds, and a def as a whole. -/
namespace SW
open PySem L2 PyProof.Rows
section
variable {Z : Bd}
/-! ### lists that change -/
theorem mo_lst {K : Kit} {w : Wd} {a : Addr} {xs : List DT} (st : Sta K w) (h : w.mu a = some (.lst xs)) : ∃ vs, w.H1 a = some (.lst vs) ∧ RepAll K w.H vs xs := (st.mu a _ h).2
theorem Sta.setL {w : Wd} {K : Kit} {a : Addr} {xs ys : List DT} {vs : List V} (st : Sta K w) (h : w.mu a = some (.lst xs)) (r : RepAll K w.H vs ys) : Sta K (w.newM a (.lst vs) (.lst ys)) ∧ Wo w (w.newM a (.lst vs) (.lst ys)) := st.write h ⟨vs, upd_same, r⟩
def dAppend (e : dE) (a : dA) : dE := fun env μ Φ => e env μ fun d μ1 => ∃ p x, d = .adr p ∧ μ1 p = some (.lst x) ∧ a env μ1 fun ds μ2 => ∃ xs y, ds = [y] ∧ μ2 p = some (.lst xs) ∧ Small xs ∧ Φ .non (μ2.put p (.lst (xs ++ [y])))
theorem re_append {te : TE} {ta : TA} {de : dE} {da : dA} (he : RE Z te de) (ha : RA Z ta da) : RE Z (tBM Z.K "list" rAppend te ta) (dAppend de da) := fun B σ w env Φ Q xr st wo sl g k =>
  he B σ w env _ _ xr st wo sl g fun d v w1 ⟨p, x, q1, q0, h1⟩ s1 o1 e1 r1 => by
    subst q1
    cases r1
    obtain ⟨us0, hp0, _⟩ := mo_lst s1 q0
    refine ⟨.inl ⟨rfl, us0, .of hp0⟩, ha B σ w1 env _ _ xr s1 o1 (sl.mono e1) h1 fun ds vs w2 ⟨xs, y, q3, q4, sm, h2⟩ s2 o2 e2 r2 => ?_⟩
    subst q3
    obtain ⟨u, rfl, ru⟩ := rall1 r2
    obtain ⟨us, hp, ra⟩ := mo_lst s2 q4
    obtain ⟨s3, o3⟩ := s2.setL (vs := us ++ [u]) q4 (ra.append (.cons ru .nil))
    exact ⟨p, us, u, rfl, rfl, hp, sm.lt ra.length, k .non .non _ h2 s3 (o2.trans o3) (e1.trans (e2.trans o3.ex)) .non⟩
def dgSub (e i : dE) : dG := fun d env μ N => e env μ fun o μ1 => i env μ1 fun y μ2 => ∃ a xs k j, o = .adr a ∧ y = .int k ∧ μ2 a = some (.lst xs) ∧ ixN xs.length k = some j ∧ N env (μ2.put a (.lst (xs.set j d)))
theorem rg_sub {te ti : TE} {de di : dE} {vs : List Nat} (he : RE Z te de) (hi : RE Z ti di) : RG Z (gSub te ti rSetL) (dgSub de di) vs := fun B σ w env v d N Q xr st wo sl rv h k =>
  he B σ w env _ _ xr st wo sl h fun o vo w1 h1 s1 o1 e1 r1 =>
    hi B σ w1 env _ _ xr s1 o1 (sl.mono e1) h1 fun y vy w2 ⟨a, xs, n, j, q1, q2, q3, q4, h2⟩ s2 o2 e2 r2 => by
      subst q1 q2
      cases r1; cases r2
      obtain ⟨us, hp, ra⟩ := mo_lst s2 q3
      have rv2 := rv.mono (e1.trans e2)
      obtain ⟨s3, o3⟩ := s2.setL (vs := us.set j v) q3 (ra.set j rv2)
      exact ⟨a, us, n, j, rfl, rfl, hp, by rw [ra.length]; exact q4, k env σ _ h2 s3 (o2.trans o3) (e1.trans (e2.trans o3.ex)) (sl.mono (e1.trans (e2.trans o3.ex))) rfl⟩
/-! ### sums of tuples, of lists -/
def dCatT : dR2 := fun x y μ Φ => ∃ xs ys, x = .tup xs ∧ y = .tup ys ∧ Small (xs ++ ys) ∧ Φ (.tup (xs ++ ys)) μ
theorem ro_catT : RO Z (rCatA Z.K) dCatT := fun B w x y dx dy Φ Q st wo rx ry h k => by
  obtain ⟨xs, ys, rfl, rfl, sm, h⟩ := h
  cases rx with
  | tup hs ra =>
    cases ry with
    | tup hs' ra' =>
      refine ⟨_, _, _, _, rfl, rfl, st.ex.t hs, st.ex.t hs', sm.le (by rw [ra.length, ra'.length, List.length_append]), fun e => ?_, fun _ e => ?_, fun _ _ p hp => doneN st wo k hp h fun e => .tup (.of upd_same) ((ra.append ra').mono e)⟩
      · subst e; cases ra; exact done st wo k h (.tup hs' ra')
      · subst e; cases ra'; rw [List.append_nil] at h; exact done st wo k h (.tup hs ra)
/-- a list's plain object -/
theorem lst_pl {K : Kit} {w : Wd} {v : V} {d : DT} {ds : List DT} (s : Sta K w) (r : Rep K w.H v d) (ns : ∀ l, d ≠ .scr l) (h : lstOf w.mu d = some ds) : ∃ p xs, v = .ref p ∧ w.H1 p = some (.lst xs) ∧ RepAll K w.H xs ds := by
  cases r with
  | lst hs ra => cases h; exact ⟨_, _, rfl, s.ex _ _ hs, ra⟩
  | scr hs => exact absurd rfl (ns _)
  | adr a =>
    cases q : w.mu a with
    | none => simp only [lstOf, q] at h; cases h
    | some m =>
      cases m with
      | lst es =>
        simp only [lstOf, q] at h; cases h
        obtain ⟨xs, e, ra⟩ := mo_lst s q
        exact ⟨a, xs, rfl, e, ra⟩
      | obj C fs => simp only [lstOf, q] at h; cases h
      | dct _ => simp only [lstOf, q] at h; cases h
      | dcs _ => simp only [lstOf, q] at h; cases h
  | _ => cases h
def noScr : DT → Bool
  | .scr _ => false
  | _ => true
theorem noScr_ne {d : DT} (h : noScr d = true) : ∀ l, d ≠ .scr l := fun l e => by subst e; cases h
def dCatL : dR2 := fun x y μ Φ => ∃ xs ys, lstOf μ x = some xs ∧ lstOf μ y = some ys ∧ noScr x = true ∧ noScr y = true ∧ Small (xs ++ ys) ∧ Φ (.lst (xs ++ ys)) μ
def dCatLM : dR2 := fun x y μ Φ => ∃ xs ys, lstOf μ x = some xs ∧ lstOf μ y = some ys ∧ noScr x = true ∧ noScr y = true ∧ Small (xs ++ ys) ∧ ∀ p, μ p = none → Φ (.adr p) (μ.put p (.lst (xs ++ ys)))
theorem ro_catL : RO Z rCat dCatL := fun B w x y dx dy Φ Q st wo rx ry h k => by
  obtain ⟨xs, ys, h1, h2, n1, n2, sm, h⟩ := h
  obtain ⟨p, us, rfl, hp, ra⟩ := lst_pl st rx (noScr_ne n1) h1
  obtain ⟨q, vs, rfl, hq, rb⟩ := lst_pl st ry (noScr_ne n2) h2
  exact ⟨p, q, us, vs, rfl, rfl, hp, hq, sm.le (by rw [ra.length, rb.length, List.length_append]), fun l hl => doneN st wo k hl h fun e => .lst upd_same ((ra.append rb).mono e)⟩
theorem ro_catLM : RO Z rCat dCatLM := fun B w x y dx dy Φ Q st wo rx ry h k => by
  obtain ⟨xs, ys, h1, h2, n1, n2, sm, h⟩ := h
  obtain ⟨p, us, rfl, hp, ra⟩ := lst_pl st rx (noScr_ne n1) h1
  obtain ⟨q, vs, rfl, hq, rb⟩ := lst_pl st ry (noScr_ne n2) h2
  exact ⟨p, q, us, vs, rfl, rfl, hp, hq, sm.le (by rw [ra.length, rb.length, List.length_append]), fun l hl => doneM st wo k hl (h l (st.nil hl).2) (ra.append rb)⟩
def dRepL : dR2 := fun x y μ Φ => ∃ xs n, lstOf μ x = some xs ∧ noScr x = true ∧ y = .int n ∧ -2 ^ 63 ≤ n ∧ n < 2 ^ 63 ∧ xs.length * n.toNat ≤ 1000000 ∧ Φ (.lst (List.replicate n.toNat xs).flatten) μ
theorem RepAll.rep {K : Kit} {H : Hp} {vs : List V} {ds : List DT} (r : RepAll K H vs ds) : ∀ n : Nat, RepAll K H (List.replicate n vs).flatten (List.replicate n ds).flatten
  | 0 => .nil
  | n + 1 => by rw [List.replicate_succ, List.replicate_succ, List.flatten_cons, List.flatten_cons]; exact r.append (r.rep n)
theorem ro_repL : RO Z rRep dRepL := fun B w x y dx dy Φ Q st wo rx ry h k => by
  obtain ⟨xs, n, h1, n1, rfl, b1, b2, sm, h⟩ := h
  cases ry
  obtain ⟨p, us, rfl, hp, ra⟩ := lst_pl st rx (noScr_ne n1) h1
  exact ⟨p, n, us, rfl, rfl, hp, b1, b2, by rw [ra.length]; exact Nat.le_trans sm (by decide), fun l hl => doneN st wo k hl h fun e => .lst upd_same ((ra.rep _).mono e)⟩
/-! ### objects -/
def objOf (μ : Mu) : DT → Option (Str × List (Str × DT))
  | .obj C fs => some (C, fs)
  | .adr a => match μ a with
    | some (.obj C fs) => some (C, fs)
    | _ => none
  | _ => none
theorem obj_at {K : Kit} {w : Wd} {v : V} {d : DT} {C : Str} {fs : List (Str × DT)} (s : Sta K w) (r : Rep K w.H v d) (h : objOf w.mu d = some (C, fs)) : ∃ a dx vs, v = .ref a ∧ w.H1 a = some (.ins (He.ga K C) dx vs) ∧ RepFs K w.H vs fs := by
  cases r with
  | obj hs ra => cases h; exact ⟨_, _, _, rfl, s.ex _ _ hs, ra⟩
  | adr a =>
    cases q : w.mu a with
    | none => simp only [objOf, q] at h; cases h
    | some m =>
      cases m with
      | obj D es =>
        simp only [objOf, q] at h; cases h
        obtain ⟨_, dx, xs, e, ra⟩ := s.mu a _ q
        exact ⟨a, dx, xs, rfl, e, ra⟩
      | lst _ => simp only [objOf, q] at h; cases h
      | dct _ => simp only [objOf, q] at h; cases h
      | dcs _ => simp only [objOf, q] at h; cases h
  | _ => cases h
/-- facts of the own classes and their fields -/
structure FlOk (K : Kit) (fl : List (Str × Str)) : Prop where
  ok : ∀ C f, fl.contains (C, f) = true → Cls K (He.ga K C) ∧ NoAttr K (He.ga K C) f
def dFld (fl : List (Str × Str)) (e : dE) (f : Str) : dE := fun env μ Φ => e env μ fun d μ1 => ∃ C fs v, objOf μ1 d = some (C, fs) ∧ fl.contains (C, f) = true ∧ fs.lookup f = some v ∧ Φ v μ1
theorem re_fld {fl : List (Str × Str)} {te : TE} {de : dE} {f : Str} (hf : FlOk Z.K fl) (h : RE Z te de) : RE Z (tFld Z.K te f) (dFld fl de f) := fun B σ w env Φ Q xr st wo sl g k =>
  h B σ w env _ _ xr st wo sl g fun d v w1 ⟨C, fs, u, q1, q2, q3, h1⟩ s1 o1 e1 r1 => by
    obtain ⟨a, dx, vs, rfl, hp, ra⟩ := obj_at s1 r1 q1
    obtain ⟨x, hx, rx⟩ := ra.lookup q3
    exact ⟨a, _, dx, vs, x, rfl, hp, (hf.ok C f q2).1, (hf.ok C f q2).2, hx, k u x w1 h1 s1 o1 e1 rx⟩
theorem mo_obj {K : Kit} {w : Wd} {a : Addr} {C : Str} {fs : List (Str × DT)} (st : Sta K w) (h : w.mu a = some (.obj C fs)) : ∃ dx vs, w.H1 a = some (.ins (He.ga K C) dx vs) ∧ RepFs K w.H vs fs := (st.mu a _ h).2
theorem Sta.setO {w : Wd} {K : Kit} {a dx : Addr} {C : Str} {fs : List (Str × DT)} {vs : List (Str × V)} {f : Str} {v : V} {d : DT} (st : Sta K w) (h : w.mu a = some (.obj C fs)) (hp : w.H1 a = some (.ins (He.ga K C) dx vs)) (ra : RepFs K w.H vs fs) (r : Rep K w.H v d) :
    Sta K (w.newM a (.ins (He.ga K C) dx (putF f v vs)) (.obj C (putD f d fs))) ∧ Wo w (w.newM a (.ins (He.ga K C) dx (putF f v vs)) (.obj C (putD f d fs))) := st.write h ⟨dx, _, upd_same, RepFs.put r ra⟩
def dsFld (fl : List (Str × Str)) (e x : dE) (f : Str) : dS := fun De env μ => x env μ fun y μ1 => e env μ1 fun d μ2 => ∃ a C fs, d = .adr a ∧ μ2 a = some (.obj C fs) ∧ fl.contains (C, f) = true ∧ fs.length < 1000 ∧ De.nx env (μ2.put a (.obj C (putD f y fs)))
theorem rs_fld {fl : List (Str × Str)} {te tv : TE} {de dv : dE} {f : Str} (hf : FlOk Z.K fl) (he : RE Z te de) (hv : RE Z tv dv) : RS Z (sFld Z.K te tv f) (dsFld fl de dv f) := fun B σ w env De D xr st wo sl g r =>
  hv B σ w env _ _ xr st wo sl g fun y u w1 h1 s1 o1 e1 r1 =>
    he B σ w1 env _ _ xr s1 o1 (sl.mono e1) h1 fun d v w2 ⟨a, C, fs, q1, q2, q3, q4, h2⟩ s2 o2 e2 r2 => by
      subst q1
      cases r2
      obtain ⟨dx, vs, hp, ra⟩ := mo_obj s2 q2
      obtain ⟨s3, o3⟩ := s2.setO (f := f) q2 hp ra (r1.mono e2)
      exact ⟨a, _, dx, vs, rfl, hp, (hf.ok C f q3).1, (hf.ok C f q3).2, by rw [ra.length]; exact q4, r.nx _ _ ⟨env, _, rfl, h2, s3, o2.trans o3, sl.mono (e1.trans (e2.trans o3.ex))⟩⟩
/-- o.f as a target -/
def gFld (K : Frag) (te : TE) (f : Str) : TG := fun v σ H Q => te σ H fun x H2 => ∃ a C dx fs, x = .ref a ∧ H2 a = some (.ins C dx fs) ∧ Cls K C ∧ NoAttr K C f ∧ fs.length < 1000 ∧ Q σ (upd H2 a (.ins C dx (putF f v fs)))
theorem pg_fld {X : Cx} {o : Expr} {f : Str} {pos : Pos} {te : TE} (h : PE X o te) : PG X (o.Attribute f pos) (gFld X.K te f) := by
  refine ⟨fun pins s σ H v u Q I r g => ?_⟩
  refine PySem.W.kas_attr (thn (h.run pins s σ H _ I g) fun ov s1 ⟨x, H1, I1, r1, a, C, dx, fs, e, hp, c, n, l, q⟩ => ?_)
  subst e
  cases r1
  exact setattr_ok I1 hp c n l r fun s' I' => ⟨σ, _, I', q⟩
def dgFld (fl : List (Str × Str)) (e : dE) (f : Str) : dG := fun y env μ N => e env μ fun d μ2 => ∃ a C fs, d = .adr a ∧ μ2 a = some (.obj C fs) ∧ fl.contains (C, f) = true ∧ fs.length < 1000 ∧ N env (μ2.put a (.obj C (putD f y fs)))
theorem rg_fld {fl : List (Str × Str)} {te : TE} {de : dE} {f : Str} {vs : List Nat} (hf : FlOk Z.K fl) (he : RE Z te de) : RG Z (gFld Z.K te f) (dgFld fl de f) vs := fun B σ w env v d N Q xr st wo sl rv g k =>
  he B σ w env _ _ xr st wo sl g fun o u w2 ⟨a, C, fs, q1, q2, q3, q4, h2⟩ s2 o2 e2 r2 => by
    subst q1
    cases r2
    obtain ⟨dx, us, hp, ra⟩ := mo_obj s2 q2
    obtain ⟨s3, o3⟩ := s2.setO (f := f) q2 hp ra (rv.mono e2)
    exact ⟨a, _, dx, us, rfl, hp, (hf.ok C f q3).1, (hf.ok C f q3).2, by rw [ra.length]; exact q4, k env σ _ h2 s3 (o2.trans o3) (e2.trans o3.ex) (sl.mono (e2.trans o3.ex)) rfl⟩
/-- C(..): an object that may change; made final -/
def dMakeM (Ψ : XKd) (C : Str) (dsp : dSp) (a : dA) : dE := fun env μ Φ => a env μ fun ds μ1 => ∀ p, μ1 p = none → dsp (.adr p :: ds) (μ1.put p (.obj C [])) (fun v μ2 => v = .non ∧ Φ (.adr p) μ2) Ψ
def dMake (Ψ : XKd) (C : Str) (dsp : dSp) (a : dA) : dE := fun env μ Φ => a env μ fun ds μ1 => ∀ p, μ1 p = none → dsp (.adr p :: ds) (μ1.put p (.obj C [])) (fun v μ2 => v = .non ∧ ∃ fs, μ2 p = some (.obj C fs) ∧ Φ (.obj C fs) (μ2.out p)) Ψ
theorem re_makeMX {C : Str} {dsp : dSp} {ta : TA} {da : dA} (ha : RA Z ta da) : RE Z (tMake (He.ga Z.K C) (lift Z.K dsp) [] Z.E ta) (dMakeM Z.Ψ C dsp da) := fun B σ w env Φ Q xr st wo sl h k =>
  ha B σ w env _ _ xr st wo sl h fun ds vs w1 h1 s1 o1 e1 r1 x dx hx hdx ne => by
    obtain ⟨s2, o2⟩ := s1.new (o := .own x) hdx
    have hx2 : (w1.new dx (.own x)).H1 x = none := (upd_ne (Ne.symm ne)).trans hx
    obtain ⟨s3, o3⟩ := s2.newM (o := .ins (He.ga Z.K C) dx []) (m := .obj C []) hx2 ⟨dx, [], upd_same, .nil⟩
    refine ⟨_, .adr x :: ds, _, Z.Ψ, rfl, s3, .cons (.adr x) (by rw [List.append_nil]; exact r1.mono (o2.trans o3).ex), h1 x (s1.nil hx).2, fun d v w' hd s4 o4 r4 => ?_, (xr.trans (o1.trans (o2.trans o3)))⟩
    obtain ⟨rfl, hd⟩ := hd
    cases r4
    exact ⟨rfl, k _ _ w' hd s4 ((o1.trans (o2.trans o3)).trans o4) (e1.trans ((o2.trans o3).trans o4).ex) (.adr x)⟩
theorem re_makeM {C : Str} {dsp : dSp} {ta : TA} {da : dA} (ha : RA Z ta da) : RE Z (tMake (He.ga Z.K C) (lift Z.K dsp) [] E0 ta) (dMakeM noX C dsp da) := fun B σ w env Φ Q xr st wo sl h k =>
  ha B σ w env _ _ xr st wo sl h fun ds vs w1 h1 s1 o1 e1 r1 x dx hx hdx ne => by
    obtain ⟨s2, o2⟩ := s1.new (o := .own x) hdx
    have hx2 : (w1.new dx (.own x)).H1 x = none := (upd_ne (Ne.symm ne)).trans hx
    obtain ⟨s3, o3⟩ := s2.newM (o := .ins (He.ga Z.K C) dx []) (m := .obj C []) hx2 ⟨dx, [], upd_same, .nil⟩
    refine ⟨_, .adr x :: ds, _, noX, rfl, s3, .cons (.adr x) (by rw [List.append_nil]; exact r1.mono (o2.trans o3).ex), h1 x (s1.nil hx).2, fun d v w' hd s4 o4 r4 => ?_, XR.no⟩
    obtain ⟨rfl, hd⟩ := hd
    cases r4
    exact ⟨rfl, k _ _ w' hd s4 ((o1.trans (o2.trans o3)).trans o4) (e1.trans ((o2.trans o3).trans o4).ex) (.adr x)⟩
theorem re_makeX {C : Str} {dsp : dSp} {ta : TA} {da : dA} (ha : RA Z ta da) : RE Z (tMake (He.ga Z.K C) (lift Z.K dsp) [] Z.E ta) (dMake Z.Ψ C dsp da) := fun B σ w env Φ Q xr st wo sl h k =>
  ha B σ w env _ _ xr st wo sl h fun ds vs w1 h1 s1 o1 e1 r1 x dx hx hdx ne => by
    obtain ⟨s2, o2⟩ := s1.new (o := .own x) hdx
    have hx2 : (w1.new dx (.own x)).H1 x = none := (upd_ne (Ne.symm ne)).trans hx
    obtain ⟨s3, o3⟩ := s2.newM (o := .ins (He.ga Z.K C) dx []) (m := .obj C []) hx2 ⟨dx, [], upd_same, .nil⟩
    refine ⟨_, .adr x :: ds, _, Z.Ψ, rfl, s3, .cons (.adr x) (by rw [List.append_nil]; exact r1.mono (o2.trans o3).ex), h1 x (s1.nil hx).2, fun d v w' hd s4 o4 r4 => ?_, (xr.trans (o1.trans (o2.trans o3)))⟩
    obtain ⟨rfl, fs, hm, hd⟩ := hd
    cases r4
    obtain ⟨dx', us, hp, ra⟩ := mo_obj s4 hm
    obtain ⟨s5, o5⟩ := s4.freeze hm hp
    exact ⟨rfl, k _ _ (w'.frz x _) hd s5 (((o1.trans (o2.trans o3)).trans o4).trans o5) (e1.trans (((o2.trans o3).trans o4).trans o5).ex) (.obj upd_same (ra.mono o5.ex))⟩
theorem re_make {C : Str} {dsp : dSp} {ta : TA} {da : dA} (ha : RA Z ta da) : RE Z (tMake (He.ga Z.K C) (lift Z.K dsp) [] E0 ta) (dMake noX C dsp da) := fun B σ w env Φ Q xr st wo sl h k =>
  ha B σ w env _ _ xr st wo sl h fun ds vs w1 h1 s1 o1 e1 r1 x dx hx hdx ne => by
    obtain ⟨s2, o2⟩ := s1.new (o := .own x) hdx
    have hx2 : (w1.new dx (.own x)).H1 x = none := (upd_ne (Ne.symm ne)).trans hx
    obtain ⟨s3, o3⟩ := s2.newM (o := .ins (He.ga Z.K C) dx []) (m := .obj C []) hx2 ⟨dx, [], upd_same, .nil⟩
    refine ⟨_, .adr x :: ds, _, noX, rfl, s3, .cons (.adr x) (by rw [List.append_nil]; exact r1.mono (o2.trans o3).ex), h1 x (s1.nil hx).2, fun d v w' hd s4 o4 r4 => ?_, XR.no⟩
    obtain ⟨rfl, fs, hm, hd⟩ := hd
    cases r4
    obtain ⟨dx', us, hp, ra⟩ := mo_obj s4 hm
    obtain ⟨s5, o5⟩ := s4.freeze hm hp
    exact ⟨rfl, k _ _ (w'.frz x _) hd s5 (((o1.trans (o2.trans o3)).trans o4).trans o5) (e1.trans (((o2.trans o3).trans o4).trans o5).ex) (.obj upd_same (ra.mono o5.ex))⟩
/-- o.m(..) -/
def dMeth (Ψ : XKd) (C m : Str) (dsp : dSp) (e : dE) (a : dA) : dE := fun env μ Φ => e env μ fun d μ1 => ∃ fs, objOf μ1 d = some (C, fs) ∧ fs.lookup m = none ∧ a env μ1 fun ds μ2 => dsp (d :: ds) μ2 Φ Ψ
theorem re_methX {C m : Str} {dsp : dSp} {te : TE} {ta : TA} {de : dE} {da : dA} (he : RE Z te de) (ha : RA Z ta da) : RE Z (tMeth (He.ga Z.K C) m (lift Z.K dsp) [] Z.E te ta) (dMeth Z.Ψ C m dsp de da) := fun B σ w env Φ Q xr st wo sl h k =>
  he B σ w env _ _ xr st wo sl h fun d v w1 ⟨fs, q1, q2, h1⟩ s1 o1 e1 r1 => by
    obtain ⟨a, dx, vs, rfl, hp, ra⟩ := obj_at s1 r1 q1
    refine ⟨a, dx, vs, rfl, hp, ra.none q2, ha B σ w1 env _ _ xr s1 o1 (sl.mono e1) h1 fun ds us w2 h2 s2 o2 e2 r2 => ?_⟩
    exact ⟨w2, d :: ds, Φ, Z.Ψ, rfl, s2, .cons (r1.mono e2) (by rw [List.append_nil]; exact r2), h2, fun d' v' w' hd s3 o3 r3 => k d' v' w' hd s3 (o2.trans o3) (e1.trans (e2.trans o3.ex)) r3, xr.trans o2⟩
theorem re_meth {C m : Str} {dsp : dSp} {te : TE} {ta : TA} {de : dE} {da : dA} (he : RE Z te de) (ha : RA Z ta da) : RE Z (tMeth (He.ga Z.K C) m (lift Z.K dsp) [] E0 te ta) (dMeth noX C m dsp de da) := fun B σ w env Φ Q xr st wo sl h k =>
  he B σ w env _ _ xr st wo sl h fun d v w1 ⟨fs, q1, q2, h1⟩ s1 o1 e1 r1 => by
    obtain ⟨a, dx, vs, rfl, hp, ra⟩ := obj_at s1 r1 q1
    refine ⟨a, dx, vs, rfl, hp, ra.none q2, ha B σ w1 env _ _ xr s1 o1 (sl.mono e1) h1 fun ds us w2 h2 s2 o2 e2 r2 => ?_⟩
    exact ⟨w2, d :: ds, Φ, noX, rfl, s2, .cons (r1.mono e2) (by rw [List.append_nil]; exact r2), h2, fun d' v' w' hd s3 o3 r3 => k d' v' w' hd s3 (o2.trans o3) (e1.trans (e2.trans o3.ex)) r3, XR.no⟩
/-- o.f, a property -/
def dProp (Ψ : XKd) (C : Str) (dsp : dSp) (e : dE) : dE := fun env μ Φ => e env μ fun d μ1 => ∃ fs, objOf μ1 d = some (C, fs) ∧ dsp [d] μ1 Φ Ψ
theorem re_propX {C : Str} {dsp : dSp} {te : TE} {de : dE} (he : RE Z te de) : RE Z (tProp (He.ga Z.K C) (lift Z.K dsp) [] Z.E te) (dProp Z.Ψ C dsp de) := fun B σ w env Φ Q xr st wo sl h k =>
  he B σ w env _ _ xr st wo sl h fun d v w1 ⟨fs, q1, h1⟩ s1 o1 e1 r1 => by
    obtain ⟨a, dx, vs, rfl, hp, ra⟩ := obj_at s1 r1 q1
    refine ⟨a, dx, vs, rfl, hp, ?_⟩
    exact ⟨w1, [d], Φ, Z.Ψ, rfl, s1, .cons r1 .nil, h1, fun d' v' w' hd s3 o3 r3 => k d' v' w' hd s3 (o1.trans o3) (e1.trans o3.ex) r3, xr.trans o1⟩
theorem re_prop {C : Str} {dsp : dSp} {te : TE} {de : dE} (he : RE Z te de) : RE Z (tProp (He.ga Z.K C) (lift Z.K dsp) [] E0 te) (dProp noX C dsp de) := fun B σ w env Φ Q xr st wo sl h k =>
  he B σ w env _ _ xr st wo sl h fun d v w1 ⟨fs, q1, h1⟩ s1 o1 e1 r1 => by
    obtain ⟨a, dx, vs, rfl, hp, ra⟩ := obj_at s1 r1 q1
    refine ⟨a, dx, vs, rfl, hp, ?_⟩
    exact ⟨w1, [d], Φ, noX, rfl, s1, .cons r1 .nil, h1, fun d' v' w' hd s3 o3 r3 => k d' v' w' hd s3 (o1.trans o3) (e1.trans o3.ex) r3, XR.no⟩
/-- o(..) -/
def dCallO (Ψ : XKd) (C : Str) (dsp : dSp) (e : dE) (a : dA) : dE := fun env μ Φ => e env μ fun d μ1 => ∃ fs0, objOf μ1 d = some (C, fs0) ∧ a env μ1 fun ds μ2 => ∃ fs, objOf μ2 d = some (C, fs) ∧ dsp (d :: ds) μ2 Φ Ψ
theorem re_callOX {X : Cx} {C : Str} {dsp : dSp} {te : TE} {ta : TA} {de : dE} {da : dA} (he : RE Z te de) (ha : RA Z ta da) : RE Z (StX.tCallO X (He.ga Z.K C) (lift Z.K dsp) Z.E te ta) (dCallO Z.Ψ C dsp de da) := fun B σ w env Φ Q xr st wo sl h k =>
  he B σ w env _ _ xr st wo sl h fun d v w1 ⟨fs0, q0, h1⟩ s1 o1 e1 r1 => by
    obtain ⟨a, dx, vs, rfl, _, _⟩ := obj_at s1 r1 q0
    refine ⟨a, rfl, ha B σ w1 env _ _ xr s1 o1 (sl.mono e1) h1 fun ds us w2 ⟨fs, q1, h2⟩ s2 o2 e2 r2 => ?_⟩
    obtain ⟨a', dx, vs, e, hp, ra⟩ := obj_at s2 (r1.mono e2) q1
    cases e
    exact ⟨.inr ⟨_, _, hp⟩, w2, d :: ds, Φ, Z.Ψ, rfl, s2, .cons (r1.mono e2) r2, h2, fun d' v' w' hd s3 o3 r3 => k d' v' w' hd s3 (o2.trans o3) (e1.trans (e2.trans o3.ex)) r3, xr.trans o2⟩
theorem re_callO {X : Cx} {C : Str} {dsp : dSp} {te : TE} {ta : TA} {de : dE} {da : dA} (he : RE Z te de) (ha : RA Z ta da) : RE Z (StX.tCallO X (He.ga Z.K C) (lift Z.K dsp) E0 te ta) (dCallO noX C dsp de da) := fun B σ w env Φ Q xr st wo sl h k =>
  he B σ w env _ _ xr st wo sl h fun d v w1 ⟨fs0, q0, h1⟩ s1 o1 e1 r1 => by
    obtain ⟨a, dx, vs, rfl, _, _⟩ := obj_at s1 r1 q0
    refine ⟨a, rfl, ha B σ w1 env _ _ xr s1 o1 (sl.mono e1) h1 fun ds us w2 ⟨fs, q1, h2⟩ s2 o2 e2 r2 => ?_⟩
    obtain ⟨a', dx, vs, e, hp, ra⟩ := obj_at s2 (r1.mono e2) q1
    cases e
    exact ⟨.inr ⟨_, _, hp⟩, w2, d :: ds, Φ, noX, rfl, s2, .cons (r1.mono e2) r2, h2, fun d' v' w' hd s3 o3 r3 => k d' v' w' hd s3 (o2.trans o3) (e1.trans (e2.trans o3.ex)) r3, XR.no⟩
/-! ### kinds -/
def tyOf (μ : Mu) : DT → Option String
  | .non => some "NoneType"
  | .bl _ => some "bool"
  | .int _ => some "int"
  | .str _ => some "str"
  | .tup _ => some "tuple"
  | .lst _ => some "list"
  | .adr a => match μ a with
    | some (.lst _) => some "list"
    | _ => none
  | _ => none
theorem rd_tup {K : Kit} {H : Hp} {a : Addr} {xs : List V} (h : SqT K H a xs) : TyX K H (.ref a) (.type "tuple") := by
  rcases h with (h | ⟨o, h⟩) | ⟨o, its, n, h, c, _⟩
  · exact .base (.tup h)
  · exact .fTuple h
  · exact .kTuple h c
theorem ty_at {K : Kit} {w : Wd} {v : V} {d : DT} {t : String} (s : Sta K w) (r : Rep K w.H v d) (h : tyOf w.mu d = some t) : TyX K w.H1 v (.type t) := by
  cases r with
  | non => cases h; exact .base .non
  | bl b => cases h; exact .base (.bl b)
  | int b => cases h; exact .base (.int b)
  | str b => cases h; exact .base (.str b)
  | tup hs ra => cases h; exact rd_tup (s.ex.t hs)
  | lst hs ra => cases h; exact .base (.lst (s.ex _ _ hs))
  | adr a =>
    cases q : w.mu a with
    | none => simp only [tyOf, q] at h; cases h
    | some m =>
      cases m with
      | lst es =>
        simp only [tyOf, q] at h; cases h
        obtain ⟨xs, e, ra⟩ := mo_lst s q
        exact .base (.lst e)
      | obj C fs => simp only [tyOf, q] at h; cases h
      | dct _ => simp only [tyOf, q] at h; cases h
      | dcs _ => simp only [tyOf, q] at h; cases h
  | _ => cases h
def isTy (t T : String) : Bool := t = T || (t = "bool" && T = "int")
def kinds : List String := ["NoneType", "bool", "int", "str", "tuple", "list"]
theorem tyOf_mem {μ : Mu} {d : DT} {t : String} (h : tyOf μ d = some t) : t ∈ kinds := by
  cases d with
  | adr a =>
    cases q : μ a with
    | none => simp only [tyOf, q] at h; cases h
    | some m => cases m <;> simp only [tyOf, q] at h <;> cases h <;> decide
  | _ => cases h <;> decide
theorem kit_all : ∀ t ∈ kinds, ∀ T ∈ kinds, kitB t T = some (isTy t T) := by decide +kernel
def dIsi (T : String) (e : dE) : dE := fun env μ Φ => e env μ fun d μ1 => ∃ t, tyOf μ1 d = some t ∧ Φ (.bl (isTy t T)) μ1
theorem re_isi {T : String} {te : TE} {de : dE} (hT : T ∈ kinds) (he : RE Z te de) : RE Z (tCB (rIsi Z.K) (tCons te (tCons (tC (.ty T)) tNil))) (dIsi T de) := fun B σ w env Φ Q xr st wo sl h k =>
  he B σ w env _ _ xr st wo sl h fun d v w1 ⟨t, q, h1⟩ s1 o1 e1 r1 =>
    ⟨v, .ty T, .type t, .type T, isTy t T, rfl, .ty T, ty_at s1 r1 q, kit_ty (kit_all t (tyOf_mem q) T hT), k _ _ w1 h1 s1 o1 e1 (.bl _)⟩
/-- isinstance(x, (T, U)) -/
def dIsi2 (T U : String) (e : dE) : dE := fun env μ Φ => e env μ fun d μ1 => ∃ t, tyOf μ1 d = some t ∧ Φ (.bl (isTy t T || isTy t U)) μ1
theorem kit_any {K : Frag} {t T U : String} (ht : t ∈ kinds) (hT : T ∈ kinds) (hU : U ∈ kinds) : W.kitAny K (.type t) [.type T, .type U] = some (isTy t T || isTy t U) := by
  have a := kit_ty (K := K) (kit_all t ht T hT)
  have b := kit_ty (K := K) (kit_all t ht U hU)
  simp only [W.kitAny, a, b]
  cases isTy t T <;> cases isTy t U <;> rfl
theorem re_isi2 {T U : String} {te : TE} {de : dE} (hT : T ∈ kinds) (hU : U ∈ kinds) (he : RE Z te de) : RE Z (tCB (rIsiT Z.K) (tCons te (tCons (tTup (tCons (tC (.ty T)) (tCons (tC (.ty U)) tNil))) tNil))) (dIsi2 T U de) := fun B σ w env Φ Q xr st wo sl h k =>
  he B σ w env _ _ xr st wo sl h fun d v w1 ⟨t, q, h1⟩ s1 o1 e1 r1 => ⟨size2, fun p hp => by
    obtain ⟨s2, o2⟩ := s1.new (o := .tup [.ty T, .ty U]) hp
    exact ⟨v, p, [.ty T, .ty U], .type t, [.type T, .type U], _, rfl, upd_same, .cons (.ty T) (.cons (.ty U) .nil), ty_at s2 (r1.mono o2.ex) q, kit_any (tyOf_mem q) hT hU, k _ _ (w1.new p _) h1 s2 (o1.trans o2) (e1.trans o2.ex) (.bl _)⟩⟩
end
end SW


/-! SWFn: a def as a whole: from its promise over data to the hand layer's FnOk; calls by name, methods, properties. -/
namespace SW
open PySem L2 PyProof.Rows
abbrev dRun (d : dS) (N : List Str) (ds : List DT) (μ : Mu) (Φ : PK) : Prop := d { nx := fun _ μ' => Φ .non μ', rt := Φ } (ds.map some ++ List.replicate (N.length - ds.length) none) μ
theorem okD {P : Program} {w : World} {K : Frag} {T : List (Addr × Str)} {mg : Str → Option Value} {base : Heap} {x qual : Str} {params : Arguments} {body : List Stmt} {scope : Scope} {f : Addr} {fd : FuncData} {N ps : List Str} {k : Nat} {dsp : dSp} {t : XK → TS} {dt : XKd → dS}
    (F : FunD K x qual params body scope [] [] f fd) (sc : FnScope N ps scope) (len : ∀ ds μ Φ Ψ, dsp ds μ Φ Ψ → ds.length = ps.length)
    (ref : ∀ E Ψ, RS ⟨⟨K, P, w, T⟩, E, Ψ⟩ (t E) (dt Ψ)) (pure : ∀ ds μ Φ Ψ, dsp ds μ Φ Ψ → dRun (dt Ψ) N ds μ Φ)
    (der : ∀ cdv A outer s H E, Room k (A.deeper (PyProof.Rows.envOfC qual scope s.heap.objs.size f cdv)) → PSs (cxOf (L2.CX P w) P w K mg base N qual scope f cdv A outer s H E) body (t E)) :
    FnOk P w K mg base (L2.CX P w) (k + 1) f fd ps (lift ⟨K, P, w, T⟩ dsp) := by
  refine F.ok sc (fun vs H Q E ⟨w0, ds, Φ, Ψ, _, _, ra, h, _⟩ => ra.length.trans (len _ _ _ _ h)) fun cdv A outer s H vs Q E hr ⟨w0, ds, Φ, Ψ, e, st, ra, h, hQ, xr⟩ => ⟨t E, der cdv A outer s H E hr, ?_⟩
  subst e
  refine ref E Ψ w0 _ w0 _ _ _ xr st (Wo.refl _) (Slo.start ra) (pure ds _ Φ Ψ h) ⟨fun σ H' ⟨env', w', e, h', s', o', l'⟩ => ?_, fun v H' ⟨d, w', e, h', s', o', r'⟩ => ?_, fun σ H' ⟨_, _, _, h', _⟩ => h'.elim, fun σ H' ⟨_, _, _, h', _⟩ => h'.elim⟩
  · subst e; exact hQ .non .non w' h' s' o' .non
  · subst e; exact hQ d v w' h' s' o' r'
theorem cx_no {P : Program} {w : World} {out : List Env} {H : Hp} {s s' : Shared} {e : Value} (h : L2.CX P w out H s E0 e s') : False := by
  obtain ⟨_, _, _, _, _, _, _, _, _, _, _, _, z⟩ := h
  exact z
theorem pass_no {X : Cx} : Passes (L2.CX X.prog X.w) X E0 := fun _ _ _ _ _ _ _ h => (cx_no h).elim
/-- a def's FnOk, by its name -/
structure CalX (P : Program) (w : World) (K : Frag) (mg : Str → Option Value) (base : Heap) (k : Nat) (x : Str) (sp : Sp) : Prop where
  ex : ∃ f fd ps, FnOk P w K mg base (L2.CX P w) k f fd ps sp ∧ mg x = some (.ref f) ∧ W.keepIn K (.ref f) = true ∧ Binds K fd ps []
section
variable {X : Cx} {k j : Nat} {sp : Sp}
theorem pe_cn {x : Str} {p pos : Pos} {e : Expr} {es : List Expr} {t : TA} (c : CalX X.prog X.w X.K X.mg X.base k x sp) (hr : Room j X.A) (hk : k ≤ j) (hg : Gl X x) (ha : PA X (e :: es) t)
    (hdb : (x == ("__debug__" : Str)) = false := by decide) (hst : starEach (e :: es) X.env = (false, eval e X.env) :: starEach es X.env := by rfl) (hbk : ((backTo pos (starEach es X.env)).any fun x => x.fst) = false := by rfl) :
    PE X (.Call (.Name x p) (e :: es) [] pos) (tCall sp [] E0 t) := by
  obtain ⟨f, fd, ps, F, hm, kp, b⟩ := c.ex
  exact pe_call F (hr.mono hk) hg hm kp b .nil pass_no ha hdb hst hbk
theorem pe_cx {E : XK} {x : Str} {p pos : Pos} {e : Expr} {es : List Expr} {t : TA} (c : CalX X.prog X.w X.K X.mg X.base k x sp) (hr : Room j X.A) (hk : k ≤ j) (hg : Gl X x) (hp : Passes (L2.CX X.prog X.w) X E) (ha : PA X (e :: es) t)
    (hdb : (x == ("__debug__" : Str)) = false := by decide) (hst : starEach (e :: es) X.env = (false, eval e X.env) :: starEach es X.env := by rfl) (hbk : ((backTo pos (starEach es X.env)).any fun x => x.fst) = false := by rfl) :
    PE X (.Call (.Name x p) (e :: es) [] pos) (tCall sp [] E t) := by
  obtain ⟨f, fd, ps, F, hm, kp, b⟩ := c.ex
  exact pe_call F (hr.mono hk) hg hm kp b .nil hp ha hdb hst hbk
/-- a method's FnOk -/
structure MetX (P : Program) (w : World) (K : Frag) (mg : Str → Option Value) (base : Heap) (k : Nat) (C m : Str) (sp : Sp) : Prop where
  ex : ∃ f fd ps, FnOk P w K mg base (L2.CX P w) k f fd ps sp ∧ Cls K (He.ga K C) ∧ Meth K (He.ga K C) m f ∧ Binds K fd ps []
theorem pe_mn {C m : Str} {pos apos : Pos} {e o : Expr} {es : List Expr} {ta : TE} {t : TA} (c : MetX X.prog X.w X.K X.mg X.base k C m sp) (hr : Room j X.A) (hk : k ≤ j) (ho : PE X o ta) (ha : PA X (e :: es) t)
    (hst : starEach (e :: es) X.env = (false, eval e X.env) :: starEach es X.env := by rfl) (hbk : ((backTo pos (starEach es X.env)).any fun x => x.fst) = false := by rfl)
    {pl : Sem Bool} (hev : eval ((o.Attribute m apos).Call (e :: es) [] pos) X.env = (do
      let ov ← eval o X.env
      standAt apos.atName
      let __x ← holding [ov] (getMethod ov m pl)
      match __x with
        | (f, first) => callWith pos f first (backTo pos (starEach (e :: es) X.env)) (backToKw pos (keywordEach [] X.env))) := by rfl) :
    PE X ((o.Attribute m apos).Call (e :: es) [] pos) (tMeth (He.ga X.K C) m sp [] E0 ta t) := by
  obtain ⟨f, fd, ps, F, cl, me, b⟩ := c.ex
  exact pe_meth ho cl me F (hr.mono hk) b .nil pass_no ha hst hbk hev
theorem pe_mn0 {C m : Str} {pos apos : Pos} {o : Expr} {ta : TE} (c : MetX X.prog X.w X.K X.mg X.base k C m sp) (hr : Room j X.A) (hk : k ≤ j) (ho : PE X o ta)
    {pl : Sem Bool} (hev : eval ((o.Attribute m apos).Call [] [] pos) X.env = (do
      let ov ← eval o X.env
      standAt apos.atName
      let __x ← holding [ov] (getMethod ov m pl)
      match __x with
        | (f, first) => callWith pos f first (backTo pos (starEach [] X.env)) (backToKw pos (keywordEach [] X.env))) := by rfl) :
    PE X ((o.Attribute m apos).Call [] [] pos) (tMeth (He.ga X.K C) m sp [] E0 ta tNil) := by
  obtain ⟨f, fd, ps, F, cl, me, b⟩ := c.ex
  exact pe_meth0 ho cl me F (hr.mono hk) b .nil pass_no hev
/-- a class: its __init__'s FnOk -/
structure MakX (P : Program) (w : World) (K : Frag) (mg : Str → Option Value) (base : Heap) (k : Nat) (C : Str) (sp : Sp) : Prop where
  ex : ∃ f fd ps, FnOk P w K mg base (L2.CX P w) k f fd ps sp ∧ Mk K (He.ga K C) f ∧ mg C = some (.ref (He.ga K C)) ∧ Binds K fd ps []
theorem pe_kn {C : Str} {p pos : Pos} {e : Expr} {es : List Expr} {t : TA} (c : MakX X.prog X.w X.K X.mg X.base k C sp) (hr : Room j X.A) (hk : k + 1 ≤ j) (hg : Gl X C) (ha : PA X (e :: es) t)
    (hdb : (C == ("__debug__" : Str)) = false := by decide) (hst : starEach (e :: es) X.env = (false, eval e X.env) :: starEach es X.env := by rfl) (hbk : ((backTo pos (starEach es X.env)).any fun x => x.fst) = false := by rfl) :
    PE X (.Call (.Name C p) (e :: es) [] pos) (tMake (He.ga X.K C) sp [] E0 t) := by
  obtain ⟨f, fd, ps, F, mk, hm, b⟩ := c.ex
  exact pe_make mk F (hr.mono hk) hg hm b .nil pass_no ha hdb hst hbk
/-- a property's FnOk -/
structure PrpX (P : Program) (w : World) (K : Frag) (mg : Str → Option Value) (base : Heap) (k : Nat) (C m : Str) (sp : Sp) : Prop where
  ex : ∃ p g fd ps, FnOk P w K mg base (L2.CX P w) k g fd ps sp ∧ Cls K (He.ga K C) ∧ PropOf K (He.ga K C) m p g ∧ Binds K fd ps []
theorem pe_pn {C f : Str} {e : Expr} {pos : Pos} {ta : TE} (c : PrpX X.prog X.w X.K X.mg X.base k C f sp) (hr : Room j X.A) (hk : k + 1 ≤ j) (ho : PE X e ta)
    (hev : attributeBase e f X.env (eval e X.env) = eval e X.env := by rfl) : PE X (e.Attribute f pos) (tProp (He.ga X.K C) sp [] E0 ta) := by
  obtain ⟨p, g, fd, ps, F, cl, pr, b⟩ := c.ex
  exact pe_prop (X := X) ho cl pr F (hr.mono hk) b .nil (fun _ _ _ _ _ _ _ h => (cx_no h).elim) hev
end
/-- data kept over a comprehension's own frame: the rule, by names -/
theorem pe_lcn {X : Cx} {elt tg iter : Expr} {ifs : List Expr} {scope : Scope} {own : List (Str × Nat)} {pos : Pos} {wi : TI} {g : TG} {tt : TT} {te : TE} (hc : X.calm = true) (hn : X.N.Nodup) (hi : PI X tg iter wi) (hb : blkC X.N X.env.scope scope own = true)
    (hg : ∀ s H C cl fp, PG (X.blk s H scope (compEnvC scope cl C X.env) fp) tg g) (ht : ∀ s H C cl fp, PTs (X.blk s H scope (compEnvC scope cl C X.env) fp) ifs tt) (he : ∀ s H C cl fp, PE (X.blk s H scope (compEnvC scope cl C X.env) fp) elt te)
    (hf : ∀ x, foldedSetIterable iter X.env x = pure x := by intro; rfl) : PE X (elt.ListComp [⟨tg, iter, ifs, 0⟩] scope pos) (tLc wi g tt te (own.map fun x => x.2)) := pe_lc hc hn hi (blkOk_by hb) hg ht he hf
end SW


/-! SWDct: dicts whose keys are tuples (nested, of numbers, texts, None). -/
namespace SW
open PySem L2 PyProof.Rows
/-- a value that stands for a key -/
def KeyAt (K : Kit) (H : Hp) (a : Addr) (k : NestedKey) : Prop := ∀ h : Heap, HOk K.P K.w H h → K.fr.In h → (nestedKind K.P K.w).is h k a
mutual
theorem Rep.nested {K : Kit} {H H1 : Hp} {h : Heap} (hk : HOk K.P K.w H1 h) (hi : K.fr.In h) (e : Ex H H1) : ∀ {v : V} {d : DT} {k : NestedKey} {u : Value}, Rep K H v d → keyOf d = some k → L2.RelV v u → NestedIs h k u
  | _, _, _, _, .non, q, r => by cases r; simp only [keyOf] at q; cases q; exact .none
  | _, _, _, _, .int i, q, r => by obtain ⟨t, rfl⟩ := r; simp only [keyOf] at q; cases q; exact .int _ _
  | _, _, _, _, .str i, q, r => by obtain ⟨t, rfl⟩ := r; simp only [keyOf] at q; cases q; exact .text _ _
  | _, _, _, _, .tup (ds := ds) hs ra, q, r => by
    cases r
    simp only [keyOf] at q
    cases q2 : keyAll ds with
    | none => rw [q2] at q; cases q
    | some ks =>
      rw [q2] at q; cases q
      obtain ⟨its, o, n, vs, ho, hc, hd⟩ := sqT_at hk hi (e.t hs)
      exact .tup ho hc hd (RepAll.nested hk hi e ra q2 vs)
  | _, _, _, _, .bl _, q, _ => by simp only [keyOf] at q; cases q
  | _, _, _, _, .adr _, q, _ => by simp only [keyOf] at q; cases q
  | _, _, _, _, .lst _ _, q, _ => by simp only [keyOf] at q; cases q
  | _, _, _, _, .scr _, q, _ => by simp only [keyOf] at q; cases q
  | _, _, _, _, .obj _ _, q, _ => by simp only [keyOf] at q; cases q
  | _, _, _, _, .dctT _ _, q, _ => by simp only [keyOf] at q; cases q
  | _, _, _, _, .dctS _ _, q, _ => by simp only [keyOf] at q; cases q
theorem RepAll.nested {K : Kit} {H H1 : Hp} {h : Heap} (hk : HOk K.P K.w H1 h) (hi : K.fr.In h) (e : Ex H H1) : ∀ {vs : List V} {ds : List DT} {ks : List NestedKey} {us : List Value}, RepAll K H vs ds → keyAll ds = some ks → Vals vs us → NestedAll h ks us
  | _, _, _, _, .nil, q, r => by cases r; simp only [keyAll] at q; cases q; exact .nil
  | _, _, _, _, .cons (d := d) (ds := ds) r1 rr, q, r => by
    cases r with
    | cons a b =>
      simp only [keyAll] at q
      cases q1 : keyOf d with
      | none => rw [q1] at q; cases q
      | some k =>
        cases q2 : keyAll ds with
        | none => rw [q1, q2] at q; cases q
        | some ks =>
          rw [q1, q2] at q; cases q
          exact .cons (Rep.nested hk hi e r1 q1 a) (RepAll.nested hk hi e rr q2 b)
end
theorem Rep.keyAt {K : Kit} {H H1 : Hp} (e : Ex H H1) {a : Addr} {d : DT} {k : NestedKey} (r : Rep K H (.ref a) d) (q : keyOf d = some k) (hd : k.depth ≤ 8) : KeyAt K H1 a k := fun h hk hi => ⟨r.nested hk hi e q rfl, hd⟩
def KeysAt (K : Kit) (H : Hp) (xs : List (NestedKey × Addr × Value)) : Prop := ∀ x ∈ xs, KeyAt K H x.2.1 x.1
theorem RepKV.keysAt {K : Kit} {H H1 : Hp} (e : Ex H H1) : ∀ {xs : List (NestedKey × Addr × Value)} {kvs : List (DT × DT)}, RepKV K H xs kvs → KeysAt K H1 xs
  | _, _, .nil => fun _ h => by cases h
  | _, _, .cons a b c d f r => fun x h => by
    rcases List.mem_cons.mp h with rfl | h
    · exact a.keyAt e b c
    · exact r.keysAt e x h
/-! ### the raw rules, over the hand layer -/
theorem dict_of {K : Kit} {H : Hp} {h : Heap} {d : Addr} {xs : List (NestedKey × Addr × Value)} (hk : HOk K.P K.w H h) (hi : K.fr.In h) (hd : H d = some (.ext (DRaw K.P K.w d xs))) (ks : KeysAt K H xs) : (d == sysModules) = false ∧ Heap.DictOfH (nestedKind K.P K.w) h d xs := by
  obtain ⟨⟨a, o, es, ep, b1, b2, b3, b4, b5⟩, _, _⟩ := hk d _ hd
  exact ⟨a, o, es, ep, b1, b2, b3, b4, fun x hx => ks x hx h hk hi, b5⟩
theorem raw_of {P : Program} {w : World} {h : Heap} {d : Addr} {xs : List (NestedKey × Addr × Value)} (q : (d == sysModules) = false) (D : Heap.DictOfH (nestedKind P w) h d xs) : DRaw P w d xs h := by
  obtain ⟨o, es, ep, b1, b2, b3, b4, _, b5⟩ := D
  exact ⟨q, o, es, ep, b1, b2, b3, b4, b5⟩
theorem raw_ok {P : Program} {w : World} {H : Hp} {h : Heap} {d : Addr} {xs : List (NestedKey × Addr × Value)} (r : DRaw P w d xs h) : ObjOk P w H h d (.ext (DRaw P w d xs)) := by
  obtain ⟨q, o, es, ep, b1, b2, b3, b4, b5⟩ := r
  refine ⟨⟨q, o, es, ep, b1, b2, b3, b4, b5⟩, ⟨o, b1⟩, fun h1 h2 ⟨q, o, es, ep, b1, b2, b3, b4, b5⟩ k => ⟨q, o, es, ep, k o b1, b2, b3, b4, b5⟩⟩
theorem dt_type {P : Program} {w : World} {s : Shared} {d : Addr} {xs : List (NestedKey × Addr × Value)} (D : Heap.DictOfH (nestedKind P w) s.heap d xs) : s.TypeIs (.ref d) "dict" := D.typeIs
section
variable {X : Cx}
/-- the program and the world of a context -/
abbrev kit (X : Cx) (T : List (Addr × Str)) : Kit := ⟨X.K, X.prog, X.w, T⟩
def rInDc (K : Kit) (neg : Bool) : R2 := fun x y H Q => ∃ a d k xs, x = .ref a ∧ y = .ref d ∧ H d = some (.ext (DRaw K.P K.w d xs)) ∧ KeysAt K H xs ∧ KeyAt K H a k ∧ Q (.bl (if neg then !(atKey xs k).isSome else (atKey xs k).isSome)) H
theorem toks_ok {pins : List (Addr × Obj)} {σ : L2.St} {H : Hp} {s : Shared} (I : Inv X pins σ H s) (t : Nat) : Inv X pins σ H { heap := s.heap, gens := s.gens, drawn := s.drawn, toks := t, os := s.os } := I.un Un.refl I.hok
theorem room9 {j : Nat} {A : Around} (h : Room j A) {P : Program} {w : World} : (nestedKind P w).room A.in1 := by
  have := h.units
  show A.units + 1 + 8 < cLine
  omega
theorem op_inDc {j : Nat} (hr : Room j X.A) : OpR X (compareOp .In) (rInDc (kit X T) false) := fun pins s σ H x y v u Q I rx ry ⟨a, d, k, xs, e1, e2, hd, ks, ka, q⟩ => by
  subst e1 e2
  cases rx; cases ry
  obtain ⟨m, D⟩ := dict_of (K := kit X T) I.hok I.kIn hd ks
  exact wpAny_in_heap (room9 hr) (ka _ I.hok I.kIn) m D ⟨.bl (atKey xs k).isSome, H, toks_ok I _, rfl, q⟩
theorem op_notInDc {j : Nat} (hr : Room j X.A) : OpR X (compareOp .NotIn) (rInDc (kit X T) true) := fun pins s σ H x y v u Q I rx ry ⟨a, d, k, xs, e1, e2, hd, ks, ka, q⟩ => by
  subst e1 e2
  cases rx; cases ry
  obtain ⟨m, D⟩ := dict_of (K := kit X T) I.hok I.kIn hd ks
  exact wpAny_notIn_heap (room9 hr) (ka _ I.hok I.kIn) m D ⟨.bl (!(atKey xs k).isSome), H, toks_ok I _, rfl, q⟩
def rIxDc (K : Kit) : R2 := fun x y H Q => ∃ a d k xs p v, y = .ref a ∧ x = .ref d ∧ H d = some (.ext (DRaw K.P K.w d xs)) ∧ KeysAt K H xs ∧ KeyAt K H a k ∧ atKey xs k = some p ∧ L2.RelV v p.2 ∧ Q v H
theorem ix_dc {j : Nat} (hr : Room j X.A) : IxR X (rIxDc (kit X T)) := fun value slice pins s σ H x y v u Q I rx ry ⟨a, d, k, xs, p, z, e1, e2, hd, ks, ka, hp, rz, q⟩ hsub => by
  subst e1 e2
  cases rx; cases ry
  obtain ⟨m, D⟩ := dict_of (K := kit X T) I.hok I.kIn hd ks
  refine tail_any (T := "dict") (id := "dict.__getitem__") D.typeIs (by rfl) ?_ hsub
  exact wpAny_getItem_heap (room9 hr) (ka _ I.hok I.kIn) D hp ⟨z, H, toks_ok I _, rz, q⟩
def rSetDc (K : Kit) : TSet := fun o i v H Q => ∃ a d k xs, i = .ref a ∧ o = .ref d ∧ H d = some (.ext (DRaw K.P K.w d xs)) ∧ KeysAt K H xs ∧ KeyAt K H a k ∧ xs.length ≤ sizeLine ∧ ∀ u, L2.RelV v u → Q (upd H d (.ext (DRaw K.P K.w d (storedH xs k a u))))
theorem set_dc {j : Nat} (hr : Room j X.A) : PSet X (rSetDc (kit X T)) := fun pins s σ H o i v ov iv u Q I ro ri rv ⟨a, d, k, xs, e1, e2, hd, ks, ka, hl, q⟩ => by
  subst e1 e2
  cases ro; cases ri
  obtain ⟨m, D⟩ := dict_of (K := kit X T) I.hok I.kIn hd ks
  refine wpAny_setItem_heap (room9 hr) (ka _ I.hok I.kIn) D (fun h' D' sb => ?_) hl
  have hm : Mut (H d) := by rw [hd]; trivial
  have st : ∀ (b : Addr) (u : Obj), b ≠ d → s.heap.get? b = some u → h'.get? b = some u := fun b u n e => by rw [sb.2 b n]; exact e
  obtain ⟨o, es, ep, b1, b2, b3, b4, b5, b6⟩ := D'
  have ok : ObjOk X.prog X.w (upd H d (.ext (DRaw X.prog X.w d (storedH xs k a u)))) h' d (.ext (DRaw X.prog X.w d (storedH xs k a u))) := raw_ok ⟨m, o, es, ep, b1, b2, b3, b4, b6⟩
  exact ⟨_, I.un (Un.write hm (.inl rfl) st ⟨o, b1⟩) (I.hok.write hm (.inl rfl) st ⟨o, b1⟩ ok), q u rv⟩
/-- {} as such a dict -/
def tDNewT (K : Kit) : TE := fun _ H Q => ∀ p, H p = none → Q (.ref p) (upd H p (.ext (DRaw K.P K.w p [])))
theorem upd_upd {H : Hp} {p : Addr} {o o' : HO} : upd (upd H p o) p o' = upd H p o' := by
  funext b; unfold upd; split <;> rfl
theorem pe_dnewT {pos : Pos} : PE X (.Dict [] [] pos) (tDNewT (kit X T)) := by
  refine ⟨fun pins s σ H Q I h => ?_⟩
  refine thn ((pe_dnewK (X := X) (pos := pos)).run pins s σ H (fun v H' => ∃ p, H p = none ∧ v = .ref p ∧ H' = upd H p (.dK [])) I fun p hp => ⟨p, hp, rfl, rfl⟩) fun u s1 ⟨v, H1, I1, r1, p, hp, e1, e2⟩ => ?_
  subst e1 e2
  refine ⟨.ref p, _, ?_, r1, h p hp⟩
  have ok := I1.hok p (.dK []) upd_same
  obtain ⟨_, q, vs, kv, o, es, ep, b1, b2, b3, b4, b5, b6⟩ := ok
  cases kv
  cases hes : es.toList with
  | nil =>
    have ok2 : ObjOk X.prog X.w (upd (upd H p (.dK [])) p (.ext (DRaw X.prog X.w p []))) s1.heap p (.ext (DRaw X.prog X.w p [])) := raw_ok ⟨q, o, es, ep, b1, b2, b3, by rw [hes]; rfl, .nil⟩
    have hm : Mut (upd H p (.dK []) p) := by rw [upd_same]; trivial
    have := I1.un (t' := s1.toks) (Un.write hm (.inl rfl) (fun _ _ _ e => e) ⟨o, b1⟩) (I1.hok.write hm (.inl rfl) (fun _ _ _ e => e) ⟨o, b1⟩ ok2)
    rw [upd_upd] at this
    exact this
  | cons e es' => rw [hes] at b5; cases b5
end
/-! ### over data -/
def dkAt (kvs : List (DT × DT)) (k : DT) : Option DT := (kvs.find? fun p => decide (keyOf p.1 = keyOf k)).map fun p => p.2
def dkPut (kvs : List (DT × DT)) (k v : DT) : List (DT × DT) := if (dkAt kvs k).isSome then kvs.map (fun p => if keyOf p.1 = keyOf k then (p.1, v) else p) else kvs ++ [(k, v)]
/-- a key's depth is no more than the kit carries -/
def keyOk (d : DT) : Bool := match keyOf d with
  | some (.tup ks) => decide ((NestedKey.tup ks).depth ≤ 8)
  | _ => false
def dctOf (μ : Mu) : DT → Option (List (DT × DT))
  | .dct kvs => some kvs
  | .adr a => match μ a with
    | some (.dct kvs) => some kvs
    | _ => none
  | _ => none
section
variable {K : Kit}
theorem keyOk_at {w : Wd} {v : V} {d : DT} (st : Sta K w) (r : Rep K w.H v d) (h : keyOk d = true) : ∃ a k, v = .ref a ∧ keyOf d = some k ∧ k.depth ≤ 8 ∧ KeyAt K w.H1 a k := by
  unfold keyOk at h
  split at h
  · rename_i ks q
    have hd := of_decide_eq_true h
    cases r with
    | tup hs ra => exact ⟨_, _, rfl, q, hd, (Rep.tup hs ra).keyAt st.ex q hd⟩
    | non => simp only [keyOf] at q; cases q
    | int i => simp only [keyOf] at q; cases q
    | str i => simp only [keyOf] at q; cases q
    | _ => simp only [keyOf] at q; cases q
  · cases h
theorem dct_at {w : Wd} {v : V} {d : DT} {kvs : List (DT × DT)} (st : Sta K w) (r : Rep K w.H v d) (h : dctOf w.mu d = some kvs) : ∃ a xs, v = .ref a ∧ w.H1 a = some (.ext (DRaw K.P K.w a xs)) ∧ RepKV K w.H xs kvs := by
  cases r with
  | dctT hs ra => cases h; exact ⟨_, _, rfl, st.ex _ _ hs, ra⟩
  | adr a =>
    cases q : w.mu a with
    | none => simp only [dctOf, q] at h; cases h
    | some m =>
      cases m with
      | dct es =>
        simp only [dctOf, q] at h; cases h
        obtain ⟨_, xs, e, ra⟩ := st.mu a _ q
        exact ⟨a, xs, rfl, e, ra⟩
      | _ => simp only [dctOf, q] at h; cases h
  | _ => cases h
theorem RepKV.find {H : Hp} {kd : DT} {k : NestedKey} (hk : keyOf kd = some k) : ∀ {xs : List (NestedKey × Addr × Value)} {kvs : List (DT × DT)}, RepKV K H xs kvs →
    match dkAt kvs kd with
    | none => atKey xs k = none
    | some d => ∃ p v, atKey xs k = some p ∧ L2.RelV v p.2 ∧ Rep K H v d
  | _, _, .nil => rfl
  | _, _, .cons (k := k') (u := u) (kd := kd') (d := d') (v := v) (r := r') (rs := rs) a b c e f r => by
    have ih := RepKV.find hk r
    unfold dkAt atKey at ih ⊢
    rw [List.find?_cons, List.find?_cons]
    by_cases q : k' = k
    · have q2 : keyOf kd' = keyOf kd := by rw [b, hk, q]
      rw [decide_eq_true q2, decide_eq_true q]
      exact ⟨_, v, rfl, e, f⟩
    · have q2 : ¬ keyOf kd' = keyOf kd := by rw [b, hk]; exact fun z => q (Option.some.inj z)
      rw [decide_eq_false q2, decide_eq_false q]
      exact ih
theorem RepKV.isSome {H : Hp} {kd : DT} {k : NestedKey} (hk : keyOf kd = some k) {xs : List (NestedKey × Addr × Value)} {kvs : List (DT × DT)} (r : RepKV K H xs kvs) : (atKey xs k).isSome = (dkAt kvs kd).isSome := by
  have := r.find hk
  cases q : dkAt kvs kd with
  | none => rw [q] at this; rw [show atKey xs k = none from this]; rfl
  | some d => rw [q] at this; obtain ⟨p, v, e, _⟩ := this; rw [e]; rfl
theorem RepKV.append {H : Hp} : ∀ {xs ys : List (NestedKey × Addr × Value)} {kvs lvs : List (DT × DT)}, RepKV K H xs kvs → RepKV K H ys lvs → RepKV K H (xs ++ ys) (kvs ++ lvs)
  | _, _, _, _, .nil, q => q
  | _, _, _, _, .cons a b c e f r, q => .cons a b c e f (r.append q)
theorem RepKV.mapPut {H : Hp} {kd d : DT} {k : NestedKey} {v : V} {u : Value} (hk : keyOf kd = some k) (rv : L2.RelV v u) (rd : Rep K H v d) : ∀ {xs : List (NestedKey × Addr × Value)} {kvs : List (DT × DT)}, RepKV K H xs kvs → RepKV K H (xs.map (putAt k u)) (kvs.map fun p => if keyOf p.1 = keyOf kd then (p.1, d) else p)
  | _, _, .nil => .nil
  | _, _, .cons (k := k') (a := a') (u := u') (kd := kd') (d := d') (v := v') (r := r') (rs := rs) a b c e f r => by
    rw [List.map_cons, List.map_cons]
    have ih := RepKV.mapPut hk rv rd r
    by_cases q : k' = k
    · have q2 : keyOf kd' = keyOf kd := by rw [b, hk, q]
      have e1 : putAt k u (k', a', u') = (k', a', u) := by unfold putAt; rw [if_pos q]
      rw [e1, if_pos q2]
      exact .cons a b c rv rd ih
    · have q2 : ¬ keyOf kd' = keyOf kd := by rw [b, hk]; exact fun z => q (Option.some.inj z)
      have e1 : putAt k u (k', a', u') = (k', a', u') := by unfold putAt; rw [if_neg q]
      rw [e1, if_neg q2]
      exact .cons a b c e f ih
theorem RepKV.put {H : Hp} {kd d : DT} {k : NestedKey} {a : Addr} {v : V} {u : Value} (hk : keyOf kd = some k) (ra : Rep K H (.ref a) kd) (hd : k.depth ≤ 8) (rv : L2.RelV v u) (rd : Rep K H v d) {xs : List (NestedKey × Addr × Value)} {kvs : List (DT × DT)} (r : RepKV K H xs kvs) : RepKV K H (storedH xs k a u) (dkPut kvs kd d) := by
  unfold storedH dkPut
  rw [r.isSome hk]
  split
  · exact r.mapPut hk rv rd
  · exact r.append (.cons ra hk hd rv rd .nil)
theorem RepKV.length {H : Hp} : ∀ {xs : List (NestedKey × Addr × Value)} {kvs : List (DT × DT)}, RepKV K H xs kvs → xs.length = kvs.length
  | _, _, .nil => rfl
  | _, _, .cons _ _ _ _ _ r => congrArg (· + 1) r.length
end
section
variable {Z : Bd}
def dInD (neg : Bool) : dR2 := fun x y μ Φ => ∃ kvs, keyOk x = true ∧ dctOf μ y = some kvs ∧ Φ (.bl (if neg then !(dkAt kvs x).isSome else (dkAt kvs x).isSome)) μ
theorem ro_inD {neg : Bool} : RO Z (rInDc Z.K neg) (dInD neg) := fun B w x y dx dy Φ Q st wo rx ry h k => by
  obtain ⟨kvs, h1, h2, h⟩ := h
  obtain ⟨a, n, rfl, hn, hd, ka⟩ := keyOk_at st rx h1
  obtain ⟨d, xs, rfl, hs, ra⟩ := dct_at st ry h2
  refine ⟨a, d, n, xs, rfl, rfl, hs, ra.keysAt st.ex, ka, ?_⟩
  rw [ra.isSome hn]
  exact done st wo k h (.bl _)
def dIxD : dR2 := fun x y μ Φ => ∃ kvs d, keyOk y = true ∧ dctOf μ x = some kvs ∧ dkAt kvs y = some d ∧ Φ d μ
theorem ro_ixD : RO Z (rIxDc Z.K) dIxD := fun B w x y dx dy Φ Q st wo rx ry h k => by
  obtain ⟨kvs, d, h1, h2, h3, h⟩ := h
  obtain ⟨a, n, rfl, hn, hd, ka⟩ := keyOk_at st ry h1
  obtain ⟨p, xs, rfl, hs, ra⟩ := dct_at st rx h2
  have f := ra.find hn
  rw [h3] at f
  obtain ⟨q, v, e1, e2, e3⟩ := f
  exact ⟨a, p, n, xs, q, v, rfl, rfl, hs, ra.keysAt st.ex, ka, e1, e2, done st wo k h e3⟩
def dgSubD (e i : dE) : dG := fun d env μ N => e env μ fun o μ1 => i env μ1 fun y μ2 => ∃ a kvs, o = .adr a ∧ keyOk y = true ∧ μ2 a = some (.dct kvs) ∧ kvs.length ≤ 1000000 ∧ N env (μ2.put a (.dct (dkPut kvs y d)))
theorem rg_subD {te ti : TE} {de di : dE} {vs : List Nat} (he : RE Z te de) (hi : RE Z ti di) : RG Z (gSub te ti (rSetDc Z.K)) (dgSubD de di) vs := fun B σ w env v d N Q xr st wo sl rv h k =>
  he B σ w env _ _ xr st wo sl h fun o vo w1 h1 s1 o1 e1 r1 =>
    hi B σ w1 env _ _ xr s1 o1 (sl.mono e1) h1 fun y vy w2 ⟨p, kvs, q1, q2, q3, q4, h2⟩ s2 o2 e2 r2 => by
      subst q1
      cases r1
      obtain ⟨a, n, rfl, hn, hd, ka⟩ := keyOk_at s2 r2 q2
      obtain ⟨_, xs, hs, ra⟩ := s2.mu p _ q3
      have rv2 := rv.mono (e1.trans e2)
      refine ⟨a, p, n, xs, rfl, rfl, hs, ra.keysAt s2.ex, ka, by rw [ra.length]; exact Nat.le_trans q4 (by decide), fun u ru => ?_⟩
      obtain ⟨s3, o3⟩ := s2.write (o := .ext (DRaw Z.K.P Z.K.w p (storedH xs n a u))) (m := .dct (dkPut kvs y d)) q3 ⟨_, upd_same, ra.put hn r2 hd ru rv2⟩
      exact k env σ _ h2 s3 (o2.trans o3) (e1.trans (e2.trans o3.ex)) (sl.mono (e1.trans (e2.trans o3.ex))) rfl
def dNewD : dE := fun _ μ Φ => ∀ p, μ p = none → Φ (.adr p) (μ.put p (.dct []))
theorem re_newD : RE Z (tDNewT Z.K) dNewD := fun B σ w env Φ Q xr st wo sl h k p hp => by
  obtain ⟨s2, o2⟩ := st.newM (o := .ext (DRaw Z.K.P Z.K.w p [])) (m := .dct []) hp ⟨[], upd_same, .nil⟩
  exact k _ _ (w.newM p _ _) (h p (st.nil hp).2) s2 (wo.trans o2) o2.ex (.adr p)
end
end SW


/-! SWDcc: {tuple: value for ..}: the rule over the hand layer, the reading over data. -/
namespace SW
open PySem L2 PyProof.Rows
def tDcT (K : Kit) (wi : TI) (g : TG) (tt : TT) (tk tv : TE) (vs : List Nat) : TE := fun σ H Q => wi σ H fun J H1 => ∀ D, H1 D = none → ∃ W : Nat → Nat → Hp → Prop, (∃ m, W 0 m (upd H1 D (.ext (DRaw K.P K.w D [])))) ∧ ∀ i m H, W i m H →
  J.stop i H ∧ Q (.ref D) H ∨ J.go i H ∧ ∃ Nx : Hp → Prop, (∀ H', Nx H' → ∃ m', m' < m ∧ W (i + 1) m' H') ∧ ∀ x H', J.yld i H x H' → g x (wipe σ vs) H' fun σ2 H2 => wipe σ2 vs = wipe σ vs ∧ tt σ2 H2 fun b H3 =>
    if b = true then tk σ2 H3 fun y H4 => tv σ2 H4 fun z H5 => ∃ a k xs, y = .ref a ∧ H5 D = some (.ext (DRaw K.P K.w D xs)) ∧ KeysAt K H5 xs ∧ KeyAt K H5 a k ∧ xs.length ≤ sizeLine ∧ ∀ u, L2.RelV z u → Nx (upd H5 D (.ext (DRaw K.P K.w D (storedH xs k a u))))
    else Nx H3
theorem raw_nil {P : Program} {w : World} {H : Hp} (h : Heap) (hb : sysModules < h.objs.size) : ObjOk P w H (h.push { cls := .type "dict", data := .dict #[] }) h.objs.size (.ext (DRaw P w h.objs.size [])) := by
  refine raw_ok ⟨?_, _, #[], 0, Heap.get?_push_size h rfl, ⟨rfl, rfl, rfl⟩, rfl, rfl, .nil⟩
  exact beq_false_of_ne (Nat.ne_of_gt hb)
theorem d_dictSetT {X : Cx} {pins : List (Addr × Obj)} {σ : L2.St} {H : Hp} {s : Shared} {E : Value → Shared → Prop} {D a : Addr} {k : NestedKey} {xs : List (NestedKey × Addr × Value)} {r : Value} {Q : Unit → Shared → Prop} {j : Nat} (hr : Room j X.A) (I : Inv X pins σ H s)
    (hd : H D = some (.ext (DRaw X.prog X.w D xs))) (ks : KeysAt (kit X T) H xs) (ka : KeyAt (kit X T) H a k) (hl : xs.length ≤ sizeLine) (q : ∀ s', Inv X pins σ (upd H D (.ext (DRaw X.prog X.w D (storedH xs k a r)))) s' → Q () s') :
    wpAny (model X.prog X.w) X.A (dictSet D (.ref a) r) Q E s := by
  obtain ⟨m, D'⟩ := dict_of (K := kit X T) I.hok I.kIn hd ks
  refine wpAny_dictSet_heap (knd := nestedKind X.prog X.w) (by have := hr.units; show X.A.units + 8 < cLine; omega) (ka _ I.hok I.kIn) D' (fun h' D2 sb => q _ ?_) hl
  have hm : Mut (H D) := by rw [hd]; trivial
  have st : ∀ (b : Addr) (u : Obj), b ≠ D → s.heap.get? b = some u → h'.get? b = some u := fun b u n e => by rw [sb.2 b n]; exact e
  obtain ⟨o, es, ep, b1, b2, b3, b4, b5, b6⟩ := D2
  have ok : ObjOk X.prog X.w (upd H D (.ext (DRaw X.prog X.w D (storedH xs k a r)))) h' D (.ext (DRaw X.prog X.w D (storedH xs k a r))) := raw_ok ⟨m, o, es, ep, b1, b2, b3, b4, b6⟩
  exact I.un (Un.write hm (.inl rfl) st ⟨o, b1⟩) (I.hok.write hm (.inl rfl) st ⟨o, b1⟩ ok)
theorem pe_dcT {X : Cx} {j : Nat} {kx vx tg iter : Expr} {ifs : List Expr} {scope : Scope} {own : List (Str × Nat)} {pos : Pos} {wi : TI} {g : TG} {tt : TT} {tk tv : TE} (hr : Room j X.A) (hc : X.calm = true) (hn : X.N.Nodup) (hi : PI X tg iter wi) (hb : BlkOk X.N X.env.scope scope own)
    (hg : ∀ s H C cl fp, PG (X.blk s H scope (compEnvC scope cl C X.env) fp) tg g) (ht : ∀ s H C cl fp, PTs (X.blk s H scope (compEnvC scope cl C X.env) fp) ifs tt) (hk : ∀ s H C cl fp, PE (X.blk s H scope (compEnvC scope cl C X.env) fp) kx tk) (hv : ∀ s H C cl fp, PE (X.blk s H scope (compEnvC scope cl C X.env) fp) vx tv)
    (hf : ∀ x, foldedSetIterable iter X.env x = pure x := by intro; rfl) : PE X (kx.DictComp vx [⟨tg, iter, ifs, 0⟩] scope pos) (tDcT (kit X T) wi g tt tk tv (own.map fun x => x.2)) := by
  refine ⟨fun pins s σ H Q I h => ?_⟩
  rw [arm_eval_DictComp]
  refine wpAny_comprehension_free (g := ⟨tg, iter, ifs, 0⟩) (gs := []) rfl hf (closure_ok (scope := scope) (env := X.env) fun y hy e => ?_) hb.kind (fun y hy e => by rw [hb.uniq y hy, e]) ?_
  · exact I.ok.has _ (hb.free y hy e)
  refine thn (hi.run pins s σ H _ I h) fun v s1 h1 => ?_
  refine thn h1 fun itv s2 ⟨it, fp, tn, J, H1, e, I2, T, t0, hfp, hR⟩ => ?_
  subst e
  refine wpAny_newObj_type ?_
  refine newEnv_comp ?_
  have big := I2.big
  have hD : H1 s2.heap.objs.size = none := I2.hok.fresh (Nat.le_refl _)
  obtain ⟨W, ⟨m0, w0⟩, hW⟩ := hR s2.heap.objs.size hD
  have I3 := I2.laid (a := s2.heap.objs.size) (t' := s2.toks) (h' := s2.heap.push { cls := .type "dict", data := .dict #[] }) (o := .ext (DRaw X.prog X.w s2.heap.objs.size [])) (fun b u e => Heap.get?_push_of_some _ e) (Nat.le_refl _) (raw_nil s2.heap big)
  have hlt : ∀ b ∈ fp, b < s2.heap.objs.size := fun b hb => by obtain ⟨o, ho, _⟩ := T.obj 0 _ t0 b hb; exact Heap.lt_size ho
  have I4 := block_start (fp := fp) I3 hb hn fun b hb' => by
    have := hlt b hb'
    refine ⟨⟨(upd_ne (Nat.ne_of_lt this)).trans (hfp b hb').1, (hfp b hb').2⟩, ?_⟩
    show b < (s2.heap.push _).objs.size
    rw [Heap.size_push]; exact Nat.lt_succ_of_lt this
  let XB : Cx := X.blk { heap := s2.heap.push { cls := .type "dict", data := .dict #[] }, gens := s2.gens, drawn := s2.drawn, toks := s2.toks, os := s2.os } (upd H1 s2.heap.objs.size (.ext (DRaw X.prog X.w s2.heap.objs.size []))) scope (compEnvC scope (cellsFrom ((s2.heap.push { cls := .type "dict", data := .dict #[] }).objs.size + 1) scope.names (cloFrom X.env.cells scope.names [])) (s2.heap.push { cls := .type "dict", data := .dict #[] }).objs.size X.env) fp
  have t4 : tn 0 (pushCells ((s2.heap.push { cls := .type "dict", data := .dict #[] }).push { cls := .type "dict", data := .dict #[] }) scope.names) := T.keep 0 _ _ t0 fun b hb' o ho => pushCells_keeps _ _ _ _ (Heap.get?_push_of_some _ (Heap.get?_push_of_some _ ho))
  have fpB : ∀ {H : Hp}, (∀ b ∈ fp, H b = none) → ∀ b ∈ fp, FpOk XB [] H b := fun {H} h b hb' =>
    ⟨h b hb', (I4.ok.exf b hb').1, I4.ok.exfs b hb', .inl hb', (I4.ok.exf b hb').2, fun p hp => by cases hp⟩
  have n3 : ∀ b ∈ fp, upd H1 s2.heap.objs.size (.ext (DRaw X.prog X.w s2.heap.objs.size [])) b = none := fun b hb' => (upd_ne (Nat.ne_of_lt (hlt b hb'))).trans (hfp b hb').1
  refine codeAny_compStart_dict ?_ (T.self _ 0 _ _ _ t4 ?_)
  all_goals
    refine compLoop_anyD (fun n s => ∃ i H, W i n H ∧ Inv XB [] (wipe σ (own.map fun x => x.2)) H s ∧ tn i s.heap ∧ ∀ b ∈ fp, H b = none) (fun n s ⟨i, H, hw, IB, ti, hn'⟩ => ?_) m0 ⟨0, _, w0, I4, t4, n3⟩
    rcases hW i n H hw with ⟨hs, hq⟩ | ⟨hgo, Nx, hNx, hy⟩
    · refine thn (T.done XB rfl rfl rfl hc i [] s _ H _ IB (fpB hn') ti hs) fun r s5 ⟨e, I5⟩ => ?_
      subst e
      obtain ⟨m, hm, _⟩ := I5.loc
      have I6 : Inv X pins σ H s5 := I3.call' (ch := fp) (by rw [I5.os]) I5.base I5.hok I5.bare fun b hb' => ⟨(hfp b hb').2.2.2.1, (hfp b hb').2.1, (hfp b hb').2.2.2.2.1, (hfp b hb').2.2.2.2.2⟩
      have fc := I3.fpOk (b := (s2.heap.push { cls := .type "dict", data := .dict #[] }).objs.size) (H' := H) (Nat.le_refl _) I5.free
      refine ⟨m, hm, fun h' sb => ⟨.ref s2.heap.objs.size, H, ?_, rfl, hq⟩⟩
      exact I6.turned (it := (s2.heap.push { cls := .type "dict", data := .dict #[] }).objs.size) (fun b o n e => by rw [sb.2 b n]; exact e) fc.1 fc.2.1 fc.2.2.2.1 fc.2.2.2.2.1 fc.2.2.2.2.2
    · refine thn (T.item XB rfl rfl rfl hc i [] s _ H _ IB (fpB hn') ti hgo) fun r s5 ⟨u, e, hu⟩ => ?_
      subst e
      refine thn hu fun _ s6 ⟨x, H6, I6, rx, hyld, t6, n6⟩ => ?_
      have P6 := I6.pinned (fpB n6) (T.obj (i + 1) _ t6)
      refine thnF ((hg _ _ _ _ _).run _ s6 _ H6 x u _ P6 rx (hy x H6 hyld)) fun _ s7 ⟨σ2, H7, I7, hwp, q7⟩ => ?_
      refine thnF ((ht _ _ _ _ _).run _ s7 _ H7 _ I7 q7) fun b s8 ⟨H8, I8, q8⟩ => ?_
      have back : ∀ {H9 : Hp} {s9 : Shared}, Inv XB ([] ++ pinsAt fp s6.heap) σ2 H9 s9 → Nx H9 → ∃ m, m < n ∧ ∃ i H, W i m H ∧ Inv XB [] (wipe σ (own.map fun x => x.2)) H s9 ∧ tn i s9.heap ∧ ∀ b ∈ fp, H b = none := fun {H9 s9} I9 hx => by
        obtain ⟨m', lt, hw'⟩ := hNx H9 hx
        have pin : ∀ b ∈ fp, ∀ o, s6.heap.get? b = some o → s9.heap.get? b = some o ∧ H9 b = none := fun b hb' o ho => by
          have := I9.pin (b, o) (List.mem_append_right _ (List.mem_append_right _ (mem_pinsAt hb' ho)))
          exact ⟨this.1, this.2.1⟩
        refine ⟨m', lt, i + 1, H9, hw', (I9.weak ?_ fun j v hj => ?_).unpinned (pins := []), T.keep (i + 1) _ _ t6 fun b hb' o ho => (pin b hb' o ho).1, fun b hb' => ?_⟩
        · rw [← hwp, wipe_length]
        · rw [← hwp] at hj; exact (wipe_some hj).1
        · obtain ⟨o, ho, _⟩ := T.obj (i + 1) _ t6 b hb'; exact (pin b hb' o ho).2
      cases b with
      | false => exact back I8 q8
      | true =>
        refine thnF ((hk _ _ _ _ _).run _ s8 _ H8 _ I8 q8) fun kv s9 ⟨y, H9, I9, r9, q9⟩ => ?_
        refine thnF ((hv _ _ _ _ _).run _ s9 _ H9 _ I9 q9) fun vv s10 ⟨z, H10, I10, r10, a, k, xs, e, hd, ks, ka, hl, q10⟩ => ?_
        subst e
        cases r9
        exact d_dictSetT (X := X.blk _ _ scope _ fp) (j := j) hr I10 hd ks ka hl fun s11 I11 => back I11 (q10 vv r10)
/-! ### over data -/
section
variable {Z : Bd}
def dDcGo (dg : dG) (dt : dT) (dk dv : dE) (env : DEnv) : List DT → List (DT × DT) → Mu → (List (DT × DT) → Mu → Prop) → Prop
  | [], acc, μ, Φ => Φ acc μ
  | x :: xs, acc, μ, Φ => dg x env μ fun env' μ' => dt env' μ' fun b μ2 => (b = true → dk env' μ2 fun y μ3 => dv env' μ3 fun z μ4 => keyOk y = true ∧ acc.length ≤ 1000000 ∧ dDcGo dg dt dk dv env xs (dkPut acc y z) μ4 Φ) ∧ (b = false → dDcGo dg dt dk dv env xs acc μ2 Φ)
def dDcR (di : dIt) (dg : dG) (dt : dT) (dk dv : dE) (vs : List Nat) : DEnv → Mu → (List (DT × DT) → Mu → Prop) → Prop := fun env μ Φ => di env μ fun items μ1 => dDcGo dg dt dk dv (wipeD env vs) items [] μ1 Φ
def dDcT (di : dIt) (dg : dG) (dt : dT) (dk dv : dE) (vs : List Nat) : dE := fun env μ Φ => dDcR di dg dt dk dv vs env μ fun acc μ1 => Φ (.dct acc) μ1
/-- any walk's turns, for {..: ..} -/
theorem dc_it {K : Kit} {J : It} {n : Nat} {G : Hp → Prop} {Y : Nat → Hp → V → Hp → Prop} (wk : Walk J n G Y) {g : TG} {tt : TT} {tk tv : TE} {vs : List Nat} {σ : L2.St} {H1 : Hp} {D : Addr} {Qd : Hp → Prop} (Pv : Nat → Hp → Prop) (h0 : Pv 0 (upd H1 D (.ext (DRaw K.P K.w D []))))
    (hG : ∀ i H, i ≤ n → Pv i H → G H) (ht : ∀ i x H H', i < n → Pv i H → Y i H x H' → g x (wipe σ vs) H' fun σ2 H2 => wipe σ2 vs = wipe σ vs ∧ tt σ2 H2 fun b H3 =>
      if b = true then tk σ2 H3 fun y H4 => tv σ2 H4 fun z H5 => ∃ a k xs, y = .ref a ∧ H5 D = some (.ext (DRaw K.P K.w D xs)) ∧ KeysAt K H5 xs ∧ KeyAt K H5 a k ∧ xs.length ≤ sizeLine ∧ ∀ u, L2.RelV z u → Pv (i + 1) (upd H5 D (.ext (DRaw K.P K.w D (storedH xs k a u))))
      else Pv (i + 1) H3) (hq : ∀ H, Pv n H → Qd H) :
    ∃ W : Nat → Nat → Hp → Prop, (∃ m, W 0 m (upd H1 D (.ext (DRaw K.P K.w D [])))) ∧ ∀ i m H, W i m H → J.stop i H ∧ Qd H ∨ J.go i H ∧ ∃ Nx : Hp → Prop, (∀ H', Nx H' → ∃ m', m' < m ∧ W (i + 1) m' H') ∧ ∀ x H', J.yld i H x H' → g x (wipe σ vs) H' fun σ2 H2 => wipe σ2 vs = wipe σ vs ∧ tt σ2 H2 fun b H3 =>
      if b = true then tk σ2 H3 fun y H4 => tv σ2 H4 fun z H5 => ∃ a k xs, y = .ref a ∧ H5 D = some (.ext (DRaw K.P K.w D xs)) ∧ KeysAt K H5 xs ∧ KeyAt K H5 a k ∧ xs.length ≤ sizeLine ∧ ∀ u, L2.RelV z u → Nx (upd H5 D (.ext (DRaw K.P K.w D (storedH xs k a u))))
      else Nx H3 := by
  refine ⟨fun i m H => i + m = n ∧ Pv i H, ⟨n, by omega, h0⟩, fun i m H ⟨e, p⟩ => ?_⟩
  by_cases hm : m = 0
  · have hi : i = n := by omega
    subst hi
    exact .inl ⟨wk.stops H (hG _ H (Nat.le_refl _) p), hq H p⟩
  · have hi : i < n := by omega
    exact .inr ⟨wk.goes i H hi (hG i H (by omega) p), Pv (i + 1), fun H' p' => ⟨m - 1, by omega, by omega, p'⟩, fun x H' hy => ht i x H H' hi p (wk.yields i H x H' hi (hG i H (by omega) p) hy)⟩
theorem re_dcT {ti : TI} {tg : TG} {tt : TT} {tk tv : TE} {di : dIt} {dg : dG} {dt : dT} {dk dv : dE} {vs : List Nat} (hi : RI Z ti di) (hg : RG Z.calm tg dg vs) (ht : RT Z.calm tt dt) (hk : RE Z.calm tk dk) (hv : RE Z.calm tv dv) : RE Z (tDcT Z.K ti tg tt tk tv vs) (dDcT di dg dt dk dv vs) := fun B σ w env Φ Q xr st wo sl g k =>
  hi B σ w env _ _ xr st wo sl g fun items J w1 h1 s1 o1 e1 ok p hp => by
    obtain ⟨G, Y, wk, hG, hY⟩ := ok
    obtain ⟨n1, n2⟩ := s1.nil hp
    have hB : ∀ u, (∀ ps, u ≠ .tbl ps) → B.H1 p = some u → B.H p = none → B.mu p = none → False := fun u nt q1 q2 q3 => by
      have := (o1.fr p u q1 q2 q3 nt).1; rw [hp] at this; cases this
    refine dc_it (K := Z.K) wk (fun i H => ∃ (w' : Wd) (acc : List (DT × DT)) (xs : List (NestedKey × Addr × Value)), w'.H1 = H ∧ dDcGo dg dt dk dv (wipeD env vs) (items.drop i) acc w'.mu (fun acc μ1 => Φ (.dct acc) μ1) ∧ Sta Z.K w' ∧ Wo w1 w' ∧ w'.H1 p = some (.ext (DRaw Z.K.P Z.K.w p xs)) ∧ w'.H p = none ∧ w'.mu p = none ∧ RepKV Z.K w'.H xs acc)
      ⟨w1.outw p (.ext (DRaw Z.K.P Z.K.w p [])), [], [], rfl, (show dDcGo dg dt dk dv (wipeD env vs) items [] w1.mu _ from h1), s1.outw n1 n2 (noTab_none hp), (Wo.refl w1).outw hp, upd_same, n1, n2, .nil⟩ (fun i H hi ⟨w', acc, xs, e, _, s', o', _⟩ => e ▸ hG w' s' o'.ex) (fun i x H H' hi ⟨w', acc, xs, e, h', s', o', q1, q2, q3, ra⟩ hy => ?_) fun H ⟨w', acc, xs, e, h', s', o', q1, q2, q3, ra⟩ => ?_
    · subst e
      obtain ⟨w2, e2, m2, s2, o2, d, hd, rd⟩ := hY i w' x H' s' o'.ex hi hy
      subst e2
      obtain ⟨q1, q2, q3⟩ := o2.fr p _ q1 q2 q3 (fun _ z => by cases z)
      rw [drop_at hd] at h'
      have ex2 : Ex w.H w2.H := (e1.trans o'.ex).trans o2.ex
      refine hg w2 (wipe σ vs) w2 (wipeD env vs) x d _ _ XR.no s2 (Wo.refl _) ((sl.mono ex2).wipe vs) rd (m2 ▸ h') fun env3 σ3 w3 h3 s3 o3 e3 l3 wp => ?_
      refine ⟨wp.trans (wipe_wipe vs σ), ?_⟩
      refine ht w2 σ3 w3 env3 _ _ XR.no s3 o3 l3 h3 fun b w4 h4 s4 o4 e4 => ?_
      cases b with
      | true =>
        refine hk w2 σ3 w4 env3 _ _ XR.no s4 o4 (l3.mono e4) (h4.1 rfl) fun y vy w5 h5 s5 o5 e5 r5 => ?_
        refine hv w2 σ3 w5 env3 _ _ XR.no s5 o5 ((l3.mono e4).mono e5) h5 fun z vz w6 h6 s6 o6 e6 r6 => ?_
        obtain ⟨z1, z2, z3⟩ := o6.fr p _ q1 q2 q3 (fun _ z => by cases z)
        obtain ⟨h6a, h6b, h6⟩ := h6
        have r5' := r5.mono e6
        obtain ⟨a, n, rfl, hn, hd', ka⟩ := keyOk_at s6 r5' h6a
        have ra' := ra.mono (o2.ex.trans o6.ex)
        refine ⟨a, n, xs, rfl, z1, ra'.keysAt s6.ex, ka, by rw [ra.length]; exact Nat.le_trans h6b (by decide), fun u ru => ?_⟩
        exact ⟨w6.outw p (.ext (DRaw Z.K.P Z.K.w p (storedH xs n a u))), _, _, rfl, h6, s6.outw z2 z3 (noTab_draw z1), ((o'.trans o2).trans o6).outw hp, upd_same, z2, z3, ra'.put hn r5' hd' ru r6⟩
      | false =>
        obtain ⟨z1, z2, z3⟩ := o4.fr p _ q1 q2 q3 (fun _ z => by cases z)
        exact ⟨w4, acc, xs, rfl, h4.2 rfl, s4, (o'.trans o2).trans o4, z1, z2, z3, ra.mono (o2.ex.trans o4.ex)⟩
    · subst e
      rw [List.drop_length] at h'
      exact k _ _ (w'.know p (.ext (DRaw Z.K.P Z.K.w p xs))) h' (s'.know q1 q2 q3) ((o1.trans o').know q2 hB) ((e1.trans o'.ex).trans (Ex.new q2)) (.dctT upd_same (ra.mono (Ex.new q2)))
end
end SW


/-! SWZip: zip of two lists or tuples in any mix, as a walk. -/
namespace SW
open PySem L2 PyProof.Rows
/-- a list (false) or a tuple (true) -/
def sqK (t : Bool) (K : Frag) (H : Hp) (a : Addr) (xs : List V) : Prop := if t = true then SqT K H a xs else SqL K H a xs
def isK (t : Bool) (h : Heap) (a : Addr) (its : Array Value) : Prop := if t = true then h.IsTuple a its else h.IsList a its
def itK (t : Bool) (h : Heap) (it a : Addr) (i : Nat) : Prop := if t = true then h.IsTupleIter it a i else h.IsListIter it a i
def obK (t : Bool) (a : Addr) : Obj := { cls := .type (if t = true then "tuple_iterator" else "list_iterator"), data := .fields #[.ref a, .int 0 0] }
theorem sqK_at {t : Bool} {P : Program} {w : World} {K : Frag} {H : Hp} {h : Heap} {a : Addr} {xs : List V} (hk : HOk P w H h) (hi : K.In h) (s : sqK t K H a xs) : ∃ its : List Value, Vals xs its ∧ isK t h a its.toArray := by
  cases t with
  | true => obtain ⟨its, o, n, v, e1, e2, e3⟩ := sqT_at hk hi s; exact ⟨its, v, o, e1, e2, n, e3⟩
  | false => obtain ⟨its, o, n, v, e1, e2, e3⟩ := sqL_at hk hi s; exact ⟨its, v, o, e1, e2, n, e3⟩
theorem isK_lt {t : Bool} {h : Heap} {a : Addr} {its : Array Value} (s : isK t h a its) : a < h.objs.size := by
  cases t <;> (obtain ⟨o, e, _⟩ := s; exact Heap.lt_size e)
theorem isK_inj {t : Bool} {h : Heap} {a : Addr} {its its' : Array Value} (s : isK t h a its) (s' : isK t h a its') : its = its' := by
  cases t <;> (obtain ⟨o, e, _, n, d⟩ := s; obtain ⟨o', e', _, n', d'⟩ := s'; rw [e] at e'; cases e'; rw [d] at d'; injection d')
theorem begK (t : Bool) (a : Addr) (its : Array Value) : Begins (.ref a) (obK t a) (fun h => isK t h a its) := by
  cases t with
  | true => exact begins_tuple a its
  | false => exact begins_list a its
theorem drK {prog : Program} {w : World} {A : Around} (t : Bool) (hA : A.handled = none) (it a : Addr) (ne : a ≠ it) (its : Array Value) : Draws prog w A it [it, a] its.size (fun i v => its[i]? = some v) fun i h => itK t h it a i ∧ isK t h a its := by
  cases t with
  | true => exact Draws.tuple hA it a ne its
  | false => exact Draws.list hA it a ne its
theorem itK_keep {t : Bool} {h h' : Heap} {it a : Addr} {i : Nat} (k : ∀ o, h.get? it = some o → h'.get? it = some o) (s : itK t h it a i) : itK t h' it a i := by
  cases t <;> (obtain ⟨o, e, r⟩ := s; exact ⟨o, k o e, r⟩)
theorem itK_obj {t : Bool} {h : Heap} {it a : Addr} {i : Nat} (s : itK t h it a i) : ∃ o, h.get? it = some o ∧ ∀ v, o.data ≠ .cell v := by
  cases t <;> (obtain ⟨o, e, _, d⟩ := s; exact ⟨o, e, fun v z => by rw [d] at z; cases z⟩)
def ItzM (K : Frag) (t1 : Bool) (a : Addr) (t2 : Bool) (b : Addr) : It where
  go := fun i H => ∃ xs ys x y, sqK t1 K H a xs ∧ sqK t2 K H b ys ∧ xs[i]? = some x ∧ ys[i]? = some y
  yld := fun i H v H' => ∃ T x y, v = .ref T ∧ H T = none ∧ H' = upd H T (.tup [x, y]) ∧ (∀ xs, sqK t1 K H a xs → xs[i]? = some x) ∧ ∀ ys, sqK t2 K H b ys → ys[i]? = some y
  stop := fun i H => ∃ xs ys, sqK t1 K H a xs ∧ sqK t2 K H b ys ∧ i = min xs.length ys.length
theorem vals_get {xs : List V} {its : List Value} (v : Vals xs its) {i : Nat} {x : V} (h : xs[i]? = some x) : ∃ u, its[i]? = some u ∧ L2.RelV x u := by
  induction v generalizing i with
  | nil => simp at h
  | cons r v ih =>
    cases i with
    | zero => simp at h; subst h; exact ⟨_, rfl, r⟩
    | succ j => simpa using ih (by simpa using h)
theorem vals_len {xs : List V} {its : List Value} (v : Vals xs its) : xs.length = its.length := by
  induction v with
  | nil => rfl
  | cons r v ih => exact congrArg (· + 1) ih
theorem sqK_inj {X : Cx} {pins : List (Addr × Obj)} {σ : L2.St} {H : Hp} {s : Shared} {t : Bool} {a : Addr} {xs ys : List V} (I : Inv X pins σ H s) (h : sqK t X.K H a xs) (h' : sqK t X.K H a ys) : xs = ys := by
  cases t with
  | true => exact I.tuple_inj h h'
  | false => exact I.list_inj h h'
theorem turn_zipM {P : Program} {w : World} {K : Frag} {elts : List Expr} {kk : Nat} {tpos : Pos} {t1 t2 : Bool} {a b z TI TO i1 i2 : Addr} (sp : ZipSep2 z TI TO i1 i2 [i1, a] [i2, b]) (na : a ≠ i1) (nb : b ≠ i2) :
    Turn P w K (.Tuple elts kk tpos) (ItzM K t1 a t2 b) [z, TI, TO, i1, i2] z fun i h => IsZip h z TI TO .none ∧ IsTupOf2 h TI (.ref i1) (.ref i2) ∧ (∃ a1 a2, IsTupOf2 h TO a1 a2) ∧ itK t1 h i1 a i ∧ itK t2 h i2 b i := by
  refine ⟨.head _, fun i h ⟨hz, hTI, ⟨a1, a2, hTO⟩, h1, h2⟩ c hc => ?_, fun i h h' ⟨hz, hTI, ⟨a1, a2, hTO⟩, h1, h2⟩ k => ?_, ?_, ?_, fun A i s Q E ⟨hz, _⟩ q => wpAny_pyIter_zip hz q⟩
  · simp only [List.mem_cons, List.not_mem_nil, or_false] at hc
    rcases hc with rfl | rfl | rfl | rfl | rfl
    · exact ⟨_, hz, fun v q => nomatch q⟩
    · exact ⟨_, hTI, fun v q => nomatch q⟩
    · exact ⟨_, hTO, fun v q => nomatch q⟩
    · exact itK_obj h1
    · exact itK_obj h2
  · exact ⟨k _ (by simp) _ hz, k _ (by simp) _ hTI, ⟨a1, a2, k _ (by simp) _ hTO⟩, itK_keep (k _ (by simp)) h1, itK_keep (k _ (by simp)) h2⟩
  · intro X hP hw hK hc i pins s σ H E I fpk ⟨hz, hTI, hTO, h1, h2⟩ ⟨xs, ys, x, y, sx, sy, ex, ey⟩
    subst hP hw hK
    obtain ⟨u1, v1, k1⟩ := sqK_at I.hok I.kIn sx
    obtain ⟨u2, v2, k2⟩ := sqK_at I.hok I.kIn sy
    have hA : X.A.in1.handled = none := I.ok.hd hc
    have G := GoesN.zip2 (elts := elts) (x1 := kk) (pos := tpos) sp (drK (prog := X.prog) (w := X.w) t1 hA i1 a na u1.toArray) (drK (prog := X.prog) (w := X.w) t2 hA i2 b nb u2.toArray)
    obtain ⟨c1, d1, r1⟩ := vals_get v1 ex
    obtain ⟨c2, d2, r2⟩ := vals_get v2 ey
    have l1 : i < u1.length := (List.getElem?_eq_some_iff.mp d1).1
    have l2 : i < u2.length := (List.getElem?_eq_some_iff.mp d2).1
    refine thn (G.goes i s (fun v s2 => ∃ x H', Inv X pins σ H' s2 ∧ L2.RelV x v ∧ (ItzM X.K t1 a t2 b).yld i H x H' ∧ (IsZip s2.heap z TI TO .none ∧ IsTupOf2 s2.heap TI (.ref i1) (.ref i2) ∧ (∃ a1 a2, IsTupOf2 s2.heap TO a1 a2) ∧ itK t1 s2.heap i1 a (i + 1) ∧ itK t2 s2.heap i2 b (i + 1)) ∧ ∀ b ∈ [z, TI, TO, i1, i2], H' b = none) E (by simp; omega) ⟨hz, hTI, hTO, ⟨h1, k1⟩, h2, k2⟩ fun v h' tk ⟨T, x', y', e, hT, e1, e2, hTu⟩ ⟨g1, g2, g3, ⟨g4, _⟩, g5, _⟩ fr _ => ?_) fun r s1 ⟨v, e, q⟩ => ⟨v, e, q⟩
    subst e
    have e1' : x' = c1 := by
      have e1'' : u1[i]? = some x' := by simpa using e1
      rw [d1] at e1''; exact (Option.some.inj e1'').symm
    have e2' : y' = c2 := by
      have e2'' : u2[i]? = some y' := by simpa using e2
      rw [d2] at e2''; exact (Option.some.inj e2'').symm
    subst e1' e2'
    have fz : ∀ c ∈ [z, TO, i1, i2], FpOk X pins H c := fun c hc' => fpk c (by simp only [List.mem_cons, List.not_mem_nil, or_false] at hc' ⊢; rcases hc' with h | h | h | h <;> simp [h])
    have In := I.turnedNew (t' := tk) (ob := .tup [x, y]) (ch := [z, TO, i1, i2]) (T := T) (fun c o n e => fr c o n e) fz hT ⟨size2, [x', y'], .cons r1 (.cons r2 .nil), hTu⟩
    refine ⟨.ref T, _, In, rfl, ⟨T, x, y, rfl, I.hok.fresh hT, rfl, fun xs' s' => sqK_inj I sx s' ▸ ex, fun ys' s' => sqK_inj I sy s' ▸ ey⟩, ⟨g1, g2, g3, g4, g5⟩, fun c hc' => ?_⟩
    have hcl : c < s.heap.objs.size := by
      simp only [List.mem_cons, List.not_mem_nil, or_false] at hc'
      rcases hc' with rfl | rfl | rfl | rfl | rfl
      · exact Heap.lt_size hz
      · exact Heap.lt_size hTI
      · obtain ⟨_, _, q⟩ := hTO; exact Heap.lt_size q
      · obtain ⟨o, q, _⟩ := itK_obj h1; exact Heap.lt_size q
      · obtain ⟨o, q, _⟩ := itK_obj h2; exact Heap.lt_size q
    exact (upd_ne (Nat.ne_of_lt (Nat.lt_of_lt_of_le hcl hT))).trans (fpk c hc').1
  · intro X hP hw hK hc i pins s σ H E I fpk ⟨hz, hTI, hTO, h1, h2⟩ ⟨xs, ys, sx, sy, ei⟩
    subst hP hw hK
    obtain ⟨u1, v1, k1⟩ := sqK_at I.hok I.kIn sx
    obtain ⟨u2, v2, k2⟩ := sqK_at I.hok I.kIn sy
    have hA : X.A.in1.handled = none := I.ok.hd hc
    have G := GoesN.zip2 (elts := elts) (x1 := kk) (pos := tpos) sp (drK (prog := X.prog) (w := X.w) t1 hA i1 a na u1.toArray) (drK (prog := X.prog) (w := X.w) t2 hA i2 b nb u2.toArray)
    have e2 : i = min u1.toArray.size u2.toArray.size := by rw [ei, vals_len v1, vals_len v2]; simp
    subst e2
    refine G.stops s (fun s1 => Inv X pins σ H s1) E ⟨hz, hTI, hTO, ⟨h1, k1⟩, h2, k2⟩ fun h' tk fr _ => I.turnedL (ch := [z, TO, i1, i2]) (fun c o n e => fr c o n e) fun c hc' => fpk c (by simp only [List.mem_cons, List.not_mem_nil, or_false] at hc' ⊢; rcases hc' with h | h | h | h <;> simp [h])
def iZipM (K : Frag) (ta : TA) : TI := fun σ H R => ta σ H fun vs H1 => ∃ (t1 : Bool) (a : Addr) (t2 : Bool) (b : Addr) (xs ys : List V), vs = [.ref a, .ref b] ∧ sqK t1 K H1 a xs ∧ sqK t2 K H1 b ys ∧ R (ItzM K t1 a t2 b) H1
/-- zip(..) of arguments that come to two lists or tuples -/
theorem pi_zipM {X : Cx} {e : Expr} {es : List Expr} {ta : TA} {p pos tpos : Pos} {elts : List Expr} {kk : Nat} (hg : Gl X ("zip" : Str)) (hm : X.mg ("zip" : Str) = none) (ha : PA X (e :: es) ta)
    (hst : starEach (e :: es) X.env = (false, eval e X.env) :: starEach es X.env := by rfl) (hbk : ((backTo pos (starEach es X.env)).any fun x => x.fst) = false := by rfl) :
    PI X (.Tuple elts kk tpos) (.Call (.Name "zip" p) (e :: es) [] pos) (iZipM X.K ta) := by
  refine ⟨fun pins s σ H R I h => ?_⟩
  refine Call_ (ld_blt I hg hm boot_zip (callWith_type1 (thn (ha.run pos pins s σ H _ I h) fun us s1 ⟨vs, H1, I1, rv, t1, a, t2, b, xs, ys, ev, sx, sy, hR⟩ => ?_) hst hbk) (by decide))
  subst ev
  cases rv with
  | cons r1 rv =>
    cases rv with
    | cons r2 rv =>
      cases rv
      cases r1; cases r2
      obtain ⟨u1, v1, k1⟩ := sqK_at I1.hok I1.kIn sx
      obtain ⟨u2, v2, k2⟩ := sqK_at I1.hok I1.kIn sy
      have la := isK_lt k1
      have lb := isK_lt k2
      refine zip_begins2 (begK t1 a u1.toArray) (begK t2 b u2.toArray) k1 k2 fun h' g1 g2 g3 g4 g5 g6 g7 => ?_
      refine wpAny_pyIter_zip g1 ?_
      have I2 : Inv X pins σ H1 { heap := h', gens := s1.gens, drawn := s1.drawn, toks := s1.toks, os := s1.os } := I1.kept g7
      have fr : ∀ c, s1.heap.objs.size ≤ c → FpOk X pins H1 c := fun c hc => I1.fpOk hc (I1.hok.fresh hc)
      refine ⟨_, [s1.heap.objs.size + 4, s1.heap.objs.size + 2, s1.heap.objs.size + 3, s1.heap.objs.size, s1.heap.objs.size + 1], _, _, H1, rfl, I2, turn_zipM (t1 := t1) (t2 := t2) (a := a) (b := b) ?_ (Nat.ne_of_lt la) (Nat.ne_of_lt (Nat.lt_succ_of_lt lb)), ⟨g1, g2, ⟨_, _, g3⟩, ?_, ?_⟩, fun c hc => fr c ?_, hR⟩
      · exact zip_sep2 (N := s1.heap.objs.size) (fp1 := [a]) (fp2 := [b]) (fun c hc => by simp at hc; subst hc; exact la) (fun c hc => by simp at hc; subst hc; exact lb)
      · cases t1 <;> exact ⟨_, g4, rfl, rfl⟩
      · cases t2 <;> exact ⟨_, g5, rfl, rfl⟩
      · simp only [List.mem_cons, List.not_mem_nil, or_false] at hc
        rcases hc with rfl | rfl | rfl | rfl | rfl <;> first | exact Nat.le_add_right _ _ | exact Nat.le_refl _
end SW


/-! SWMore: readings over data: dicts keyed by texts, stores at once, signs of a text, zip, .. -/
namespace SW
open PySem L2 PyProof.Rows
/-! ### dicts keyed by texts or numbers -/
def ksAt (kvs : List (DT × DT)) (k : DT) : Option DT := (kvs.find? fun p => decide (keyS p.1 = keyS k)).map fun p => p.2
def ksPut (kvs : List (DT × DT)) (k v : DT) : List (DT × DT) := if (kvs.any fun p => decide (keyS p.1 = keyS k)) = true then kvs.map (fun p => if keyS p.1 = keyS k then (p.1, v) else p) else kvs ++ [(k, v)]
def ksMerge (kvs more : List (DT × DT)) : List (DT × DT) := more.foldl (fun acc p => ksPut acc p.1 p.2) kvs
def dcsOf (μ : Mu) : DT → Option (List (DT × DT))
  | .dcs kvs => some kvs
  | .adr a => match μ a with
    | some (.dcs kvs) => some kvs
    | _ => none
  | _ => none
section
variable {K : Kit}
theorem keyS_rep {H : Hp} {v : V} {d : DT} {k : Key} (r : Rep K H v d) (h : keyS d = some k) : v = kV k := by
  cases r <;> simp only [keyS] at h <;> cases h <;> rfl
theorem keyS_of {H : Hp} {d : DT} {k : Key} (h : keyS d = some k) : Rep K H (kV k) d := by
  cases d <;> simp only [keyS] at h <;> cases h
  · exact .int _
  · exact .str _
theorem RepKS.find {H : Hp} {kd : DT} {k : Key} (hk : keyS kd = some k) : ∀ {xs : List (Key × V)} {kvs : List (DT × DT)}, RepKS K H xs kvs →
    match ksAt kvs kd with
    | none => valV xs k = none
    | some d => ∃ v, valV xs k = some v ∧ Rep K H v d
  | _, _, .nil => rfl
  | _, _, .cons (k := k') (kd := kd') (d := d') (v := v) a f r => by
    have ih := RepKS.find hk r
    unfold ksAt valV at ih ⊢
    rw [List.find?_cons, List.find?_cons]
    by_cases q : k' = k
    · have q2 : keyS kd' = keyS kd := by rw [a, hk, q]
      rw [decide_eq_true q2, decide_eq_true q]
      exact ⟨v, rfl, f⟩
    · have q2 : ¬ keyS kd' = keyS kd := by rw [a, hk]; exact fun z => q (Option.some.inj z)
      rw [decide_eq_false q2, decide_eq_false q]
      exact ih
theorem RepKS.any {H : Hp} {kd : DT} {k : Key} (hk : keyS kd = some k) : ∀ {xs : List (Key × V)} {kvs : List (DT × DT)}, RepKS K H xs kvs → (xs.any fun kv => decide (kv.1 = k)) = kvs.any fun p => decide (keyS p.1 = keyS kd)
  | _, _, .nil => rfl
  | _, _, .cons (k := k') (kd := kd') a f r => by
    rw [List.any_cons, List.any_cons, r.any hk]
    congr 1
    by_cases q : k' = k
    · rw [decide_eq_true q, decide_eq_true (by rw [a, hk, q])]
    · rw [decide_eq_false q, decide_eq_false (by rw [a, hk]; exact fun z => q (Option.some.inj z))]
theorem RepKS.append {H : Hp} : ∀ {xs ys : List (Key × V)} {kvs lvs : List (DT × DT)}, RepKS K H xs kvs → RepKS K H ys lvs → RepKS K H (xs ++ ys) (kvs ++ lvs)
  | _, _, _, _, .nil, q => q
  | _, _, _, _, .cons a f r, q => .cons a f (r.append q)
theorem RepKS.mapPut {H : Hp} {kd d : DT} {k : Key} {v : V} (hk : keyS kd = some k) (rd : Rep K H v d) : ∀ {xs : List (Key × V)} {kvs : List (DT × DT)}, RepKS K H xs kvs → RepKS K H (xs.map fun kv => if kv.1 = k then (kv.1, v) else kv) (kvs.map fun p => if keyS p.1 = keyS kd then (p.1, d) else p)
  | _, _, .nil => .nil
  | _, _, .cons (k := k') (kd := kd') a f r => by
    rw [List.map_cons, List.map_cons]
    have ih := RepKS.mapPut hk rd r
    by_cases q : k' = k
    · have q2 : keyS kd' = keyS kd := by rw [a, hk, q]
      rw [if_pos q, if_pos q2]
      exact .cons a rd ih
    · have q2 : ¬ keyS kd' = keyS kd := by rw [a, hk]; exact fun z => q (Option.some.inj z)
      rw [if_neg q, if_neg q2]
      exact .cons a f ih
theorem RepKS.put {H : Hp} {kd d : DT} {k : Key} {v : V} (hk : keyS kd = some k) (rd : Rep K H v d) {xs : List (Key × V)} {kvs : List (DT × DT)} (r : RepKS K H xs kvs) : RepKS K H (putK xs k v) (ksPut kvs kd d) := by
  unfold putK ksPut
  rw [r.any hk]
  split
  · exact r.mapPut hk rd
  · exact r.append (.cons hk rd .nil)
theorem RepKS.merge {H : Hp} : ∀ {xs ys : List (Key × V)} {kvs lvs : List (DT × DT)}, RepKS K H xs kvs → RepKS K H ys lvs → RepKS K H (mergeK xs ys) (ksMerge kvs lvs)
  | _, _, _, _, r, .nil => r
  | _, _, _, _, r, .cons a f q => (r.put a f).merge q
theorem RepKS.length {H : Hp} : ∀ {xs : List (Key × V)} {kvs : List (DT × DT)}, RepKS K H xs kvs → xs.length = kvs.length
  | _, _, .nil => rfl
  | _, _, .cons _ _ r => congrArg (· + 1) r.length
theorem dcs_at {w : Wd} {v : V} {d : DT} {kvs : List (DT × DT)} (st : Sta K w) (r : Rep K w.H v d) (h : dcsOf w.mu d = some kvs) : ∃ a xs, v = .ref a ∧ w.H1 a = some (.dK xs) ∧ RepKS K w.H xs kvs := by
  cases r with
  | dctS hs ra => cases h; exact ⟨_, _, rfl, st.ex _ _ hs, ra⟩
  | adr a =>
    cases q : w.mu a with
    | none => simp only [dcsOf, q] at h; cases h
    | some m =>
      cases m with
      | dcs es =>
        simp only [dcsOf, q] at h; cases h
        obtain ⟨_, xs, e, ra⟩ := st.mu a _ q
        exact ⟨a, xs, rfl, e, ra⟩
      | _ => simp only [dcsOf, q] at h; cases h
  | _ => cases h
end
section
variable {Z : Bd}
def dGetS (e i : dE) : dE := fun env μ Φ => e env μ fun x μ1 => i env μ1 fun y μ2 => ∃ kvs d, dcsOf μ2 x = some kvs ∧ (keyS y).isSome = true ∧ ksAt kvs y = some d ∧ Φ d μ2
theorem re_getS {te ti : TE} {de di : dE} (he : RE Z te de) (hi : RE Z ti di) : RE Z (tDGet te ti) (dGetS de di) := fun B σ w env Φ Q xr st wo sl g k =>
  he B σ w env _ _ xr st wo sl g fun x v w1 h1 s1 o1 e1 r1 =>
    hi B σ w1 env _ _ xr s1 o1 (sl.mono e1) h1 fun y u w2 ⟨kvs, d, q1, q2, q3, h2⟩ s2 o2 e2 r2 => by
      obtain ⟨a, xs, rfl, hp, ra⟩ := dcs_at s2 (r1.mono e2) q1
      obtain ⟨n, hn⟩ := Option.isSome_iff_exists.mp q2
      have f := ra.find hn
      rw [q3] at f
      obtain ⟨z, e3, r3⟩ := f
      exact ⟨a, z, rfl, .inl ⟨xs, n, .inl hp, keyS_rep r2 hn, e3.symm⟩, k d z w2 h2 s2 o2 (e1.trans e2) r3⟩
/-- dict(a list of pairs) -/
abbrev bDictP (K : Frag) : List V → Hp → VK → Prop := fun xs H Q => ∃ a ps kvs, xs = [.ref a] ∧ SqL K H a (ps.map V.ref) ∧ Paired (fun p kv => SqT K H p [kV kv.1, kv.2]) ps kvs ∧ ∀ p, H p = none → Q (.ref p) (upd H p (.dK (mergeK [] kvs)))
def dDictP : dRC := fun ds μ Φ => ∃ x kvs, ds = [x] ∧ lstOf μ x = some (kvs.map fun p => .tup [p.1, p.2]) ∧ (kvs.all fun p => (keyS p.1).isSome) = true ∧ Φ (.dcs (ksMerge [] kvs)) μ
theorem pairs_at {K : Kit} {H : Hp} : ∀ {kvs : List (DT × DT)} {xs : List V}, RepAll K H xs (kvs.map fun p => DT.tup [p.1, p.2]) → (kvs.all fun p => (keyS p.1).isSome) = true → ∃ ps ks, xs = ps.map V.ref ∧ Paired (fun p kv => SqT K H p [kV kv.1, kv.2]) ps ks ∧ RepKS K H ks kvs
  | [], _, .nil, _ => ⟨[], [], rfl, .nil, .nil⟩
  | p :: kvs, _, .cons r rr, h => by
    simp only [List.all_cons, Bool.and_eq_true] at h
    obtain ⟨ps, ks, e, pr, rk⟩ := pairs_at rr h.2
    obtain ⟨k, hk⟩ := Option.isSome_iff_exists.mp h.1
    cases r with
    | tup hs ra =>
      obtain ⟨x, y, rfl, r1, r2⟩ := rall2 ra
      have := keyS_rep r1 hk
      subst this e
      exact ⟨_ :: ps, (k, y) :: ks, rfl, .cons hs pr, .cons hk r2 rk⟩
theorem paired_mono {α β : Type} {F G : α → β → Prop} (h : ∀ a b, F a b → G a b) : ∀ {xs : List α} {ys : List β}, Paired F xs ys → Paired G xs ys
  | _, _, .nil => .nil
  | _, _, .cons a r => .cons (h _ _ a) (paired_mono h r)
theorem rc_dictP : RC Z (bDictP Z.K) dDictP := fun B w xs dx Φ Q st wo r h k => by
  obtain ⟨x, kvs, rfl, h1, h2, h⟩ := h
  obtain ⟨v, rfl, r1⟩ := rall1 r
  obtain ⟨a, zs, rfl, hs, ra⟩ := lst_at st r1 h1
  obtain ⟨ps, ks, rfl, pr, rk⟩ := pairs_at ra h2
  exact ⟨a, ps, ks, rfl, hs, paired_mono (fun _ _ z => st.ex.t z) pr, fun p hp => doneN st wo k hp h fun e => .dctS upd_same (((RepKS.nil (K := Z.K)).merge rk).mono e)⟩
/-- {text: value for ..} -/
def dDsGo (dg : dG) (dt : dT) (dk dv : dE) (env : DEnv) : List DT → List (DT × DT) → Mu → (List (DT × DT) → Mu → Prop) → Prop
  | [], acc, μ, Φ => Φ acc μ
  | x :: xs, acc, μ, Φ => dg x env μ fun env' μ' => dt env' μ' fun b μ2 => (b = true → dk env' μ2 fun y μ3 => dv env' μ3 fun z μ4 => (keyS y).isSome = true ∧ acc.length ≤ 1000000 ∧ dDsGo dg dt dk dv env xs (ksPut acc y z) μ4 Φ) ∧ (b = false → dDsGo dg dt dk dv env xs acc μ2 Φ)
def dDcS (di : dIt) (dg : dG) (dt : dT) (dk dv : dE) (vs : List Nat) : dE := fun env μ Φ => di env μ fun items μ1 => dDsGo dg dt dk dv (wipeD env vs) items [] μ1 fun acc μ2 => Φ (.dcs acc) μ2
theorem ds_it {J : It} {n : Nat} {G : Hp → Prop} {Y : Nat → Hp → V → Hp → Prop} (wk : Walk J n G Y) {g : TG} {tt : TT} {tk tv : TE} {vs : List Nat} {σ : L2.St} {H1 : Hp} {D : Addr} {Qd : Hp → Prop} (Pv : Nat → Hp → Prop) (h0 : Pv 0 (upd H1 D (.dK [])))
    (hG : ∀ i H, i ≤ n → Pv i H → G H) (ht : ∀ i x H H', i < n → Pv i H → Y i H x H' → g x (wipe σ vs) H' fun σ2 H2 => wipe σ2 vs = wipe σ vs ∧ tt σ2 H2 fun b H3 =>
      if b = true then tk σ2 H3 fun y H4 => tv σ2 H4 fun z H5 => ∃ kvs k, y = kV k ∧ H5 D = some (.dK kvs) ∧ kvs.length < sizeLine ∧ Pv (i + 1) (upd H5 D (.dK (putK kvs k z)))
      else Pv (i + 1) H3) (hq : ∀ H, Pv n H → Qd H) :
    ∃ W : Nat → Nat → Hp → Prop, (∃ m, W 0 m (upd H1 D (.dK []))) ∧ ∀ i m H, W i m H → J.stop i H ∧ Qd H ∨ J.go i H ∧ ∃ Nx : Hp → Prop, (∀ H', Nx H' → ∃ m', m' < m ∧ W (i + 1) m' H') ∧ ∀ x H', J.yld i H x H' → g x (wipe σ vs) H' fun σ2 H2 => wipe σ2 vs = wipe σ vs ∧ tt σ2 H2 fun b H3 =>
      if b = true then tk σ2 H3 fun y H4 => tv σ2 H4 fun z H5 => ∃ kvs k, y = kV k ∧ H5 D = some (.dK kvs) ∧ kvs.length < sizeLine ∧ Nx (upd H5 D (.dK (putK kvs k z)))
      else Nx H3 := by
  refine ⟨fun i m H => i + m = n ∧ Pv i H, ⟨n, by omega, h0⟩, fun i m H ⟨e, p⟩ => ?_⟩
  by_cases hm : m = 0
  · have hi : i = n := by omega
    subst hi
    exact .inl ⟨wk.stops H (hG _ H (Nat.le_refl _) p), hq H p⟩
  · have hi : i < n := by omega
    exact .inr ⟨wk.goes i H hi (hG i H (by omega) p), Pv (i + 1), fun H' p' => ⟨m - 1, by omega, by omega, p'⟩, fun x H' hy => ht i x H H' hi p (wk.yields i H x H' hi (hG i H (by omega) p) hy)⟩
theorem re_dcS {ti : TI} {tg : TG} {tt : TT} {tk tv : TE} {di : dIt} {dg : dG} {dt : dT} {dk dv : dE} {vs : List Nat} (hi : RI Z ti di) (hg : RG Z.calm tg dg vs) (ht : RT Z.calm tt dt) (hk : RE Z.calm tk dk) (hv : RE Z.calm tv dv) : RE Z (tDc ti tg tt tk tv vs) (dDcS di dg dt dk dv vs) := fun B σ w env Φ Q xr st wo sl g k =>
  hi B σ w env _ _ xr st wo sl g fun items J w1 h1 s1 o1 e1 ok p hp => by
    obtain ⟨G, Y, wk, hG, hY⟩ := ok
    obtain ⟨n1, n2⟩ := s1.nil hp
    have hB : ∀ u, (∀ ps, u ≠ .tbl ps) → B.H1 p = some u → B.H p = none → B.mu p = none → False := fun u nt q1 q2 q3 => by
      have := (o1.fr p u q1 q2 q3 nt).1; rw [hp] at this; cases this
    refine ds_it wk (fun i H => ∃ (w' : Wd) (acc : List (DT × DT)) (xs : List (Key × V)), w'.H1 = H ∧ dDsGo dg dt dk dv (wipeD env vs) (items.drop i) acc w'.mu (fun acc μ1 => Φ (.dcs acc) μ1) ∧ Sta Z.K w' ∧ Wo w1 w' ∧ w'.H1 p = some (.dK xs) ∧ w'.H p = none ∧ w'.mu p = none ∧ RepKS Z.K w'.H xs acc)
      ⟨w1.outw p (.dK []), [], [], rfl, (show dDsGo dg dt dk dv (wipeD env vs) items [] w1.mu _ from h1), s1.outw n1 n2 (noTab_none hp), (Wo.refl w1).outw hp, upd_same, n1, n2, .nil⟩ (fun i H hi ⟨w', acc, xs, e, _, s', o', _⟩ => e ▸ hG w' s' o'.ex) (fun i x H H' hi ⟨w', acc, xs, e, h', s', o', q1, q2, q3, ra⟩ hy => ?_) fun H ⟨w', acc, xs, e, h', s', o', q1, q2, q3, ra⟩ => ?_
    · subst e
      obtain ⟨w2, e2, m2, s2, o2, d, hd, rd⟩ := hY i w' x H' s' o'.ex hi hy
      subst e2
      obtain ⟨q1, q2, q3⟩ := o2.fr p _ q1 q2 q3 (fun _ z => by cases z)
      rw [drop_at hd] at h'
      have ex2 : Ex w.H w2.H := (e1.trans o'.ex).trans o2.ex
      refine hg w2 (wipe σ vs) w2 (wipeD env vs) x d _ _ XR.no s2 (Wo.refl _) ((sl.mono ex2).wipe vs) rd (m2 ▸ h') fun env3 σ3 w3 h3 s3 o3 e3 l3 wp => ?_
      refine ⟨wp.trans (wipe_wipe vs σ), ?_⟩
      refine ht w2 σ3 w3 env3 _ _ XR.no s3 o3 l3 h3 fun b w4 h4 s4 o4 e4 => ?_
      cases b with
      | true =>
        refine hk w2 σ3 w4 env3 _ _ XR.no s4 o4 (l3.mono e4) (h4.1 rfl) fun y vy w5 h5 s5 o5 e5 r5 => ?_
        refine hv w2 σ3 w5 env3 _ _ XR.no s5 o5 ((l3.mono e4).mono e5) h5 fun z vz w6 h6 s6 o6 e6 r6 => ?_
        obtain ⟨z1, z2, z3⟩ := o6.fr p _ q1 q2 q3 (fun _ z => by cases z)
        obtain ⟨h6a, h6b, h6⟩ := h6
        obtain ⟨n, hn⟩ := Option.isSome_iff_exists.mp h6a
        have ra' := ra.mono (o2.ex.trans o6.ex)
        refine ⟨xs, n, keyS_rep r5 hn, z1, by rw [ra.length]; exact Nat.lt_of_le_of_lt h6b (by decide), ?_⟩
        exact ⟨w6.outw p (.dK (putK xs n vz)), _, _, rfl, h6, s6.outw z2 z3 (noTab_dK z1), ((o'.trans o2).trans o6).outw hp, upd_same, z2, z3, ra'.put hn r6⟩
      | false =>
        obtain ⟨z1, z2, z3⟩ := o4.fr p _ q1 q2 q3 (fun _ z => by cases z)
        exact ⟨w4, acc, xs, rfl, h4.2 rfl, s4, (o'.trans o2).trans o4, z1, z2, z3, ra.mono (o2.ex.trans o4.ex)⟩
    · subst e
      rw [List.drop_length] at h'
      exact k _ _ (w'.know p (.dK xs)) h' (s'.know q1 q2 q3) ((o1.trans o').know q2 hB) ((e1.trans o'.ex).trans (Ex.new q2)) (.dctS upd_same (ra.mono (Ex.new q2)))
/-! ### stores at once -/
def dPar3 (i j l : Nat) (a : dA) : dS := fun De env μ => a env μ fun ds μ1 => ∃ x y z, ds = [x, y, z] ∧ De.nx (((env.set i (some x)).set j (some y)).set l (some z)) μ1
theorem rs_par3 {i j l : Nat} {ta : TA} {da : dA} (ha : RA Z ta da) : RS Z (tPar3 i j l ta) (dPar3 i j l da) := fun B σ w env De D xr st wo sl g r =>
  ha B σ w env _ _ xr st wo sl g fun ds vs w1 ⟨x, y, z, e, h1⟩ s1 o1 e1 r1 => by
    subst e
    cases r1 with
    | cons r1 rr =>
      obtain ⟨u, v, rfl, r2, r3⟩ := rall2 rr
      exact ⟨_, _, _, rfl, r.nx _ _ ⟨_, w1, rfl, h1, s1, o1, (((sl.mono e1).set i r1).set j r2).set l r3⟩⟩
abbrev ipAdd : TIp := ipI fun i j => i + j
def dAug (i : Nat) (e : dE) : dS := fun De env μ => ∃ a, env[i]? = some (some (.int a)) ∧ e env μ fun d μ1 => ∃ b, d = .int b ∧ De.nx (env.set i (some (.int (a + b)))) μ1
theorem rs_aug {i : Nat} {te : TE} {de : dE} (h : RE Z te de) : RS Z (tAug i te ipAdd) (dAug i de) := fun B σ w env De D xr st wo sl ⟨a, ha, g⟩ r => by
  obtain ⟨v, hv, rv⟩ := sl.get i _ ha
  cases rv
  refine ⟨_, hv, h B σ w env _ _ xr st wo sl g fun d u w1 ⟨b, e, h1⟩ s1 o1 e1 r1 => ?_⟩
  subst e
  cases r1
  exact ⟨a, b, rfl, rfl, r.nx _ _ ⟨_, w1, rfl, h1, s1, o1, (sl.mono e1).set i (.int _)⟩⟩
/-! ### in -/
theorem ro_notInL : RO Z (rNotInD Z.K) (dInL true) := fun B w x y dx dy Φ Q st wo rx ry h k => by
  obtain ⟨ds, h1, h2, h3, h⟩ := h
  obtain ⟨p, xs, rfl, hs, ra⟩ := lst_at st ry h1
  refine ⟨_, _, Dp.mono' st.ex (rx.dp h2), .lst hs (DpAll.mono' st.ex (ra.dp h3)), ok_shaped h2 (by decide), shaped_list h3 (by decide), ?_⟩
  rw [any_py]
  exact done st wo k h (.bl _)
/-- one sign in a text -/
abbrev rInS : R2 := fun x y H Q => ∃ c z, x = .str { cps := #[c] } ∧ y = .str z ∧ Q (.bl (decide (c ∈ z.cps.toList))) H
def dInS : dR2 := fun x y μ Φ => ∃ (c : Nat) (z : Str), x = .str { cps := #[c] } ∧ y = .str z ∧ Φ (.bl (decide (c ∈ z.cps.toList))) μ
theorem ro_inS : RO Z rInS dInS := fun B w x y dx dy Φ Q st wo rx ry h k => by
  obtain ⟨c, z, rfl, rfl, h⟩ := h
  cases rx; cases ry
  exact ⟨c, z, rfl, rfl, done st wo k h (.bl _)⟩
/-! ### walks over a text, zip -/
def dIStr (de : dE) : dIt := fun env μ Φ => de env μ fun d μ1 => ∃ z : Str, d = .str z ∧ Φ (z.cps.toList.map fun c => .str { cps := #[c] }) μ1
theorem ri_str {te : TE} {de : dE} (h : RE Z te de) : RI Z (iStr te) (dIStr de) := fun B σ w env Φ R xr st wo sl g k =>
  h B σ w env _ _ xr st wo sl g fun d v w1 ⟨z, e, h1⟩ s1 o1 e1 r1 => by
    subst e
    cases r1
    refine ⟨z, rfl, k _ _ w1 h1 s1 o1 e1 ⟨fun _ => True, _, by rw [List.length_map, Array.length_toList]; exact walk_str, fun _ _ _ => trivial, fun i w' x H' s' e' hi hy => ?_⟩⟩
    obtain ⟨rfl, c, hc, rfl⟩ := hy
    exact ⟨w', rfl, rfl, s', Wo.refl _, .str { cps := #[c] }, by simp [hc], .str _⟩
theorem sq_two {K : Kit} {w : Wd} {v : V} {d : DT} {ds : List DT} (s : Sta K w) (r : Rep K w.H v d) (h : seqOf w.mu d = some ds) : ∃ t p xs, v = .ref p ∧ sqK t K w.H1 p xs ∧ RepAll K w.H xs ds ∧ (d ≠ .adr p → ∀ w', Sta K w' → Ex w.H w'.H → sqK t K w'.H1 p xs) := by
  cases r with
  | tup hs ra => cases h; exact ⟨true, _, _, rfl, s.ex.t hs, ra, fun _ w' s' e => s'.ex.t (e.t hs)⟩
  | lst hs ra => cases h; exact ⟨false, _, _, rfl, .of (s.ex _ _ hs), ra, fun _ w' s' e => .of (s'.ex _ _ (e _ _ hs))⟩
  | scr hs => cases h; exact ⟨false, _, _, rfl, s.ex.l hs, RepAll.of_ints _, fun _ w' s' e => s'.ex.l (e.l hs)⟩
  | adr a => obtain ⟨p, xs, e, l, r⟩ := lst_at s (.adr a) (ds := ds) h; cases e; exact ⟨false, a, xs, rfl, l, r, fun n => absurd rfl n⟩
  | _ => cases h
def noAdr : DT → Bool
  | .adr _ => false
  | _ => true
def dIZipM (a : dA) : dIt := fun env μ Φ => a env μ fun ds μ1 => ∃ d d' xs ys, ds = [d, d'] ∧ noAdr d = true ∧ noAdr d' = true ∧ seqOf μ1 d = some xs ∧ seqOf μ1 d' = some ys ∧ Φ ((xs.zip ys).map fun p => .tup [p.1, p.2]) μ1
theorem walk_zipM {K : Frag} {t1 t2 : Bool} {a b : Addr} {xs ys : List V} {n : Nat} (hn : n = min xs.length ys.length) : Walk (ItzM K t1 a t2 b) n (fun H => sqK t1 K H a xs ∧ sqK t2 K H b ys) (YPair (fun i => xs[i]?) fun i => ys[i]?) := by
  refine ⟨fun i H hi ⟨h1, h2⟩ => ?_, fun H ⟨h1, h2⟩ => ⟨xs, ys, h1, h2, hn⟩, fun i H x H' hi ⟨h1, h2⟩ ⟨T, x', y', e1, e2, e3, e4, e5⟩ => ⟨T, x', y', e1, e2, e3, e4 _ h1, e5 _ h2⟩⟩
  have l1 : i < xs.length := by omega
  have l2 : i < ys.length := by omega
  exact ⟨xs, ys, xs[i], ys[i], h1, h2, by simp [l1], by simp [l2]⟩
theorem ri_zipM {ta : TA} {da : dA} (h : RA Z ta da) : RI Z (iZipM Z.K ta) (dIZipM da) := fun B σ w env Φ R xr st wo sl g k =>
  h B σ w env _ _ xr st wo sl g fun ds vs w1 ⟨d, d', xs, ys, e, n1, n2, q1, q2, h1⟩ s1 o1 e1 r1 => by
    subst e
    obtain ⟨u, v, rfl, r1, r2⟩ := rall2 r1
    obtain ⟨t1, a, us, rfl, sa, ra, ka⟩ := sq_two s1 r1 q1
    obtain ⟨t2, b, zs, rfl, sb, rb, kb⟩ := sq_two s1 r2 q2
    refine ⟨t1, a, t2, b, us, zs, rfl, sa, sb, k _ _ w1 h1 s1 o1 e1 ?_⟩
    refine itok_pair (walk_zipM ?_) (fun i p hp => ?_) fun w' s' e' => ⟨ka (fun z => by subst z; cases n1) w' s' e', kb (fun z => by subst z; cases n2) w' s' e'⟩
    · rw [List.length_zip, ra.length, rb.length]
    · obtain ⟨p1, p2⟩ := zip_get hp
      refine ⟨fun x hx => ?_, fun y hy => ?_⟩
      · obtain ⟨d, hd, rd⟩ := ra.getV hx
        rw [p1] at hd; cases hd; exact rd
      · obtain ⟨d, hd, rd⟩ := rb.getV hy
        rw [p2] at hd; cases hd; exact rd
end
end SW


/-! SWRev: t[::-1] of a tuple. -/
namespace SW
open PySem L2 PyProof.Rows
theorem places_rev (n : Nat) : Builtin.Slice.slicePlaces ((n : Int) - 1) (-1) (-1) = n := by
  unfold Builtin.Slice.slicePlaces
  simp only [show ¬ ((-1 : Int) > 0) by decide, if_false]
  by_cases h : n = 0
  · subst h; rfl
  · rw [if_pos (by omega)]; simp
theorem sliceApplied_rev {prog : Program} {w : World} {A : Around} {E : Value → Shared → Prop} {s : Shared} {sl : Addr} {vl vu vs : Value} {n : Nat} {Q : Int × Int × Nat → Shared → Prop} (h : s.heap.IsSliceOf sl vl vu vs) (hl : IsPart vl none) (hu : IsPart vu none) (hp : IsPart vs (some (-1))) (q : Q ((n : Int) - 1, -1, n) s) :
    wpAny (model prog w) A (Builtin.Slice.sliceApplied (.ref sl) (pure ↑n)) Q E s := by
  obtain ⟨o, e1, e2, e3⟩ := h
  refine wpAny_bind ?_
  refine wpAny_bind (wpAny_field e1 e3 rfl (wpAny_bind (wpAny_field e1 e3 rfl (wpAny_bind (wpAny_field e1 e3 rfl (wpAny_pure ?_))))))
  refine wpAny_bind (HT.slicePart_ hp ?_)
  show wpAny _ _ (do
    let start ← Builtin.Slice.slicePartIndex vl
    let stop ← Builtin.Slice.slicePartIndex vu
    let __do_lift ← (pure (n : Int) : Sem Int)
    match Builtin.Slice.sliceAdjust start stop (-1) __do_lift with
      | (lo, hi) => pure (lo, (-1 : Int), Builtin.Slice.slicePlaces lo hi (-1))) _ _ _
  refine wpAny_bind (HT.slicePart_ hl (wpAny_bind (HT.slicePart_ hu (wpAny_bind (wpAny_pure ?_)))))
  have e : Builtin.Slice.sliceAdjust none none (-1) (n : Int) = ((n : Int) - 1, -1) := rfl
  rw [e]
  show wpAny _ _ (pure ((n : Int) - 1, (-1 : Int), Builtin.Slice.slicePlaces ((n : Int) - 1) (-1) (-1))) _ _ _
  rw [places_rev]
  exact wpAny_pure q
theorem pick_rev (xs : Array Value) : (List.filterMap (fun m : Nat => xs[((xs.size : Int) - 1 + (m : Int) * (-1)).toNat]?) (List.range xs.size)).toArray = xs.toList.reverse.toArray := by
  rw [← PySem.W.krv_pick]
  unfold slicePick
  rw [PySem.W.krv_bounds, PySem.W.krv_sliceRange, List.filterMap_map]
  congr 1
  have e : ∀ l : List Nat, (∀ m ∈ l, m < xs.size) → l.filterMap (fun m : Nat => xs[((xs.size : Int) - 1 + (m : Int) * (-1)).toNat]?) = l.filterMap ((fun x => xs[x]?) ∘ fun k => xs.size - 1 - k) := by
    intro l
    induction l with
    | nil => intro _; rfl
    | cons m l ih =>
      intro h
      have hm := h m (.head _)
      have e1 : ((xs.size : Int) - 1 + (m : Int) * (-1)).toNat = xs.size - 1 - m := by omega
      rw [List.filterMap_cons, List.filterMap_cons, ih fun x hx => h x (.tail _ hx)]
      rw [e1]; rfl
  exact e _ fun m hm => List.mem_range.mp hm
theorem getItem_tuple_rev {prog : Program} {w : World} {A : Around} {E : Value → Shared → Prop} {s : Shared} {t sl : Addr} {items : Array Value} {vl vu vs : Value} {Q : Value → Shared → Prop} (h : IsTup s.heap t items) (hs : s.heap.IsSliceOf sl vl vu vs) (hl : IsPart vl none) (hu : IsPart vu none) (hp : IsPart vs (some (-1))) (hz : items.size ≤ sizeLine)
    (q : Q (.ref s.heap.objs.size) { heap := s.heap.push { cls := .type "tuple", data := .seq items.toList.reverse.toArray }, gens := s.gens, drawn := s.drawn, toks := s.toks, os := s.os }) : wpAny (model prog w) A (getItem (.ref t) (.ref sl)) Q E s := by
  have ts : s.TypeIs (.ref sl) "slice" := by obtain ⟨o, e1, e2, _⟩ := hs; exact ⟨o, e1, e2⟩
  refine wpAny_holding (wpAny_bind (wpAny_sequenceKey h.typeIs (by rfl) (wpAny_bind (wpAny_callSpecial?_slot h.typeIs slot_tuple_getitem (wpAny_call_entry slot_tuple_getitem h.typeIs entry_tuple_getitem ?_ (args_tuple_getitem _ _))))))
  have e : slotArgs "__getitem__" 1 { pos := [.ref t, .ref sl] } = pure (.ref t, [.ref sl]) := rfl
  refine wpAny_bind ?_
  rw [e]
  refine wpAny_pure ?_
  refine wpAny_bind (tupleItemsOf_ h (wpAny_bind (wpAny_typeOf ts ?_)))
  rw [if_pos (by decide)]
  refine wpAny_bind (sliceApplied_rev hs hl hu hp ?_)
  have nt : ¬ ((((items.size : Int) - 1 == 0) && ((-1 : Int) == 1) && (items.size == items.size)) = true) := by simp
  dsimp only
  rw [if_neg nt]
  refine wpAny_bind ?_
  rw [pick_rev]
  refine wpAny_newObj_type ?_ ?_
  · exact wpAny_pure ⟨_, rfl, wpAny_pure q⟩
  · show (items.toList.reverse.toArray).size ≤ sizeLine
    simpa using hz
def tRevT (K : Frag) (te : TE) : TE := fun σ H Q => te σ H fun x H1 => ∃ a xs, x = .ref a ∧ SqT K H1 a xs ∧ ∀ p, H1 p = none → Q (.ref p) (upd H1 p (.tup xs.reverse))
theorem pe_revT {X : Cx} {e : Expr} {te : TE} {k : Nat} {p1 p2 p3 pos : Pos} (h : PE X e te) : PE X (e.Subscript (.Slice none none (some (.UnaryOp .USub (.Constant (.int 1) k p1) p2)) p3) pos) (tRevT X.K te) := by
  refine ⟨fun pins s σ H Q I g => ?_⟩
  refine Subscript_ (thn (h.run pins s σ H _ I g) fun u s1 ⟨x, H1, I1, r1, a, xs, e, sx, hq⟩ => ?_)
  subst e
  cases r1
  refine wpAny_Slice ?_
  refine thn (po_none.run pins s1 σ H1 (fun o H2 => o = none ∧ H2 = H1) I1 ⟨rfl, rfl⟩) fun l s2 ⟨o1, H2, I2, r2, e1, e2⟩ => ?_
  subst e1 e2
  refine thn (po_none.run pins s2 σ H2 (fun o H3 => o = none ∧ H3 = H2) I2 ⟨rfl, rfl⟩) fun m s3 ⟨o2, H3, I3, r3, e1, e2⟩ => ?_
  subst e1 e2
  refine thn ((po_some (pe_un un_neg (pe_int (X := X)))).run pins s3 σ H3 (fun o H4 => o = some (-1) ∧ H4 = H3) I3 ⟨_, rfl, _, rfl, rfl, rfl⟩) fun n s4 ⟨o3, H4, I4, r4, e1, e2⟩ => ?_
  subst e1 e2
  have I5 : Inv X pins σ H4 { heap := s4.heap.push { cls := .type "slice", data := .fields #[l, m, n] }, gens := s4.gens, drawn := s4.drawn, toks := s4.toks, os := s4.os } := I4.kept fun b u e => Heap.get?_push_of_some _ e
  obtain ⟨its, vs, tu, hz⟩ := I5.tuple sx
  refine tail_any (T := "tuple") (id := "tuple.__getitem__") tu.typeIs slot_tuple_getitem.lookup (getItem_tuple_rev tu (Heap.IsSliceOf.new _ _ _ _) r2 r3 r4 (by have := vals_len vs; simp; omega) ?_) rfl
  refine ⟨.ref _, _, I5.laid (o := .tup xs.reverse) (fun b u e => Heap.get?_push_of_some _ e) (Nat.le_refl _) ⟨?_, its.reverse, vs.reverse, ?_⟩, rfl, hq _ ?_⟩
  · rw [List.length_reverse]; exact hz
  · exact ⟨_, Heap.get?_push_size _ rfl, rfl, _, rfl⟩
  · exact I5.hok.fresh (Nat.le_refl _)
section
variable {Z : Bd}
def dRevT (e : dE) : dE := fun env μ Φ => e env μ fun d μ1 => ∃ ds, d = .tup ds ∧ Φ (.tup ds.reverse) μ1
theorem re_revT {te : TE} {de : dE} (h : RE Z te de) : RE Z (tRevT Z.K te) (dRevT de) := fun B σ w env Φ Q xr st wo sl g k =>
  h B σ w env _ _ xr st wo sl g fun d v w1 ⟨ds, e, h1⟩ s1 o1 e1 r1 => by
    subst e
    cases r1 with
    | tup hs ra => exact ⟨_, _, rfl, s1.ex.t hs, fun p hp => doneN s1 o1 (fun d v w2 h2 s2 o2 e2 r2 => k d v w2 h2 s2 o2 (e1.trans e2) r2) hp h1 fun e => .tup (.of upd_same) (ra.reverse.mono e)⟩
end
end SW


/-! SWStar: *a, b, c = t of a tuple. -/
namespace SW
open PySem L2 PyProof.Rows
theorem unpackItems_star {prog : Program} {w : World} {A : Around} {E : Value → Shared → Prop} {s : Shared} {t : Addr} {items : Array Value} {m : Nat} {Q : List Value → Shared → Prop} (hA : A.handled = none) (h : IsTup s.heap t items) (hm : m ≤ items.size) (hz : items.size ≤ sizeLine)
    (q : ∀ (h' : Heap) (tk : Nat), (∀ (b : Addr) (o : Obj), s.heap.get? b = some o → h'.get? b = some o) → Q (.ref h'.objs.size :: items.toList.drop (items.size - m)) { heap := h'.push { cls := .type "list", data := .seq (items.toList.take (items.size - m)).toArray }, gens := s.gens, drawn := s.drawn, toks := tk, os := s.os }) :
    wpAny (model prog w) A (unpackItems (.ref t) (m + 1) (some 0)) Q E s := by
  have ht : t < s.heap.objs.size := by obtain ⟨o, e, _⟩ := h; exact Heap.lt_size e
  refine wpAny_bind (wpAny_bind (wpAny_specialOf h.typeIs slot_tuple_iter.lookup (wpAny_pure ?_)))
  simp only [Bool.false_eq_true, if_false]
  refine wpAny_bind (wpAny_holding (iter_tuple h ?_))
  refine wpAny_bind (wpAny_holding ?_)
  have ed : draw (.ref s.heap.objs.size) 0 = pure [] := rfl
  rw [ed]
  refine wpAny_pure ?_
  simp only [List.length_nil, Nat.lt_irrefl, if_false]
  have ne : t ≠ s.heap.objs.size := Nat.ne_of_lt ht
  have hA1 : A.in1.handled = none := hA
  have ob : (s.heap.push { cls := .type "tuple_iterator", data := .fields #[.ref t, .int 0 0] }).get? s.heap.objs.size = some { cls := .type "tuple_iterator", data := .fields #[.ref t, .int 0 0] } := Heap.get?_push_size _ rfl
  refine wpAny_bind (wpAny_holding (PySem.W.kun_collect (I := s.heap.objs.size) (ax := t) (k := 0) (T := "tuple_iterator") (.inr (.inr (.inr rfl))) (Walks.tuple hA1 _ t ne items) (fun i u ⟨⟨o, e1, e2, _⟩, _⟩ => ⟨o, e1, e2⟩) (Nat.zero_le _) ⟨⟨_, ob, rfl, rfl⟩, IsTup.push h _⟩ ?_ ?_ (fun h' tk k => ?_) hz))
  · rw [Heap.size_push]; exact Nat.lt_succ_self _
  · rw [Heap.size_push]; exact Nat.lt_succ_of_lt ht
  · rw [List.drop_zero, if_neg (by rw [Array.length_toList]; omega)]
    refine wpAny_bind (wpAny_newObj_type ?_ ?_)
    · refine wpAny_pure ?_
      have := q h' tk fun b o e => k b o (fun z => by subst z; exact absurd (Heap.lt_size e) (Nat.lt_irrefl _)) (Heap.get?_push_of_some _ e)
      simpa using this
    · show (List.take (items.toList.length - m) items.toList).toArray.size ≤ sizeLine
      simp; omega
/-- *e, es = v: e takes all but the last n items -/
def gStar (K : Frag) (n : Nat) (tg : TG) (tgs : TGs) : TG := fun v σ H Q => ∃ a xs, v = .ref a ∧ SqT K H a xs ∧ n ≤ xs.length ∧ ∀ L, H L = none → gCons tg tgs (.ref L :: xs.drop (xs.length - n)) σ (upd H L (.lst (xs.take (xs.length - n)))) Q
theorem pg_star {X : Cx} {e : Expr} {es : List Expr} {p pos : Pos} {k n : Nat} {tg : TG} {tgs : TGs} (hc : X.calm = true) (hg : PG X e tg) (hs : PGs X es tgs) (hn : (assignEach es X.env).length = n := by rfl) (he : List.map (fun x => x.2) (assignEach (e :: es) X.env) = assign e X.env :: List.map (fun x => x.2) (assignEach es X.env) := by rfl) : PG X (.Tuple (.Starred e p :: es) k pos) (gStar X.K n tg tgs) := by
  refine ⟨fun pins s σ H v u Q I r g => ?_⟩
  obtain ⟨a, xs, rfl, sx, hl, q⟩ := g
  cases r
  obtain ⟨its, vs, tu, hz⟩ := I.tuple sx
  have hlen := vals_len vs
  have hsz : its.toArray.size = xs.length := by rw [List.size_toArray]; exact hlen.symm
  have hP := pgs_cons hg hs he
  have e3 : List.map (fun x => x.2) ((true, assign e X.env) :: assignEach es X.env) = List.map (fun x => x.2) (assignEach (e :: es) X.env) := by rw [he]; rfl
  rw [arm_assign_Tuple, arm_assignEach_Starred]
  refine wpAny_bind (wpAny_standAt ?_)
  unfold unpack
  rw [e3, List.length_cons, hn, List.findIdx?_cons, if_pos rfl]
  refine wpAny_bind (wpAny_holding (unpackItems_star (I.ok.hd hc) tu (by rw [hsz]; exact hl) (by rw [hsz]; exact hz) fun h' tk st => ?_))
  have I1 : Inv X pins σ H { heap := h', gens := s.gens, drawn := s.drawn, toks := tk, os := s.os } := I.kept st
  rw [hsz]
  have I2 := I1.laid (a := h'.objs.size) (t' := tk) (h' := h'.push { cls := .type "list", data := .seq (its.take (xs.length - n)).toArray }) (o := .lst (xs.take (xs.length - n))) (fun b u e => Heap.get?_push_of_some _ e) (Nat.le_refl _)
    ⟨by rw [List.length_take]; exact Nat.le_trans (Nat.min_le_right _ _) hz, _, 0, vs.take _, Heap.get?_push_size _ rfl⟩
  exact hP.run pins _ σ _ (.ref h'.objs.size :: xs.drop (xs.length - n)) (.ref h'.objs.size :: its.drop (xs.length - n)) Q I2 (.cons rfl (vs.drop _)) (q _ (I1.hok.fresh (Nat.le_refl _)))
section
variable {Z : Bd}
def dgStar (n : Nat) (g : dG) (gs : dGs) : dG := fun d env μ N => ∃ ds, d = .tup ds ∧ n ≤ ds.length ∧ dGCons g gs (.lst (ds.take (ds.length - n)) :: ds.drop (ds.length - n)) env μ N
theorem rg_star {n : Nat} {tg : TG} {tgs : TGs} {dg : dG} {dgs : dGs} {vs : List Nat} (hg : RG Z tg dg vs) (hs : RGs Z tgs dgs vs) : RG Z (gStar Z.K n tg tgs) (dgStar n dg dgs) vs := fun B σ w env v d N Q xr st wo sl rv h k => by
  obtain ⟨ds, rfl, hl, h⟩ := h
  cases rv with
  | tup hx ra =>
    refine ⟨_, _, rfl, st.ex.t hx, by rw [ra.length]; exact hl, fun L hL => ?_⟩
    rw [ra.length]
    obtain ⟨s2, o2⟩ := st.new (o := .lst (List.take (ds.length - n) _)) hL
    have rr := ra.mono o2.ex
    refine rgs_cons hg hs B σ (w.new L _) env _ _ N Q xr s2 (wo.trans o2) (sl.mono o2.ex) (.cons (.lst upd_same (rr.take _)) (rr.drop _)) h fun env' σ' w' h1 s1 o1 e1 l1 q1 => k env' σ' w' h1 s1 o1 (o2.ex.trans e1) l1 q1
end
end SW


/-! SWMore2: starred arguments; a comprehension stored at a name; calls without arguments. -/
namespace SW
open PySem L2 PyProof.Rows
section
variable {Z : Bd}
def dStar (e : dE) (a : dA) : dA := fun env μ Φ => e env μ fun d μ1 => ∃ xs, seqOf μ1 d = some xs ∧ a env μ1 fun ds μ2 => Φ (xs ++ ds) μ2
theorem ra_star {te : TE} {ta : TA} {de : dE} {da : dA} (he : RE Z te de) (ha : RA Z ta da) : RA Z (StX.tStar Z.K te ta) (dStar de da) := fun B σ w env Φ Q xr st wo sl g k =>
  he B σ w env _ _ xr st wo sl g fun d v w1 ⟨xs, q, h1⟩ s1 o1 e1 r1 => by
    obtain ⟨p, vs, rfl, hs, ra⟩ := seq_at s1 r1 q
    exact ⟨p, vs, rfl, hs.symm, ha B σ w1 env _ _ xr s1 o1 (sl.mono e1) h1 fun ds us w2 h2 s2 o2 e2 r2 => k _ _ w2 h2 s2 o2 (e1.trans e2) ((ra.mono e2).append r2)⟩
end
/-- y = [..], y a plain local name or one that an inner scope reads -/
theorem ps_setC {X : Cx} {i : Nat} {y : Str} {py : Pos} {elt tg iter : Expr} {ifs : List Expr} {scope : Scope} {own : List (Str × Nat)} {pos spos : Pos} {wi : TI} {g : TG} {tt : TT} {te : TE} (hc : X.calm = true) (hn : X.N.Nodup) (hy : X.N[i]? = some y) (hl : List.lookup y X.env.scope.names = some .local)
    (hsw : swapsWith (elt.ListComp [⟨tg, iter, ifs, 0⟩] scope pos) (some (.Name y py)) spos.line X.env = pure true) (hi : PI X tg iter wi) (hb : blkC X.N X.env.scope scope own = true)
    (hg : ∀ s H C cl fp, PG (X.blk s H scope (compEnvC scope cl C X.env) fp) tg g) (ht : ∀ s H C cl fp, PTs (X.blk s H scope (compEnvC scope cl C X.env) fp) ifs tt) (he : ∀ s H C cl fp, PE (X.blk s H scope (compEnvC scope cl C X.env) fp) elt te)
    (hf : ∀ x, foldedSetIterable iter X.env x = pure x := by intro; rfl) : PS X (.Assign [.Name y py] (elt.ListComp [⟨tg, iter, ifs, 0⟩] scope pos) spos) (tAsg (tLc wi g tt te (own.map fun x => x.2)) (gName i)) := ps_setLc hc hn hy hl hsw hi (blkOk_by hb) hg ht he hf
theorem pe_dcSn {X : Cx} {kx vx tg iter : Expr} {ifs : List Expr} {scope : Scope} {own : List (Str × Nat)} {pos : Pos} {wi : TI} {g : TG} {tt : TT} {tk tv : TE} (hc : X.calm = true) (hn : X.N.Nodup) (hi : PI X tg iter wi) (hb : blkC X.N X.env.scope scope own = true)
    (hg : ∀ s H C cl fp, PG (X.blk s H scope (compEnvC scope cl C X.env) fp) tg g) (ht : ∀ s H C cl fp, PTs (X.blk s H scope (compEnvC scope cl C X.env) fp) ifs tt) (hk : ∀ s H C cl fp, PE (X.blk s H scope (compEnvC scope cl C X.env) fp) kx tk) (hv : ∀ s H C cl fp, PE (X.blk s H scope (compEnvC scope cl C X.env) fp) vx tv)
    (hf : ∀ x, foldedSetIterable iter X.env x = pure x := by intro; rfl) : PE X (kx.DictComp vx [⟨tg, iter, ifs, 0⟩] scope pos) (tDc wi g tt tk tv (own.map fun x => x.2)) := pe_dc hc hn hi (blkOk_by hb) hg ht hk hv hf
theorem pe_dcTn {X : Cx} {j : Nat} {kx vx tg iter : Expr} {ifs : List Expr} {scope : Scope} {own : List (Str × Nat)} {pos : Pos} {wi : TI} {g : TG} {tt : TT} {tk tv : TE} (hr : Room j X.A) (hc : X.calm = true) (hn : X.N.Nodup) (hi : PI X tg iter wi) (hb : blkC X.N X.env.scope scope own = true)
    (hg : ∀ s H C cl fp, PG (X.blk s H scope (compEnvC scope cl C X.env) fp) tg g) (ht : ∀ s H C cl fp, PTs (X.blk s H scope (compEnvC scope cl C X.env) fp) ifs tt) (hk : ∀ s H C cl fp, PE (X.blk s H scope (compEnvC scope cl C X.env) fp) kx tk) (hv : ∀ s H C cl fp, PE (X.blk s H scope (compEnvC scope cl C X.env) fp) vx tv)
    (hf : ∀ x, foldedSetIterable iter X.env x = pure x := by intro; rfl) : PE X (kx.DictComp vx [⟨tg, iter, ifs, 0⟩] scope pos) (tDcT (kit X T) wi g tt tk tv (own.map fun x => x.2)) := pe_dcT hr hc hn hi (blkOk_by hb) hg ht hk hv hf
theorem pe_dgetN {X : Cx} {o i : Expr} {pos : Pos} {td ty : TE} {j : Nat} (hr : Room j X.A) (ho : PE X o td) (hi : PE X i ty) (hs : NoSl i := by intro _ _; rfl) : PE X (o.Subscript i pos) (tDGet td ty) := pe_dget (hu_of hr) ho hi hs
end SW


/-! SWLib: the program's kinds of values, over data; lemmas that the blocks share. -/
namespace SW
open PySem L2 PyProof.Rows
def isIntD : DT → Bool
  | .int _ => true
  | _ => false
theorem isInt_ex {d : DT} (h : isIntD d = true) : ∃ i, d = .int i := by
  cases d <;> first | exact ⟨_, rfl⟩ | cases h
theorem ty_isInt {μ : Mu} {d : DT} {t : String} (h : tyOf μ d = some t) : (isTy t "int" = true → isTy t "bool" = false → isIntD d = true) ∧ (isTy t "int" = true → isTy t "bool" = true → isIntD d = false) ∧ (isTy t "int" = false → isIntD d = false) := by
  have a1 : isTy "list" "int" = false := by decide
  have a2 : isTy "NoneType" "int" = false := by decide
  have a3 : isTy "str" "int" = false := by decide
  have a4 : isTy "tuple" "int" = false := by decide
  have a5 : isTy "bool" "bool" = true := by decide
  have a6 : isTy "int" "bool" = false := by decide
  have a7 : isTy "int" "int" = true := by decide
  cases d with
  | adr a => cases q : μ a with
    | none => simp only [tyOf, q] at h; cases h
    | some m => cases m <;> simp only [tyOf, q] at h <;> cases h <;> exact ⟨fun z _ => Bool.noConfusion (a1.symm.trans z), fun z _ => Bool.noConfusion (a1.symm.trans z), fun _ => rfl⟩
  | non => simp only [tyOf] at h; cases h; exact ⟨fun z _ => Bool.noConfusion (a2.symm.trans z), fun z _ => Bool.noConfusion (a2.symm.trans z), fun _ => rfl⟩
  | bl b => simp only [tyOf] at h; cases h; exact ⟨fun _ z => Bool.noConfusion (a5.symm.trans z), fun _ _ => rfl, fun _ => rfl⟩
  | int b => simp only [tyOf] at h; cases h; exact ⟨fun _ _ => rfl, fun _ z => Bool.noConfusion (a6.symm.trans z), fun z => Bool.noConfusion (a7.symm.trans z)⟩
  | str b => simp only [tyOf] at h; cases h; exact ⟨fun z _ => Bool.noConfusion (a3.symm.trans z), fun z _ => Bool.noConfusion (a3.symm.trans z), fun _ => rfl⟩
  | tup b => simp only [tyOf] at h; cases h; exact ⟨fun z _ => Bool.noConfusion (a4.symm.trans z), fun z _ => Bool.noConfusion (a4.symm.trans z), fun _ => rfl⟩
  | lst b => simp only [tyOf] at h; cases h; exact ⟨fun z _ => Bool.noConfusion (a1.symm.trans z), fun z _ => Bool.noConfusion (a1.symm.trans z), fun _ => rfl⟩
  | _ => simp only [tyOf] at h; cases h
def isBetD (d : DT) (lo hi : Int) : Bool := match d with
  | .int i => decide (lo ≤ i) && decide (i ≤ hi)
  | _ => false
theorem isBet_int {i lo hi : Int} : isBetD (.int i) lo hi = (decide (lo ≤ i) && decide (i ≤ hi)) := rfl
theorem isBet_no {d : DT} {lo hi : Int} (h : isIntD d = false) : isBetD d lo hi = false := by
  cases d <;> first | rfl | cases h
def isBaseD : DT → Bool
  | .int i => decide (2 ≤ i.natAbs) && decide (i.natAbs ≤ 10)
  | _ => false
theorem isBase_int {i : Int} : isBaseD (.int i) = (decide (2 ≤ i.natAbs) && decide (i.natAbs ≤ 10)) := rfl
theorem isBase_no {d : DT} (h : isIntD d = false) : isBaseD d = false := by
  cases d <;> first | rfl | cases h
def isSignD : DT → Bool
  | .int i => decide (i = -1) || decide (i = 1)
  | _ => false
theorem isSign_int {i : Int} : isSignD (.int i) = (decide (i = -1) || decide (i = 1)) := rfl
theorem isSign_no {d : DT} (h : isIntD d = false) : isSignD d = false := by
  cases d <;> first | rfl | cases h
theorem abs_le (i : Int) (n : Nat) : decide ((if i < 0 then -i else i) ≤ (n : Int)) = decide (i.natAbs ≤ n) := by
  by_cases h : i.natAbs ≤ n
  · rw [decide_eq_true h, decide_eq_true (by split <;> omega)]
  · rw [decide_eq_false h, decide_eq_false (by split <;> omega)]
theorem le_abs (i : Int) (n : Nat) : decide ((n : Int) ≤ if i < 0 then -i else i) = decide (n ≤ i.natAbs) := by
  by_cases h : n ≤ i.natAbs
  · rw [decide_eq_true h, decide_eq_true (by split <;> omega)]
  · rw [decide_eq_false h, decide_eq_false (by split <;> omega)]
theorem eqD_int {i j : Int} : eqD (.int i) (.int j) = decide (i = j) := by simp only [eqD, pyOf, PyData.eqv]; exact Bool.eq_iff_iff.mpr (by simp)
theorem eqD_str {i j : Str} : eqD (.str i) (.str j) = decide (i = j) := by simp only [eqD, pyOf, PyData.eqv]; exact Bool.eq_iff_iff.mpr (by simp)
/-! ### texts, rules -/
theorem isTy_strs : isTy "NoneType" "str" = false ∧ isTy "bool" "str" = false ∧ isTy "int" "str" = false ∧ isTy "tuple" "str" = false ∧ isTy "list" "str" = false := by decide
theorem ty_strd {μ : Mu} {d : DT} {t : String} (h : tyOf μ d = some t) (c : isTy t "str" = true) : ∃ z, d = .str z := by
  obtain ⟨a, b, e, f, g⟩ := isTy_strs
  cases d with
  | str z => exact ⟨z, rfl⟩
  | non => simp only [tyOf] at h; cases h; rw [a] at c; cases c
  | bl _ => simp only [tyOf] at h; cases h; rw [b] at c; cases c
  | int _ => simp only [tyOf] at h; cases h; rw [e] at c; cases c
  | tup _ => simp only [tyOf] at h; cases h; rw [f] at c; cases c
  | lst _ => simp only [tyOf] at h; cases h; rw [g] at c; cases c
  | adr x => cases q : μ x with
    | none => simp only [tyOf, q] at h; cases h
    | some m => cases m <;> simp only [tyOf, q] at h <;> cases h <;> (rw [g] at c; cases c)
  | _ => simp only [tyOf] at h; cases h
theorem ty_strn {μ : Mu} {d : DT} {t : String} (h : tyOf μ d = some t) (c : isTy t "str" = false) : ∀ z, d ≠ .str z := fun z e => by
  subst e; simp only [tyOf] at h; cases h; cases c
def ruleDs : List DT := [.str "down", .str "up", .str "zero", .str "positive", .str "near"]
def isRuleD : DT → Bool
  | .str z => inD (.str z) ruleDs
  | _ => false
theorem isRule_rname (r : Rule) : isRuleD (.str (rname r)) = true := by
  cases r <;> (simp only [isRuleD, inD, ruleDs, List.any_cons, eqD_str, rname]; rfl)
theorem isRule_no {μ : Mu} {d : DT} {t : String} (h : tyOf μ d = some t) (c : isTy t "str" = false) : isRuleD d = false := by
  cases d <;> first | rfl | exact absurd rfl (ty_strn h c _)
/-! ### what may change grows -/
def Grow (μ μ' : Mu) : Prop := ∀ a m, μ a = some m → μ' a = some m
theorem Grow.refl (μ : Mu) : Grow μ μ := fun _ _ h => h
theorem Grow.trans {μ μ1 μ2 : Mu} (a : Grow μ μ1) (b : Grow μ1 μ2) : Grow μ μ2 := fun c m h => b c m (a c m h)
theorem Grow.new {μ μ' : Mu} {q : Addr} {m : MO} (g : Grow μ μ') (h : μ q = none) : Grow μ (μ'.put q m) := fun a m' e => (Mu.put_ne fun z => by subst z; rw [h] at e; cases e).trans (g a m' e)
theorem Grow.out {μ μ' : Mu} {q : Addr} (g : Grow μ μ') (h : μ q = none) : Grow μ (μ'.out q) := fun a m' e => (Mu.out_ne fun z => by subst z; rw [h] at e; cases e).trans (g a m' e)
/-! ### figures -/
/-- the figures of a number, the lowest first -/
def digs (b n : Nat) : List Int := if h : n = 0 ∨ b < 2 then [] else ((n % b : Nat) : Int) :: digs b (n / b)
termination_by n
decreasing_by exact Nat.div_lt_self (by omega) (by omega)
theorem digs_zero (b : Nat) : digs b 0 = [] := by rw [digs]; exact dif_pos (.inl rfl)
theorem digs_pos {b n : Nat} (hb : 2 ≤ b) (hn : 0 < n) : digs b n = ((n % b : Nat) : Int) :: digs b (n / b) := by rw [digs]; exact dif_neg (by omega)
theorem digs_len {b : Nat} (hb : 2 ≤ b) : ∀ (k n : Nat), n < 2 ^ k → (digs b n).length ≤ k
  | 0, n, h => by have : n = 0 := by simpa using h
                  subst this; rw [digs_zero]; exact Nat.le_refl _
  | k + 1, n, h => by
    by_cases hn : n = 0
    · subst hn; rw [digs_zero]; exact Nat.zero_le _
    · rw [digs_pos hb (by omega), List.length_cons]
      have : n / b < 2 ^ k := by
        have h2 : n / b ≤ n / 2 := Nat.div_le_div_left hb (by decide)
        have h3 : n / 2 < 2 ^ k := by rw [Nat.pow_succ] at h; omega
        omega
      have := digs_len hb k (n / b) this
      omega

def DivPre (x d : Int) : Prop := absI x < 2 ^ 3000 ∧ d ≠ 0 ∧ absI d < 2 ^ 64
/-- a and b, b of no effect -/
theorem andD {c c2 : Bool} {db : dE} {env : DEnv} {μ : Mu} {Φ : PK} (h2 : ∀ Φ' : PK, Φ' (.bl c2) μ → db env μ Φ') (q : Φ (.bl (c && c2)) μ) : (c = true → db env μ Φ) ∧ (c = false → Φ (.bl false) μ) :=
  ⟨fun e => h2 _ (by subst e; exact q), fun e => by subst e; exact q⟩
/-! ### len of a text -/
abbrev bLenS : List V → Hp → VK → Prop := fun xs H Q => ∃ z : Str, xs = [V.str z] ∧ z.length ≤ PySem.sizeLine ∧ Q (V.int ↑z.length) H
def dLenS : dRC := fun ds μ Φ => ∃ z : Str, ds = [.str z] ∧ z.length ≤ 1000 ∧ Φ (.int z.length) μ
section
variable {Z : Bd}
theorem rc_lenS : RC Z bLenS dLenS := fun B w xs dx Φ Q st wo r h k => by
  obtain ⟨z, rfl, h1, h⟩ := h
  obtain ⟨v, rfl, r1⟩ := rall1 r
  cases r1
  exact ⟨z, rfl, size_le h1, done st wo k h (.int _)⟩
end
/-! ### tuples of any things -/
def Kinds (μ : Mu) (d : DT) : Prop := ∀ ds, d = .tup ds → ds.length ≤ 5000 ∧ ∀ x ∈ ds, ∃ t, tyOf μ x = some t
theorem isTy_tups : isTy "NoneType" "tuple" = false ∧ isTy "bool" "tuple" = false ∧ isTy "int" "tuple" = false ∧ isTy "str" "tuple" = false ∧ isTy "list" "tuple" = false ∧ isTy "tuple" "tuple" = true := by decide
theorem ty_tupd {μ : Mu} {d : DT} {t : String} (h : tyOf μ d = some t) (c : isTy t "tuple" = true) : ∃ ds, d = .tup ds := by
  obtain ⟨a, b, e, f, g, _⟩ := isTy_tups
  cases d with
  | tup z => exact ⟨z, rfl⟩
  | non => simp only [tyOf] at h; cases h; rw [a] at c; cases c
  | bl _ => simp only [tyOf] at h; cases h; rw [b] at c; cases c
  | int _ => simp only [tyOf] at h; cases h; rw [e] at c; cases c
  | str _ => simp only [tyOf] at h; cases h; rw [f] at c; cases c
  | lst _ => simp only [tyOf] at h; cases h; rw [g] at c; cases c
  | adr x => cases q : μ x with
    | none => simp only [tyOf, q] at h; cases h
    | some m => cases m <;> simp only [tyOf, q] at h <;> cases h <;> (rw [g] at c; cases c)
  | _ => simp only [tyOf] at h; cases h
theorem ty_tupn {μ : Mu} {d : DT} {t : String} (h : tyOf μ d = some t) (c : isTy t "tuple" = false) : ∀ z, d ≠ .tup z := fun z e => by
  subst e; simp only [tyOf] at h; cases h; rw [isTy_tups.2.2.2.2.2] at c; cases c
/-! ### in, what changes beside -/
theorem inD_ints (x : Int) (ns : List Int) : inD (.int x) (ns.map .int) = decide (x ∈ ns) := by
  unfold inD
  induction ns with
  | nil => rfl
  | cons n ns ih =>
    rw [List.map_cons, List.any_cons, ih, eqD_int]
    by_cases h : x = n
    · subst h; simp
    · have h2 : ¬ n = x := fun z => h z.symm
      simp [h, h2]
theorem flat_ints (ns : List Int) : (ns.map DT.int).all flatD = true := by
  rw [List.all_map]; exact List.all_eq_true.mpr fun _ _ => rfl
/-- what stands beside p stays -/
def GrowBut (p : Addr) (μ μ' : Mu) : Prop := ∀ a m, a ≠ p → μ a = some m → μ' a = some m
theorem obj_put {μ : Mu} {p : Addr} {C : Str} {fs : List (Str × DT)} (h : μ p = some (.obj C fs)) : objOf μ (.adr p) = some (C, fs) := by simp only [objOf, h]
theorem inD_strs (s : Str) (ns : List Str) : inD (.str s) (ns.map .str) = decide (s ∈ ns) := by
  unfold inD
  induction ns with
  | nil => rfl
  | cons n ns ih =>
    rw [List.map_cons, List.any_cons, ih, eqD_str]
    by_cases h : s = n
    · subst h; simp
    · have h2 : ¬ n = s := fun z => h z.symm
      simp [h, h2]
theorem GrowBut.refl (p : Addr) (μ : Mu) : GrowBut p μ μ := fun _ _ _ h => h
theorem Grow.but {p : Addr} {μ μ' : Mu} (g : Grow μ μ') : GrowBut p μ μ' := fun a m _ h => g a m h
theorem GrowBut.put {p : Addr} {μ μ' : Mu} {m : MO} (g : GrowBut p μ μ') : GrowBut p μ (μ'.put p m) := fun a m' n h => (Mu.put_ne n).trans (g a m' n h)
theorem GrowBut.out {p : Addr} {μ μ' : Mu} (g : GrowBut p μ μ') : GrowBut p μ (μ'.out p) := fun a m' n h => (Mu.out_ne n).trans (g a m' n h)
theorem GrowBut.new {p : Addr} {μ μ' : Mu} {m : MO} (g : GrowBut p (μ.put p m) μ') : GrowBut p μ μ' := fun a m' n h => g a m' n ((Mu.put_ne n).trans h)
theorem GrowBut.grow {p : Addr} {μ μ' : Mu} (g : GrowBut p μ μ') (h : μ p = none) : Grow μ μ' := fun a m e => g a m (fun z => by subst z; rw [h] at e; cases e) e
/-! ### dicts with text keys -/
theorem ksPut_new {acc : List (DT × DT)} {k v : DT} (h : ∀ p ∈ acc, keyS p.1 ≠ keyS k) : ksPut acc k v = acc ++ [(k, v)] := by
  unfold ksPut
  rw [if_neg]
  intro c
  obtain ⟨p, hp, e⟩ := List.any_eq_true.mp c
  exact h p hp (of_decide_eq_true e)
theorem ksMerge_new : ∀ (more acc : List (DT × DT)), (more.map fun p => keyS p.1).Nodup → (∀ p ∈ acc, ∀ r ∈ more, keyS p.1 ≠ keyS r.1) → ksMerge acc more = acc ++ more
  | [], acc, _, _ => by rw [List.append_nil]; rfl
  | r :: more, acc, nd, h => by
    rw [List.map_cons, List.nodup_cons] at nd
    show ksMerge (ksPut acc r.1 r.2) more = _
    rw [ksPut_new fun p hp => h p hp r (.head _), ksMerge_new more _ nd.2 fun p hp s hs => ?_, List.append_assoc]
    · rfl
    · rcases List.mem_append.mp hp with hp | hp
      · exact h p hp s (.tail _ hs)
      · rw [List.mem_singleton.mp hp]
        exact fun e => nd.1 (List.mem_map.mpr ⟨s, hs, e.symm⟩)
/-- a text key of a list of distinct names -/
theorem ksAt_name {α : Type} {nm : α → Str} {vf : α → DT} : ∀ {xs : List α} {x : α}, (xs.map nm).Nodup → x ∈ xs → ksAt (xs.map fun m => (DT.str (nm m), vf m)) (.str (nm x)) = some (vf x)
  | y :: xs, x, nd, hx => by
    rw [List.map_cons, List.nodup_cons] at nd
    unfold ksAt
    rw [List.map_cons, List.find?_cons]
    by_cases e : nm y = nm x
    · have e2 : y = x := by
        rcases List.mem_cons.mp hx with h | h
        · exact h.symm
        · exact absurd (List.mem_map.mpr ⟨x, h, e.symm⟩) nd.1
      subst e2
      rw [decide_eq_true rfl]; rfl
    · have e3 : ¬ keyS (DT.str (nm y)) = keyS (DT.str (nm x)) := fun z => e (by simpa [keyS] using z)
      rw [decide_eq_false e3]
      rcases List.mem_cons.mp hx with h | h
      · exact absurd (by rw [h]) e
      · exact ksAt_name nd.2 h
/-! ### comprehensions that only map -/
theorem lcGo_map {α : Type} {dg : dG} {de : dE} {env : DEnv} {μ : Mu} {K : List DT → Mu → Prop} {src res : α → DT} : ∀ (xs : List α) (acc : List DT), acc.length + xs.length ≤ 1000000 →
    (∀ x ∈ xs, ∃ env', (∀ N : DEnv → Mu → Prop, N env' μ → dg (src x) env μ N) ∧ ∀ Φ : PK, Φ (res x) μ → de env' μ Φ) → K (acc ++ xs.map res) μ → dLcGo dg dYes de env (xs.map src) acc μ K
  | [], acc, hl, h, k => by
    show K acc μ
    rwa [List.map_nil, List.append_nil] at k
  | x :: xs, acc, hl, h, k => by
    obtain ⟨env', h1, h2⟩ := h x (.head _)
    refine h1 _ ⟨fun _ => h2 _ ⟨?_, ?_⟩, fun z => Bool.noConfusion z⟩
    · show acc.length ≤ 1000000
      simp only [List.length_cons] at hl; omega
    · refine lcGo_map xs _ (by simp only [List.length_append, List.length_cons, List.length_nil] at hl ⊢; omega) (fun y hy => h y (.tail _ hy)) ?_
      rw [List.append_assoc]; exact k
theorem dsGo_map {α : Type} {dg : dG} {dk dv : dE} {env : DEnv} {μ : Mu} {K : List (DT × DT) → Mu → Prop} {src vf : α → DT} {kf : α → Str} : ∀ (xs : List α) (acc : List (DT × DT)), acc.length + xs.length ≤ 1000000 → (xs.map kf).Nodup → (∀ x ∈ xs, ∀ p ∈ acc, keyS p.1 ≠ keyS (.str (kf x))) →
    (∀ x ∈ xs, ∃ env', (∀ N : DEnv → Mu → Prop, N env' μ → dg (src x) env μ N) ∧ (∀ Φ : PK, Φ (.str (kf x)) μ → dk env' μ Φ) ∧ ∀ Φ : PK, Φ (vf x) μ → dv env' μ Φ) → K (acc ++ xs.map fun x => (.str (kf x), vf x)) μ → dDsGo dg dYes dk dv env (xs.map src) acc μ K
  | [], acc, hl, nd, hn, h, k => by
    show K acc μ
    rwa [List.map_nil, List.append_nil] at k
  | x :: xs, acc, hl, nd, hn, h, k => by
    rw [List.map_cons, List.nodup_cons] at nd
    obtain ⟨env', h1, h2, h3⟩ := h x (.head _)
    refine h1 _ ⟨fun _ => h2 _ (h3 _ ⟨rfl, ?_, ?_⟩), fun z => Bool.noConfusion z⟩
    · simp only [List.length_cons] at hl; omega
    · rw [ksPut_new fun p hp => hn x (.head _) p hp]
      refine dsGo_map xs _ (by simp only [List.length_append, List.length_cons, List.length_nil] at hl ⊢; omega) nd.2 (fun y hy p hp => ?_) (fun y hy => h y (.tail _ hy)) ?_
      · rcases List.mem_append.mp hp with hp | hp
        · exact hn y (.tail _ hy) p hp
        · rw [List.mem_singleton.mp hp]
          intro e
          have e' : kf x = kf y := by simpa [keyS] using e
          exact nd.1 (List.mem_map.mpr ⟨y, hy, e'.symm⟩)
      · rw [List.append_assoc]; exact k
theorem dkPut_new {acc : List (DT × DT)} {k v : DT} (h : ∀ p ∈ acc, keyOf p.1 ≠ keyOf k) : dkPut acc k v = acc ++ [(k, v)] := by
  unfold dkPut
  rw [if_neg]
  unfold dkAt
  have e : (acc.find? fun p => decide (keyOf p.1 = keyOf k)) = none := List.find?_eq_none.mpr fun p hp c => h p hp (of_decide_eq_true c)
  rw [e]; simp
theorem dcGo_map {α : Type} {dg : dG} {dk dv : dE} {env : DEnv} {μ : Mu} {K : List (DT × DT) → Mu → Prop} {src vf kf : α → DT} : ∀ (xs : List α) (acc : List (DT × DT)), acc.length + xs.length ≤ 1000000 → (xs.map fun x => keyOf (kf x)).Nodup → (∀ x ∈ xs, keyOk (kf x) = true) → (∀ x ∈ xs, ∀ p ∈ acc, keyOf p.1 ≠ keyOf (kf x)) →
    (∀ x ∈ xs, ∃ env', (∀ N : DEnv → Mu → Prop, N env' μ → dg (src x) env μ N) ∧ (∀ Φ : PK, Φ (kf x) μ → dk env' μ Φ) ∧ ∀ Φ : PK, Φ (vf x) μ → dv env' μ Φ) → K (acc ++ xs.map fun x => (kf x, vf x)) μ → dDcGo dg dYes dk dv env (xs.map src) acc μ K
  | [], acc, hl, nd, ho, hn, h, k => by
    show K acc μ
    rwa [List.map_nil, List.append_nil] at k
  | x :: xs, acc, hl, nd, ho, hn, h, k => by
    rw [List.map_cons, List.nodup_cons] at nd
    obtain ⟨env', h1, h2, h3⟩ := h x (.head _)
    refine h1 _ ⟨fun _ => h2 _ (h3 _ ⟨ho x (.head _), ?_, ?_⟩), fun z => Bool.noConfusion z⟩
    · simp only [List.length_cons] at hl; omega
    · rw [dkPut_new fun p hp => hn x (.head _) p hp]
      refine dcGo_map xs _ (by simp only [List.length_append, List.length_cons, List.length_nil] at hl ⊢; omega) nd.2 (fun y hy => ho y (.tail _ hy)) (fun y hy p hp => ?_) (fun y hy => h y (.tail _ hy)) ?_
      · rcases List.mem_append.mp hp with hp | hp
        · exact hn y (.tail _ hy) p hp
        · rw [List.mem_singleton.mp hp]
          exact fun e => nd.1 (List.mem_map.mpr ⟨y, hy, e.symm⟩)
      · rw [List.append_assoc]; exact k
end SW


/-! SWProg: programs (loops that take numbers apart) as plain Lean; their data. -/
namespace SW
open PySem L2 PyProof.Rows
abbrev RKey := Option Int × Option Int
structure Row where
  k : RKey
  us : List (List Int)
  th : Option Str
structure Mode where
  nm : Str
  ru : Rule
  rows : List Row
structure Prg where
  base : Int
  regs : List (Str × Int)
  modes : List Mode
  ends : List Int
  res : List Int
/-! ### data -/
def optI : Option Int → DT
  | none => .non
  | some i => .int i
def optS : Option Str → DT
  | none => .non
  | some s => .str s
/-- updates: rows of numbers -/
def usD (us : List (List Int)) : DT := .tup (us.map fun u => .tup (u.map .int))
def keyD (k : RKey) : DT := .tup [optI k.1, optI k.2]
def rowD (r : Row) : DT := .tup [optI r.k.1, optI r.k.2, usD r.us, optS r.th]
def modeD (m : Mode) : DT := .tup [.str m.nm, .str (rname m.ru), .lst (m.rows.map rowD)]
def regD (p : Str × Int) : DT := .tup [.str p.1, .int p.2]
/-- a law's parts -/
def partsD (P : Prg) : DT := .lst [.int P.base, .lst (P.regs.map regD), .lst (P.modes.map modeD), .lst (P.ends.map .int), .tup (P.res.map .int)]
def valD (r : Row) : DT := .tup [usD r.us, optS r.th]
def rowsKV (rows : List Row) : List (DT × DT) := rows.map fun r => (keyD r.k, valD r)
def progF (P : Prg) : List (Str × DT) :=
  [("own_base", .int P.base), ("own_registers", .tup (P.regs.map regD)), ("own_names", .lst (P.modes.map fun m => .str m.nm)), ("own_rules", .dcs (P.modes.map fun m => (.str m.nm, .str (rname m.ru)))),
   ("own_rows", .dcs (P.modes.map fun m => (.str m.nm, .dct (rowsKV m.rows)))), ("own_ends", .tup (P.ends.map .int)), ("own_result", .tup (P.res.map .int))]
def progD (P : Prg) : DT := .obj "Program" (progF P)
/-! ### rows -/
def findRow (rows : List Row) (k : RKey) : Option Row := rows.find? fun r => decide (r.k = k)
def keys4 (s r : Int) : List RKey := [(some s, some r), (none, some r), (some s, none), (none, none)]
def firstOf (rows : List Row) : List RKey → Option Row
  | [] => none
  | k :: ks => match findRow rows k with
    | some r => some r
    | none => firstOf rows ks
def pickRow (rows : List Row) (s r : Int) : Option Row := firstOf rows (keys4 s r)
theorem keyOf_optI (o : Option Int) : keyOf (optI o) = some (match o with | none => .none | some i => .num i) := by cases o <;> rfl
theorem keyOf_keyD (k : RKey) : keyOf (keyD k) = some (.tup [match k.1 with | none => .none | some i => .num i, match k.2 with | none => .none | some i => .num i]) := by
  obtain ⟨a, b⟩ := k
  cases a <;> cases b <;> rfl
theorem keyD_ok (k : RKey) : keyOk (keyD k) = true := by
  obtain ⟨a, b⟩ := k
  cases a <;> cases b <;> rfl
theorem keyD_inj {k k' : RKey} : keyOf (keyD k) = keyOf (keyD k') ↔ k = k' := by
  refine ⟨fun h => ?_, fun h => by rw [h]⟩
  obtain ⟨a, b⟩ := k
  obtain ⟨a', b'⟩ := k'
  rw [keyOf_keyD, keyOf_keyD] at h
  cases a <;> cases b <;> cases a' <;> cases b' <;> simp at h ⊢ <;> first | exact h | trivial
theorem rows_at (rows : List Row) (k : RKey) : dkAt (rowsKV rows) (keyD k) = (findRow rows k).map valD := by
  unfold dkAt rowsKV findRow
  induction rows with
  | nil => rfl
  | cons r rows ih =>
    rw [List.map_cons, List.find?_cons, List.find?_cons]
    by_cases e : r.k = k
    · rw [decide_eq_true (keyD_inj.mpr e), decide_eq_true e]; rfl
    · rw [decide_eq_false (fun z => e (keyD_inj.mp z)), decide_eq_false e]; exact ih
/-! ### one round -/
def dotI : List Int → List Int → List Int
  | x :: xs, y :: ys => x * y :: dotI xs ys
  | _, _ => []
/-- a row of an update, at values and a remainder -/
def upd1 (u vs : List Int) (r : Int) : Int := (dotI (u.take (u.length - 2)) vs).sum + (u.getD (u.length - 2) 0) * r + u.getD (u.length - 1) 0
def updAll (us : List (List Int)) (vs : List Int) (r : Int) : List Int := us.map fun u => upd1 u vs r
def SmallC (us : List (List Int)) : Prop := ∀ u ∈ us, 2 ≤ u.length ∧ ∀ c ∈ u, -1000000 ≤ c ∧ c ≤ 1000000
theorem last2 {u : List Int} (h : 2 ≤ u.length) : u.drop (u.length - 2) = [u.getD (u.length - 2) 0, u.getD (u.length - 1) 0] := by
  have h1 : u.length - 2 < u.length := by omega
  have h2 : u.length - 2 + 1 < u.length := by omega
  rw [List.drop_eq_getElem_cons h1, List.drop_eq_getElem_cons h2, List.drop_eq_nil_of_le (by omega)]
  have e : u.length - 2 + 1 = u.length - 1 := by omega
  simp only [List.getD_eq_getElem?_getD, e]
  rw [List.getElem?_eq_getElem h1, List.getElem?_eq_getElem (by omega : u.length - 1 < u.length)]
  simp only [Option.getD_some, e]
theorem ok_keyD (k : RKey) : ok8 (keyD k) := by
  obtain ⟨a, b⟩ := k
  cases a <;> cases b <;> rfl
theorem ok7_keyD (k : RKey) : okN 7 (keyD k) = true := by
  obtain ⟨a, b⟩ := k
  cases a <;> cases b <;> rfl
theorem eqD_optI (a b : Option Int) : eqD (optI a) (optI b) = decide (a = b) := by
  cases a <;> cases b <;> first | rfl | (simp [optI, eqD, pyOf, PyData.eqv]; done) | (show eqD (.int _) (.int _) = _; rw [eqD_int]; simp)
theorem eqD_keyD (k k' : RKey) : eqD (keyD k) (keyD k') = decide (k = k') := by
  obtain ⟨a, b⟩ := k
  obtain ⟨a', b'⟩ := k'
  have e1 := eqD_optI a a'
  have e2 := eqD_optI b b'
  unfold eqD at e1 e2
  show PyData.eqv (.tuple [pyOf (optI a), pyOf (optI b)]) (.tuple [pyOf (optI a'), pyOf (optI b')]) = _
  rw [PyData.eqv, PyData.eqvAll, PyData.eqvAll, PyData.eqvAll, e1, e2]
  simp
theorem inD_keys (k : RKey) (ks : List RKey) : inD (keyD k) (ks.map keyD) = decide (k ∈ ks) := by
  unfold inD
  induction ks with
  | nil => rfl
  | cons n ns ih =>
    rw [List.map_cons, List.any_cons, ih, eqD_keyD]
    by_cases h : k = n
    · subst h; simp
    · have h2 : ¬ n = k := fun z => h z.symm
      simp [h, h2]
theorem ok7_keys (ks : List RKey) : okAll 7 (ks.map keyD) = true := okAll_of fun d hd => by
  obtain ⟨k, _, rfl⟩ := List.mem_map.mp hd
  exact ok7_keyD k
/-- a mode at which a loop stands, well found in its program -/
structure Stands (P : Prg) (m : Mode) : Prop where
  ru : ksAt (P.modes.map fun m => (DT.str m.nm, DT.str (rname m.ru))) (.str m.nm) = some (.str (rname m.ru))
  rows : ksAt (P.modes.map fun m => (DT.str m.nm, DT.dct (rowsKV m.rows))) (.str m.nm) = some (.dct (rowsKV m.rows))
theorem stands_of {P : Prg} {m : Mode} (nd : (P.modes.map Mode.nm).Nodup) (h : m ∈ P.modes) : Stands P m := ⟨ksAt_name nd h, ksAt_name nd h⟩
end SW


/-! SWExc: own errors of one field: raised. -/
namespace SW
open PySem L2 PyProof.Rows
/-- X.__init__(self, v): ValueError.__init__(self, '..'); self.f = v -/
def spExc (K : Frag) (f : Str) : Sp := fun vs H Q _ => ∃ a C v, vs = [.ref a, v] ∧ H a = some (exo a C none) ∧ OexC K C ∧ W.findIn K (.ref C) f = some none ∧ ∀ dx, H dx = none → dx ≠ a → Q .non (upd (upd H dx (exd dx [(f, v)])) a (exo a C (some dx)))
/-- the reading of such an __init__ -/
def tExc (K : Frag) (f m : Str) : TS := tSeq (tDrop (tVeI K (tCons (tVar 0) (tCons (tC (.str m)) tNil)))) (tOst K f (tVar 0) (tVar 1))
theorem pure_exc {K : Frag} {f m : Str} {N : List Str} (hN : N.length = 2) (vs : List V) (H : Hp) (Q : VK) (E : XK) (h : spExc K f vs H Q E) : tExc K f m { nx := fun _ H' => Q .non H', rt := Q } (L2.start N vs) H := by
  obtain ⟨a, C, v, rfl, h1, h2, h3, h⟩ := h
  have e : L2.start N [.ref a, v] = [some (.ref a), some v] := by unfold L2.start; rw [hN]; rfl
  rw [e]
  exact ⟨_, rfl, a, C, _, rfl, (by decide : (1 : Nat) ≤ 1000), h2, h1, _, rfl, _, rfl, a, C, rfl, h2, h3, .inl ⟨h1, h⟩⟩
theorem len_exc {K : Frag} {f : Str} (vs : List V) (H : Hp) (Q : VK) (E : XK) (h : spExc K f vs H Q E) : vs.length = 2 := by
  obtain ⟨_, _, _, rfl, _⟩ := h; rfl
section
variable {Z : Bd}
def dRaise (Ψ : XKd) (C f : Str) (e : dE) : dS := fun _ env μ => e env μ fun d μ1 => Ψ C [(f, d)] μ1
/-- the class's facts for that -/
structure XcOk (K : Frag) (C f : Str) : Prop where
  ox : OexC K (He.ga K C)
  nf : W.findIn K (.ref (He.ga K C)) f = some none
theorem rs_raise {C f : Str} {te : TE} {de : dE} (hx : XcOk Z.K C f) (he : RE Z te de) : RS Z (fun _ σ H => tMkO (He.ga Z.K C) (spExc Z.K f) [] (tCons te tNil) σ H fun cls d H' => Z.E cls d H') (dRaise Z.Ψ C f de) := fun B σ w env De D xr st wo sl g r =>
  he B σ w env _ _ xr st wo sl g fun d v w1 h1 s1 o1 e1 r1 => by
    refine ⟨(by decide : (1 : Nat) ≤ 1000), fun a ha => ?_⟩
    refine ⟨a, He.ga Z.K C, v, rfl, upd_same, hx.ox, hx.nf, fun dx hdx ne => ?_⟩
    have hdx1 : w1.H1 dx = none := (upd_ne ne).symm.trans hdx
    refine ⟨rfl, dx, [(f, v)], upd_same, (upd_ne ne).trans upd_same, hdx1, ?_⟩
    have hh : upd (del (upd (upd (upd w1.H1 a (exo a (He.ga Z.K C) none)) dx (exd dx [(f, v)])) a (exo a (He.ga Z.K C) (some dx))) a) dx (.xd [(f, v)]) = upd w1.H1 dx (.xd [(f, v)]) := by
      funext b
      unfold upd del
      by_cases h1 : b = dx
      · rw [if_pos h1, if_pos h1]
      · rw [if_neg h1, if_neg h1]
        by_cases h2 : b = a
        · rw [if_pos h2, h2, ha]
        · rw [if_neg h2]; show (if b = a then _ else if b = dx then _ else if b = a then _ else _) = _; rw [if_neg h2, if_neg h1, if_neg h2]
    rw [hh]
    obtain ⟨n1, n2⟩ := s1.nil hdx1
    exact xr C [(f, d)] (w1.outw dx (.xd [(f, v)])) h1 (s1.outw n1 n2 (noTab_none hdx1)) (o1.trans ((Wo.refl w1).outw hdx1)) dx [(f, v)] upd_same (.cons r1 .nil)
end
/-- an own error class of one field, its __init__ walked -/
structure ExX (P : Program) (w : World) (K : Frag) (mg : Str → Option Value) (base : Heap) (k : Nat) (C f : Str) : Prop where
  ex : ∃ fI fd ps, FnOk P w K mg base (L2.CX P w) k fI fd ps (spExc K f) ∧ W.findIn K (.ref (He.ga K C)) "__init__" = some (some (.ref fI)) ∧ W.typeIn K (.ref fI) = some (.type "function") ∧ Binds K fd ps [] ∧ mg C = some (.ref (He.ga K C)) ∧ XcOk K C f
theorem ps_rx {X : Cx} {k j : Nat} {C f : Str} {E : XK} {e : Expr} {te : TE} {p pos pos2 : Pos} (c : ExX X.prog X.w X.K X.mg X.base k C f) (hr : Room j X.A) (hk : k + 1 ≤ j) (hc : X.calm = true) (tk : L2.Takes X fun cls d _ H => E cls d H) (hg : Gl X C) (he : PE X e te)
    (hdb : (C == ("__debug__" : Str)) = false := by decide) (hst : starEach [e] X.env = (false, eval e X.env) :: starEach [] X.env := by rfl) (hbk : ((backTo pos (starEach [] X.env)).any fun x => x.fst) = false := by rfl) :
    PS X (.Raise (some (.Call (.Name C p) [e] [] pos)) none pos2) (fun _ σ H => tMkO (He.ga X.K C) (spExc X.K f) [] (tCons te tNil) σ H fun cls d H' => E cls d H') := by
  obtain ⟨fI, fd, ps, F, h1, h2, b, hm, hx⟩ := c.ex
  exact L2.ps_raise hc tk (pmk_oex hx.ox h1 h2 F (hr.mono hk) b .nil pass_no hg hm (pa_cons (hs := hst) he pa_nil) hdb hst hbk)
end SW


/-! SWTry: several except clauses, each with a name for the error. -/
namespace SW
open PySem L2 PyProof.Rows
/-- what follows a clause: its name is gone -/
def offD (D : Ends) (i : Nat) : Ends := { nx := fun τ J => D.nx (τ.set i none) J, rt := D.rt, bk := fun τ J => D.bk (τ.set i none) J, ct := fun τ J => D.ct (τ.set i none) J }
abbrev Cl := Value × Nat × (Addr → Value → Option Addr → TS)
/-- the clauses' wish of an error, one behind the other -/
def wNs (K : Frag) (Wo : WX) (D : Ends) : List Cl → WX
  | [] => Wo
  | (c, i, ts) :: r => fun cls d τ J => ∃ b, W.exmOne K cls c = some b ∧ (b = true → ∀ ea, J ea = none → ts ea cls d (offD D i) (τ.set i (some (.ref ea))) J) ∧ (b = false → wNs K Wo D r cls d τ J)
inductive HdsN (X : Cx) : List ExceptHandler → List Cl → Prop
  | nil : HdsN X [] []
  | cons {x n : Str} {c : Value} {i : Nat} {ts : Addr → Value → Option Addr → TS} {b0 : Stmt} {su : List Stmt} {p1 p2 : Pos} {hds : List ExceptHandler} {l : List Cl} (hc : Names X x c) (hi : X.N[i]? = some n) (hk : X.env.kindOf n = some .local)
      (hsu : ∀ (ea : Addr) (eo : Obj) (cls : Value) (d : Option Addr) (pn : List (Addr × Obj)), Zc cls d eo → (∃ vs, eo.data = .fields vs) → PSs (X.suite ea ((ea, eo) :: pn)) (b0 :: su) (ts ea cls d)) (r : HdsN X hds l) :
      HdsN X (.ExceptHandler (some (.Name x p1)) (some n) (b0 :: su) p2 :: hds) ((c, i, ts) :: l)
section
variable {X : Cx} {body : List Stmt} {hd0 : ExceptHandler} {hds : List ExceptHandler} {l : List Cl} {pos : Pos} {tb : WX → TS} {Wo : WX}
theorem ps_try_names (hs : X.stack = X.env :: X.outer) (hf : X.env.frame = some X.env.locals) (hN : X.N.Nodup) (tk : L2.Takes X Wo)
    (hb : ∀ (W : WX) (pn : List (Addr × Obj)) (xe : Value → Shared → Prop), L2.Takes (X.tr pn xe) W → PassesOwn (model X.prog X.w) X.A X.env xe → PSs (X.tr pn xe) body (tb W))
    (hh : HdsN X (hd0 :: hds) l) : PS X (.Try body (hd0 :: hds) [] [] pos) (fun D σ H => tb (wNs X.K Wo D l) D σ H) := by
  refine ⟨fun pins s σ H D I h => ?_⟩
  have ok := I.ok
  have fr0 : X.A.frames = some (X.env :: X.outer) := by rw [ok.frames, hs]
  refine wpAny_Try_except ?_
  refine wpAny_mono ((hb (wNs X.K Wo D l) (X.pn ++ pins) (fun er z1 => wpAny (model X.prog X.w) X.A (noteFrame er X.env) (fun _ z2 => wpAny (model X.prog X.w) X.A (setFlight er none) (fun _ z3 =>
    wpAny (model X.prog X.w) X.A (handleBy er X.env (hd0 :: hds)) (SP X pins D) X.xe z3) X.xe z2) X.xe z1) (fun u z0 xx => ?_) PassesOwn.looking).run [] s σ H D (I.toTry _) h) (fun fl z0 hsp => ?_) (fun _ _ hx => hx)
  · obtain ⟨ea, B, sI, pins2, τ, J, cls, d, rfl, I1, nb, up, sky, na, os, ag, w⟩ := xx
    have I2 : Inv X pins τ J sI := I1.ofTry ok
    have sky2 : Sky B (X.env :: X.outer) ea (Zc cls d) X.env.locals z0.heap := by rw [← hs]; exact sky
    show wpAny (model X.prog X.w) X.A (noteFrame (.ref ea) X.env) _ _ _
    refine Sky.land Zc.steady fr0 hf sky2 fun g1 la1 u1 => ?_
    have I3 : Inv X pins τ J { z0 with heap := g1 } := I2.landed nb la1.1 (up.trans u1) os ag
    obtain ⟨eo, ev, eg, ez, ed⟩ := la1.there
    have offF : ∀ {g : Heap} {o : Obj} {vs : Array Value}, g.FunFrames B (X.env :: X.outer) → g.get? ea = some o → o.data = .fields vs → ea ∉ frs (X.env :: X.outer) := fun {g o vs} ff q1 q2 hm => by
      obtain ⟨_, o2, q3, hnf⟩ := ff.mem hm
      rw [q1] at q3; cases q3
      exact hnf _ q2
    have off1 := offF la1.2.2.1 eg ed
    have offL : ea ≠ X.env.locals := fun z => off1 (List.mem_filterMap.mpr ⟨X.env, List.mem_cons_self, by rw [hf, z]⟩)
    have offS : ea ∉ X.fs := fun hm => by
      obtain ⟨en, hen, q⟩ := List.mem_filterMap.mp hm
      exact off1 (List.mem_filterMap.mpr ⟨en, List.mem_cons_of_mem _ hen, q⟩)
    have S1 := I3.suite eg ed na offL offS
    have go : ∀ {hds2 : List ExceptHandler} {l2 : List Cl}, HdsN X hds2 l2 → wNs X.K Wo D l2 cls d τ J →
        wpAny (model X.prog X.w) X.A (handleBy (.ref ea) X.env hds2) (SP X pins D) X.xe { z0 with heap := g1 } := by
      intro hds2 l2 hk
      induction hk with
      | nil =>
        intro w
        refine wpAny_handleBy_nil ?_
        obtain ⟨k1, k2, k3, xo, xv, xT, xoT, xts, xg, xz, xd, x1, xr⟩ := id la1
        unfold PySem.passOn
        refine wpAny_bind (wpAny_field xg xd x1 ?_)
        rw [if_neg (show ¬ ((Value.ref xT == Value.none) = true) from by simp)]
        have fin : wpAny (model X.prog X.w) X.A (setFlight (.ref ea) X.env.frame) (fun _ z4 => wpAny (model X.prog X.w) X.A (throw (.ref ea) : Sem Flow) (SP X pins D) X.xe z4) X.xe { z0 with heap := g1 } := by
          rw [hf]
          refine HandSPX.setFlight_upZ la1 fun g2 hg2 u2 => wpAny_throw (tk _ _ ?_)
          exact ⟨ea, B, sI, pins, τ, J, cls, d, rfl, I2, nb, (up.trans u1).trans u2, .inr (.inr (by rw [hs]; exact hg2)), na, os, ag, w⟩
        first
          | exact wpAny_bind (wpAny_pure (wpAny_bind fin))
          | exact wpAny_bind fin
      | @cons x n c i ts b0 su p1 p2 hds3 l3 hc hi hkn hsu r ih =>
        intro w
        obtain ⟨b, hb1, hyes, hno⟩ := w
        have hloc : Loc X.env.scope n := .inl hkn
        refine wpAny_handleBy_cons (codeAny_handlers_test ?_) (by intro q; cases q)
        have lk1 : W.Looks (model X.prog X.w) g1 (typeOf (.ref ea)) cls := fun A2 Q2 E2 s2 k q => wpAny_typeOf_ref (k _ _ eg) (by rw [ez.1]; exact q)
        have lk2 := W.exm_one (M := model X.prog X.w) (I3.kIn) lk1 hb1
        have test : ∀ {Q2 E2 : Value → Shared → Prop}, Q2 c { z0 with heap := g1 } → wpAny (model X.prog X.w) (X.A.mark (some (.ref ea))) (eval (.Name x p1) X.env) Q2 E2 { z0 with heap := g1 } := fun {Q2 E2} q => by
          obtain ⟨hg, hdbg, hm | ⟨hm, hv, hnn⟩⟩ := hc
          · exact ld_glob (X := X.suite ea ((ea, eo) :: (X.pn ++ pins))) S1 hg hm q hdbg
          · exact ld_blt (X := X.suite ea ((ea, eo) :: (X.pn ++ pins))) S1 hg hm hv q hnn hdbg
        refine test (lk2.here ?_)
        cases b with
        | true =>
          refine codeAny_handlers_suite_as ?_
          refine HandSPX.lands_againZ la1 fun g2 la2 u2 => ?_
          have I4 : Inv X pins τ J { z0 with heap := g2 } := I2.landed nb la2.1 ((up.trans u1).trans u2) os ag
          obtain ⟨eo2, ev2, eg2, ez2, ed2⟩ := la2.there
          have S2 := I4.suite eg2 ed2 na offL offS
          refine store_ok (X := X.suite ea ((ea, eo2) :: (X.pn ++ pins))) (v := .ref ea) S2 hN hi hloc rfl (fun z5 S5 => ?_) (.inr hkn)
          refine wpAny_mono ((hsu ea eo2 cls d (X.pn ++ pins) ez2 ⟨_, ed2⟩).run [] z5 _ J _ S5 (hyes rfl ea na)) (fun fl z6 hsp => ?_) (fun _ _ z => False.elim z)
          have out : ∀ {τ6 : L2.St} {J6 : Hp} {Q2 : Shared → Prop}, Inv (X.suite ea ((ea, eo2) :: (X.pn ++ pins))) [] τ6 J6 z6 → (∀ z7, Inv X pins (τ6.set i none) J6 z7 → Q2 z7) →
              wpAny (model X.prog X.w) X.A (do bindName X.env n .none; unbindBehindTheSuite X.env n p2) (fun _ z7 => Q2 z7) X.xe z6 := fun {τ6 J6 Q2} S6 hq => gone_ok (S6.unsuite ok) hN hi hkn hq
          cases fl with
          | next =>
            obtain ⟨τ6, J6, S6, q6⟩ := hsp
            exact out S6 fun z7 I7 => ⟨_, _, I7, q6⟩
          | brk =>
            obtain ⟨τ6, J6, S6, q6⟩ := hsp
            exact out S6 fun z7 I7 => ⟨_, _, I7, q6⟩
          | cont =>
            obtain ⟨τ6, J6, S6, q6⟩ := hsp
            exact out S6 fun z7 I7 => ⟨_, _, I7, q6⟩
          | ret u =>
            obtain ⟨v6, τ6, J6, S6, r6, q6⟩ := hsp
            exact out S6 fun z7 I7 => ⟨_, _, _, I7, r6, q6⟩
        | false =>
          show wpAny _ X.A (handleBy (.ref ea) X.env hds3) _ _ _
          exact ih (hno rfl)
    exact go hh w
  · cases fl with
    | next =>
      obtain ⟨τ, J, I1, q⟩ := hsp
      exact wpAny_execs_nil ⟨τ, J, I1.ofTry ok, q⟩
    | brk =>
      obtain ⟨τ, J, I1, q⟩ := hsp
      exact ⟨τ, J, I1.ofTry ok, q⟩
    | cont =>
      obtain ⟨τ, J, I1, q⟩ := hsp
      exact ⟨τ, J, I1.ofTry ok, q⟩
    | ret u =>
      obtain ⟨v, τ, J, I1, r, q⟩ := hsp
      exact ⟨v, τ, J, I1.ofTry ok, r, q⟩
end
/-! ### repr of plain data, where no repr is under way -/
def rRepr (K : Frag) : List V → Hp → VK → Prop := fun xs H Q => ∃ x d, xs = [x] ∧ Dp K H x d ∧ d.showable = true ∧ d.hasDict = false ∧ d.depth ≤ 60 ∧ d.shown.length ≤ sizeLine ∧ Q (.str d.shown) H
theorem call_reprD {X : Cx} {j : Nat} (hg : X.A.guards = some []) (hu : X.A.units + 64 < cLine) : CallR X (.builtin "repr") (rRepr X.K) := by
  intro pins s σ H xs us Q I r h
  obtain ⟨x, d, rfl, hd, h1, h2, h3, h4, q⟩ := h
  obtain ⟨u, rfl, ru⟩ := vals1 r
  obtain ⟨as, rd⟩ := Dp.reads I d x u hd ru
  cases rd with
  | none => exact PySem.P.repr_of_none ⟨.str _, H, I.tok _, ⟨_, rfl⟩, by simpa only [PyData.shown] using q⟩
  | bool b => exact PySem.P.repr_of_bool ⟨.str _, H, I.tok _, ⟨_, rfl⟩, by simpa only [PyData.shown] using q⟩
  | int i t => exact PySem.P.repr_of_int (by simpa [PyData.showable] using h1) ⟨.str _, H, I.tok _, ⟨_, rfl⟩, by simpa only [PyData.shown] using q⟩
  | str z t => exact PySem.P.repr_of_str ⟨.str _, H, I.tok _, ⟨_, rfl⟩, by simpa only [PyData.shown] using q⟩ (by simpa only [PyData.shown] using h4)
  | list a b c e =>
    exact repr_of_reads' (.list a b c e) h1 (PyData.noDict_hsm h2) hg (by omega) (fun _ _ e => e) (fun h' u tk hk => ⟨.str _, H, I.kept hk, ⟨_, rfl⟩, q⟩) h4
  | tuple a b c e =>
    exact repr_of_reads' (.tuple a b c e) h1 (PyData.noDict_hsm h2) hg (by omega) (fun _ _ e => e) (fun h' u tk hk => ⟨.str _, H, I.kept hk, ⟨_, rfl⟩, q⟩) h4
  | dict _ _ _ _ _ => simp [PyData.hasDict] at h2
end SW


/-! SWLam: defs called where no repr is under way; a lambda without parameters handed to a def that tells its error. -/
namespace SW
open PySem L2 PyProof.Rows
/-- a def's promise where no repr is under way -/
structure FnOkG (P : Program) (w : World) (K : Frag) (mg : Str → Option Value) (base : Heap) (CX : CXT) (k : Nat) (f : Addr) (fd : FuncData) (ps : List Str) (sp : Sp) : Prop where
  len : ∀ vs H Q E, sp vs H Q E → vs.length = ps.length
  run : ∀ (A : Around) (out : List Env) (s : Shared) (H : Hp) (args : Args) (us : List Value) (vs : List V) (Q : VK) (E : XK), Room k A → A.guards = some [] → Env0 P w K mg base A out s H → BindsTo s fd args (ps.zip us) → Vals vs us →
    sp vs H Q E → codeAny (model P w) A (.call (.ref f) args) (CR CX out P w H s Q E) s
theorem FnOkG.mono {P : Program} {w : World} {K : Frag} {mg : Str → Option Value} {base : Heap} {CX : CXT} {j k : Nat} {f : Addr} {fd : FuncData} {ps : List Str} {sp : Sp} (F : FnOkG P w K mg base CX j f fd ps sp) (h : j ≤ k) : FnOkG P w K mg base CX k f fd ps sp :=
  ⟨F.len, fun A out s H args us vs Q E hr => F.run A out s H args us vs Q E (hr.mono h)⟩
theorem FnOk.g {P : Program} {w : World} {K : Frag} {mg : Str → Option Value} {base : Heap} {CX : CXT} {k : Nat} {f : Addr} {fd : FuncData} {ps : List Str} {sp : Sp} (F : FnOk P w K mg base CX k f fd ps sp) : FnOkG P w K mg base CX k f fd ps sp :=
  ⟨F.len, fun A out s H args us vs Q E hr _ => F.run A out s H args us vs Q E hr⟩
/-- such a def as a whole; hc: what is asked of its code object -/
theorem okDG {P : Program} {w : World} {K : Frag} {T : List (Addr × Str)} {mg : Str → Option Value} {base : Heap} {x qual : Str} {params : Arguments} {body : List Stmt} {scope : Scope} {f : Addr} {fd : FuncData} {N ps : List Str} {k : Nat} {dsp : dSp} {t : XK → TS} {dt : XKd → dS} {C : Value → Prop}
    (F : FunD K x qual params body scope [] [] f fd) (hC : C fd.code) (sc : FnScope N ps scope) (len : ∀ ds μ Φ Ψ, dsp ds μ Φ Ψ → ds.length = ps.length)
    (ref : ∀ E Ψ, RS ⟨⟨K, P, w, T⟩, E, Ψ⟩ (t E) (dt Ψ)) (pure : ∀ ds μ Φ Ψ, dsp ds μ Φ Ψ → dRun (dt Ψ) N ds μ Φ)
    (der : ∀ cdv A outer s H E, C cdv → A.guards = some [] → Room k (A.deeper (PyProof.Rows.envOfC qual scope s.heap.objs.size f cdv)) → PSs (cxOf (L2.CX P w) P w K mg base N qual scope f cdv A outer s H E) body (t E)) :
    FnOkG P w K mg base (L2.CX P w) (k + 1) f fd ps (lift ⟨K, P, w, T⟩ dsp) := by
  have lenA : ∀ vs H Q E, lift ⟨K, P, w, T⟩ dsp vs H Q E → vs.length = ps.length := fun vs H Q E ⟨w0, ds, Φ, Ψ, _, _, ra, h, _⟩ => ra.length.trans (len _ _ _ _ h)
  refine ⟨lenA, fun A out s H args us vs Q E hr hg e0 hb r hsp => ?_⟩
  obtain ⟨oc, od, dV, kV, doc, pm, an, cdv, ct, osl, rfl, lk, hcd, _, _⟩ := F.ex
  have hl := lenA _ _ _ _ hsp
  refine LamX.run_ofS (N := N) lk hcd sc hr e0 hb r hl fun hr2 => ⟨t E, der cdv A out s H E hC hg hr2, ?_⟩
  obtain ⟨w0, ds, Φ, Ψ, e, st, ra, h, hQ, xr⟩ := hsp
  subst e
  refine ref E Ψ w0 _ w0 _ _ _ xr st (Wo.refl _) (Slo.start ra) (pure ds _ Φ Ψ h) ⟨fun σ H' ⟨env', w', e, h', s', o', l'⟩ => ?_, fun v H' ⟨d, w', e, h', s', o', r'⟩ => ?_, fun σ H' ⟨_, _, _, h', _⟩ => h'.elim, fun σ H' ⟨_, _, _, h', _⟩ => h'.elim⟩
  · subst e; exact hQ .non .non w' h' s' o' .non
  · subst e; exact hQ d v w' h' s' o' r'
structure CalG (P : Program) (w : World) (K : Frag) (mg : Str → Option Value) (base : Heap) (k : Nat) (x : Str) (sp : Sp) : Prop where
  ex : ∃ f fd ps, FnOkG P w K mg base (L2.CX P w) k f fd ps sp ∧ mg x = some (.ref f) ∧ W.keepIn K (.ref f) = true ∧ Binds K fd ps []
theorem units64 {k : Nat} {A : Around} (r : Room k A) : A.units + 64 < cLine := by have := r.un; omega
section
variable {X : Cx} {k j : Nat} {sp : Sp}
theorem pe_cg {x : Str} {p pos : Pos} {e : Expr} {es : List Expr} {t : TA} (c : CalG X.prog X.w X.K X.mg X.base k x sp) (hgd : X.A.guards = some []) (hr : Room j X.A) (hk : k ≤ j) (hg : Gl X x) (ha : PA X (e :: es) t)
    (hdb : (x == ("__debug__" : Str)) = false := by decide) (hst : starEach (e :: es) X.env = (false, eval e X.env) :: starEach es X.env := by rfl) (hbk : ((backTo pos (starEach es X.env)).any fun x => x.fst) = false := by rfl) :
    PE X (.Call (.Name x p) (e :: es) [] pos) (tCall sp [] E0 t) := by
  obtain ⟨f, fd, ps, F, hm, kp, b⟩ := c.ex
  refine ⟨fun pins s σ H Q I h => ?_⟩
  refine wpAny_Call_Name_kw (ld_glob I hg hm ?_ hdb)
  refine W.callWith_K (h₀ := X.base) I.ok.mod.kin kp (thn (ha.run pos pins s σ H _ I h) fun us z1 ⟨vs, J1, I1, r, q⟩ => ⟨I1.kIn, ?_⟩) hst hbk
  have hl : us.length = ps.length := by
    have := F.len _ _ _ _ q
    rw [List.append_nil] at this
    rw [← r.length]; exact this
  have bb := b z1 us I1.kIn (by rw [List.append_nil]; exact hl)
  rw [List.append_nil] at bb
  replace q : sp (vs ++ []) J1 Q E0 := q
  rw [List.append_nil] at q
  refine wpAny_call (codeAny_mono (F.run X.A X.stack z1 J1 ⟨us, []⟩ us vs Q E0 (hr.mono hk) hgd I1.env0 bb r q) fun r z2 hq => ?_)
  cases r with
  | error er => exact (cx_no hq).elim
  | ok fl =>
    cases fl with
    | ret u => exact I1.after hq
    | next => exact False.elim hq
    | brk => exact False.elim hq
    | cont => exact False.elim hq
end
/-! ### a def that tells the error of what it got -/
/-- the own errors that are told: class, field, word -/
abbrev Told := List (Str × Str × Str)
/-- what is told of an error, the clauses one behind the other -/
def wErr (K : Frag) (Q : VK) : Told → XK
  | [] => fun _ _ _ => False
  | (C, f, tag) :: r => fun cl d J => ∃ b, W.exmOne K cl (.ref (He.ga K C)) = some b ∧ (b = true → cl = .ref (He.ga K C) ∧ ∃ dd fs v pd, d = some dd ∧ J dd = some (.xd fs) ∧ fs.lookup f = some v ∧
      Dp K J v pd ∧ pd.showable = true ∧ pd.hasDict = false ∧ pd.depth ≤ 60 ∧ pd.shown.length ≤ sizeLine ∧ ∀ L, J L = none → Q (.ref L) (upd J L (.lst [.str tag, .str pd.shown]))) ∧ (b = false → wErr K Q r cl d J)
def TErr (K : Frag) (cl : Told) : (XK → Hp → VK → Prop) → Hp → VK → Prop := fun tl H Q => tl (wErr K Q cl) H fun _ J => Q .non J
/-- plain data that is shown -/
def plainS (d : DT) : Prop := okN 8 d = true ∧ (pyOf d).showable = true ∧ (pyOf d).shown.length ≤ 1000
def errΨ (cl : Told) (Φ : PK) : XKd := fun C fs μ => ∃ f tag v, cl.lookup C = some (f, tag) ∧ fs = [(f, v)] ∧ plainS v ∧ Φ (.lst [.str tag, .str (pyOf v).shown]) μ
/-- tell(lambda: body) -/
def dLamErr (cl : Told) (db : XKd → dE) : dE := fun env μ Φ => db (errΨ cl Φ) env μ fun _ μ1 => Φ .non μ1
/-- the told classes, apart -/
structure ToldOk (K : Frag) (cl : Told) : Prop where
  ap : ∀ a ∈ cl, ∀ b ∈ cl, W.exmOne K (.ref (He.ga K a.1)) (.ref (He.ga K b.1)) = some (decide (a.1 = b.1))
theorem plain_dp {K : Kit} {w : Wd} (s : Sta K w) {v : V} {d : DT} (r : Rep K w.H v d) (h : plainS d) : Dp K w.H1 v (pyOf d) ∧ (pyOf d).showable = true ∧ (pyOf d).hasDict = false ∧ (pyOf d).depth ≤ 60 ∧ (pyOf d).shown.length ≤ sizeLine := by
  obtain ⟨h1, h2, h3⟩ := h
  obtain ⟨a, b⟩ := ok_lay h1
  exact ⟨Dp.mono' s.ex (r.dp h1), h2, PyData.hasDict_of_canLay _ a, by omega, Nat.le_trans h3 (by decide)⟩
theorem lookup_mem {cl : Told} {C : Str} {x : Str × Str} (h : cl.lookup C = some x) : (C, x) ∈ cl := by
  induction cl with
  | nil => cases h
  | cons a cl ih =>
    obtain ⟨D, y⟩ := a
    rw [List.lookup_cons] at h
    by_cases e : C = D
    · subst e; simp at h; rw [h]; exact .head _
    · have e' : (C == D) = false := by simpa using e
      rw [e'] at h
      exact .tail _ (ih h)
theorem told_at {K : Kit} {Q : VK} {C : Str} {f tag : Str} {J : Hp} {dx : Addr} {fs : List (Str × V)} {v : V} {pd : PyData} : ∀ {cl : Told}, (∀ a ∈ cl, ∀ b, b = C → W.exmOne K (.ref (He.ga K b)) (.ref (He.ga K a.1)) = some (decide (b = a.1))) → cl.lookup C = some (f, tag) → J dx = some (.xd fs) → fs.lookup f = some v → Dp K J v pd →
    pd.showable = true → pd.hasDict = false → pd.depth ≤ 60 → pd.shown.length ≤ sizeLine → (∀ L, J L = none → Q (.ref L) (upd J L (.lst [.str tag, .str pd.shown]))) → wErr K Q cl (.ref (He.ga K C)) (some dx) J
  | [], _, h, _, _, _, _, _, _, _, _ => by cases h
  | (D, g, tg) :: cl, ap, h, h1, h2, h3, h4, h5, h6, h7, k => by
    refine ⟨decide (C = D), ap (D, g, tg) (.head _) C rfl, fun b => ?_, fun b => ?_⟩
    · have e := of_decide_eq_true b
      subst e
      rw [List.lookup_cons] at h
      simp at h
      obtain ⟨rfl, rfl⟩ := h
      exact ⟨rfl, dx, fs, v, pd, rfl, h1, h2, h3, h4, h5, h6, h7, k⟩
    · have e := of_decide_eq_false b
      rw [List.lookup_cons] at h
      have e' : (C == D) = false := by simpa using e
      rw [e'] at h
      exact told_at (fun a ha => ap a (.tail _ ha)) h h1 h2 h3 h4 h5 h6 h7 k
theorem re_lamErr {Z : Bd} {cl : Told} {t : XK → TE} {db : XKd → dE} (hx : ToldOk Z.K cl) (ht : ∀ E Ψ, RE ⟨Z.K, E, Ψ⟩ (t E) (db Ψ)) : RE Z (LamX.tLam Z.K.T (TErr Z.K cl) t) (dLamErr cl db) := fun B σ w env Φ Q xr st wo sl h k => by
  refine ⟨st.tb, fun H1 eN T1 => ?_⟩
  have s1 : Sta Z.K ⟨w.H, w.mu, H1⟩ := ⟨fun a o q => eN a o (st.ex a o q) fun ps z => by subst z; exact st.nt a ps q, fun a m q => by
    obtain ⟨z1, z2⟩ := st.mu a m q
    exact ⟨z1, z2.keep (Ex.refl _) fun o r => eN a o r (z2.noTab r).1⟩, st.nt, T1, st.tm⟩
  have o1 : Wo w ⟨w.H, w.mu, H1⟩ := ⟨Ex.refl _, fun a o q1 q2 q3 n => ⟨eN a o q1 n, q2, q3⟩⟩
  refine ht (wErr Z.K Q cl) (errΨ cl Φ) ⟨w.H, w.mu, H1⟩ σ ⟨w.H, w.mu, H1⟩ env _ _ (fun C fs w' hp s' o' dx vs hd r => ?_) s1 (Wo.refl _) sl h fun d v w' h' s' o' e' r' => ?_
  · obtain ⟨f, tag, v, hl, rfl, pl, q⟩ := hp
    cases r with
    | cons r rr =>
      cases rr
      obtain ⟨d1, d2, d3, d4, d5⟩ := plain_dp s' r pl
      have hm := lookup_mem hl
      refine told_at (fun a ha b eb => by subst eb; exact hx.ap _ hm a ha) hl hd (by simp [List.lookup_cons]) d1 d2 d3 d4 d5 fun L hL => ?_
      obtain ⟨s2, o2⟩ := s'.new (o := .lst [.str tag, .str (pyOf v).shown]) hL
      exact k _ _ (w'.new L _) q s2 ((wo.trans o1).trans (o'.trans o2)) (o'.ex.trans o2.ex) (.lst upd_same (.cons (.str _) (.cons (.str _) .nil)))
  · exact k .non .non w' h' s' ((wo.trans o1).trans o') o'.ex .non
/-! ### repr over data -/
def dRepr : dRC := fun ds μ Φ => ∃ d, ds = [d] ∧ plainS d ∧ Φ (.str (pyOf d).shown) μ
theorem rc_repr {Z : Bd} : RC Z (rRepr Z.K) dRepr := fun B w xs dx Φ Q st wo r h k => by
  obtain ⟨d, rfl, pl, h⟩ := h
  obtain ⟨v, rfl, r1⟩ := rall1 r
  obtain ⟨d1, d2, d3, d4, d5⟩ := plain_dp st r1 pl
  exact ⟨v, _, rfl, d1, d2, d3, d4, d5, done st wo k h (.str _)⟩
/-- the reading of such a def's clauses -/
def clTold (K : Frag) (i : Nat) : Told → List Cl
  | [] => []
  | (C, f, tag) :: r => (.ref (He.ga K C), i, fun ea cls d => tRet (tLst (tCons (tC (.str tag)) (tCons (tCB (rRepr K) (tCons (tXf ea cls d (He.ga K C) f (tVar i)) tNil)) tNil)))) :: clTold K i r
theorem told_wish {K : Frag} {D : Ends} {Q : VK} {τ : L2.St} (hi : 1 < τ.length) (hD : D.rt = Q) : ∀ {cl : Told} {cls : Value} {d : Option Addr} {J : Hp}, wErr K Q cl cls d J → wNs K (fun _ _ _ _ => False) D (clTold K 1 cl) cls d τ J
  | [], _, _, _, h => h
  | (C, f, tag) :: r, cls, d, J, ⟨b, h1, h2, h3⟩ => ⟨b, h1, fun hb ea _ => by
      obtain ⟨e, dd, fs, v, pd, e2, h4, h5, h6, h7, h8, h9, h10, k⟩ := h2 hb
      subst hD
      exact ⟨_, by rw [List.getElem?_set, if_pos rfl, if_pos hi], rfl, e, dd, fs, v, e2, h4, h5, v, pd, rfl, h6, h7, h8, h9, h10, (show 2 ≤ sizeLine by decide), k⟩, fun hb => told_wish hi hD (h3 hb)⟩
/-- the def: try: call() except ..: .. return None -/
theorem told_gives {X : Cx} {Ng : List Str} {x a q : Str} {sg : Scope} {g : Addr} {cdg : Value} {cl : Told} {hds : List ExceptHandler} {hd0 : ExceptHandler} {p1 p2 p3 p4 p5 p6 : Pos} {kk : Nat} (hN : Ng.Nodup) (h0 : ∀ f : Addr, (L2.start Ng [V.ref f])[0]? = some (some (V.ref f))) (h1 : 1 < Ng.length)
    (hh : ∀ s H, HdsN (cxOf C8.CX0 X.prog X.w X.K X.mg X.base Ng x sg g cdg X.A X.stack s H C8.E0).nox (hd0 :: hds) (clTold X.K 1 cl)) :
    LamX.GivesTo X Ng x sg g cdg [.Try [.Expr (.Call (.Name a p1) [] [] p2) p3] (hd0 :: hds) [] [] p4, .Return (some (.Constant .none kk p5)) p6] a q (TErr X.K cl) := by
  intro f c' s H Q tl act hc h
  refine ⟨_, pss_cons (ps_try_names (X := (cxOf C8.CX0 X.prog X.w X.K X.mg X.base Ng x sg g cdg X.A X.stack s H C8.E0).nox) (Wo := fun _ _ _ _ => False)
      (tb := fun Wi D σ J => ∃ Ech : XK, (∀ cls d σ' J', Ech cls d J' → σ'.length = Ng.length → Wi cls d σ' J') ∧ σ[0]? = some (some (.ref f)) ∧ J c' = some (LamX.CodeO c' q) ∧ tl Ech J fun _ J' => D.nx σ J')
      rfl rfl hN LamX.takes0 (fun Wi pn xe tk _ => ?_) (hh s H)) (pss_one (ps_ret pe_non)), ?_⟩
  · refine ⟨fun pins s2 σ2 J D I h2 => ?_⟩
    obtain ⟨Ech, hW, e1, e2, e3⟩ := h2
    have tk2 : L2.Takes ((cxOf C8.CX0 X.prog X.w X.K X.mg X.base Ng x sg g cdg X.A X.stack s H C8.E0).nox.tr pn xe) (fun cls d σ' J' => σ'.length = Ng.length → Wi cls d σ' J') := fun u s' ⟨b1, b2, b3, b4, b5, b6, b7, b8, b9, b10, c1, c2, c3, c4, c5, c6, c7⟩ => tk u s' ⟨b1, b2, b3, b4, b5, b6, b7, b8, b9, b10, c1, c2, c3, c4, c5, c6, c7 b10.len⟩
    have hp := act (fun cls d σ' J' => σ'.length = Ng.length → Wi cls d σ' J') pn xe Ech p1 p2 tk2 hW
    have hq := pss_one (ps_expr (pos := p3) hp)
    exact hq.run pins s2 σ2 J D I ⟨e1, e2, e3⟩
  · exact ⟨wErr X.K Q cl, fun cls d σ' J' hE hl => told_wish (by rw [hl]; exact h1) rfl hE, h0 f, hc, h⟩
/-- tell(lambda: body), by the teller's facts -/
theorem pe_lamN {X : Cx} {T : List (Addr × Str)} {cl : Told} {x a : Str} {g c P : Addr} {k : Nat} {pg : Arguments} {bg : List Stmt} {sg : Scope} {fd : FuncData} {Ng : List Str} {params : Arguments} {body : Expr} {scope : Scope} {t : XK → TE} {p lpos pos : Pos}
    (F : FunD X.K x x pg bg sg [] [] g fd) (hm : X.mg x = some (.ref g)) (b : L2.Binds X.K fd [a] []) (Sg : FnScope Ng [a] sg) (hNg : Ng[0]? = some a) (hva : Vis sg a) (hG : ∀ cdv, LamX.GivesTo X Ng x sg g cdv bg a (X.env.qual ++ "<lambda>") (TErr X.K cl))
    (hg : Gl X x) (TB : LamX.TabB X.base X.mg c P) (hcode : X.env.code = .ref c) (hT1 : (P, X.env.qual ++ "<lambda>") ∈ T) (hT2 : ∀ p ∈ T, p.1 = P → p.2 = X.env.qual ++ "<lambda>") (hr : Room (k + 2) X.A) (L : LamX.LamS X.env.scope scope) (hdef : defaultsOf params X.env = ([], []))
    (hbind : ∀ (q : Str) (cl : List (Str × Addr)) (pm cv ctv : Value), bindArgs (W.kla_fn "<lambda>" q params body scope cl pm cv ctv) ⟨[], []⟩ = pure [])
    (hbody : ∀ (A : Around) (outer : List Env) (s : Shared) (H : Hp) (E : XK) (f c' : Addr), Room k (A.deeper (LamX.lamEnv X scope s.heap.objs.size f c')) → PE (LamX.lamCx X A outer s H E scope f c') body (t E))
    (hdb : (x == ("__debug__" : Str)) = false := by decide) (hd : (a == ("__debug__" : Str)) = false := by decide) (hcd : (a == ("__classdict__" : Str)) = false := by decide) :
    PE X (.Call (.Name x p) [.Lambda params body scope lpos] [] pos) (LamX.tLam T (TErr X.K cl) t) := by
  have kp := F.kp
  obtain ⟨oc, od, dV, kV, doc, pm, an, cdv, ct, osl, rfl, lk, hcd2, _, _⟩ := F.ex
  exact LamX.pe_lamcall hg hm kp lk hcd2 b Sg hNg hva (hG cdv) TB hcode hT1 hT2 hr L hdef hbind hbody hdb hd hcd
/-- what a call within a lambda raises is the lambda's -/
theorem pass_lam {X : Cx} {A : Around} {outer : List Env} {s : Shared} {H : Hp} {E : XK} {scope : Scope} {f c' : Addr} : Passes (L2.CX (LamX.lamCx X A outer s H E scope f c').prog (LamX.lamCx X A outer s H E scope f c').w) (LamX.lamCx X A outer s H E scope f c') E := L2.passes_call (L2.takes_of rfl rfl rfl rfl) fun _ _ _ _ h => h
/-- the own facts of a def that makes lambdas: its code object, its table -/
def lamB (K : Frag) (x : Str) : Bool := match W.tabIn K x with
  | some (_, P) => (K.lookup P).isNone
  | none => false
theorem lamB_at {K : Frag} {x : Str} (h : lamB K x = true) : ∃ c P, W.tabIn K x = some (c, P) ∧ K.lookup P = none := by
  unfold lamB at h
  cases q : W.tabIn K x with
  | none => rw [q] at h; cases h
  | some r => rw [q] at h; exact ⟨r.1, r.2, rfl, Option.isNone_iff_eq_none.mp h⟩
theorem code_at {K : Frag} {x qual : Str} {params : Arguments} {body : List Stmt} {scope : Scope} {fd : FuncData} {c P : Addr} (h : W.tabIn K x = some (c, P)) (F : FunD K x qual params body scope [] [] (He.ga K x) fd) : fd.code = .ref c := by
  obtain ⟨oc, od, dV, kV, doc, pm, an, cdv, ct, osl, rfl, lk, hcd, _, _⟩ := F.ex
  unfold W.tabIn at h
  split at h
  · rename_i f hf
    have eg : He.ga K x = f := by unfold He.ga; rw [hf]
    rw [eg] at lk
    rw [lk] at h
    simp only at h
    split at h
    · split at h
      · split at h
        · cases h
          rfl
        · cases h
      · cases h
    · cases h
  · cases h
end SW


/-! SWEnd: a law's end where its def is called with no repr under way, with tables of code objects. -/
namespace SW
open PySem PySem.Spec L2 PyProof.Rows
/-- an abstract heap at a law's start: the empty tables tl, the script -/
structure Start (P : Program) (w : World) (K : Frag) (g0 : Heap) (tl : List (Addr × Addr)) (a : Addr) (is : List Int) (J : Hp) : Prop where
  tab : ∀ p ∈ tl, J p.2 = some (.tbl #[])
  only : ∀ b, J b = none ∨ b ∈ tl.map (·.2) ∨ b = a ∧ ∃ ob xs, J b = some (.frz ob (.lst xs))
  scr : SqL K J a (is.map V.int)
  ok : HOk P w J g0
  far : J a ≠ none → K.lookup a = none
section
variable {P : Program} {w : World} {K : Frag} {g0 : Heap} {tl : List (Addr × Addr)} {a : Addr} {is : List Int} {us : List Value}
theorem tl_get (t1 : ∀ p ∈ tl, g0.get? p.2 = some { cls := .none, data := .fields #[] }) {b : Addr} (hb : b ∈ tl.map (·.2)) : g0.get? b = some { cls := .none, data := .fields #[] } := by
  obtain ⟨p, hp, rfl⟩ := List.mem_map.mp hb
  exact t1 p hp
theorem start_any (KX : K.In g0) (t1 : ∀ p ∈ tl, g0.get? p.2 = some { cls := .none, data := .fields #[] }) (ha : g0.get? a = some { cls := .type "list", data := .seq us.toArray }) (hi : IntsAre us is) (hl : is.length ≤ sizeLine) : ∃ J, Start P w K g0 tl a is J := by
  have rv := vals_ints hi
  have off : a ∉ tl.map (·.2) := fun z => by
    have q := (tl_get t1 z).symm.trans ha
    cases q
  have inT : ∀ p ∈ tl, p.2 ∈ tl.map (·.2) := fun p hp => List.mem_map.mpr ⟨p, hp, rfl⟩
  cases hk : K.lookup a with
  | some o =>
    have q := KX a o hk
    rw [ha] at q
    cases q
    have v0 : ∀ b, b ∉ tl.map (·.2) → (if b ∈ tl.map (·.2) then some (HO.tbl #[]) else none) = none := fun b hb => if_neg hb
    refine ⟨fun b => if b ∈ tl.map (·.2) then some (.tbl #[]) else none, fun p hp => if_pos (inT p hp), fun b => ?_, .inr ⟨_, us.toArray, _, hk, rfl, rfl, rfl, by rw [List.size_toArray, hi.length]; exact hl, by simpa using rv⟩, fun b u q => ?_, fun q => absurd (v0 a off) q⟩
    · by_cases hb : b ∈ tl.map (·.2)
      · exact .inr (.inl hb)
      · exact .inl (v0 b hb)
    · by_cases hb : b ∈ tl.map (·.2)
      · have q2 := (if_pos hb).symm.trans q
        cases q2
        exact tl_get t1 hb
      · have q2 := (v0 b hb).symm.trans q
        cases q2
  | none =>
    have va : ∀ b, b = a → (if b = a then some (HO.frz { cls := .type "list", data := .seq us.toArray } (.lst (is.map V.int))) else if b ∈ tl.map (·.2) then some (HO.tbl #[]) else none) = some (HO.frz { cls := .type "list", data := .seq us.toArray } (.lst (is.map V.int))) := fun b e => if_pos e
    have vt : ∀ b, b ∈ tl.map (·.2) → (if b = a then some (HO.frz { cls := .type "list", data := .seq us.toArray } (.lst (is.map V.int))) else if b ∈ tl.map (·.2) then some (HO.tbl #[]) else none) = some (HO.tbl #[]) := fun b e => (if_neg (show ¬ b = a from fun z => off (by rw [← z]; exact e))).trans (if_pos e)
    have vn : ∀ b, b ≠ a → b ∉ tl.map (·.2) → (if b = a then some (HO.frz { cls := .type "list", data := .seq us.toArray } (.lst (is.map V.int))) else if b ∈ tl.map (·.2) then some (HO.tbl #[]) else none) = none := fun b e1 e2 => (if_neg e1).trans (if_neg e2)
    refine ⟨fun b => if b = a then some (.frz { cls := .type "list", data := .seq us.toArray } (.lst (is.map V.int))) else if b ∈ tl.map (·.2) then some (.tbl #[]) else none, fun p hp => vt _ (inT p hp), fun b => ?_, .inl (.inr ⟨{ cls := .type "list", data := .seq us.toArray }, va a rfl⟩), fun b u q => ?_, fun _ => hk⟩
    · by_cases e1 : b = a
      · exact .inr (.inr ⟨e1, _, _, va b e1⟩)
      · by_cases e2 : b ∈ tl.map (·.2)
        · exact .inr (.inl e2)
        · exact .inl (vn b e1 e2)
    · by_cases e1 : b = a
      · have q2 := (va b e1).symm.trans q
        cases q2
        subst e1
        exact ⟨ha, by rw [List.length_map]; exact hl, us, _, rv, ha⟩
      · by_cases e2 : b ∈ tl.map (·.2)
        · have q2 := (vt b e2).symm.trans q
          cases q2
          exact tl_get t1 e2
        · have q2 := (vn b e1 e2).symm.trans q
          cases q2
/-- an object that is neither a list nor an empty table is not hidden -/
theorem Start.seen {J : Hp} (S : Start P w K g0 tl a is J) (t1 : ∀ p ∈ tl, g0.get? p.2 = some { cls := .none, data := .fields #[] }) (ha : g0.get? a = some { cls := .type "list", data := .seq us.toArray }) {b : Addr} {o : Obj} (q : g0.get? b = some o) (n1 : ∀ vs n, o.data ≠ .seq vs n) (n2 : o.data ≠ .fields #[]) : J b = none := by
  rcases S.only b with h | h | ⟨h, _⟩
  · exact h
  · have e := q.symm.trans (tl_get t1 h)
    cases e
    exact absurd rfl n2
  · subst h
    have e := q.symm.trans ha
    cases e
    exact absurd rfl (n1 _ _)
end
/-- the law's def, called -/
theorem call_G {P : Program} {w : World} {K : Frag} {mg mb : Str → Option Value} {CXL : CXT} {k : Nat} {fa a : Addr} {tl : List (Addr × Addr)} {fd : FuncData} {x : Str} {sp : Sp} {z0 : Shared} {us : List Value} {is : List Int}
    (KX : K.In z0.heap) (h1 : z0.heap.Ns mainGlobals mg) (h2 : z0.heap.Ns builtinsNs mb) (h3 : ∀ y : Str, y ≠ "__name__" → mb y = bootBuiltins y) (h4 : z0.heap.NoLimit) (h5 : z0.gens = #[])
    (t1 : ∀ p ∈ tl, z0.heap.get? p.2 = some { cls := .none, data := .fields #[] }) (t2 : ∀ p ∈ tl, K.lookup p.2 = none) (t3 : ∀ p ∈ tl, W.CodeHd z0.heap p.1 p.2)
    (hm : ∃ (m0 : Addr) (mo : Obj), mg "__builtins__" = some (.ref m0) ∧ m0 ≠ builtinsNs ∧ z0.heap.get? m0 = some mo ∧ mo.cls = .type "module" ∧ mo.dict = some builtinsNs ∧ mo.data = .plain)
    (ha : z0.heap.get? a = some { cls := .type "list", data := .seq us.toArray }) (hi : IntsAre us is) (hl : is.length ≤ sizeLine) (hr : Room k callerA)
    (F : ∀ g : Heap, K.In g → g.Ns mainGlobals mg → (∀ p ∈ tl, LamX.TabB g mg p.1 p.2) → FnOkG P w K mg g CXL k fa fd [x] sp) (hb : ∀ (s : Shared) (u : Value), BindsTo s fd ⟨[u], []⟩ [(x, u)])
    (hsp : ∀ J : Hp, (∀ p ∈ tl, J p.2 = some (.tbl #[])) → SqL K J a (is.map V.int) → sp [.ref a] J (fun v _ => v = .bl true) fun _ _ _ => False)
    (hX : ∀ J e z1, CXL [] J z0 (fun _ _ _ => False) e z1 → False) :
    codeAny (model P w) callerA (.call (.ref fa) ⟨[.ref a], []⟩) (fun r z1 => r = .ok (.ret (.bool true)) ∧ OldK z0.heap z1.heap ∧ z1.os = z0.os ∧ AllBare z1.gens) z0 := by
  obtain ⟨J, S⟩ := start_any (P := P) (w := w) KX t1 ha hi hl
  have keep : ∀ {b : Addr} {o : Obj}, z0.heap.get? b = some o → J b = none → (hidT z0.heap J).get? b = some o := fun q n => hidT_get q n
  have keepD : ∀ {b : Addr} {m : Str → Option Value}, z0.heap.Ns b m → (hidT z0.heap J).Ns b m := fun {b m} ⟨o, es, ep, q, dd, rr⟩ =>
    ⟨o, es, ep, keep q (S.seen t1 ha q (fun vs n y => by rw [dd] at y; cases y) fun y => by rw [dd] at y; cases y), dd, rr⟩
  have keepK : K.In (hidT z0.heap J) := fun b o q => keep (KX b o q) (by
    rcases S.only b with h | h | ⟨h, ob, xs, hj⟩
    · exact h
    · obtain ⟨p, hp, rfl⟩ := List.mem_map.mp h
      rw [t2 p hp] at q
      cases q
    · subst h
      rw [S.far (by rw [hj]; simp)] at q
      cases q)
  have hM : L2.Mod K mg (hidT z0.heap J) := ⟨keepK, keepD h1, ⟨mb, keepD h2, h3⟩, let ⟨mc, y1, y2⟩ := h4; ⟨mc, keepD y1, y2⟩⟩
  have tabs : ∀ p ∈ tl, LamX.TabB (hidT z0.heap J) mg p.1 p.2 := fun p hp => by
    have tp := t1 p hp
    refine ⟨?_, ?_, fun y => ?_⟩
    · obtain ⟨o, vs, f1, f2, f3, f4, f5, f6, f7, q, r1, r2, r3, r4, r5, r6, r7, r8, ne⟩ := t3 p hp
      refine ⟨o, vs, f1, f2, f3, f4, f5, f6, f7, keep q (S.seen t1 ha q (fun ws n y => by rw [r2] at y; cases y) fun y => ?_), r1, r2, r3, r4, r5, r6, r7, r8, ne⟩
      rw [r2] at y
      cases y
      simp at r3
    · obtain ⟨m0, mo, b1, b2, b3, b4, b5, b6⟩ := hm
      have n1 : m0 ≠ mainGlobals := fun y => by
        obtain ⟨o, es, ep, q, dd, _⟩ := h1
        subst y
        rw [b3] at q
        cases q
        rw [b6] at dd
        cases dd
      have n2 : m0 ≠ p.2 := fun y => by
        subst y
        rw [tp] at b3
        cases b3
        cases b6
      exact ⟨m0, mo, b1, b2, n1, n2, keep b3 (S.seen t1 ha b3 (fun vs n y => by rw [b6] at y; cases y) fun y => by rw [b6] at y; cases y), b4, b5, b6⟩
    · obtain ⟨o, es, ep, q, dd, _⟩ := h1
      rw [y, tp] at q
      cases q
      cases dd
  have e0 : Env0 P w K mg (hidT z0.heap J) callerA [] z0 J := ⟨rfl, hM, fun b o q => of_hidT q, Nat.le_of_eq (hidT_size _ _), trivial, (fun b hb => by cases hb), S.ok, .of_eq h5⟩
  refine codeAny_mono ((F _ keepK (keepD h1) tabs).run callerA [] z0 J ⟨[.ref a], []⟩ [.ref a] [.ref a] _ _ hr rfl e0 (hb z0 (.ref a)) (.cons rfl .nil) (hsp J S.tab S.scr)) fun r z1 hq => ?_
  cases r with
  | error er => exact (hX J er z1 hq).elim
  | ok fl =>
    cases fl with
    | next => exact hq.elim
    | brk => exact hq.elim
    | cont => exact hq.elim
    | ret u =>
      obtain ⟨v, J2, os, bare, un, ok2, ru, q⟩ := hq
      have q : v = .bl true := q
      subst q
      have ru : u = Value.bool true := ru
      subst ru
      have same : ∀ b o, b ∉ tl.map (·.2) → z0.heap.get? b = some o → z1.heap.get? b = some o := fun b o nb g => by
        rcases S.only b with h | h | ⟨_, ob, xs, h⟩
        · exact un.keep b o g h (fun y => by cases y) (by simp)
        · exact absurd h nb
        · obtain ⟨g1, _⟩ := S.ok b _ h
          obtain ⟨g2, _⟩ := ok2 b _ (un.frzs b ob _ h)
          rw [g] at g1
          cases g1
          exact g2
      have more : ∀ p ∈ tl, ∃ m : Array Value, z1.heap.get? p.2 = some { cls := .none, data := .fields m } := fun p hp => by
        obtain ⟨m, y⟩ := un.tbls p.2 #[] (S.tab p hp)
        exact ⟨_, ok2 p.2 _ y⟩
      refine ⟨rfl, ⟨fun b o g => ?_, fun b o g => ?_⟩, os, bare⟩
      · by_cases hb : b ∈ tl.map (·.2)
        · obtain ⟨p, hp, rfl⟩ := List.mem_map.mp hb
          obtain ⟨m, hm2⟩ := more p hp
          have g3 := g.symm.trans (t1 p hp)
          cases g3
          exact .inr (.inl ⟨((t3 p hp).tab (t1 p hp)).isCodeTable, rfl, #[], m, rfl, by rw [Array.empty_append]; exact hm2⟩)
        · exact .inl (same b o hb g)
      · by_cases hb : b ∈ tl.map (·.2)
        · obtain ⟨p, hp, rfl⟩ := List.mem_map.mp hb
          obtain ⟨m, hm2⟩ := more p hp
          exact ⟨_, hm2⟩
        · exact ⟨o, same b o hb g⟩
/-- the goal that a law's head leaves -/
theorem walk_G {l : PySem.W.OpenLaw} {n k : Nat} {q : Program} {loose : List Str} {XP : (Str → Option Value) → Heap → Prop} {YP : World → Heap → Prop} {d : DefRec} {CXL : World → CXT} {x : Str}
    (hn : l.most = some n) (hn2 : n ≤ sizeLine) (hdf : d.params.defaults = []) (hr : Room k callerA)
    (F : ∀ (w : World) (mg : Str → Option Value) (fa : Addr) (g : Heap), YP w g → g.Ns mainGlobals mg → mg d.name = some (.ref fa) → (∀ (K : Frag), K.In g → ∀ y c P, ((recsOf q).find? fun e => e.name == y).isSome = true → W.tabIn K y = some (c, P) → W.CodeHd g c P ∧ g.get? P = some { cls := .none, data := .fields #[] }) →
      ∃ (K : Frag) (fd : FuncData) (tl : List (Addr × Addr)) (sp : Sp), K.In g ∧ (∀ p ∈ tl, g.get? p.2 = some { cls := .none, data := .fields #[] }) ∧ (∀ p ∈ tl, K.lookup p.2 = none) ∧ (∀ p ∈ tl, W.CodeHd g p.1 p.2) ∧ (∀ (s : Shared) (u : Value), BindsTo s fd ⟨[u], []⟩ [(x, u)]) ∧
        (∀ (J : Hp) (a : Addr) (is : List Int), is.length ≤ n → (∀ p ∈ tl, J p.2 = some (.tbl #[])) → SqL K J a (is.map V.int) → sp [.ref a] J (fun v _ => v = .bl true) fun _ _ _ => False) ∧
        ∀ base : Heap, K.In base → base.Ns mainGlobals mg → (∀ p ∈ tl, LamX.TabB base mg p.1 p.2) → FnOkG l.prog w K mg base (CXL w) k fa fd [x] sp)
    (hX : ∀ (w : World) (J : Hp) (s : Shared) (e : Value) (s' : Shared), CXL w [] J s (fun _ _ _ => False) e s' → False) :
    PySem.W.WalkO q loose XP YP l.row.toRowW d [] (fun f vs => PySem.call f vs) := by
  refine Att.attach_call hn hdf fun w z9 z0 mg mb fa o pm cd doc a us is G Y q1 q2 q3 hmg ha hi hl hg => ?_
  obtain ⟨K, fd, tl, sp, KX, t1, t2, t3, hb, hsp, hF⟩ := F w mg fa _ Y G.T.g hmg fun K KX y c P hy ht => by
    obtain ⟨dd, hd⟩ := Option.isSome_iff_exists.mp hy
    exact W.tab_of G.T KX hd ht
  exact call_G KX G.T.g G.T.b G.T.builtins G.T.nolimit hg t1 t2 t3 G.T.bmain ha hi (Nat.le_trans hl hn2) hr hF hb (fun J hJ hS => hsp J a is hl hJ hS) fun J e z1 => hX w J z0 e z1
end SW


/-! SWHead: the head's facts: properties, own errors, tables. -/
namespace SW
open PySem L2 PyProof.Rows
/-! ### properties -/
/-- a property's getter -/
def prAd (K : Frag) (p : Str × Str) : Addr := match W.recIn K (He.ma K (He.ga K p.1) p.2) "property" with
  | some (.ref g :: _) => g
  | _ => 0
def isPr (K : Frag) (p : Str × Str) : Bool := match W.recIn K (He.ma K (He.ga K p.1) p.2) "property" with
  | some (.ref _ :: _) => true
  | _ => false
def prB (K : Frag) (p : Str × Str) : Bool := He.eqO (W.findIn K (.ref (He.ga K p.1)) p.2) (some (some (.ref (He.ma K (He.ga K p.1) p.2)))) && (decide (W.specialIn K (.ref (He.ma K (He.ga K p.1) p.2)) "__get__" = some (some (.builtin "property.__get__"))) &&
  (decide (W.takesIn K (.ref (He.ma K (He.ga K p.1) p.2)) = some true) && isPr K p))
theorem prB_ok {K : Frag} {p : Str × Str} (h : prB K p = true) : PropOf K (He.ga K p.1) p.2 (He.ma K (He.ga K p.1) p.2) (prAd K p) := by
  obtain ⟨h1, h⟩ := He.ba h
  obtain ⟨h2, h⟩ := He.ba h
  obtain ⟨h3, h4⟩ := He.ba h
  refine ⟨He.eqO_ok h1, of_decide_eq_true h2, of_decide_eq_true h3, ?_⟩
  unfold isPr at h4
  unfold prAd
  cases q : W.recIn K (He.ma K (He.ga K p.1) p.2) "property" with
  | none => rw [q] at h4; cases h4
  | some l =>
    rw [q] at h4
    cases l with
    | nil => cases h4
    | cons v r =>
      cases v with
      | ref g => exact ⟨r, rfl⟩
      | _ => cases h4
def fnWA (K : Frag) (a : Addr) : He.FnW := match K.lookup a with
  | some ⟨_, _, .func fd, _⟩ => some (fd.name, fd.qualname, fd.params, fd.body, fd.scope, fd.globals, fd.closure, fd.builtins)
  | _ => none
def okA (K : Frag) (a : Addr) (d : He.DefD) : Bool := W.keepIn K (.ref a) && (match K.lookup a with
  | some ⟨_, _, .func fd, _⟩ => W.codeIn K fd.code d.qual && (He.dflB K fd.defaults (d.dvs K) && He.kwdB K fd.kwdefaults (d.kws K))
  | _ => false)
theorem funDA {K : Frag} {a : Addr} {d : He.DefD} (e : fnWA K a = d.val) (c : okA K a d = true) : ∃ fd, FunD K d.name d.qual d.params d.body d.scope (d.dvs K) (d.kws K) a fd := by
  obtain ⟨kp, c2⟩ := He.ba c
  unfold fnWA at e
  cases q : K.lookup a with
  | none => rw [q] at c2; cases c2
  | some o =>
    obtain ⟨oc, od, dt, osl⟩ := o
    rw [q] at c2 e
    cases dt with
    | func fd =>
      obtain ⟨m1, m2, m3, m4, m5, m6, m7, m8, m9, m10, m11, m12, m13, m14, m15⟩ := fd
      have e2 : (some (m1, m2, m3, m4, m5, m6, m7, m15) : He.FnW) = some (d.name, d.qual, d.params, .stmts d.body, d.scope, mainGlobals, [], builtinsNs) := e
      simp only [Option.some.injEq, Prod.mk.injEq] at e2
      obtain ⟨y1, y2, y3, y4, y5, y6, y7, y8⟩ := e2
      subst y1 y2 y3 y4 y5 y6 y7 y8
      have c3 : (W.codeIn K m13 d.qual && (He.dflB K m8 (d.dvs K) && He.kwdB K m9 (d.kws K))) = true := c2
      obtain ⟨k1, k2⟩ := He.ba c3
      obtain ⟨k3, k4⟩ := He.ba k2
      exact ⟨_, ⟨oc, od, m8, m9, m10, m11, m12, m13, m14, osl, rfl, q, k1, He.dflB_ok k3, He.kwdB_ok k4⟩, kp⟩
    | _ => cases c2
/-! ### own errors over ValueError -/
def oexB (K : Frag) (C : Addr) : Bool := (match K.lookup C with
  | some ⟨.type n, _, .cls cd, sl⟩ => (match cd.mro, sl.toList with
    | .ref C2 :: bm, [_, _, _, _, some (.builtin b), _] => decide (n = "type") && (decide (C2 = C) && (decide (b = "ValueError.__new__") && (!cd.hasDel && (cd.hasDict && HandSPX.refsVE bm))))
    | _, _ => false)
  | _ => false) && (He.eqO (W.findIn K (.ref C) "__setattr__") (some (some (.builtin "object.__setattr__"))) && (decide (W.subIn K (.ref C) (.type "BaseException") = some true) && (decide (W.typeIn K (.ref C) = some (.type "type")) && W.keepIn K (.ref C))))
theorem oexB_ok {K : Frag} {C : Addr} (h : oexB K C = true) : OexC K C := by
  obtain ⟨h0, h⟩ := He.ba h
  obtain ⟨h1, h⟩ := He.ba h
  obtain ⟨h2, h⟩ := He.ba h
  obtain ⟨h3, h4⟩ := He.ba h
  refine ⟨?_, He.eqO_ok h1, of_decide_eq_true h2, of_decide_eq_true h3, h4⟩
  split at h0
  · rename_i n dd cd sl hk
    split at h0
    · rename_i C2 bm k0 k1 k2 k3 b k5 hm hs
      obtain ⟨a1, h0⟩ := He.ba h0
      obtain ⟨a2, h0⟩ := He.ba h0
      obtain ⟨a3, h0⟩ := He.ba h0
      obtain ⟨a4, h0⟩ := He.ba h0
      obtain ⟨a5, a6⟩ := He.ba h0
      have a1 := of_decide_eq_true a1
      have a2 := of_decide_eq_true a2
      have a3 := of_decide_eq_true a3
      subst a1 a2 a3
      obtain ⟨nm, bs, mro, ns, qn, hd, sn, sb, ab, col, del⟩ := cd
      have a4 : del = false := by cases del <;> first | rfl | cases a4
      have a5 : hd = true := a5
      have hm : mro = .ref C2 :: bm := hm
      have hs : sl = #[k0, k1, k2, k3, some (.builtin "ValueError.__new__"), k5] := by rw [← hs]
      subst a4 a5 hm hs
      exact ⟨nm, qn, ns, bs, bm, sn, sb, ab, col, dd, k0, k1, k2, k3, k5, hk, a6⟩
    · cases h0
  · cases h0
/-- an own error's class, its __init__ and its field -/
def errB (K : Frag) (p : Str × Str) : Bool := oexB K (He.ga K p.1) && (He.eqO (W.findIn K (.ref (He.ga K p.1)) p.2) (some none) && (He.eqO (W.findIn K (.ref (He.ga K p.1)) "__init__") (some (some (.ref (He.ma K (He.ga K p.1) "__init__")))) &&
  (decide (W.typeIn K (.ref (He.ma K (He.ga K p.1) "__init__")) = some (.type "function")) && xfB K (He.ga K p.1))))
theorem errB_ok {K : Frag} {p : Str × Str} (h : errB K p = true) : XcOk K p.1 p.2 ∧ W.findIn K (.ref (He.ga K p.1)) "__init__" = some (some (.ref (He.ma K (He.ga K p.1) "__init__"))) ∧ W.typeIn K (.ref (He.ma K (He.ga K p.1) "__init__")) = some (.type "function") ∧ XfC K (He.ga K p.1) := by
  obtain ⟨h1, h⟩ := He.ba h
  obtain ⟨h2, h⟩ := He.ba h
  obtain ⟨h3, h⟩ := He.ba h
  obtain ⟨h4, h5⟩ := He.ba h
  exact ⟨⟨oexB_ok h1, He.eqO_ok h2⟩, He.eqO_ok h3, of_decide_eq_true h4, xfB_ok h5⟩
def veB (K : Frag) : Bool := match W.findCls K (.type "ValueError") (.type "type") "__init__" with
  | some (.val (.builtin n)) => decide (n = "ValueError.__init__")
  | _ => false
theorem veB_ok {K : Frag} (h : veB K = true) : W.findCls K (.type "ValueError") (.type "type") "__init__" = some (.val (.builtin "ValueError.__init__")) := by
  unfold veB at h
  split at h
  · rename_i n e
    rw [e, of_decide_eq_true h]
  · cases h
def toldB (K : Frag) (cl : Told) : Bool := cl.all fun a => cl.all fun b => decide (W.exmOne K (.ref (He.ga K a.1)) (.ref (He.ga K b.1)) = some (decide (a.1 = b.1)))
theorem toldB_ok {K : Frag} {cl : Told} (h : toldB K cl = true) : ToldOk K cl := ⟨fun a ha b hb => of_decide_eq_true (List.all_eq_true.mp (List.all_eq_true.mp h a ha) b hb)⟩
/-! ### the hook -/
abbrev AlP : Type := He.AlX × List He.FnW
def valP (fn pr : List He.DefD) (w : World) : AlP := (He.valX fn [] w, pr.map He.DefD.val)
def prOf (d : He.DefD) : Str × Str := (d.at_.1, d.at_.2.getD "")
/-- what an object leads to -/
def refsP (a : Addr) (o : Obj) : List Addr := match o.data with
  | .dict es _ => es.toList.flatMap fun e => He.refV e.val
  | .func fd => He.refV fd.code ++ He.refV fd.defaults ++ He.refV fd.kwdefaults
  | .cls cd => cd.ns :: (cd.mro.flatMap He.refV).filter fun b => !(b == a)
  | .fields vs => (match o.cls with
    | .type n => if n = "property" then vs.toList.flatMap He.refV else []
    | _ => [])
  | _ => []
def asP (g : Addr → Option Obj) : Nat → List Addr → List Addr
  | 0, as => as
  | n + 1, as => as ++ asP g n (as.flatMap fun a => match g a with
    | some o => refsP a o
    | none => [])
def kP (n : Nat) (g : Addr → Option Obj) : Frag := He.frT g (asP g n [mainGlobals])
def moreP (ex : Frag → Bool) (pr : List He.DefD) (K : Frag) : Bool := ex K && pr.all fun d => prB K (prOf d) && okA K (prAd K (prOf d)) d
def obsP (n : Nat) (fa : List He.Fa) (fn : List He.DefD) (tf : List He.Defn) (ex : Frag → Bool) (pr : List He.DefD) (g : Addr → Option Obj) : AlP :=
  ((He.obsT fa fn [] (kP n g), moreP ex pr (kP n g) && He.tabsB g tf (kP n g)), pr.map fun d => fnWA (kP n g) (prAd (kP n g) (prOf d)))
structure SaysP (fa : List He.Fa) (fn : List He.DefD) (tf : List He.Defn) (ex : Frag → Bool) (pr : List He.DefD) (w : World) (h : Heap) (K : Frag) : Prop where
  x : He.SaysX fa fn [] tf (moreP ex pr) w h K
  p : pr.map (fun d => fnWA K (prAd K (prOf d))) = pr.map He.DefD.val
theorem says_of {n : Nat} {fa : List He.Fa} {fn : List He.DefD} {tf : List He.Defn} {ex : Frag → Bool} {pr : List He.DefD} {w : World} {h : Heap} (e : obsP n fa fn tf ex pr h.get? = valP fn pr w) : SaysP fa fn tf ex pr w h (kP n h.get?) := by
  have q1 : He.obsT fa fn [] (kP n h.get?) = He.valT fn [] w := congrArg (fun z : AlP => z.1.1) e
  have q2 : (moreP ex pr (kP n h.get?) && He.tabsB h.get? tf (kP n h.get?)) = true := congrArg (fun z : AlP => z.1.2) e
  obtain ⟨q3, q4⟩ := He.ba q2
  have tab : ∀ p ∈ tf, W.codeHdIn (kP n h.get?) (He.cT (kP n h.get?) p).1 (He.cT (kP n h.get?) p).2 = true ∧ ∃ o, h.get? (He.cT (kP n h.get?) p).2 = some o ∧ He.emptyTab o = true := fun p hp => by
    obtain ⟨q5, q6⟩ := He.ba (List.all_eq_true.mp q4 p hp)
    refine ⟨q5, ?_⟩
    cases q7 : h.get? (He.cT (kP n h.get?) p).2 with
    | none => rw [q7] at q6; cases q6
    | some o => rw [q7] at q6; exact ⟨o, rfl, q6⟩
  refine ⟨⟨q1, q3, fun p hp => (tab p hp).1, fun p hp => ?_, fun p hp => ?_⟩, congrArg (fun z : AlP => z.2) e⟩
  · obtain ⟨_, o, q7, z⟩ := tab p hp
    exact He.frT_none q7 z
  · obtain ⟨_, o, q7, z⟩ := tab p hp
    rw [q7, He.emptyTab_eq z]
def hookP (n : Nat) (fa : List He.Fa) (fn : List He.DefD) (tf : List He.Defn) (ex : Frag → Bool) (pr : List He.DefD) : PySem.W.Hook where
  α := AlP
  obs := fun s => obsP n fa fn tf ex pr s.heap.get?
  val := fun w => valP fn pr w
  says := fun w h => ∃ K : Frag, K.In h ∧ SaysP fa fn tf ex pr w h K
  of := fun _ _ e => ⟨_, He.frT_in, says_of e⟩
  keeps := fun _ _ _ ⟨K, hK, c⟩ k => ⟨K, PySem.W.Frag.In.keeps hK k, ⟨⟨c.x.t, c.x.more, c.x.hd, c.x.out, fun p hp => k _ _ (c.x.empty p hp)⟩, c.p⟩⟩
theorem obsP_eq {n : Nat} {fa : List He.Fa} {fn : List He.DefD} {tf : List He.Defn} {ex : Frag → Bool} {pr : List He.DefD} {g : Addr → Option Obj} {s : Shared} (h : ∀ a, g a = s.heap.get? a) : obsP n fa fn tf ex pr g = (hookP n fa fn tf ex pr).obs s := by
  have e : g = s.heap.get? := funext h
  rw [e] <;> rfl
section
variable {fa : List He.Fa} {fn pr : List He.DefD} {tf : List He.Defn} {ex : Frag → Bool} {w : World} {h : Heap} {K : Frag}
theorem SaysP.d (c : SaysP fa fn tf ex pr w h K) : He.SaysD fa fn K := congrArg Prod.fst c.x.t
theorem SaysP.own (c : SaysP fa fn tf ex pr w h K) : ex K = true := (He.ba c.x.more).1
theorem SaysP.prop (c : SaysP fa fn tf ex pr w h K) (i : Nat) {d : He.DefD} (hd : pr[i]? = some d := by rfl) : PropOf K (He.ga K (prOf d).1) (prOf d).2 (He.ma K (He.ga K (prOf d).1) (prOf d).2) (prAd K (prOf d)) ∧ ∃ fd, FunD K d.name d.qual d.params d.body d.scope (d.dvs K) (d.kws K) (prAd K (prOf d)) fd := by
  have z := List.all_eq_true.mp (He.ba c.x.more).2 d (List.mem_of_getElem? hd)
  obtain ⟨z1, z2⟩ := He.ba z
  refine ⟨prB_ok z1, funDA ?_ z2⟩
  have e := c.p
  have e2 : (pr.map fun d => fnWA K (prAd K (prOf d)))[i]? = (pr.map He.DefD.val)[i]? := by rw [e]
  rw [List.getElem?_map, List.getElem?_map, hd] at e2
  exact Option.some.inj e2
/-- a def's code object and its table -/
theorem SaysP.tab (c : SaysP fa fn tf ex pr w h K) (KX : K.In h) {p : He.Defn} (hp : p ∈ tf) : h.get? (He.cT K p).2 = some { cls := .none, data := .fields #[] } ∧ K.lookup (He.cT K p).2 = none ∧ W.CodeHd h (He.cT K p).1 (He.cT K p).2 := ⟨c.x.empty p hp, c.x.out p hp, W.codeHd_of_K KX (c.x.hd p hp)⟩
end
theorem code_of {K : Frag} {p : He.Defn} {x qual : Str} {params : Arguments} {body : List Stmt} {scope : Scope} {dvs : List V} {kws : List (Str × V)} {fd : FuncData} (F : FunD K x qual params body scope dvs kws (He.fAd K p) fd) : fd.code = .ref (He.cT K p).1 := by
  obtain ⟨oc, od, dV, kV, doc, pm, an, cdv, ct, osl, rfl, lk, hcd, _, _⟩ := F.ex
  obtain ⟨c, rfl⟩ := He.codeIn_ref hcd
  show Value.ref c = _
  rw [show (He.cT K p).1 = c from He.codeOf_eq lk rfl]
/-- an own error, its __init__ walked -/
theorem exX_of {P : Program} {w : World} {K : Frag} {mg : Str → Option Value} {base : Heap} {C f m qual : Str} {params : Arguments} {body : List Stmt} {scope : Scope} {fd : FuncData} {N ps : List Str}
    (F : FunD K "__init__" qual params body scope [] [] (He.ma K (He.ga K C) "__init__") fd) (sc : FnScope N ps scope) (hN : N.length = 2) (hps : ps.length = 2) (b : L2.Binds K fd ps []) (hm : mg C = some (.ref (He.ga K C))) (e : errB K (C, f) = true)
    (der : ∀ cdv A outer s H E, PSs (cxOf (L2.CX P w) P w K mg base N qual scope (He.ma K (He.ga K C) "__init__") cdv A outer s H E) body (tExc K f m)) : ExX P w K mg base 1 C f := by
  obtain ⟨e1, e2, e3, _⟩ := errB_ok e
  exact ⟨_, fd, ps, F.ok sc (fun vs H Q E h => (len_exc vs H Q E h).trans hps.symm) fun cdv A outer s H vs Q E hr h => ⟨_, der cdv A outer s H E, pure_exc hN vs H Q E h⟩, e2, e3, b, hm, e1⟩
/-! ### a law's start -/
def strip (J : Hp) : Hp := fun a => match J a with
  | some (.tbl _) => none
  | o => o
theorem strip_at {J : Hp} {a : Addr} {o : HO} (h : strip J a = some o) : J a = some o ∧ ∀ ps, o ≠ .tbl ps := by
  unfold strip at h
  cases q : J a with
  | none => rw [q] at h; cases h
  | some u => cases u <;> (rw [q] at h; cases h) <;> exact ⟨rfl, fun _ z => by cases z⟩
theorem strip_to {J : Hp} {a : Addr} {o : HO} (h : J a = some o) (n : ∀ ps, o ≠ .tbl ps) : strip J a = some o := by
  unfold strip
  rw [h]
  cases o <;> first | rfl | exact absurd rfl (n _)
theorem law_start {K : Kit} {dsp : dSp} {J : Hp} {a : Addr} {is : List Int} (hT : ∀ p ∈ K.T, J p.1 = some (.tbl #[])) (hS : SqL K J a (is.map V.int)) (h : ∀ μ, dsp [.scr is] μ (fun d _ => d = .bl true) noX) : lift K dsp [.ref a] J (fun v _ => v = .bl true) fun _ _ _ => False := by
  refine ⟨⟨strip J, fun _ => none, J⟩, [.scr is], _, noX, rfl, ⟨fun b o q => (strip_at q).1, fun b m q => (by cases q), fun b ps q => (strip_at q).2 ps rfl, fun p hp => .nil (hT p hp), fun _ _ => rfl⟩, .cons (.scr ?_) .nil, h _, fun d v w' hd _ _ r => ?_, XR.no⟩
  · rcases hS with (q | ⟨ob, q⟩) | q
    · exact .inl (.inl (strip_to q fun _ z => by cases z))
    · exact .inl (.inr ⟨ob, strip_to q fun _ z => by cases z⟩)
    · exact .inr q
  · have hd : d = .bl true := hd
    subst hd
    cases r; rfl
theorem units65 {k : Nat} {A : Around} (r : Room k A) : A.units + 65 < cLine := by have := r.un; omega
theorem units100 {k : Nat} {A : Around} (r : Room k A) : A.units + 100 < cLine := by have := r.un; omega
end SW


/-! SWRun: good programs, their runs, as plain Lean. -/
namespace SW
open PySem L2 PyProof.Rows
/-- the small letters -/
def isLow (c : Nat) : Bool := decide (c ∈ ("abcdefghijklmnopqrstuvwxyz" : Str).cps.toList)
def nameD (s : Str) : Bool := decide ((1 : Int) ≤ s.length) && (decide ((s.length : Int) ≤ 8) && s.cps.toList.all isLow)
theorem name_ok {s : Str} (h : nameD s = true) : PyData.strOk s = true := by
  unfold nameD at h
  rw [Bool.and_eq_true, Bool.and_eq_true] at h
  unfold PyData.strOk
  rw [← Array.all_toList]
  refine List.all_eq_true.mpr fun c hc => ?_
  have h1 := of_decide_eq_true (List.all_eq_true.mp h.2.2 c hc)
  have h2 : ∀ c ∈ ("abcdefghijklmnopqrstuvwxyz" : Str).cps.toList, c < 0x110000 := by decide
  exact decide_eq_true (h2 c h1)
def firstVals (P : Prg) : List Int := P.regs.map fun p => p.2
structure RowIn (r : Row) (size : Int) (many : Nat) (ns : List Str) : Prop where
  sg : ∀ i, r.k.1 = some i → -1 ≤ i ∧ i ≤ 1
  rm : ∀ i, r.k.2 = some i → absI i < size
  us : r.us.length = many ∧ ∀ u ∈ r.us, u.length = many + 2 ∧ ∀ c ∈ u, -1000000 ≤ c ∧ c ≤ 1000000
  th : ∀ t, r.th = some t → t ∈ ns
structure Good (P : Prg) : Prop where
  base : 2 ≤ P.base.natAbs ∧ P.base.natAbs ≤ 10
  regs : 1 ≤ P.regs.length ∧ P.regs.length ≤ 3
  rnm : ∀ r ∈ P.regs, nameD r.1 = true ∧ r.1.length ≤ 1000 ∧ -1000000 ≤ r.2 ∧ r.2 ≤ 1000000
  rnd : (P.regs.map Prod.fst).Nodup
  modes : 1 ≤ P.modes.length ∧ P.modes.length ≤ 4
  mnm : ∀ m ∈ P.modes, nameD m.nm = true ∧ m.nm.length ≤ 1000
  nd : (P.modes.map Mode.nm).Nodup
  rn : ∀ m ∈ P.modes, m.rows.length ≤ 1000
  row : ∀ m ∈ P.modes, ∀ r ∈ m.rows, RowIn r (absI P.base) P.regs.length (P.modes.map Mode.nm)
  rd : ∀ m ∈ P.modes, (m.rows.map Row.k).Nodup
  al : ∀ m ∈ P.modes, (none, none) ∈ m.rows.map Row.k
  en : P.ends.length ≤ 1000 ∧ (∀ e ∈ P.ends, absI e < absI P.base) ∧ ∀ p ∈ P.ends.zip (P.ends.drop 1), p.1 < p.2
  res : P.res.length = P.regs.length + 1 ∧ ∀ c ∈ P.res, -1000000 ≤ c ∧ c ≤ 1000000
theorem Good.base0 {P : Prg} (g : Good P) : P.base ≠ 0 := by have := g.base; omega
theorem Good.abs {P : Prg} (g : Good P) : absI P.base = (P.base.natAbs : Int) := absI_abs _
/-! ### rows in force -/
theorem findRow_mem {rows : List Row} {k : RKey} {r : Row} (h : findRow rows k = some r) : r ∈ rows := List.mem_of_find?_eq_some h
theorem firstOf_mem {rows : List Row} {r : Row} : ∀ {ks : List RKey}, firstOf rows ks = some r → r ∈ rows
  | k :: ks, h => by
    cases q : findRow rows k with
    | some r0 => simp only [firstOf, q] at h; cases h; exact findRow_mem q
    | none => simp only [firstOf, q] at h; exact firstOf_mem h
theorem findRow_some {rows : List Row} {k : RKey} (h : k ∈ rows.map Row.k) : ∃ r, findRow rows k = some r := by
  obtain ⟨r, hr, e⟩ := List.mem_map.mp h
  cases q : findRow rows k with
  | some r0 => exact ⟨r0, rfl⟩
  | none => exact absurd (decide_eq_true e) (List.find?_eq_none.mp q r hr)
theorem firstOf_some {rows : List Row} {k : RKey} (h : k ∈ rows.map Row.k) : ∀ {ks : List RKey}, k ∈ ks → ∃ r, firstOf rows ks = some r
  | k' :: ks, hk => by
    cases q : findRow rows k' with
    | some r0 => exact ⟨r0, by simp only [firstOf, q]⟩
    | none =>
      rcases List.mem_cons.mp hk with e | hk
      · subst e
        obtain ⟨r, hr⟩ := findRow_some h
        rw [q] at hr; cases hr
      · obtain ⟨r, hr⟩ := firstOf_some h hk
        exact ⟨r, by simp only [firstOf, q]; exact hr⟩
theorem pick_some {rows : List Row} (h : (none, none) ∈ rows.map Row.k) (s r : Int) : ∃ row, pickRow rows s r = some row ∧ row ∈ rows := by
  obtain ⟨row, e⟩ := firstOf_some h (ks := keys4 s r) (by simp [keys4])
  exact ⟨row, e, firstOf_mem e⟩
/-! ### runs -/
structure Rnd where
  m : Str
  x : Int
  r : Int
  vs : List Int
structure RunR where
  rounds : List Rnd
  how : Option Str
  m : Str
  x : Int
  vs : List Int
def modeAt (P : Prg) (t : Str) (m : Mode) : Mode := (P.modes.find? fun q => decide (q.nm = t)).getD m
theorem modeAt_mem {P : Prg} {t : Str} {m : Mode} (h : t ∈ P.modes.map Mode.nm) : modeAt P t m ∈ P.modes ∧ (modeAt P t m).nm = t := by
  unfold modeAt
  cases q : P.modes.find? fun q => decide (q.nm = t) with
  | none =>
    obtain ⟨r, hr, e⟩ := List.mem_map.mp h
    exact absurd (decide_eq_true e) (List.find?_eq_none.mp q r hr)
  | some r => exact ⟨List.mem_of_find?_eq_some q, of_decide_eq_true (List.find?_some (p := fun q : Mode => decide (q.nm = t)) q)⟩
/-- the row in force for a mode and a number -/
def rowOf (P : Prg) (m : Mode) (x : Int) : Row := (pickRow m.rows (sgn x) (divided m.ru x P.base).2).getD ⟨(none, none), [], none⟩
def runP (P : Prg) : Nat → List (Str × Int) → Mode → Int → List Int → RunR
  | 0, _, m, x, vs => ⟨[], none, m.nm, x, vs⟩
  | n + 1, seen, m, x, vs => if (m.nm, x) ∈ seen then ⟨[], none, m.nm, x, vs⟩ else if x ∈ P.ends then ⟨[], some "rests", m.nm, x, vs⟩ else
    match (rowOf P m x).th with
    | none => ⟨[⟨m.nm, x, (divided m.ru x P.base).2, vs⟩], some "stops", m.nm, (divided m.ru x P.base).1, updAll (rowOf P m x).us vs (divided m.ru x P.base).2⟩
    | some t =>
      let rr := runP P n ((m.nm, x) :: seen) (modeAt P t m) (divided m.ru x P.base).1 (updAll (rowOf P m x).us vs (divided m.ru x P.base).2)
      { rr with rounds := ⟨m.nm, x, (divided m.ru x P.base).2, vs⟩ :: rr.rounds }
theorem rowOf_ok {P : Prg} (g : Good P) {m : Mode} (hm : m ∈ P.modes) (x : Int) : pickRow m.rows (sgn x) (divided m.ru x P.base).2 = some (rowOf P m x) ∧ RowIn (rowOf P m x) (absI P.base) P.regs.length (P.modes.map Mode.nm) := by
  obtain ⟨row, e, hr⟩ := pick_some (g.al m hm) (sgn x) (divided m.ru x P.base).2
  have e2 : rowOf P m x = row := by unfold rowOf; rw [e]; rfl
  rw [e2]
  exact ⟨e, g.row m hm row hr⟩
theorem updAll_len (us : List (List Int)) (vs : List Int) (r : Int) : (updAll us vs r).length = us.length := List.length_map _
/-! ### how long a run can be -/
def smallN (seen : List (Str × Int)) : Nat := (seen.filter fun p => decide (p.2.natAbs ≤ 1)).length
theorem nodup_le {α : Type} [DecidableEq α] : ∀ {l L : List α}, l.Nodup → (∀ x ∈ l, x ∈ L) → l.length ≤ L.length
  | [], _, _, _ => Nat.zero_le _
  | x :: l, L, nd, h => by
    rw [List.nodup_cons] at nd
    have hx := h x (.head _)
    have := nodup_le (l := l) (L := L.erase x) nd.2 fun y hy => (List.mem_erase_of_ne (fun e => nd.1 (by rw [← e]; exact hy))).mpr (h y (.tail _ hy))
    rw [List.length_erase_of_mem hx] at this
    have : 0 < L.length := List.length_pos_of_mem hx
    simp only [List.length_cons]; omega
structure Fuel (P : Prg) (k : Nat) (seen : List (Str × Int)) (x : Int) : Prop where
  nd : seen.Nodup
  nm : ∀ p ∈ seen, p.1 ∈ P.modes.map Mode.nm
  le : ∃ e, x.natAbs ≤ 2 ^ e ∧ 3 * P.modes.length + e ≤ k + smallN seen
theorem small_le {P : Prg} {seen : List (Str × Int)} (nd : seen.Nodup) (nm : ∀ p ∈ seen, p.1 ∈ P.modes.map Mode.nm) : smallN seen ≤ 3 * P.modes.length := by
  have h := nodup_le (l := seen.filter fun p => decide (p.2.natAbs ≤ 1)) (L := (P.modes.map Mode.nm).flatMap fun s => [(s, (-1 : Int)), (s, 0), (s, 1)]) (nd.filter _) fun p hp => by
    obtain ⟨h1, h2⟩ := List.mem_filter.mp hp
    have h2 : p.2.natAbs ≤ 1 := of_decide_eq_true h2
    refine List.mem_flatMap.mpr ⟨p.1, nm p h1, ?_⟩
    obtain ⟨a, b⟩ := p
    have : b = -1 ∨ b = 0 ∨ b = 1 := by have h3 : b.natAbs ≤ 1 := h2; omega
    rcases this with rfl | rfl | rfl <;> simp
  rw [List.length_flatMap] at h
  simp only [List.length_cons, List.length_nil, List.map_map] at h
  have e : ((P.modes.map Mode.nm).map fun _ => 3).sum = 3 * P.modes.length := by
    rw [List.map_map]
    induction P.modes with
    | nil => rfl
    | cons a l ih => simp only [List.map_cons, List.sum_cons, List.length_cons, ih, Function.comp]; omega
  unfold smallN
  have h' : (seen.filter fun p => decide (p.2.natAbs ≤ 1)).length ≤ ((P.modes.map Mode.nm).map fun _ => 3).sum := by
    rw [List.map_map]; exact h
  rw [e] at h'; exact h'
theorem Fuel.step {P : Prg} {k : Nat} {seen : List (Str × Int)} {m : Str} {x x' : Int} (f : Fuel P k seen x) (hm : m ∈ P.modes.map Mode.nm) (hn : (m, x) ∉ seen) (hx : x'.natAbs ≤ (x.natAbs + 1) / 2) : ∃ k', k = k' + 1 ∧ Fuel P k' ((m, x) :: seen) x' := by
  obtain ⟨e, h1, h2⟩ := f.le
  have nd : ((m, x) :: seen).Nodup := List.nodup_cons.mpr ⟨hn, f.nd⟩
  have nm : ∀ p ∈ (m, x) :: seen, p.1 ∈ P.modes.map Mode.nm := fun p hp => by
    rcases List.mem_cons.mp hp with rfl | hp
    · exact hm
    · exact f.nm p hp
  have sl := small_le nd nm
  have s0 := small_le f.nd f.nm
  by_cases c : x.natAbs ≤ 1
  · have es : smallN ((m, x) :: seen) = smallN seen + 1 := by
      unfold smallN
      rw [List.filter_cons_of_pos (by exact decide_eq_true c)]; rfl
    refine ⟨k - 1, by omega, nd, nm, 0, by omega, by omega⟩
  · have es : smallN ((m, x) :: seen) = smallN seen := by
      unfold smallN
      rw [List.filter_cons_of_neg (by simpa using c)]
    cases e with
    | zero => simp at h1; omega
    | succ e =>
      rw [Nat.pow_succ] at h1
      exact ⟨k - 1, by omega, nd, nm, e, by omega, by omega⟩
theorem Fuel.abs {P : Prg} {k : Nat} {seen : List (Str × Int)} {x : Int} (f : Fuel P k seen x) : x.natAbs ≤ 2 ^ k := by
  obtain ⟨e, h1, h2⟩ := f.le
  have s0 := small_le f.nd f.nm
  exact Nat.le_trans h1 (Nat.pow_le_pow_right (by decide) (by omega))
theorem Fuel.first {P : Prg} {x : Int} {e : Nat} (h : x.natAbs ≤ 2 ^ e) : Fuel P (3 * P.modes.length + e) [] x := ⟨List.nodup_nil, (fun p hp => by cases hp), e, h, by unfold smallN; simp⟩
/-- a quotient is at most half, and one -/
theorem quot_half (r : Rule) (x d : Int) (hd : 2 ≤ d.natAbs) : (divided r x d).1.natAbs ≤ (x.natAbs + 1) / 2 := by
  obtain ⟨h1, h2⟩ := divided_right r x d (by omega)
  generalize (divided r x d).1 = q at *
  generalize (divided r x d).2 = p at *
  rw [absI_abs, absI_abs] at h2
  have e : (q * d).natAbs = q.natAbs * d.natAbs := Int.natAbs_mul q d
  have h3 : (q * d).natAbs ≤ x.natAbs + p.natAbs := by omega
  have h4 : q.natAbs * d.natAbs ≤ x.natAbs + (d.natAbs - 1) := by omega
  by_cases hq : q.natAbs = 0
  · omega
  · obtain ⟨k, hk⟩ : ∃ k, d.natAbs = k + 2 := ⟨d.natAbs - 2, by omega⟩
    obtain ⟨j, hj⟩ : ∃ j, q.natAbs = j + 1 := ⟨q.natAbs - 1, by omega⟩
    rw [hk, hj] at h4
    rw [hj]
    have e2 : (j + 1) * (k + 2) = j * k + 2 * j + k + 2 := by rw [Nat.add_mul, Nat.mul_add]; omega
    have : 0 ≤ j * k := Nat.zero_le _
    omega
theorem runP_len {P : Prg} : ∀ (k : Nat) (seen : List (Str × Int)) (m : Mode) (x : Int) (vs : List Int), (runP P k seen m x vs).rounds.length ≤ k
  | 0, _, _, _, _ => Nat.le_refl _
  | k + 1, seen, m, x, vs => by
    unfold runP
    split
    · exact Nat.zero_le _
    · split
      · exact Nat.zero_le _
      · split
        · exact Nat.le_add_left 1 k
        · exact Nat.succ_le_succ (runP_len k _ _ _ _)
/-! ### carries -/
/-- rounds, with a sign, the figures that are left, a carry -/
def Carr (P : Prg) (nz : Bool) : List Rnd → Int → Nat → Int → Prop
  | [], _, _, _ => True
  | R :: Rs, sign, left, c => R.x = sign * (left + c) ∧ (c = 0 ∨ c = 1) ∧ ∃ m ∈ P.modes, m.nm = R.m ∧ ∃ c', carried m.ru sign P.base ((left % P.base.natAbs : Nat) + c) = (c', R.r) ∧ (c' = 0 ∨ c' = 1) ∧ Carr P nz Rs (if nz then sign * spun P.base else sign) (left / P.base.natAbs) c'
theorem carried_01 (r : Rule) (s b f : Int) : (carried r s b f).1 = 0 ∨ (carried r s b f).1 = 1 := by
  unfold carried; split
  · exact .inr rfl
  · split
    · exact .inr rfl
    · exact .inl rfl
theorem spun_cases (d : Int) : spun d = 1 ∨ spun d = -1 := by
  unfold spun b2; cases decide (d < 0)
  · exact .inl rfl
  · exact .inr rfl
theorem divided_zero (r : Rule) (d : Int) (hd : d ≠ 0) : divided r 0 d = (0, 0) := by
  have hs := absI_pos hd
  unfold divided
  have e : absI 0 = 0 := rfl
  rw [e, Int.zero_ediv, Int.zero_emod, if_neg (by omega), sgn_zero]
  simp
theorem runP_carr {P : Prg} (g : Good P) (nz : Bool) : ∀ (k : Nat) (seen : List (Str × Int)) (m : Mode) (x : Int) (vs : List Int) (sign : Int) (left : Nat) (c : Int), m ∈ P.modes → (sign = 1 ∨ sign = -1) → (c = 0 ∨ c = 1) → x = sign * (left + c) → (nz = false → x = 0 ∧ left = 0 ∧ c = 0) →
    Carr P nz (runP P k seen m x vs).rounds sign left c
  | 0, _, _, _, _, _, _, _, _, _, _, _, _ => trivial
  | k + 1, seen, m, x, vs, sign, left, c, hm, hs, hc, hx, hz => by
    have hb := g.base
    have h2 : 0 < P.base.natAbs := by omega
    have ab := g.abs
    have hl : (left : Int) = P.base.natAbs * (left / P.base.natAbs : Nat) + (left % P.base.natAbs : Nat) := by
      rw [← Int.natCast_mul, ← Int.natCast_add, Nat.div_add_mod]
    have hlt : left % P.base.natAbs < P.base.natAbs := Nat.mod_lt _ h2
    have eq := carried_eq m.ru sign P.base ((left / P.base.natAbs : Nat) : Int) (((left % P.base.natAbs : Nat) : Int) + c) g.base0 hs (Int.natCast_nonneg _) (by have := Int.natCast_nonneg (left % P.base.natAbs); omega) (by rw [ab]; have : ((left % P.base.natAbs : Nat) : Int) < (P.base.natAbs : Int) := Int.ofNat_lt.mpr hlt; omega)
    have ex : sign * (absI P.base * ((left / P.base.natAbs : Nat) : Int) + (((left % P.base.natAbs : Nat) : Int) + c)) = x := by
      rw [hx, ab, ← Int.add_assoc, ← hl]
    rw [ex, law_eq _ _ _ g.base0] at eq
    have c01 := carried_01 m.ru sign P.base (((left % P.base.natAbs : Nat) : Int) + c)
    rw [eq] at c01
    have head : ∀ Rs, Carr P nz Rs (if nz then sign * spun P.base else sign) (left / P.base.natAbs) (sign * spun P.base * (divided m.ru x P.base).1 - ((left / P.base.natAbs : Nat) : Int)) → Carr P nz (⟨m.nm, x, (divided m.ru x P.base).2, vs⟩ :: Rs) sign left c := fun Rs h => ⟨hx, hc, m, hm, rfl, _, eq, c01, h⟩
    unfold runP
    split
    · trivial
    · split
      · trivial
      · split
        · exact head [] trivial
        · rename_i t ht
          refine head _ ?_
          have hrow := (rowOf_ok g hm x).2
          have hm' := modeAt_mem (m := m) (hrow.th t ht)
          have sp := spun_cases P.base
          refine runP_carr g nz k _ _ _ _ _ _ _ hm'.1 ?_ c01 ?_ ?_
          · cases nz
            · exact hs
            · show sign * spun P.base = 1 ∨ sign * spun P.base = -1
              rcases hs with h | h <;> rcases sp with h' | h' <;> rw [h, h'] <;> decide
          · cases hnz : nz
            · obtain ⟨z1, z2, z3⟩ := hz hnz
              rw [z1, divided_zero _ _ g.base0, z2]
              simp
            · show (divided m.ru x P.base).1 = sign * spun P.base * (_ + (sign * spun P.base * (divided m.ru x P.base).1 - _))
              generalize (divided m.ru x P.base).1 = q
              rcases hs with h | h <;> rcases sp with h' | h' <;> rw [h, h'] <;> omega
          · intro hnz
            obtain ⟨z1, z2, z3⟩ := hz hnz
            rw [z1, divided_zero _ _ g.base0, z2]
            simp
/-! ### standings that were seen, as a dict -/
def stD (q : Str × Int) : DT := .tup [.str q.1, .int q.2]
def seenKV (seen : List (Str × Int)) : List (DT × DT) := seen.reverse.map fun q => (stD q, .bl true)
theorem keyOf_stD (q : Str × Int) : keyOf (stD q) = some (.tup [.text q.1, .num q.2]) := rfl
theorem stD_ok (q : Str × Int) : keyOk (stD q) = true := rfl
theorem stD_inj {a b : Str × Int} : keyOf (stD a) = keyOf (stD b) ↔ a = b := by
  rw [keyOf_stD, keyOf_stD]
  obtain ⟨a1, a2⟩ := a
  obtain ⟨b1, b2⟩ := b
  simp
theorem seen_at (seen : List (Str × Int)) (q : Str × Int) : (dkAt (seenKV seen) (stD q)).isSome = decide (q ∈ seen) := by
  refine Bool.eq_iff_iff.mpr ?_
  unfold dkAt seenKV
  rw [Option.isSome_map, List.find?_isSome, decide_eq_true_iff]
  constructor
  · rintro ⟨p, hp, e⟩
    obtain ⟨q', hq, rfl⟩ := List.mem_map.mp hp
    have e := stD_inj.mp (of_decide_eq_true e)
    rw [← e]; exact List.mem_reverse.mp hq
  · intro h
    exact ⟨(stD q, .bl true), List.mem_map.mpr ⟨q, List.mem_reverse.mpr h, rfl⟩, decide_eq_true rfl⟩
theorem seen_put {seen : List (Str × Int)} {q : Str × Int} (h : q ∉ seen) : dkPut (seenKV seen) (stD q) (.bl true) = seenKV (q :: seen) := by
  rw [dkPut_new fun p hp e => ?_]
  · unfold seenKV; rw [List.reverse_cons, List.map_append]; rfl
  · obtain ⟨q', hq, rfl⟩ := List.mem_map.mp hp
    have e := stD_inj.mp e
    exact h (e ▸ List.mem_reverse.mp hq)
theorem seenKV_len (seen : List (Str × Int)) : (seenKV seen).length = seen.length := by unfold seenKV; rw [List.length_map, List.length_reverse]
def rndD (R : Rnd) : DT := .tup [.str R.m, .int R.x, .int R.r]
def rndL (R : Rnd) : DT := .tup [.str R.m, .int R.x, .int R.r, .lst (R.vs.map .int)]
def tupD (vs : List Int) : DT := .tup (vs.map .int)
/-- a run: what is done, what is left -/
def Whole (done : List Rnd) (S R : RunR) : Prop := R = ⟨done ++ S.rounds, S.how, S.m, S.x, S.vs⟩
theorem runP_seen {P : Prg} {k : Nat} {seen : List (Str × Int)} {m : Mode} {x : Int} {vs : List Int} (h : (m.nm, x) ∈ seen) : runP P k seen m x vs = ⟨[], none, m.nm, x, vs⟩ := by
  cases k with
  | zero => rfl
  | succ k => unfold runP; rw [if_pos h]
theorem runP_rest {P : Prg} {k : Nat} {seen : List (Str × Int)} {m : Mode} {x : Int} {vs : List Int} (h : (m.nm, x) ∉ seen) (hx : x ∈ P.ends) : runP P (k + 1) seen m x vs = ⟨[], some "rests", m.nm, x, vs⟩ := by
  unfold runP; rw [if_neg h, if_pos hx]
theorem runP_stop {P : Prg} {k : Nat} {seen : List (Str × Int)} {m : Mode} {x : Int} {vs : List Int} (h : (m.nm, x) ∉ seen) (hx : x ∉ P.ends) (ht : (rowOf P m x).th = none) : runP P (k + 1) seen m x vs = ⟨[⟨m.nm, x, (divided m.ru x P.base).2, vs⟩], some "stops", m.nm, (divided m.ru x P.base).1, updAll (rowOf P m x).us vs (divided m.ru x P.base).2⟩ := by
  unfold runP; rw [if_neg h, if_neg hx, ht]
theorem runP_go {P : Prg} {k : Nat} {seen : List (Str × Int)} {m : Mode} {x : Int} {vs : List Int} {t : Str} {done : List Rnd} {R : RunR} (h : (m.nm, x) ∉ seen) (hx : x ∉ P.ends) (ht : (rowOf P m x).th = some t) (w : Whole done (runP P (k + 1) seen m x vs) R) : Whole (done ++ [⟨m.nm, x, (divided m.ru x P.base).2, vs⟩]) (runP P k ((m.nm, x) :: seen) (modeAt P t m) (divided m.ru x P.base).1 (updAll (rowOf P m x).us vs (divided m.ru x P.base).2)) R := by
  unfold Whole at w ⊢
  rw [w]
  conv => lhs; unfold runP; rw [if_neg h, if_neg hx, ht]
  simp only [List.append_assoc, List.cons_append, List.nil_append]
theorem RowIn.small {r : Row} {size : Int} {many : Nat} {ns : List Str} (h : RowIn r size many ns) : SmallC r.us := fun u hu => ⟨by have := (h.us.2 u hu).1; omega, (h.us.2 u hu).2⟩
theorem Good.pre {P : Prg} (g : Good P) {k : Nat} {seen : List (Str × Int)} {x : Int} (f : Fuel P k seen x) (hk : k ≤ 2900) : DivPre x P.base := by
  refine ⟨?_, g.base0, ?_⟩
  · rw [absI_abs]
    have h1 := f.abs
    have h2 : (2 : Nat) ^ k ≤ 2 ^ 2900 := Nat.pow_le_pow_right (by decide) hk
    have h3 : (2 : Nat) ^ 2900 < 2 ^ 3000 := Nat.pow_lt_pow_right (by decide) (by decide)
    have h4 : x.natAbs < 2 ^ 3000 := by omega
    exact Int.ofNat_lt.mpr h4
  · rw [g.abs]; have := g.base; omega
/-! ### standings -/
def nextSign (P : Prg) (nz : Bool) (s : Int) : Int := if nz then s * spun P.base else s
def toldOf (P : Prg) (nz : Bool) : List Rnd → Int → Nat → List (Str × Int × Nat × Int)
  | [], _, _ => []
  | R :: Rs, s, l => (R.m, s, l, s * R.x - l) :: toldOf P nz Rs (nextSign P nz s) (l / P.base.natAbs)
def toldD (q : Str × Int × Nat × Int) : DT := .tup [.str q.1, .int q.2.1, .int q.2.2.1, .int q.2.2.2]
def sg (n : Int) : Int := if n < 0 then -1 else 1
theorem sg_cases (n : Int) : sg n = 1 ∨ sg n = -1 := by unfold sg; split <;> omega
theorem nextSign_cases (P : Prg) (nz : Bool) {s : Int} (h : s = 1 ∨ s = -1) : nextSign P nz s = 1 ∨ nextSign P nz s = -1 := by
  unfold nextSign
  rcases spun_cases P.base with e | e <;> rw [e] <;> rcases h with h | h <;> rw [h] <;> cases nz <;> simp
theorem told_c {s x : Int} {l : Nat} {c : Int} (hs : s = 1 ∨ s = -1) (h : x = s * (l + c)) : s * x - l = c := by
  rw [h]; rcases hs with h | h <;> rw [h] <;> omega
theorem toldOf_len (P : Prg) (nz : Bool) : ∀ (Rs : List Rnd) (s : Int) (l : Nat), (toldOf P nz Rs s l).length = Rs.length
  | [], _, _ => rfl
  | R :: Rs, s, l => by unfold toldOf; rw [List.length_cons, List.length_cons, toldOf_len P nz Rs]
theorem start_x (n : Int) : n = sg n * ((n.natAbs : Nat) + 0) := by unfold sg; split <;> omega
/-! ### figures -/
theorem cut_from {α : Type} (xs : List α) (i : Nat) : cutD xs (some (i : Int)) none = xs.drop i := by
  unfold cutD HT.sIx
  by_cases h : i ≤ xs.length
  · have e : (if (i : Int) < 0 then (if (i : Int) + xs.length < 0 then 0 else ((i : Int) + xs.length).toNat) else min (i : Int).toNat xs.length) = i := by
      rw [if_neg (by omega)]; omega
    simp only [Int.toNat_natCast]
    rw [if_neg (by omega), Nat.min_eq_left h]
    rw [List.take_of_length_le (by simp)]
  · simp only [Int.toNat_natCast]
    rw [if_neg (by omega), Nat.min_eq_right (by omega), List.drop_eq_nil_of_le (Nat.le_refl _), List.drop_eq_nil_of_le (by omega), List.take_nil]
theorem digs_lt {b : Nat} (hb : 2 ≤ b) : ∀ (n : Nat), ∀ d ∈ digs b n, 0 ≤ d ∧ d < b := by
  intro n
  induction n using Nat.strongRecOn with
  | _ n ih =>
    intro d hd
    by_cases hn : n = 0
    · subst hn; rw [digs_zero] at hd; cases hd
    · rw [digs_pos hb (by omega)] at hd
      rcases List.mem_cons.mp hd with rfl | hd
      · have := Nat.mod_lt n (show 0 < b by omega); omega
      · exact ih (n / b) (Nat.div_lt_self (by omega) hb) d hd
theorem digs_last {b : Nat} (hb : 2 ≤ b) : ∀ (n : Nat) (d : Int), (digs b n).getLast? = some d → 0 < d := by
  intro n
  induction n using Nat.strongRecOn with
  | _ n ih =>
    intro d hd
    by_cases hn : n = 0
    · subst hn; rw [digs_zero] at hd; cases hd
    · rw [digs_pos hb (by omega)] at hd
      by_cases h2 : n / b = 0
      · rw [h2, digs_zero] at hd
        have e : ((n % b : Nat) : Int) = d := by simpa using hd
        have h3 : n < b := by
          rcases Nat.div_eq_zero_iff.mp h2 with h | h
          · omega
          · exact h
        rw [Nat.mod_eq_of_lt h3] at e; omega
      · have h3 := digs_pos hb (Nat.pos_of_ne_zero h2)
        rw [h3, List.getLast?_cons_cons, ← h3] at hd
        exact ih (n / b) (Nat.div_lt_self (by omega) hb) d hd
theorem nz_digs {b n : Nat} (hb : 2 ≤ b) (hn : 0 < n) (xs : List Int) (i : Nat) (h : xs.drop i = digs b n) : i < xs.length ∧ xs[i]? = some ((n % b : Nat) : Int) ∧ xs.drop (i + 1) = digs b (n / b) := by
  rw [digs_pos hb hn] at h
  have hi : i < xs.length := by
    rcases Nat.lt_or_ge i xs.length with h' | h'
    · exact h'
    · rw [List.drop_eq_nil_of_le h'] at h; cases h
  rw [List.drop_eq_getElem_cons hi] at h
  injection h with h1 h2
  exact ⟨hi, by rw [List.getElem?_eq_getElem hi, h1], h2⟩
theorem z_digs {b : Nat} (xs : List Int) (i : Nat) (h : xs.drop i = digs b 0) : ¬ i < xs.length ∧ xs.drop (i + 1) = digs b 0 := by
  rw [digs_zero] at h ⊢
  have := List.drop_eq_nil_iff.mp h
  exact ⟨by omega, List.drop_eq_nil_of_le (by omega)⟩
theorem drop_head {α : Type} {xs ys : List α} {x : α} {i : Nat} (h : xs.drop i = x :: ys) : i < xs.length ∧ xs[i]? = some x ∧ xs.drop (i + 1) = ys := by
  have hi : i < xs.length := by
    rcases Nat.lt_or_ge i xs.length with h' | h'
    · exact h'
    · rw [List.drop_eq_nil_of_le h'] at h; cases h
  rw [List.drop_eq_getElem_cons hi] at h
  injection h with h1 h2
  exact ⟨hi, by rw [List.getElem?_eq_getElem hi, h1], h2⟩
theorem drop_nil {α : Type} {xs : List α} {i : Nat} (h : xs.drop i = []) : ¬ i < xs.length := by
  have := List.drop_eq_nil_iff.mp h; omega
end SW


namespace SW
open PySem L2 PyProof.Rows
local macro_rules | `(tactic| walk_at "sw_loc") => `(tactic| first | exact .inl rfl | exact .inr rfl)
local macro_rules | `(tactic| walk_at "sw_blk") => `(tactic| first | rfl | kernel_rfl)
local macro_rules | `(tactic| walk_at "sw_nn") => `(tactic| ((try dsimp only); first | decide | omega | (exact Nat.le_of_ble_eq_true rfl) | (simp; done)))
def top (i : Nat) : Stmt := PySem.Challenge.pw_stillwords_k07_whole_one_small_carry.main.body.getD i (.Pass ⟨0, 0, 0, 0⟩)
def clsBody : Stmt → List Stmt
  | .ClassDef (body := b) .. => b
  | _ => []
def topm (i j : Nat) : Stmt := (clsBody (top i)).getD j (.Pass ⟨0, 0, 0, 0⟩)
abbrev s_law_pool : Stmt := (top 63)
abbrev s_law_draw : Stmt := (top 64)
abbrev s_law_choose : Stmt := (top 65)
abbrev s_law_then : Stmt := (top 69)
abbrev s_law_updates : Stmt := (top 68)
abbrev s_law_rows : Stmt := (top 70)
abbrev s_law_parts : Stmt := (top 71)
abbrev s_is_integer : Stmt := (top 17)
abbrev s_is_base : Stmt := (top 23)
abbrev s_is_row_like : Stmt := (top 20)
abbrev s_is_name : Stmt := (top 19)
abbrev s_is_between : Stmt := (top 18)
abbrev s_is_term : Stmt := (top 21)
abbrev s_is_register : Stmt := (top 51)
abbrev s_require_registers : Stmt := (top 52)
abbrev s_is_rule : Stmt := (top 28)
abbrev s_is_mode : Stmt := (top 53)
abbrev s_require_modes : Stmt := (top 54)
abbrev s_are_terms : Stmt := (top 22)
abbrev s_are_updates : Stmt := (top 55)
abbrev s_is_line : Stmt := (top 56)
abbrev s_require_rows : Stmt := (top 57)
abbrev s_are_ends : Stmt := (top 58)
abbrev s_require_all : Stmt := (top 59)
abbrev s_Program___init__ : Stmt := (topm 61 0)
abbrev s_law_made : Stmt := (top 72)
abbrev s_law_number : Stmt := (top 67)
abbrev s_law_figures : Stmt := (top 77)
abbrev s_figures_in : Stmt := (top 43)
abbrev s_figures_of : Stmt := (top 47)
abbrev s_is_sign : Stmt := (top 24)
abbrev s_are_figures : Stmt := (top 44)
abbrev s_are_whole_figures : Stmt := (top 45)
abbrev s_size_in : Stmt := (top 46)
abbrev s_number_of : Stmt := (top 48)
abbrev s_law_divide : Stmt := (top 66)
abbrev s_law_line : Stmt := (top 73)
abbrev s_law_next : Stmt := (top 74)
abbrev s_law_run : Stmt := (top 75)
abbrev s_Run_rounds : Stmt := (topm 40 7)
abbrev s_Program_first_row : Stmt := (topm 61 14)
abbrev s_Loop___init__ : Stmt := (topm 38 0)
abbrev s_sign_of : Stmt := (top 25)
abbrev s_is_greater : Stmt := (top 30)
abbrev s_divided : Stmt := (top 31)
abbrev s_picked : Stmt := (top 35)
abbrev s_updated : Stmt := (top 36)
abbrev s_Loop_go_on : Stmt := (topm 38 2)
abbrev s_Run___init__ : Stmt := (topm 40 0)
abbrev s_run : Stmt := (top 41)
abbrev s_Program_size : Stmt := (topm 61 3)
abbrev s_Program_base : Stmt := (topm 61 2)
abbrev s_standings : Stmt := (top 49)
abbrev s_require_rule : Stmt := (top 29)
abbrev s_carried : Stmt := (top 32)
abbrev s_carry : Stmt := (top 33)
abbrev s_Program_require_mode : Stmt := (topm 61 8)
abbrev s_Program_rule_of : Stmt := (topm 61 9)
abbrev s_law_right : Stmt := (top 78)
abbrev s_law_error : Stmt := (top 79)
abbrev s_law_refused_right : Stmt := (top 80)
abbrev s_law : Stmt := (top 81)
abbrev s_E_InvalidNumber : Stmt := (topm 3 0)
abbrev s_E_InvalidBase : Stmt := (topm 4 0)
abbrev s_E_InvalidSign : Stmt := (topm 11 0)
abbrev s_E_InvalidFigures : Stmt := (topm 10 0)
def cl_law_error : Told := [("InvalidNumber", "value", "number"), ("InvalidSign", "value", "sign"), ("InvalidBase", "value", "base"), ("InvalidFigures", "value", "figures")]

/-! ### the head -/
def dd_law_pool : He.DefD := ⟨("_law_pool", none), "_law_pool", "_law_pool", defArgs s_law_pool, defBody s_law_pool, defScope s_law_pool, [], []⟩
def dd_law_draw : He.DefD := ⟨("_law_draw", none), "_law_draw", "_law_draw", defArgs s_law_draw, defBody s_law_draw, defScope s_law_draw, [], []⟩
def dd_law_choose : He.DefD := ⟨("_law_choose", none), "_law_choose", "_law_choose", defArgs s_law_choose, defBody s_law_choose, defScope s_law_choose, [], []⟩
def dd_law_then : He.DefD := ⟨("_law_then", none), "_law_then", "_law_then", defArgs s_law_then, defBody s_law_then, defScope s_law_then, [], []⟩
def dd_law_updates : He.DefD := ⟨("_law_updates", none), "_law_updates", "_law_updates", defArgs s_law_updates, defBody s_law_updates, defScope s_law_updates, [], []⟩
def dd_law_rows : He.DefD := ⟨("_law_rows", none), "_law_rows", "_law_rows", defArgs s_law_rows, defBody s_law_rows, defScope s_law_rows, [], []⟩
def dd_law_parts : He.DefD := ⟨("_law_parts", none), "_law_parts", "_law_parts", defArgs s_law_parts, defBody s_law_parts, defScope s_law_parts, [], []⟩
def dd_is_integer : He.DefD := ⟨("is_integer", none), "is_integer", "is_integer", defArgs s_is_integer, defBody s_is_integer, defScope s_is_integer, [], []⟩
def dd_is_base : He.DefD := ⟨("is_base", none), "is_base", "is_base", defArgs s_is_base, defBody s_is_base, defScope s_is_base, [], []⟩
def dd_is_row_like : He.DefD := ⟨("is_row_like", none), "is_row_like", "is_row_like", defArgs s_is_row_like, defBody s_is_row_like, defScope s_is_row_like, [], []⟩
def dd_is_name : He.DefD := ⟨("is_name", none), "is_name", "is_name", defArgs s_is_name, defBody s_is_name, defScope s_is_name, [], []⟩
def dd_is_between : He.DefD := ⟨("is_between", none), "is_between", "is_between", defArgs s_is_between, defBody s_is_between, defScope s_is_between, [], []⟩
def dd_is_term : He.DefD := ⟨("is_term", none), "is_term", "is_term", defArgs s_is_term, defBody s_is_term, defScope s_is_term, [], []⟩
def dd_is_register : He.DefD := ⟨("is_register", none), "is_register", "is_register", defArgs s_is_register, defBody s_is_register, defScope s_is_register, [], []⟩
def dd_require_registers : He.DefD := ⟨("require_registers", none), "require_registers", "require_registers", defArgs s_require_registers, defBody s_require_registers, defScope s_require_registers, [], []⟩
def dd_is_rule : He.DefD := ⟨("is_rule", none), "is_rule", "is_rule", defArgs s_is_rule, defBody s_is_rule, defScope s_is_rule, [], []⟩
def dd_is_mode : He.DefD := ⟨("is_mode", none), "is_mode", "is_mode", defArgs s_is_mode, defBody s_is_mode, defScope s_is_mode, [], []⟩
def dd_require_modes : He.DefD := ⟨("require_modes", none), "require_modes", "require_modes", defArgs s_require_modes, defBody s_require_modes, defScope s_require_modes, [], []⟩
def dd_are_terms : He.DefD := ⟨("are_terms", none), "are_terms", "are_terms", defArgs s_are_terms, defBody s_are_terms, defScope s_are_terms, [], []⟩
def dd_are_updates : He.DefD := ⟨("are_updates", none), "are_updates", "are_updates", defArgs s_are_updates, defBody s_are_updates, defScope s_are_updates, [], []⟩
def dd_is_line : He.DefD := ⟨("is_line", none), "is_line", "is_line", defArgs s_is_line, defBody s_is_line, defScope s_is_line, [], []⟩
def dd_require_rows : He.DefD := ⟨("require_rows", none), "require_rows", "require_rows", defArgs s_require_rows, defBody s_require_rows, defScope s_require_rows, [], []⟩
def dd_are_ends : He.DefD := ⟨("are_ends", none), "are_ends", "are_ends", defArgs s_are_ends, defBody s_are_ends, defScope s_are_ends, [], []⟩
def dd_require_all : He.DefD := ⟨("require_all", none), "require_all", "require_all", defArgs s_require_all, defBody s_require_all, defScope s_require_all, [], []⟩
def dd_law_made : He.DefD := ⟨("_law_made", none), "_law_made", "_law_made", defArgs s_law_made, defBody s_law_made, defScope s_law_made, [], []⟩
def dd_law_number : He.DefD := ⟨("_law_number", none), "_law_number", "_law_number", defArgs s_law_number, defBody s_law_number, defScope s_law_number, [], []⟩
def dd_law_figures : He.DefD := ⟨("_law_figures", none), "_law_figures", "_law_figures", defArgs s_law_figures, defBody s_law_figures, defScope s_law_figures, [], []⟩
def dd_figures_in : He.DefD := ⟨("figures_in", none), "figures_in", "figures_in", defArgs s_figures_in, defBody s_figures_in, defScope s_figures_in, [], []⟩
def dd_figures_of : He.DefD := ⟨("figures_of", none), "figures_of", "figures_of", defArgs s_figures_of, defBody s_figures_of, defScope s_figures_of, [], []⟩
def dd_is_sign : He.DefD := ⟨("is_sign", none), "is_sign", "is_sign", defArgs s_is_sign, defBody s_is_sign, defScope s_is_sign, [], []⟩
def dd_are_figures : He.DefD := ⟨("are_figures", none), "are_figures", "are_figures", defArgs s_are_figures, defBody s_are_figures, defScope s_are_figures, [], []⟩
def dd_are_whole_figures : He.DefD := ⟨("are_whole_figures", none), "are_whole_figures", "are_whole_figures", defArgs s_are_whole_figures, defBody s_are_whole_figures, defScope s_are_whole_figures, [], []⟩
def dd_size_in : He.DefD := ⟨("size_in", none), "size_in", "size_in", defArgs s_size_in, defBody s_size_in, defScope s_size_in, [], []⟩
def dd_number_of : He.DefD := ⟨("number_of", none), "number_of", "number_of", defArgs s_number_of, defBody s_number_of, defScope s_number_of, [], []⟩
def dd_law_divide : He.DefD := ⟨("_law_divide", none), "_law_divide", "_law_divide", defArgs s_law_divide, defBody s_law_divide, defScope s_law_divide, [], []⟩
def dd_law_line : He.DefD := ⟨("_law_line", none), "_law_line", "_law_line", defArgs s_law_line, defBody s_law_line, defScope s_law_line, [], []⟩
def dd_law_next : He.DefD := ⟨("_law_next", none), "_law_next", "_law_next", defArgs s_law_next, defBody s_law_next, defScope s_law_next, [], []⟩
def dd_law_run : He.DefD := ⟨("_law_run", none), "_law_run", "_law_run", defArgs s_law_run, defBody s_law_run, defScope s_law_run, [], []⟩
def dd_sign_of : He.DefD := ⟨("sign_of", none), "sign_of", "sign_of", defArgs s_sign_of, defBody s_sign_of, defScope s_sign_of, [], []⟩
def dd_is_greater : He.DefD := ⟨("is_greater", none), "is_greater", "is_greater", defArgs s_is_greater, defBody s_is_greater, defScope s_is_greater, [], []⟩
def dd_divided : He.DefD := ⟨("divided", none), "divided", "divided", defArgs s_divided, defBody s_divided, defScope s_divided, [], []⟩
def dd_picked : He.DefD := ⟨("picked", none), "picked", "picked", defArgs s_picked, defBody s_picked, defScope s_picked, [], []⟩
def dd_updated : He.DefD := ⟨("updated", none), "updated", "updated", defArgs s_updated, defBody s_updated, defScope s_updated, [], []⟩
def dd_run : He.DefD := ⟨("run", none), "run", "run", defArgs s_run, defBody s_run, defScope s_run, [], []⟩
def dd_standings : He.DefD := ⟨("standings", none), "standings", "standings", defArgs s_standings, defBody s_standings, defScope s_standings, [], []⟩
def dd_require_rule : He.DefD := ⟨("require_rule", none), "require_rule", "require_rule", defArgs s_require_rule, defBody s_require_rule, defScope s_require_rule, [], []⟩
def dd_carried : He.DefD := ⟨("carried", none), "carried", "carried", defArgs s_carried, defBody s_carried, defScope s_carried, [], []⟩
def dd_carry : He.DefD := ⟨("carry", none), "carry", "carry", defArgs s_carry, defBody s_carry, defScope s_carry, [], []⟩
def dd_law_right : He.DefD := ⟨("_law_right", none), "_law_right", "_law_right", defArgs s_law_right, defBody s_law_right, defScope s_law_right, [], []⟩
def dd_law_error : He.DefD := ⟨("_law_error", none), "_law_error", "_law_error", defArgs s_law_error, defBody s_law_error, defScope s_law_error, [], []⟩
def dd_law_refused_right : He.DefD := ⟨("_law_refused_right", none), "_law_refused_right", "_law_refused_right", defArgs s_law_refused_right, defBody s_law_refused_right, defScope s_law_refused_right, [], []⟩
def dd_law : He.DefD := ⟨("law", none), "law", "law", defArgs s_law, defBody s_law, defScope s_law, [], []⟩
def dd_Program___init__ : He.DefD := ⟨("Program", some "__init__"), "__init__", "Program.__init__", defArgs s_Program___init__, defBody s_Program___init__, defScope s_Program___init__, [], []⟩
def dd_Run_rounds : He.DefD := ⟨("Run", some "rounds"), "rounds", "Run.rounds", defArgs s_Run_rounds, defBody s_Run_rounds, defScope s_Run_rounds, [], []⟩
def dd_Program_first_row : He.DefD := ⟨("Program", some "first_row"), "first_row", "Program.first_row", defArgs s_Program_first_row, defBody s_Program_first_row, defScope s_Program_first_row, [], []⟩
def dd_Loop___init__ : He.DefD := ⟨("Loop", some "__init__"), "__init__", "Loop.__init__", defArgs s_Loop___init__, defBody s_Loop___init__, defScope s_Loop___init__, [], []⟩
def dd_Loop_go_on : He.DefD := ⟨("Loop", some "go_on"), "go_on", "Loop.go_on", defArgs s_Loop_go_on, defBody s_Loop_go_on, defScope s_Loop_go_on, [], []⟩
def dd_Run___init__ : He.DefD := ⟨("Run", some "__init__"), "__init__", "Run.__init__", defArgs s_Run___init__, defBody s_Run___init__, defScope s_Run___init__, [], []⟩
def dd_Program_require_mode : He.DefD := ⟨("Program", some "require_mode"), "require_mode", "Program.require_mode", defArgs s_Program_require_mode, defBody s_Program_require_mode, defScope s_Program_require_mode, [], []⟩
def dd_Program_rule_of : He.DefD := ⟨("Program", some "rule_of"), "rule_of", "Program.rule_of", defArgs s_Program_rule_of, defBody s_Program_rule_of, defScope s_Program_rule_of, [], []⟩
def dd_Program_size : He.DefD := ⟨("Program", some "size"), "size", "Program.size", defArgs s_Program_size, defBody s_Program_size, defScope s_Program_size, [], []⟩
def dd_Program_base : He.DefD := ⟨("Program", some "base"), "base", "Program.base", defArgs s_Program_base, defBody s_Program_base, defScope s_Program_base, [], []⟩
def dd_E_InvalidNumber : He.DefD := ⟨("InvalidNumber", some "__init__"), "__init__", "InvalidNumber.__init__", defArgs s_E_InvalidNumber, defBody s_E_InvalidNumber, defScope s_E_InvalidNumber, [], []⟩
def dd_E_InvalidBase : He.DefD := ⟨("InvalidBase", some "__init__"), "__init__", "InvalidBase.__init__", defArgs s_E_InvalidBase, defBody s_E_InvalidBase, defScope s_E_InvalidBase, [], []⟩
def dd_E_InvalidSign : He.DefD := ⟨("InvalidSign", some "__init__"), "__init__", "InvalidSign.__init__", defArgs s_E_InvalidSign, defBody s_E_InvalidSign, defScope s_E_InvalidSign, [], []⟩
def dd_E_InvalidFigures : He.DefD := ⟨("InvalidFigures", some "__init__"), "__init__", "InvalidFigures.__init__", defArgs s_E_InvalidFigures, defBody s_E_InvalidFigures, defScope s_E_InvalidFigures, [], []⟩
def fn_ : List He.DefD := [dd_law_pool, dd_law_draw, dd_law_choose, dd_law_then, dd_law_updates, dd_law_rows, dd_law_parts, dd_is_integer, dd_is_base, dd_is_row_like, dd_is_name, dd_is_between, dd_is_term, dd_is_register, dd_require_registers, dd_is_rule, dd_is_mode, dd_require_modes, dd_are_terms, dd_are_updates, dd_is_line, dd_require_rows, dd_are_ends, dd_require_all, dd_law_made, dd_law_number, dd_law_figures, dd_figures_in, dd_figures_of, dd_is_sign, dd_are_figures, dd_are_whole_figures, dd_size_in, dd_number_of, dd_law_divide, dd_law_line, dd_law_next, dd_law_run, dd_sign_of, dd_is_greater, dd_divided, dd_picked, dd_updated, dd_run, dd_standings, dd_require_rule, dd_carried, dd_carry, dd_law_right, dd_law_error, dd_law_refused_right, dd_law, dd_Program___init__, dd_Run_rounds, dd_Program_first_row, dd_Loop___init__, dd_Loop_go_on, dd_Run___init__, dd_Program_require_mode, dd_Program_rule_of, dd_E_InvalidNumber, dd_E_InvalidBase, dd_E_InvalidSign, dd_E_InvalidFigures]
def pr_ : List He.DefD := [dd_Program_size, dd_Program_base]
def fa_ : List He.Fa := [.glo "_law_pool", .glo "_law_draw", .glo "_law_choose", .glo "_law_then", .glo "_law_updates", .glo "_law_rows", .glo "_law_parts", .glo "is_integer", .glo "is_base", .glo "is_row_like", .glo "is_name", .glo "is_between", .glo "is_term", .glo "is_register", .glo "require_registers", .glo "is_rule", .glo "is_mode", .glo "require_modes", .glo "are_terms", .glo "are_updates", .glo "is_line", .glo "require_rows", .glo "are_ends", .glo "require_all", .glo "_law_made", .glo "_law_number", .glo "_law_figures", .glo "figures_in", .glo "figures_of", .glo "is_sign", .glo "are_figures", .glo "are_whole_figures", .glo "size_in", .glo "number_of", .glo "_law_divide", .glo "_law_line", .glo "_law_next", .glo "_law_run", .glo "sign_of", .glo "is_greater", .glo "divided", .glo "picked", .glo "updated", .glo "run", .glo "standings", .glo "require_rule", .glo "carried", .glo "carry", .glo "_law_right", .glo "_law_error", .glo "_law_refused_right", .glo "law", .glo "InvalidBase", .glo "InvalidFigures", .glo "InvalidNumber", .glo "InvalidSign", .glo "Loop", .glo "Program", .glo "Run", .free "abs", .free "all", .free "bool", .free "dict", .free "divmod", .free "enumerate", .free "int", .free "isinstance", .free "len", .free "list", .free "max", .free "min", .free "range", .free "repr", .free "str", .free "sum", .free "tuple", .free "zip", .int "GREATEST" 1000000, .str "LETTERS" "abcdefghijklmnopqrstuvwxyz", .glo "RULES", .cls "Loop", .cls "Program", .cls "Run", .free "ValueError", .noat "Loop" "own_program", .noat "Loop" "own_mode", .noat "Loop" "own_x", .noat "Loop" "own_values", .noat "Loop" "own_how", .noat "Run" "own_key", .noat "Run" "own_rounds", .noat "Run" "own_values", .noat "Run" "own_loop", .noat "Program" "own_base", .noat "Program" "own_registers", .noat "Program" "own_names", .noat "Program" "own_rules", .noat "Program" "own_rows", .noat "Program" "own_ends", .noat "Program" "own_result", .mkr "Program", .meth "Run" "rounds", .meth "Program" "first_row", .mkr "Loop", .meth "Loop" "go_on", .mkr "Run", .meth "Program" "require_mode", .meth "Program" "rule_of"]
def ex_ (K : Frag) : Bool := He.tupB K "RULES" [.str "down", .str "up", .str "zero", .str "positive", .str "near"] && (errB K ("InvalidNumber", "value") && (errB K ("InvalidBase", "value") && (errB K ("InvalidSign", "value") && (errB K ("InvalidFigures", "value") && (veB K && (toldB K cl_law_error))))))
def tf_ : List He.Defn := [("_law_refused_right", none)]
def tl_ (K : Frag) : List (Addr × Addr) := [He.cT K ("_law_refused_right", none)]
def TT_ (K : Frag) : List (Addr × Str) := [((He.cT K ("_law_refused_right", none)).2, ((PyProof.Rows.envOfC "_law_refused_right" (defScope s_law_refused_right) 0 0 .none).qual ++ "<lambda>"))]
abbrev Row_ : PySem.W.OpenRow := PySem.W.OpenLaw.row PySem.Challenge.rw_stillwords_k07_whole_one_small_carry
abbrev hk_ : PySem.W.Hook := hookP 5 fa_ fn_ tf_ ex_ pr_
def ob_ (s : PySem.W.SharedT) : AlP := obsP 5 fa_ fn_ tf_ ex_ pr_ (HandSHeadRun.getT s)
theorem ob_eq_ (s : PySem.W.SharedT) : ob_ s = hk_.obs s.abs := obsP_eq (HandSHeadRun.getT_eq s)
def loose_ : List Str := (["_wall", "__name__", "InvalidRule", "InvalidNumber", "InvalidBase", "InvalidRegisters", "InvalidModes", "InvalidRow", "InvalidEnds", "InvalidResult", "InvalidFigures", "InvalidSign", "UnknownName", "Endless", "LETTERS", "GREATEST", "is_integer", "is_between", "is_name", "is_row_like"] : List Str) ++ (["is_term", "are_terms", "is_base", "is_sign", "sign_of", "RULES", "is_rule", "require_rule", "is_greater", "divided", "carried", "carry", "picked", "updated", "total_of", "Loop", "Run", "run", "figures_in", "are_figures"] : List Str) ++ (["are_whole_figures", "size_in", "figures_of", "number_of", "standings", "is_register", "require_registers", "is_mode", "require_modes", "are_updates", "is_line", "require_rows", "are_ends", "require_all", "Program", "_law_pool", "_law_draw", "_law_choose", "_law_divide", "_law_number"] : List Str) ++ (["_law_updates", "_law_then", "_law_rows", "_law_parts", "_law_made", "_law_line", "_law_next", "_law_run", "_law_total", "_law_figures", "_law_right", "_law_error", "_law_refused_right"] : List Str)
theorem run_ (w : World) : HandSHeadRun.RunEq Row_ (PySem.W.view Row_.prog [81]) hk_ ob_ 7240 loose_ w := by
  intro os
  kernel_rfl

def flds : List (Str × Str) := [("Loop", "own_program"), ("Loop", "own_mode"), ("Loop", "own_x"), ("Loop", "own_values"), ("Loop", "own_how"), ("Run", "own_key"), ("Run", "own_rounds"), ("Run", "own_values"), ("Run", "own_loop"), ("Program", "own_base"), ("Program", "own_registers"), ("Program", "own_names"), ("Program", "own_rules"), ("Program", "own_rows"), ("Program", "own_ends"), ("Program", "own_result")]
def TabRULES (K : Frag) : Prop := ∀ H : Hp, SqT K H (He.ga K "RULES") [.str "down", .str "up", .str "zero", .str "positive", .str "near"]
def c_RULES : DT := .tup [.str "down", .str "up", .str "zero", .str "positive", .str "near"]
theorem rep_RULES {K : Kit} (tb : TabRULES K) (H : Hp) : Rep K H (.ref (He.ga K "RULES")) c_RULES := .tup (tb H) (.cons (.str _) (.cons (.str _) (.cons (.str _) (.cons (.str _) (.cons (.str _) .nil)))))

/-! ### _law_pool -/
def sp_law_pool : dSp := fun ds μ Φ _ => ∃ (ns : List Int) (k : Nat), ds = [.scr ns, .int k] ∧ k < 1000 ∧ ∀ p c s, μ p = none → 0 ≤ c → 0 ≤ s → s < 2147483647 → Φ (.adr p) (μ.put p (.lst [.int c, .int s]))
theorem len_law_pool (ds : List DT) (μ : Mu) (Φ : PK) (Ψ : XKd) (h : sp_law_pool ds μ Φ Ψ) : ds.length = 2 := by obtain ⟨_, _, rfl, _⟩ := h; rfl
def d_law_pool.t4 (Ψ : XKd) : dS := (dRet (dLstM (dCons (dVar 2) (dCons (dVar 3) dNil))))
def d_law_pool.t3 (Ψ : XKd) : dS := (dSeq (dIf (dTest (dOp dLt (dVar 2) (dOp dPow (dC (.int 10)) (dC (.int 18))))) (dAsg (dC (.int 0)) (dName 2)) dNext) (d_law_pool.t4 Ψ))
def d_law_pool.t2 (Ψ : XKd) : dS := (dSeq (dAsg (dOp dMod (dOp dPow (dOp dAdd (dOp dAdd (dOp dMod (dCB dInt (dCons (dVar 2) dNil)) (dC (.int 2147483629))) (dOp dMul (dOp dMul (dC (.int 7919)) (dVar 1)) (dVar 1))) (dC (.int 31))) (dC (.int 3))) (dC (.int 2147483647))) (dName 3)) (d_law_pool.t3 Ψ))
def d_law_pool.t1 (Ψ : XKd) : dS := (dSeq (dIf (dTest (dOp dLt (dVar 1) (dCB dLen (dCons (dVar 0) dNil)))) (dAsg (dOp dIx (dVar 0) (dVar 1)) (dName 2)) dNext) (d_law_pool.t2 Ψ))
def n_law_pool : List Str := ["script", "k", "cell", "seed"]
def t_law_pool (K : Kit) (E : XK) : TS := (tSeq (tAsg (tC (.int 0)) (gName 2)) (tSeq (tIfS (tTest (tOp oLt (tVar 1) (tCB (bLen K) (tCons (tVar 0) tNil)))) (tAsg (tOp (rIx K) (tVar 0) (tVar 1)) (gName 2)) tNext) (tSeq (tAsg (tOp oMod (tOp oPow (tOp oAdd (tOp oAdd (tOp oMod (tCB bInt (tCons (tVar 2) tNil)) (tC (.int 2147483629))) (tOp oMul (tOp oMul (tC (.int 7919)) (tVar 1)) (tVar 1))) (tC (.int 31))) (tC (.int 3))) (tC (.int 2147483647))) (gName 3)) (tSeq (tIfS (tTest (tOp oLt (tVar 2) (tOp oPow (tC (.int 10)) (tC (.int 18))))) (tAsg (tC (.int 0)) (gName 2)) tNext) (tRet (tLst (tCons (tVar 2) (tCons (tVar 3) tNil))))))))
def d_law_pool (Ψ : XKd) : dS := (dSeq (dAsg (dC (.int 0)) (dName 2)) (d_law_pool.t1 Ψ))
theorem r_law_pool {K : Kit} (E : XK) (Ψ : XKd) : RS ⟨K, E, Ψ⟩ (t_law_pool K E) (d_law_pool Ψ) := (rs_seq (rs_asg re_int (rg_name (vs := [2]) (by decide))) (rs_seq (rs_if (rt_test (re_op ro_lt re_var (re_cb rc_len (ra_cons re_var ra_nil)))) (rs_asg (re_op ro_ix re_var re_var) (rg_name (vs := [2]) (by decide))) rs_next) (rs_seq (rs_asg (re_op ro_mod (re_op ro_pow (re_op ro_add (re_op ro_add (re_op ro_mod (re_cb rc_int (ra_cons re_var ra_nil)) re_int) (re_op ro_mul (re_op ro_mul re_int re_var) re_var)) re_int) re_int) re_int) (rg_name (vs := [3]) (by decide))) (rs_seq (rs_if (rt_test (re_op ro_lt re_var (re_op ro_pow re_int re_int))) (rs_asg re_int (rg_name (vs := [2]) (by decide))) rs_next) (rs_ret (re_lstM (ra_cons re_var (ra_cons re_var ra_nil))))))))

theorem pure_law_pool (ds : List DT) (μ : Mu) (Φ : PK) (Ψ : XKd) (h : sp_law_pool ds μ Φ Ψ) : dRun (d_law_pool Ψ) n_law_pool ds μ Φ := by
  obtain ⟨ns, k, rfl, hk, h⟩ := h
  have sd : ∀ c : Int, 0 ≤ (c % 2147483629 + 7919 * (k : Int) * k + 31) ^ (3 : Int).toNat % 2147483647 ∧ (c % 2147483629 + 7919 * (k : Int) * k + 31) ^ (3 : Int).toNat % 2147483647 < 2147483647 := fun c => ⟨Int.emod_nonneg _ (by decide), Int.emod_lt_of_pos _ (by decide)⟩
  have big : ∀ c : Int, (c % 2147483629 + 7919 * (k : Int) * k + 31).natAbs < 2 ^ 64 := fun c => by
    have m0 := Int.emod_nonneg c (show (2147483629 : Int) ≠ 0 by decide)
    have m1 := Int.emod_lt_of_pos c (show (0 : Int) < 2147483629 by decide)
    have hk' : (k : Int) < 1000 := by omega
    have e1 : (k : Int) * k ≤ 1000 * 1000 := Int.mul_le_mul (by omega) (by omega) (by omega) (by omega)
    have e2 : (0 : Int) ≤ k * k := Int.mul_nonneg (by omega) (by omega)
    rw [Int.mul_assoc]; omega
  have step : ∀ c : Int, _ := fun c => (⟨sd c, big c⟩ : _ ∧ _)
  have tl : ∀ c : Int, (d_law_pool.t2 Ψ) { nx := fun _ μ' => Φ .non μ', rt := Φ } [some (.scr ns), some (.int k), some (.int c), none] μ := by
    intro c
    refine ⟨_, rfl, .inl ⟨_, rfl, _, _, rfl, rfl, by walk_at "sw_nn", _, rfl, _, _, rfl, rfl, .inl (by decide), _, rfl, _, _, rfl, rfl, .inr (by omega), ?_⟩⟩
    refine ⟨_, _, rfl, rfl, _, _, rfl, rfl, _, _, rfl, rfl, ⟨by decide, by decide, big c⟩, _, _, rfl, rfl, by walk_at "sw_nn", ?_⟩
    refine ⟨_, rfl, _, _, rfl, rfl, ⟨by decide, by decide, by decide⟩, _, _, rfl, rfl, _, rfl, fun h1 => ?_, fun h1 => ?_⟩
    · exact ⟨_, rfl, _, rfl, by walk_at "sw_nn", fun p hp => h p 0 _ hp (by decide) (sd c).1 (sd c).2⟩
    · have h1 := of_decide_eq_false h1
      have : (0 : Int) ≤ 10 ^ (18 : Int).toNat := by decide
      exact ⟨_, rfl, _, rfl, by walk_at "sw_nn", fun p hp => h p c _ hp (by omega) (sd c).1 (sd c).2⟩
  refine ⟨_, rfl, _, rfl, _, _, rfl, rfl, _, _, rfl, rfl, _, rfl, fun h1 => ?_, fun h1 => ?_⟩
  · have h1 := of_decide_eq_true h1
    have h2 : k < ns.length := by rw [List.length_map] at h1; omega
    exact ⟨_, rfl, _, rfl, _, _, .int ns[k], rfl, rfl, atI_nat (by simp [h2]), tl _⟩
  · exact tl 0

/-! ### _law_draw -/
/-- the pool of a law's draws: what is left of a great cell, the seed -/
def Pool (μ : Mu) (p : Addr) : Prop := ∃ c s : Int, μ p = some (.lst [.int c, .int s]) ∧ 0 ≤ c ∧ 0 ≤ s ∧ s < 2147483647
/-- some draws later: the pool is a pool; what else may change stays; there may be more of it -/
def Drawn (p : Addr) (μ μ' : Mu) : Prop := Pool μ' p ∧ ∀ a m, a ≠ p → μ a = some m → μ' a = some m
theorem Drawn.pool {p : Addr} {μ μ' : Mu} (d : Drawn p μ μ') : Pool μ' p := d.1
theorem Drawn.trans {p : Addr} {μ μ1 μ2 : Mu} (a : Drawn p μ μ1) (b : Drawn p μ1 μ2) : Drawn p μ μ2 := ⟨b.1, fun c m n h => b.2 c m n (a.2 c m n h)⟩
theorem Drawn.at {p q : Addr} {μ μ' : Mu} {m : MO} (d : Drawn p μ μ') (n : q ≠ p) (h : μ q = some m) : μ' q = some m := d.2 q m n h
theorem Pool.drawn {p : Addr} {μ : Mu} (h : Pool μ p) : Drawn p μ μ := ⟨h, fun _ _ _ h => h⟩
theorem Drawn.put {p : Addr} {μ : Mu} {c s : Int} (a : 0 ≤ c) (b : 0 ≤ s) (e : s < 2147483647) : Drawn p μ (μ.put p (.lst [.int c, .int s])) := ⟨⟨c, s, Mu.put_same, a, b, e⟩, fun q m n h => (Mu.put_ne n).trans h⟩
theorem Pool.none {p q : Addr} {μ : Mu} (h : Pool μ p) (n : μ q = none) : q ≠ p := fun e => by subst e; obtain ⟨c, s, e, _⟩ := h; rw [e] at n; cases n
/-- something new beside -/
theorem Drawn.new {p q : Addr} {μ μ' : Mu} {m : MO} (d : Drawn p μ μ') (n : μ' q = none) : Drawn p μ (μ'.put q m) := by
  obtain ⟨⟨c, s, e, x⟩, f⟩ := d
  have ne : q ≠ p := fun z => by subst z; rw [e] at n; cases n
  exact ⟨⟨c, s, (Mu.put_ne (Ne.symm ne)).trans e, x⟩, fun a m' h h' => by
    have ha := f a m' h h'
    exact (Mu.put_ne fun z => by subst z; rw [ha] at n; cases n).trans ha⟩
/-- what was not there is changed -/
theorem Drawn.more {p q : Addr} {μ μ' : Mu} {m : MO} (d : Drawn p μ μ') (ne : q ≠ p) (n : μ q = none) : Drawn p μ (μ'.put q m) := by
  obtain ⟨⟨c, s, e, x⟩, f⟩ := d
  exact ⟨⟨c, s, (Mu.put_ne (Ne.symm ne)).trans e, x⟩, fun a m' h h' => (Mu.put_ne fun z => by subst z; rw [n] at h'; cases h').trans (f a m' h h')⟩
theorem lst_keep {p : Addr} {μ μ' : Mu} {d : DT} {xs : List DT} (r : Drawn p μ μ') (n : d ≠ .adr p) (h : lstOf μ d = some xs) : lstOf μ' d = some xs := by
  cases d with
  | adr q =>
    have ne : q ≠ p := fun z => n (by rw [z])
    cases e : μ q with
    | none => simp only [lstOf, e] at h; cases h
    | some m =>
      have := r.at ne e
      cases m <;> simp only [lstOf, e] at h <;> first | (cases h; simp only [lstOf, this]; done) | (cases h; done)
  | _ => exact h
def sp_law_draw : dSp := fun ds μ Φ _ => ∃ (p : Addr) (many : Int), ds = [.adr p, .int many] ∧ Pool μ p ∧ 0 < many ∧ many < 2 ^ 100 ∧ ∀ d μ', 0 ≤ d → d < many → Drawn p μ μ' → Φ (.int d) μ'
theorem len_law_draw (ds : List DT) (μ : Mu) (Φ : PK) (Ψ : XKd) (h : sp_law_draw ds μ Φ Ψ) : ds.length = 2 := by obtain ⟨_, _, rfl, _⟩ := h; rfl
def d_law_draw.t2 (Ψ : XKd) : dS := (dRet (dOp dMod (dOp dDiv (dOp dMod (dCB dInt (dCons (dOp dMul (dOp dIx (dVar 0) (dC (.int 1))) (dOp dIx (dVar 0) (dC (.int 1)))) dNil)) (dC (.int 2147483629))) (dC (.int 64))) (dVar 1)))
def d_law_draw.t1 (Ψ : XKd) : dS := (dSeq (dAsg (dOp dMod (dCB dInt (dCons (dOp dAdd (dOp dMul (dOp dIx (dVar 0) (dC (.int 1))) (dC (.int 48271))) (dC (.int 11))) dNil)) (dC (.int 2147483647))) (dgSub (dVar 0) (dC (.int 1)))) (d_law_draw.t2 Ψ))
def n_law_draw : List Str := ["pool", "many", "digit"]
def t_law_draw (K : Kit) (E : XK) : TS := (tSeq (tIfS (tTest (tOp oGt (tOp (rIx K) (tVar 0) (tC (.int 0))) (tC (.int 0)))) (tSeq (tAsg (tOp oMod (tCB bInt (tCons (tOp (rIx K) (tVar 0) (tC (.int 0))) tNil)) (tVar 1)) (gName 2)) (tSeq (tAsg (tOp oDiv (tOp (rIx K) (tVar 0) (tC (.int 0))) (tVar 1)) (gSub (tVar 0) (tC (.int 0)) rSetL)) (tRet (tVar 2)))) tNext) (tSeq (tAsg (tOp oMod (tCB bInt (tCons (tOp oAdd (tOp oMul (tOp (rIx K) (tVar 0) (tC (.int 1))) (tC (.int 48271))) (tC (.int 11))) tNil)) (tC (.int 2147483647))) (gSub (tVar 0) (tC (.int 1)) rSetL)) (tRet (tOp oMod (tOp oDiv (tOp oMod (tCB bInt (tCons (tOp oMul (tOp (rIx K) (tVar 0) (tC (.int 1))) (tOp (rIx K) (tVar 0) (tC (.int 1)))) tNil)) (tC (.int 2147483629))) (tC (.int 64))) (tVar 1)))))
def d_law_draw (Ψ : XKd) : dS := (dSeq (dIf (dTest (dOp dGt (dOp dIx (dVar 0) (dC (.int 0))) (dC (.int 0)))) (dSeq (dAsg (dOp dMod (dCB dInt (dCons (dOp dIx (dVar 0) (dC (.int 0))) dNil)) (dVar 1)) (dName 2)) (dSeq (dAsg (dOp dDiv (dOp dIx (dVar 0) (dC (.int 0))) (dVar 1)) (dgSub (dVar 0) (dC (.int 0)))) (dRet (dVar 2)))) dNext) (d_law_draw.t1 Ψ))
theorem r_law_draw {K : Kit} (E : XK) (Ψ : XKd) : RS ⟨K, E, Ψ⟩ (t_law_draw K E) (d_law_draw Ψ) := (rs_seq (rs_if (rt_test (re_op ro_gt (re_op ro_ix re_var re_int) re_int)) (rs_seq (rs_asg (re_op ro_mod (re_cb rc_int (ra_cons (re_op ro_ix re_var re_int) ra_nil)) re_var) (rg_name (vs := [2]) (by decide))) (rs_seq (rs_asg (re_op ro_div (re_op ro_ix re_var re_int) re_var) (rg_sub (vs := []) re_var re_int)) (rs_ret re_var))) rs_next) (rs_seq (rs_asg (re_op ro_mod (re_cb rc_int (ra_cons (re_op ro_add (re_op ro_mul (re_op ro_ix re_var re_int) re_int) re_int) ra_nil)) re_int) (rg_sub (vs := []) re_var re_int)) (rs_ret (re_op ro_mod (re_op ro_div (re_op ro_mod (re_cb rc_int (ra_cons (re_op ro_mul (re_op ro_ix re_var re_int) (re_op ro_ix re_var re_int)) ra_nil)) re_int) re_int) re_var))))

theorem pure_law_draw (ds : List DT) (μ : Mu) (Φ : PK) (Ψ : XKd) (h : sp_law_draw ds μ Φ Ψ) : dRun (d_law_draw Ψ) n_law_draw ds μ Φ := by
  obtain ⟨p, many, rfl, ⟨c, s, hp, hc, h0, h1⟩, hm, hm2, h⟩ := h
  have sq : seqOf μ (.adr p) = some [.int c, .int s] := by simp only [seqOf, hp]
  have i0 : atI [DT.int c, .int s] 0 = some (.int c) := rfl
  have i1 : atI [DT.int c, .int s] 1 = some (.int s) := rfl
  refine ⟨_, rfl, _, _, _, sq, rfl, i0, _, _, rfl, rfl, _, rfl, fun h2 => ?_, fun h2 => ?_⟩
  · have h2 := of_decide_eq_true h2
    refine ⟨_, rfl, _, _, _, sq, rfl, i0, .inl ⟨_, rfl, _, rfl, _, _, rfl, rfl, hm, ?_⟩⟩
    refine ⟨_, rfl, _, _, _, sq, rfl, i0, _, rfl, _, _, rfl, rfl, wide_div hm (b := 100) (by omega) (by decide) (by decide), ?_⟩
    refine ⟨_, rfl, p, _, _, 0, rfl, rfl, hp, rfl, _, rfl, ?_⟩
    exact h _ _ (Int.emod_nonneg _ (by omega)) (Int.emod_lt_of_pos _ hm) (.put (Int.ediv_nonneg hc (by omega)) h0 h1)
  · refine ⟨_, rfl, _, _, _, sq, rfl, i1, _, _, rfl, rfl, .inr (by decide), _, _, rfl, rfl, .inl ⟨_, rfl, _, _, rfl, rfl, by walk_at "sw_nn", ?_⟩⟩
    refine ⟨_, rfl, p, _, _, 1, rfl, rfl, hp, rfl, ?_⟩
    have s0 : 0 ≤ (s * 48271 + 11) % 2147483647 := Int.emod_nonneg _ (by decide)
    have s1 : (s * 48271 + 11) % 2147483647 < 2147483647 := Int.emod_lt_of_pos _ (by decide)
    have sq2 : seqOf (μ.put p (.lst ([DT.int c, .int s].set 1 (.int ((s * 48271 + 11) % 2147483647))))) (.adr p) = some [.int c, .int ((s * 48271 + 11) % 2147483647)] := by simp only [seqOf, Mu.put_same]; rfl
    refine ⟨_, rfl, _, _, _, sq2, rfl, rfl, _, rfl, _, _, _, sq2, rfl, rfl, _, _, rfl, rfl, .inl ⟨by omega, by omega⟩, .inl ⟨_, rfl, _, _, rfl, rfl, by walk_at "sw_nn", _, _, rfl, rfl, wide_div (by decide) (b := 100) (by decide) (by decide) (by decide), _, rfl, _, _, rfl, rfl, hm, ?_⟩⟩
    exact h _ _ (Int.emod_nonneg _ (by omega)) (Int.emod_lt_of_pos _ hm) (.trans (.put hc s0 s1) (Drawn.pool (.put hc s0 s1)).drawn)

/-! ### _law_choose -/
def sp_law_choose : dSp := fun ds μ Φ _ => ∃ (p : Addr) (d : DT) (xs : List DT), ds = [.adr p, d] ∧ Pool μ p ∧ lstOf μ d = some xs ∧ d ≠ .adr p ∧ 0 < xs.length ∧ xs.length < 1000 ∧ ∀ x ∈ xs, ∀ μ', Drawn p μ μ' → Φ x μ'
theorem len_law_choose (ds : List DT) (μ : Mu) (Φ : PK) (Ψ : XKd) (h : sp_law_choose ds μ Φ Ψ) : ds.length = 2 := by obtain ⟨_, _, _, rfl, _⟩ := h; rfl
theorem seq_lst {μ : Mu} {d : DT} {xs : List DT} (h : lstOf μ d = some xs) : seqOf μ d = some xs := by
  cases d <;> first | exact h | cases h
def n_law_choose : List Str := ["pool", "items"]
def t_law_choose (K : Kit) (E : XK) : TS := (tRet (tOp (rIx K) (tVar 1) (tCall (lift K sp_law_draw) [] E0 (tCons (tVar 0) (tCons (tCB (bLen K) (tCons (tVar 1) tNil)) tNil)))))
def d_law_choose (Ψ : XKd) : dS := (dRet (dOp dIx (dVar 1) (dCall noX sp_law_draw (dCons (dVar 0) (dCons (dCB dLen (dCons (dVar 1) dNil)) dNil)))))
theorem r_law_choose {K : Kit} (E : XK) (Ψ : XKd) : RS ⟨K, E, Ψ⟩ (t_law_choose K E) (d_law_choose Ψ) := (rs_ret (re_op ro_ix re_var (re_call (ra_cons re_var (ra_cons (re_cb rc_len (ra_cons re_var ra_nil)) ra_nil)))))

theorem pure_law_choose (ds : List DT) (μ : Mu) (Φ : PK) (Ψ : XKd) (h : sp_law_choose ds μ Φ Ψ) : dRun (d_law_choose Ψ) n_law_choose ds μ Φ := by
  obtain ⟨p, d, xs, rfl, hp, h1, h2, h3, h4, h⟩ := h
  refine ⟨_, rfl, _, rfl, _, rfl, _, _, rfl, seq_lst h1, p, _, rfl, hp, by omega, by omega, fun i μ' i0 i1 dr => ?_⟩
  obtain ⟨n, rfl⟩ := Int.eq_ofNat_of_zero_le i0
  have hn : n < xs.length := by omega
  refine ⟨xs, n, xs[n], seq_lst (lst_keep dr h2 h1), rfl, ?_, h _ (List.getElem_mem hn) μ' dr⟩
  exact atI_nat (by simp [hn])

/-! ### _law_then -/
def sp_law_then : dSp := fun ds μ Φ _ => ∃ (p : Addr) (d : DT) (ns : List Str), ds = [.adr p, d] ∧ Pool μ p ∧ lstOf μ d = some (ns.map .str) ∧ d ≠ .adr p ∧ 0 < ns.length ∧ ns.length < 1000 ∧ ∀ o μ', (∀ s, o = some s → s ∈ ns) → Drawn p μ μ' → Φ (optS o) μ'
theorem len_law_then (ds : List DT) (μ : Mu) (Φ : PK) (Ψ : XKd) (h : sp_law_then ds μ Φ Ψ) : ds.length = 2 := by obtain ⟨_, _, _, rfl, _⟩ := h; rfl
def n_law_then : List Str := ["pool", "names"]
def t_law_then (K : Kit) (E : XK) : TS := (tRet (tIf (tTest (tOp rEq (tCall (lift K sp_law_draw) [] E0 (tCons (tVar 0) (tCons (tC (.int 6)) tNil))) (tC (.int 0)))) (tC .non) (tCall (lift K sp_law_choose) [] E0 (tCons (tVar 0) (tCons (tVar 1) tNil)))))
def d_law_then (Ψ : XKd) : dS := (dRet (dIfE (dTest (dOp dEq (dCall noX sp_law_draw (dCons (dVar 0) (dCons (dC (.int 6)) dNil))) (dC (.int 0)))) (dC .non) (dCall noX sp_law_choose (dCons (dVar 0) (dCons (dVar 1) dNil)))))
theorem r_law_then {K : Kit} (E : XK) (Ψ : XKd) : RS ⟨K, E, Ψ⟩ (t_law_then K E) (d_law_then Ψ) := (rs_ret (re_ifE (rt_test (re_op ro_eq (re_call (ra_cons re_var (ra_cons re_int ra_nil))) re_int)) re_non (re_call (ra_cons re_var (ra_cons re_var ra_nil)))))

theorem pure_law_then (ds : List DT) (μ : Mu) (Φ : PK) (Ψ : XKd) (h : sp_law_then ds μ Φ Ψ) : dRun (d_law_then Ψ) n_law_then ds μ Φ := by
  obtain ⟨p, d, ns, rfl, hp, h1, h2, h3, h4, h⟩ := h
  refine ⟨_, rfl, p, _, rfl, hp, by decide, by decide, fun i μ1 i0 i1 r1 => .inl ⟨_, _, rfl, rfl, _, rfl, fun c => ?_, fun c => ?_⟩⟩
  · exact h none μ1 (fun s e => nomatch e) r1
  · refine ⟨_, rfl, _, rfl, p, d, _, rfl, r1.pool, lst_keep r1 h2 h1, h2, by simpa using h3, by simpa using h4, fun x hx μ2 r2 => ?_⟩
    obtain ⟨s, hs, rfl⟩ := List.mem_map.mp hx
    exact h (some s) μ2 (fun t e => by cases e; exact hs) (r1.trans r2)

/-! ### _law_updates -/
def Within (g : Int) (n : Nat) (us : List (List Int)) : Prop := ∀ u ∈ us, u.length = n ∧ ∀ c ∈ u, -g ≤ c ∧ c ≤ g
def sp_law_updates : dSp := fun ds μ Φ _ => ∃ (p : Addr) (n : Nat) (g : Int), ds = [.adr p, .int n, .int g] ∧ Pool μ p ∧ n < 100 ∧ 0 < g ∧ g < 1000 ∧ ∀ (us : List (List Int)) μ', us.length = n → Within g (n + 2) us → Drawn p μ μ' → Φ (usD us) μ'
theorem len_law_updates (ds : List DT) (μ : Mu) (Φ : PK) (Ψ : XKd) (h : sp_law_updates ds μ Φ Ψ) : ds.length = 3 := by obtain ⟨_, _, _, rfl, _⟩ := h; rfl
def d_law_updates.c1 (Ψ : XKd) : dE := (dOp dSub (dCall noX sp_law_draw (dCons (dVar 0) (dCons (dOp dAdd (dOp dMul (dC (.int 2)) (dVar 2)) (dC (.int 1))) dNil))) (dVar 2))
def d_law_updates.L1 (Ψ : XKd) : dS := (dDrop (dAppend (dVar 3) (dCons (dCB dTuple (dCons (dLc (dIRng1 (dCons (dOp dAdd (dVar 1) (dC (.int 2))) dNil)) (dName 5) dYes (d_law_updates.c1 Ψ) [5]) dNil)) dNil)))
def d_law_updates.t2 (Ψ : XKd) : dS := (dRet (dCB dTuple (dCons (dVar 3) dNil)))
def d_law_updates.t1 (Ψ : XKd) : dS := (dSeq (dFor (dIRng1 (dCons (dVar 1) dNil)) (dName 4) (d_law_updates.L1 Ψ)) (d_law_updates.t2 Ψ))
def n_law_updates : List Str := ["pool", "many", "greatest", "found", "place", "turn"]
def t_law_updates (K : Kit) (E : XK) : TS := (tSeq (tAsg (tLst tNil) (gName 3)) (tSeq (tFor (iRng1 (tCons (tVar 1) tNil)) (gName 4) (tDrop (tBM K "list" rAppend (tVar 3) (tCons (tCB (bTuple K) (tCons (tLc (iRng1 (tCons (tOp oAdd (tVar 1) (tC (.int 2))) tNil)) (gName 5) tYes (tOp oSub (tCall (lift K sp_law_draw) [] E0 (tCons (tVar 0) (tCons (tOp oAdd (tOp oMul (tC (.int 2)) (tVar 2)) (tC (.int 1))) tNil))) (tVar 2)) [5]) tNil)) tNil)))) (tRet (tCB (bTuple K) (tCons (tVar 3) tNil)))))
def d_law_updates (Ψ : XKd) : dS := (dSeq (dAsg (dLstM dNil) (dName 3)) (d_law_updates.t1 Ψ))
theorem r_law_updates {K : Kit} (E : XK) (Ψ : XKd) : RS ⟨K, E, Ψ⟩ (t_law_updates K E) (d_law_updates Ψ) := (rs_seq (rs_asg (re_lstM ra_nil) (rg_name (vs := [3]) (by decide))) (rs_seq (rs_for (ri_rng1 (ra_cons re_var ra_nil)) (rg_name (vs := [4]) (by decide)) (rs_drop (re_append re_var (ra_cons (re_cb rc_tuple (ra_cons (re_lc (vs := [5]) (ri_rng1 (ra_cons (re_op ro_add re_var re_int) ra_nil)) (rg_name (by decide)) rt_yes (re_op ro_sub (re_call (ra_cons re_var (ra_cons (re_op ro_add (re_op ro_mul re_int re_var) re_int) ra_nil))) re_var)) ra_nil)) ra_nil)))) (rs_ret (re_cb rc_tuple (ra_cons re_var ra_nil)))))

theorem comp_law_updates {Ψ : XKd} {p q : Addr} {n : Nat} {g : Int} (hg : 0 < g ∧ g < 1000) {x4 : Option DT} : ∀ (items acc : List DT) (μ : Mu) (K : List DT → Mu → Prop), Pool μ p → acc.length + items.length ≤ 1000 → (∀ (u : List Int) μ', u.length = items.length → (∀ c ∈ u, -g ≤ c ∧ c ≤ g) → Drawn p μ μ' → K (acc ++ u.map .int) μ') →
    dLcGo (dName 5) dYes (d_law_updates.c1 Ψ) [some (.adr p), some (.int n), some (.int g), some (.adr q), x4, none] items acc μ K
  | [], acc, μ, K, hp, hl, k => by
    have := k [] μ rfl (fun c hc => by cases hc) hp.drawn
    rwa [List.map_nil, List.append_nil] at this
  | x :: items, acc, μ, K, hp, hl, k => by
    refine ⟨fun _ => ?_, fun z => Bool.noConfusion z⟩
    refine ⟨_, rfl, _, rfl, _, _, rfl, rfl, .inl (by decide), _, _, rfl, rfl, p, _, rfl, hp, by omega, by omega, fun i μ1 i0 i1 r1 => ⟨_, rfl, _, _, rfl, rfl, ?_, ?_⟩⟩
    · show acc.length ≤ 1000000
      simp only [List.length_cons] at hl; omega
    · refine comp_law_updates hg items _ μ1 K r1.pool (by simp only [List.length_append, List.length_cons, List.length_nil] at hl ⊢; omega) fun u μ2 hu hc r2 => ?_
      have := k ((i - g) :: u) μ2 (by simp [hu]) (fun c hc' => by
        rcases List.mem_cons.mp hc' with rfl | hc'
        · omega
        · exact hc c hc') (r1.trans r2)
      rw [List.append_assoc]
      exact this
theorem loop_law_updates {Ψ : XKd} {p q : Addr} {n : Nat} {g : Int} (hn : n < 100) (hg : 0 < g ∧ g < 1000) (ne : q ≠ p) {μ0 : Mu} (h0 : μ0 q = none) {Φ : PK} : ∀ (items : List DT) (us : List (List Int)) (x4 : Option DT) (μ : Mu), Drawn p μ0 μ → μ q = some (.lst (us.map fun u => .tup (u.map .int))) → us.length + items.length ≤ 1000 → Within g (n + 2) us →
    (∀ (vs : List (List Int)) μ', vs.length = us.length + items.length → Within g (n + 2) vs → Drawn p μ0 μ' → Φ (usD vs) μ') →
    dLoop (dName 4) (d_law_updates.L1 Ψ) { nx := d_law_updates.t2 Ψ { nx := fun _ μ' => Φ .non μ', rt := Φ }, rt := Φ } items [some (.adr p), some (.int n), some (.int g), some (.adr q), x4, none] μ
  | [], us, x4, μ, r0, hq, hl, hw, k => by
    refine ⟨_, rfl, _, _, rfl, ?_, k us μ rfl hw r0⟩
    simp only [seqOf, hq]
  | x :: items, us, x4, μ, r0, hq, hl, hw, k => by
    refine ⟨_, rfl, q, _, rfl, hq, _, rfl, _, _, rfl, rfl, _, rfl, by omega, by omega, ?_⟩
    refine comp_law_updates hg _ _ μ _ r0.pool (by rw [rngD_len]; show 0 + _ ≤ _; omega) fun u μ1 hu hc r1 => ?_
    rw [rngD_len] at hu
    have hq1 := r1.at ne hq
    refine ⟨_, _, rfl, rfl, _, _, rfl, hq1, ?_, ?_⟩
    · show List.length _ ≤ 1000000
      rw [List.length_map]; omega
    · have hw' : Within g (n + 2) (us ++ [u]) := fun v hv => by
        rcases List.mem_append.mp hv with hv | hv
        · exact hw v hv
        · rw [List.mem_singleton.mp hv]; exact ⟨by omega, hc⟩
      refine loop_law_updates hn hg ne h0 items (us ++ [u]) _ _ ((r0.trans r1).more ne h0) ?_ ?_ hw' fun vs μ' hv hw2 r2 => k vs μ' ?_ hw2 r2
      · rw [Mu.put_same, List.map_append]; rfl
      · simp only [List.length_append, List.length_cons, List.length_nil] at hl ⊢; omega
      · rw [hv]; simp only [List.length_append, List.length_cons, List.length_nil]; omega
theorem pure_law_updates (ds : List DT) (μ : Mu) (Φ : PK) (Ψ : XKd) (h : sp_law_updates ds μ Φ Ψ) : dRun (d_law_updates Ψ) n_law_updates ds μ Φ := by
  obtain ⟨p, n, g, rfl, hp, hn, h1, h2, h⟩ := h
  refine ⟨by walk_at "sw_nn", fun q hq => ?_⟩
  refine ⟨_, rfl, _, rfl, by omega, by omega, ?_⟩
  refine loop_law_updates hn ⟨h1, h2⟩ (hp.none hq) hq _ [] _ _ (hp.drawn.new hq) Mu.put_same (by rw [rngD_len]; show 0 + _ ≤ _; omega) (fun u hu => by cases hu) fun vs μ' hv hw r => h vs μ' ?_ hw r
  rw [hv, rngD_len]; show 0 + _ = _; omega

/-! ### _law_rows -/
/-- rows as drawn -/
structure DrawnRows (rows : List Row) (size : Int) (many : Nat) (ns : List Str) : Prop where
  n : rows.length ≤ 1000
  row : ∀ r ∈ rows, RowIn r size many ns
  nd : (rows.map Row.k).Nodup
  al : (none, none) ∈ rows.map Row.k
def sp_law_rows : dSp := fun ds μ Φ _ => ∃ (p : Addr) (size : Int) (many : Nat) (ns : List Str), ds = [.adr p, .int size, .int many, .lst (ns.map .str)] ∧ Pool μ p ∧ 2 ≤ size ∧ size ≤ 10 ∧ many ≤ 3 ∧ 0 < ns.length ∧ ns.length < 1000 ∧ ∀ rows μ', DrawnRows rows size many ns → Drawn p μ μ' → Φ (.lst (rows.map rowD)) μ'
theorem len_law_rows (ds : List DT) (μ : Mu) (Φ : PK) (Ψ : XKd) (h : sp_law_rows ds μ Φ Ψ) : ds.length = 4 := by obtain ⟨_, _, _, _, rfl, _⟩ := h; rfl
theorem RowIn.of {k : RKey} {us : List (List Int)} {o : Option Str} {size : Int} {many : Nat} {ns : List Str} (h1 : ∀ i, k.1 = some i → -1 ≤ i ∧ i ≤ 1) (h2 : ∀ i, k.2 = some i → absI i < size) (h3 : us.length = many) (h4 : Within 2 (many + 2) us) (h5 : ∀ t, o = some t → t ∈ ns) : RowIn ⟨k, us, o⟩ size many ns :=
  ⟨h1, h2, ⟨h3, fun u hu => ⟨(h4 u hu).1, fun c hc => by have := (h4 u hu).2 c hc; omega⟩⟩, h5⟩
theorem Drawn.out {p q : Addr} {μ μ' : Mu} (d : Drawn p μ μ') (ne : q ≠ p) (n : μ q = none) : Drawn p μ (μ'.out q) := by
  obtain ⟨⟨c, s, e, x⟩, f⟩ := d
  exact ⟨⟨c, s, (Mu.out_ne (Ne.symm ne)).trans e, x⟩, fun a m' h h' => (Mu.out_ne fun z => by subst z; rw [n] at h'; cases h').trans (f a m' h h')⟩
def d_law_rows.L1t1 (Ψ : XKd) : dS := (dIf (dTest (dOp (dInL true) (dVar 7) (dVar 6))) (dSeq (dDrop (dAppend (dVar 6) (dCons (dVar 7) dNil))) (dDrop (dAppend (dVar 5) (dCons (dOp dCatT (dVar 7) (dTup (dCons (dCall noX sp_law_updates (dCons (dVar 0) (dCons (dVar 2) (dCons (dC (.int 2)) dNil)))) (dCons (dCall noX sp_law_then (dCons (dVar 0) (dCons (dVar 3) dNil))) dNil)))) dNil)))) dNext)
def d_law_rows.L1 (Ψ : XKd) : dS := (dSeq (dAsg (dTup (dCons (dCall noX sp_law_choose (dCons (dVar 0) (dCons (dLst (dCons (dC .non) (dCons (dUn dNeg (dC (.int 1))) (dCons (dC (.int 0)) (dCons (dC (.int 1)) dNil))))) dNil))) (dCons (dCall noX sp_law_choose (dCons (dVar 0) (dCons (dLst (dCons (dC .non) (dCons (dC (.int 0)) (dCons (dC (.int 1)) (dCons (dUn dNeg (dC (.int 1))) (dCons (dOp dSub (dVar 1) (dC (.int 1))) (dCons (dOp dSub (dC (.int 1)) (dVar 1)) dNil))))))) dNil))) dNil))) (dName 7)) (d_law_rows.L1t1 Ψ))
def d_law_rows.t3 (Ψ : XKd) : dS := (dRet (dVarF 5))
def d_law_rows.t2 (Ψ : XKd) : dS := (dSeq (dDrop (dAppend (dVar 5) (dCons (dTup (dCons (dC .non) (dCons (dC .non) (dCons (dCall noX sp_law_updates (dCons (dVar 0) (dCons (dVar 2) (dCons (dC (.int 2)) dNil)))) (dCons (dCall noX sp_law_choose (dCons (dVar 0) (dCons (dVar 3) dNil))) dNil))))) dNil))) (d_law_rows.t3 Ψ))
def d_law_rows.t1 (Ψ : XKd) : dS := (dSeq (dFor (dIRng1 (dCons (dCall noX sp_law_draw (dCons (dVar 0) (dCons (dC (.int 4)) dNil))) dNil)) (dName 4) (d_law_rows.L1 Ψ)) (d_law_rows.t2 Ψ))
def n_law_rows : List Str := ["pool", "size", "many", "names", "turn", "found", "seen", "key"]
def t_law_rows (K : Kit) (E : XK) : TS := (tSeq (tPar 5 6 (tCons (tLst tNil) (tCons (tLst (tCons (tTup (tCons (tC .non) (tCons (tC .non) tNil))) tNil)) tNil))) (tSeq (tFor (iRng1 (tCons (tCall (lift K sp_law_draw) [] E0 (tCons (tVar 0) (tCons (tC (.int 4)) tNil))) tNil)) (gName 4) (tSeq (tAsg (tTup (tCons (tCall (lift K sp_law_choose) [] E0 (tCons (tVar 0) (tCons (tLst (tCons (tC .non) (tCons (tUn oNeg (tC (.int 1))) (tCons (tC (.int 0)) (tCons (tC (.int 1)) tNil))))) tNil))) (tCons (tCall (lift K sp_law_choose) [] E0 (tCons (tVar 0) (tCons (tLst (tCons (tC .non) (tCons (tC (.int 0)) (tCons (tC (.int 1)) (tCons (tUn oNeg (tC (.int 1))) (tCons (tOp oSub (tVar 1) (tC (.int 1))) (tCons (tOp oSub (tC (.int 1)) (tVar 1)) tNil))))))) tNil))) tNil))) (gName 7)) (tIfS (tTest (tOp (rNotInD K) (tVar 7) (tVar 6))) (tSeq (tDrop (tBM K "list" rAppend (tVar 6) (tCons (tVar 7) tNil))) (tDrop (tBM K "list" rAppend (tVar 5) (tCons (tOp (rCatA K) (tVar 7) (tTup (tCons (tCall (lift K sp_law_updates) [] E0 (tCons (tVar 0) (tCons (tVar 2) (tCons (tC (.int 2)) tNil)))) (tCons (tCall (lift K sp_law_then) [] E0 (tCons (tVar 0) (tCons (tVar 3) tNil))) tNil)))) tNil)))) tNext))) (tSeq (tDrop (tBM K "list" rAppend (tVar 5) (tCons (tTup (tCons (tC .non) (tCons (tC .non) (tCons (tCall (lift K sp_law_updates) [] E0 (tCons (tVar 0) (tCons (tVar 2) (tCons (tC (.int 2)) tNil)))) (tCons (tCall (lift K sp_law_choose) [] E0 (tCons (tVar 0) (tCons (tVar 3) tNil))) tNil))))) tNil))) (tRet (tVar 5)))))
def d_law_rows (Ψ : XKd) : dS := (dSeq (dPar 5 6 (dCons (dLstM dNil) (dCons (dLstM (dCons (dTup (dCons (dC .non) (dCons (dC .non) dNil))) dNil)) dNil))) (d_law_rows.t1 Ψ))
theorem r_law_rows {K : Kit} (E : XK) (Ψ : XKd) : RS ⟨K, E, Ψ⟩ (t_law_rows K E) (d_law_rows Ψ) := (rs_seq (rs_par (ra_cons (re_lstM ra_nil) (ra_cons (re_lstM (ra_cons (re_tup (ra_cons re_non (ra_cons re_non ra_nil))) ra_nil)) ra_nil))) (rs_seq (rs_for (ri_rng1 (ra_cons (re_call (ra_cons re_var (ra_cons re_int ra_nil))) ra_nil)) (rg_name (vs := [4]) (by decide)) (rs_seq (rs_asg (re_tup (ra_cons (re_call (ra_cons re_var (ra_cons (re_lst (ra_cons re_non (ra_cons (re_un ru_neg re_int) (ra_cons re_int (ra_cons re_int ra_nil))))) ra_nil))) (ra_cons (re_call (ra_cons re_var (ra_cons (re_lst (ra_cons re_non (ra_cons re_int (ra_cons re_int (ra_cons (re_un ru_neg re_int) (ra_cons (re_op ro_sub re_var re_int) (ra_cons (re_op ro_sub re_int re_var) ra_nil))))))) ra_nil))) ra_nil))) (rg_name (vs := [7]) (by decide))) (rs_if (rt_test (re_op ro_notInL re_var re_var)) (rs_seq (rs_drop (re_append re_var (ra_cons re_var ra_nil))) (rs_drop (re_append re_var (ra_cons (re_op ro_catT re_var (re_tup (ra_cons (re_call (ra_cons re_var (ra_cons re_var (ra_cons re_int ra_nil)))) (ra_cons (re_call (ra_cons re_var (ra_cons re_var ra_nil))) ra_nil)))) ra_nil)))) rs_next))) (rs_seq (rs_drop (re_append re_var (ra_cons (re_tup (ra_cons re_non (ra_cons re_non (ra_cons (re_call (ra_cons re_var (ra_cons re_var (ra_cons re_int ra_nil)))) (ra_cons (re_call (ra_cons re_var (ra_cons re_var ra_nil))) ra_nil))))) ra_nil))) (rs_ret re_varF))))

theorem loop_law_rows {Ψ : XKd} {p q1 q2 : Addr} {size : Int} {many : Nat} {ns : List Str} (hs : 2 ≤ size ∧ size ≤ 10) (hm : many ≤ 3) (hn : 0 < ns.length ∧ ns.length < 1000) {μ0 : Mu} (h1 : μ0 q1 = none) (h2 : μ0 q2 = none) (n1 : q1 ≠ p) (n2 : q2 ≠ p) (n12 : q1 ≠ q2) {D : dEnds} :
    ∀ (items : List DT) (rows : List Row) (x4 x7 : Option DT) (μ : Mu), Drawn p μ0 μ → μ q1 = some (.lst (rows.map rowD)) → μ q2 = some (.lst (((none, none) :: rows.map Row.k).map keyD)) → rows.length + items.length ≤ 900 → (∀ r ∈ rows, RowIn r size many ns) → ((none, none) :: rows.map Row.k).Nodup →
    (∀ (rows : List Row) x4 x7 μ', rows.length ≤ 900 → (∀ r ∈ rows, RowIn r size many ns) → ((none, none) :: rows.map Row.k).Nodup → Drawn p μ0 μ' → μ' q1 = some (.lst (rows.map rowD)) → D.nx [some (.adr p), some (.int size), some (.int many), some (.lst (ns.map .str)), x4, some (.adr q1), some (.adr q2), x7] μ') →
    dLoop (dName 4) (d_law_rows.L1 Ψ) D items [some (.adr p), some (.int size), some (.int many), some (.lst (ns.map .str)), x4, some (.adr q1), some (.adr q2), x7] μ
  | [], rows, x4, x7, μ, r0, e1, e2, hl, hr, nd, k => k rows x4 x7 μ (by simpa using hl) hr nd r0 e1
  | x :: items, rows, x4, x7, μ, r0, e1, e2, hl, hr, nd, k => by
    refine ⟨_, rfl, _, rfl, by walk_at "sw_nn", p, _, _, rfl, r0.pool, rfl, (fun z => nomatch z), by decide, by decide, fun x hx μ1 r1 => ?_⟩
    refine ⟨_, rfl, _, rfl, _, rfl, _, _, rfl, rfl, _, rfl, _, _, rfl, rfl, by walk_at "sw_nn", p, _, _, rfl, r1.pool, rfl, (fun z => nomatch z), by walk_at "sw_nn", by walk_at "sw_nn", fun y hy μ2 r2 => ?_⟩
    have r02 := (r0.trans r1).trans r2
    have e1 := (r1.trans r2).at n1 e1
    have e2 := (r1.trans r2).at n2 e2
    obtain ⟨a, ha, rfl⟩ : ∃ a : Option Int, (∀ i, a = some i → -1 ≤ i ∧ i ≤ 1) ∧ x = optI a := by
      simp only [List.mem_cons, List.not_mem_nil, or_false] at hx
      rcases hx with rfl | rfl | rfl | rfl
      · exact ⟨none, (fun i e => by cases e), rfl⟩
      · exact ⟨some (-1), (fun i e => by cases e; decide), rfl⟩
      · exact ⟨some 0, (fun i e => by cases e; decide), rfl⟩
      · exact ⟨some 1, (fun i e => by cases e; decide), rfl⟩
    obtain ⟨b, hb, rfl⟩ : ∃ b : Option Int, (∀ i, b = some i → absI i < size) ∧ y = optI b := by
      simp only [List.mem_cons, List.not_mem_nil, or_false] at hy
      rcases hy with rfl | rfl | rfl | rfl | rfl | rfl
      · exact ⟨none, (fun i e => by cases e), rfl⟩
      · exact ⟨some 0, (fun i e => by cases e; unfold absI; split <;> omega), rfl⟩
      · exact ⟨some 1, (fun i e => by cases e; unfold absI; split <;> omega), rfl⟩
      · exact ⟨some (-1), (fun i e => by cases e; unfold absI; split <;> omega), rfl⟩
      · exact ⟨some (size - 1), (fun i e => by cases e; unfold absI; split <;> omega), rfl⟩
      · exact ⟨some (1 - size), (fun i e => by cases e; unfold absI; split <;> omega), rfl⟩
    simp only [List.length_cons] at hl
    refine ⟨by walk_at "sw_nn", ?_⟩
    refine ⟨_, rfl, _, rfl, _, (by simp only [lstOf, e2]), ok7_keyD (a, b), ok7_keys ((none, none) :: rows.map Row.k), _, rfl, (fun c => ?_), fun _ => ?_⟩
    · have c' : (!inD (keyD (a, b)) (((none, none) :: rows.map Row.k).map keyD)) = true := c
      rw [inD_keys] at c'
      have out : (a, b) ∉ (none, none) :: rows.map Row.k := fun z => by rw [decide_eq_true z] at c'; cases c'
      refine ⟨_, rfl, q2, _, rfl, e2, _, rfl, _, _, rfl, e2, ?_, ?_⟩
      · show List.length _ ≤ 1000000
        simp only [List.length_map, List.length_cons]; omega
      have e1' : (μ2.put q2 (.lst (((none, none) :: rows.map Row.k).map keyD ++ [keyD (a, b)]))) q1 = some (.lst (rows.map rowD)) := (Mu.put_ne n12).trans e1
      have r3 := r02.more (m := .lst (((none, none) :: rows.map Row.k).map keyD ++ [keyD (a, b)])) n2 h2
      refine ⟨_, rfl, q1, _, rfl, e1', _, rfl, _, rfl, _, rfl, p, many, 2, rfl, r3.pool, by omega, by decide, by decide, fun us μ4 hu hw r4 => ?_⟩
      refine ⟨_, rfl, _, rfl, p, _, ns, rfl, r4.pool, rfl, (fun z => nomatch z), hn.1, hn.2, fun o μ5 ho r5 => ?_⟩
      refine ⟨by walk_at "sw_nn", _, _, rfl, rfl, by walk_at "sw_nn", _, _, rfl, (r4.trans r5).at n1 e1', ?_, ?_⟩
      · show List.length _ ≤ 1000000
        rw [List.length_map]; omega
      refine loop_law_rows hs hm hn h1 h2 n1 n2 n12 items (rows ++ [⟨(a, b), us, o⟩]) _ _ _ (((r3.trans r4).trans r5).more n1 h1) ?_ ?_ ?_ ?_ ?_ k
      · rw [Mu.put_same, List.map_append]; rfl
      · rw [Mu.put_ne (Ne.symm n12), (r4.trans r5).at n2 Mu.put_same]
        simp only [List.map_append, List.map_cons, List.map_nil, List.cons_append]
        rfl
      · simp only [List.length_append, List.length_cons, List.length_nil]; omega
      · intro r hr'
        rcases List.mem_append.mp hr' with h | h
        · exact hr r h
        · rw [List.mem_singleton.mp h]
          exact RowIn.of ha hb hu hw ho
      · have e : (none, none) :: (rows ++ [(⟨(a, b), us, o⟩ : Row)]).map Row.k = ((none, none) :: rows.map Row.k) ++ [(a, b)] := by simp
        rw [e]
        refine List.nodup_append.mpr ⟨nd, by simp, fun z hz w hw' => ?_⟩
        rw [List.mem_singleton.mp hw']
        exact fun e => out (e ▸ hz)
    · exact loop_law_rows hs hm hn h1 h2 n1 n2 n12 items rows _ _ _ r02 e1 e2 (by omega) hr nd k
theorem pure_law_rows (ds : List DT) (μ : Mu) (Φ : PK) (Ψ : XKd) (h : sp_law_rows ds μ Φ Ψ) : dRun (d_law_rows Ψ) n_law_rows ds μ Φ := by
  obtain ⟨p, size, many, ns, rfl, hp, s1, s2, hm, hn1, hn2, h⟩ := h
  refine ⟨by walk_at "sw_nn", fun q1 h1 => ⟨by walk_at "sw_nn", by walk_at "sw_nn", fun q2 h2 => ⟨_, _, rfl, ?_⟩⟩⟩
  have n12 : q1 ≠ q2 := fun z => by subst z; rw [Mu.put_same] at h2; cases h2
  have h2' : μ q2 = none := (Mu.put_ne (Ne.symm n12)).symm.trans h2
  have r0 : Drawn p μ ((μ.put q1 (.lst [])).put q2 (.lst [keyD (none, none)])) := (hp.drawn.new h1).new h2
  have n1 := hp.none h1
  have n2 := hp.none h2'
  refine ⟨_, rfl, p, 4, rfl, r0.pool, by decide, by decide, fun i μ1 i0 i1 r1 => ⟨i, rfl, by omega, by omega, ?_⟩⟩
  refine loop_law_rows ⟨s1, s2⟩ hm ⟨hn1, hn2⟩ h1 h2' n1 n2 n12 _ [] _ _ _ (r0.trans r1) (r1.at n1 ((Mu.put_ne n12).trans Mu.put_same)) (r1.at n2 Mu.put_same) (by rw [rngD_len]; show 0 + _ ≤ _; omega) (fun r hr => by cases hr) (by simp) fun rows x4 x7 μ2 hl hr nd r2 e1 => ?_
  refine ⟨_, rfl, q1, _, rfl, e1, _, rfl, _, rfl, p, many, 2, rfl, r2.pool, by omega, by decide, by decide, fun us μ3 hu hw r3 => ?_⟩
  refine ⟨_, rfl, _, rfl, p, _, _, rfl, r3.pool, rfl, (fun z => nomatch z), by rw [List.length_map]; exact hn1, by rw [List.length_map]; exact hn2, fun t ht μ4 r4 => ?_⟩
  obtain ⟨t, ht', rfl⟩ := List.mem_map.mp ht
  refine ⟨by walk_at "sw_nn", _, _, rfl, (r3.trans r4).at n1 e1, ?_, ?_⟩
  · show List.length _ ≤ 1000000
    rw [List.length_map]; omega
  refine ⟨q1, _, rfl, Mu.put_same, ?_⟩
  have nd' : ((rows ++ [(⟨(none, none), us, some t⟩ : Row)]).map Row.k).Nodup := by
    rw [List.map_append]
    rw [List.nodup_cons] at nd
    refine List.nodup_append.mpr ⟨nd.2, by simp, fun z hz w hw' => ?_⟩
    have e := List.mem_singleton.mp hw'
    subst e
    exact fun (e : z = (none, none)) => nd.1 (by rw [← e]; exact hz)
  have := h (rows ++ [⟨(none, none), us, some t⟩]) ((μ4.put q1 (.lst (rows.map rowD ++ [rowD ⟨(none, none), us, some t⟩]))).out q1) ⟨?_, ?_, nd', ?_⟩ (((((r2.trans r3).trans r4).more n1 h1)).out n1 h1)
  · rw [List.map_append] at this; exact this
  · simp only [List.length_append, List.length_cons, List.length_nil]; omega
  · intro r hr'
    rcases List.mem_append.mp hr' with hh | hh
    · exact hr r hh
    · rw [List.mem_singleton.mp hh]
      exact RowIn.of (fun i e => by cases e) (fun i e => by cases e) hu hw (fun s e => by cases e; exact ht')
  · simp

/-! ### _law_parts -/
def sp_law_parts : dSp := fun ds μ Φ _ => ∃ (p : Addr) (szs : List Int) (most : Int), ds = [.adr p, .lst (szs.map .int), .int most] ∧ Pool μ p ∧ 0 < szs.length ∧ szs.length < 1000 ∧ (∀ s ∈ szs, 2 ≤ s ∧ s ≤ 10) ∧ 1 ≤ most ∧ most ≤ 3 ∧ ∀ P μ', Good P → (P.base.natAbs : Int) ∈ szs → Drawn p μ μ' → Φ (partsD P) μ'
theorem len_law_parts (ds : List DT) (μ : Mu) (Φ : PK) (Ψ : XKd) (h : sp_law_parts ds μ Φ Ψ) : ds.length = 3 := by obtain ⟨_, _, _, rfl, _⟩ := h; rfl
theorem zip_up : ∀ {es : List Int}, es.Pairwise (· < ·) → ∀ p ∈ es.zip (es.drop 1), p.1 < p.2
  | [], _, p, hp => by simp at hp
  | [a], _, p, hp => by simp at hp
  | a :: b :: es, h, p, hp => by
    have e : (a :: b :: es).zip ((a :: b :: es).drop 1) = (a, b) :: (b :: es).zip ((b :: es).drop 1) := rfl
    rw [e] at hp
    rw [List.pairwise_cons] at h
    rcases List.mem_cons.mp hp with rfl | hp
    · exact h.1 b (.head _)
    · exact zip_up h.2 p hp
/-- what is known of a mode as drawn -/
structure DrawnMode (m : Mode) (size : Int) (many : Nat) (ns : List Str) : Prop where
  rows : DrawnRows m.rows size many ns
def ruleXs : List DT := [.str "down", .str "up", .str "zero", .str "positive", .str "near"]
theorem ruleXs_mem {d : DT} (h : d ∈ ruleXs) : ∃ r, d = .str (rname r) := by
  simp only [ruleXs, List.mem_cons, List.not_mem_nil, or_false] at h
  rcases h with rfl | rfl | rfl | rfl | rfl
  · exact ⟨.down, rfl⟩
  · exact ⟨.up, rfl⟩
  · exact ⟨.zero, rfl⟩
  · exact ⟨.positive, rfl⟩
  · exact ⟨.near, rfl⟩
/-- names as drawn -/
structure NamesOk (ns : List Str) : Prop where
  n : 1 ≤ ns.length ∧ ns.length ≤ 3
  nm : ∀ s ∈ ns, nameD s = true ∧ s.length ≤ 1000
  nd : ns.Nodup
structure RegsIn (rs : List (Str × Int)) (many : Nat) : Prop where
  n : rs.length = many
  m : 1 ≤ many ∧ many ≤ 3
  nm : ∀ r ∈ rs, nameD r.1 = true ∧ r.1.length ≤ 1000 ∧ -1000000 ≤ r.2 ∧ r.2 ≤ 1000000
  nd : (rs.map Prod.fst).Nodup
def d_law_parts.c1 (Ψ : XKd) : dE := (dTup (dCons (dOp dIx (dLst (dCons (dC (.str "s")) (dCons (dC (.str "p")) dNil))) (dVar 11)) (dCons (dOp dSub (dCall noX sp_law_draw (dCons (dVar 0) (dCons (dC (.int 5)) dNil))) (dC (.int 2))) dNil)))
def d_law_parts.c2 (Ψ : XKd) : dE := (dTup (dCons (dVar 12) (dCons (dCall noX sp_law_choose (dCons (dVar 0) (dCons (dVar 7) dNil))) (dCons (dCall noX sp_law_rows (dCons (dVar 0) (dCons (dVar 3) (dCons (dVar 4) (dCons (dVar 5) dNil))))) dNil))))
def d_law_parts.c3 (Ψ : XKd) : dE := (dVar 13)
def d_law_parts.c4 (Ψ : XKd) : dE := (dOp dSub (dCall noX sp_law_draw (dCons (dVar 0) (dCons (dC (.int 5)) dNil))) (dC (.int 2)))
def d_law_parts.t8 (Ψ : XKd) : dS := (dRet (dLst (dCons (dCall noX sp_law_choose (dCons (dVar 0) (dCons (dLst (dCons (dVar 3) (dCons (dVar 3) (dCons (dOp dSub (dC (.int 0)) (dVar 3)) dNil)))) dNil))) (dCons (dVar 6) (dCons (dVar 8) (dCons (dVar 9) (dCons (dVar 10) dNil)))))))
def d_law_parts.t7 (Ψ : XKd) : dS := (dSeq (dAsg (dCB dTuple (dCons (dLc (dIRng1 (dCons (dOp dAdd (dVar 4) (dC (.int 1))) dNil)) (dName 14) dYes (d_law_parts.c4 Ψ) [14]) dNil)) (dName 10)) (d_law_parts.t8 Ψ))
def d_law_parts.t6 (Ψ : XKd) : dS := (dSeq (dAsg (dLc (dIRng2 (dCons (dOp dSub (dC (.int 1)) (dVar 3)) (dCons (dVar 3) dNil))) (dName 13) (dOr (dTest (dOp dEq (dVar 13) (dC (.int 0)))) (dTest (dOp dEq (dCall noX sp_law_draw (dCons (dVar 0) (dCons (dC (.int 3)) dNil))) (dC (.int 0))))) (d_law_parts.c3 Ψ) [13]) (dName 9)) (d_law_parts.t7 Ψ))
def d_law_parts.t5 (Ψ : XKd) : dS := (dSeq (dAsg (dLc (dIList (dVar 5)) (dName 12) dYes (d_law_parts.c2 Ψ) [12]) (dName 8)) (d_law_parts.t6 Ψ))
def d_law_parts.t4 (Ψ : XKd) : dS := (dSeq (dAsg (dLst (dCons (dC (.str "down")) (dCons (dC (.str "up")) (dCons (dC (.str "zero")) (dCons (dC (.str "positive")) (dCons (dC (.str "near")) dNil)))))) (dName 7)) (d_law_parts.t5 Ψ))
def d_law_parts.t3 (Ψ : XKd) : dS := (dSeq (dAsg (dLc (dIRng1 (dCons (dVar 4) dNil)) (dName 11) dYes (d_law_parts.c1 Ψ) [11]) (dName 6)) (d_law_parts.t4 Ψ))
def d_law_parts.t2 (Ψ : XKd) : dS := (dSeq (dAsg (dSl dSlL (dLst (dCons (dC (.str "m")) (dCons (dC (.str "k")) (dCons (dC (.str "zz")) dNil)))) dNoPart (dPart (dOp dAdd (dC (.int 1)) (dCall noX sp_law_draw (dCons (dVar 0) (dCons (dVar 2) dNil)))))) (dName 5)) (d_law_parts.t3 Ψ))
def d_law_parts.t1 (Ψ : XKd) : dS := (dSeq (dAsg (dOp dAdd (dC (.int 1)) (dCall noX sp_law_draw (dCons (dVar 0) (dCons (dC (.int 2)) dNil)))) (dName 4)) (d_law_parts.t2 Ψ))
def n_law_parts : List Str := ["pool", "sizes", "most", "size", "many", "names", "registers", "rules", "modes", "finals", "goal", "at", "name", "x", "turn"]
def t_law_parts (K : Kit) (E : XK) : TS := (tSeq (tAsg (tCall (lift K sp_law_choose) [] E0 (tCons (tVar 0) (tCons (tVar 1) tNil))) (gName 3)) (tSeq (tAsg (tOp oAdd (tC (.int 1)) (tCall (lift K sp_law_draw) [] E0 (tCons (tVar 0) (tCons (tC (.int 2)) tNil)))) (gName 4)) (tSeq (tAsg (tSl (rSlL K) (tLst (tCons (tC (.str "m")) (tCons (tC (.str "k")) (tCons (tC (.str "zz")) tNil)))) tNoPart (tPart (tOp oAdd (tC (.int 1)) (tCall (lift K sp_law_draw) [] E0 (tCons (tVar 0) (tCons (tVar 2) tNil)))))) (gName 5)) (tSeq (tAsg (tLc (iRng1 (tCons (tVar 4) tNil)) (gName 11) tYes (tTup (tCons (tOp (rIx K) (tLst (tCons (tC (.str "s")) (tCons (tC (.str "p")) tNil))) (tVar 11)) (tCons (tOp oSub (tCall (lift K sp_law_draw) [] E0 (tCons (tVar 0) (tCons (tC (.int 5)) tNil))) (tC (.int 2))) tNil))) [11]) (gName 6)) (tSeq (tAsg (tLst (tCons (tC (.str "down")) (tCons (tC (.str "up")) (tCons (tC (.str "zero")) (tCons (tC (.str "positive")) (tCons (tC (.str "near")) tNil)))))) (gName 7)) (tSeq (tAsg (tLc (iList K (tVar 5)) (gName 12) tYes (tTup (tCons (tVar 12) (tCons (tCall (lift K sp_law_choose) [] E0 (tCons (tVar 0) (tCons (tVar 7) tNil))) (tCons (tCall (lift K sp_law_rows) [] E0 (tCons (tVar 0) (tCons (tVar 3) (tCons (tVar 4) (tCons (tVar 5) tNil))))) tNil)))) [12]) (gName 8)) (tSeq (tAsg (tLc (iRng2 (tCons (tOp oSub (tC (.int 1)) (tVar 3)) (tCons (tVar 3) tNil))) (gName 13) (tOr (tTest (tOp rEq (tVar 13) (tC (.int 0)))) (tTest (tOp rEq (tCall (lift K sp_law_draw) [] E0 (tCons (tVar 0) (tCons (tC (.int 3)) tNil))) (tC (.int 0))))) (tVar 13) [13]) (gName 9)) (tSeq (tAsg (tCB (bTuple K) (tCons (tLc (iRng1 (tCons (tOp oAdd (tVar 4) (tC (.int 1))) tNil)) (gName 14) tYes (tOp oSub (tCall (lift K sp_law_draw) [] E0 (tCons (tVar 0) (tCons (tC (.int 5)) tNil))) (tC (.int 2))) [14]) tNil)) (gName 10)) (tRet (tLst (tCons (tCall (lift K sp_law_choose) [] E0 (tCons (tVar 0) (tCons (tLst (tCons (tVar 3) (tCons (tVar 3) (tCons (tOp oSub (tC (.int 0)) (tVar 3)) tNil)))) tNil))) (tCons (tVar 6) (tCons (tVar 8) (tCons (tVar 9) (tCons (tVar 10) tNil)))))))))))))))
def d_law_parts (Ψ : XKd) : dS := (dSeq (dAsg (dCall noX sp_law_choose (dCons (dVar 0) (dCons (dVar 1) dNil))) (dName 3)) (d_law_parts.t1 Ψ))
theorem r_law_parts {K : Kit} (E : XK) (Ψ : XKd) : RS ⟨K, E, Ψ⟩ (t_law_parts K E) (d_law_parts Ψ) := (rs_seq (rs_asg (re_call (ra_cons re_var (ra_cons re_var ra_nil))) (rg_name (vs := [3]) (by decide))) (rs_seq (rs_asg (re_op ro_add re_int (re_call (ra_cons re_var (ra_cons re_int ra_nil)))) (rg_name (vs := [4]) (by decide))) (rs_seq (rs_asg (re_sl rsl_l (re_lst (ra_cons re_str (ra_cons re_str (ra_cons re_str ra_nil)))) rp_no (rp_part (re_op ro_add re_int (re_call (ra_cons re_var (ra_cons re_var ra_nil)))))) (rg_name (vs := [5]) (by decide))) (rs_seq (rs_asg (re_lc (vs := [11]) (ri_rng1 (ra_cons re_var ra_nil)) (rg_name (by decide)) rt_yes (re_tup (ra_cons (re_op ro_ix (re_lst (ra_cons re_str (ra_cons re_str ra_nil))) re_var) (ra_cons (re_op ro_sub (re_call (ra_cons re_var (ra_cons re_int ra_nil))) re_int) ra_nil)))) (rg_name (vs := [6]) (by decide))) (rs_seq (rs_asg (re_lst (ra_cons re_str (ra_cons re_str (ra_cons re_str (ra_cons re_str (ra_cons re_str ra_nil)))))) (rg_name (vs := [7]) (by decide))) (rs_seq (rs_asg (re_lc (vs := [12]) (ri_list re_var) (rg_name (by decide)) rt_yes (re_tup (ra_cons re_var (ra_cons (re_call (ra_cons re_var (ra_cons re_var ra_nil))) (ra_cons (re_call (ra_cons re_var (ra_cons re_var (ra_cons re_var (ra_cons re_var ra_nil))))) ra_nil))))) (rg_name (vs := [8]) (by decide))) (rs_seq (rs_asg (re_lc (vs := [13]) (ri_rng2 (ra_cons (re_op ro_sub re_int re_var) (ra_cons re_var ra_nil))) (rg_name (by decide)) (rt_or (rt_test (re_op ro_eq re_var re_int)) (rt_test (re_op ro_eq (re_call (ra_cons re_var (ra_cons re_int ra_nil))) re_int))) re_var) (rg_name (vs := [9]) (by decide))) (rs_seq (rs_asg (re_cb rc_tuple (ra_cons (re_lc (vs := [14]) (ri_rng1 (ra_cons (re_op ro_add re_var re_int) ra_nil)) (rg_name (by decide)) rt_yes (re_op ro_sub (re_call (ra_cons re_var (ra_cons re_int ra_nil))) re_int)) ra_nil)) (rg_name (vs := [10]) (by decide))) (rs_ret (re_lst (ra_cons (re_call (ra_cons re_var (ra_cons (re_lst (ra_cons re_var (ra_cons re_var (ra_cons (re_op ro_sub re_int re_var) ra_nil)))) ra_nil))) (ra_cons re_var (ra_cons re_var (ra_cons re_var (ra_cons re_var ra_nil)))))))))))))))

theorem parts_goal {Ψ : XKd} {p : Addr} {x14 : Option DT} {A0 A1 A2 A3 A4 A5 A6 A7 A8 A9 A10 A11 A12 : Option DT} : ∀ (items acc : List DT) (μ : Mu) (K : List DT → Mu → Prop), Pool μ p → acc.length + items.length ≤ 1000 → (∀ (u : List Int) μ', u.length = items.length → (∀ c ∈ u, -1000000 ≤ c ∧ c ≤ 1000000) → Drawn p μ μ' → K (acc ++ u.map .int) μ') →
    dLcGo (dName 14) dYes (d_law_parts.c4 Ψ) [some (.adr p), A0, A1, A2, A3, A4, A5, A6, A7, A8, A9, A10, A11, A12, x14] items acc μ K
  | [], acc, μ, K, hp, hl, k => by
    have := k [] μ rfl (fun c hc => by cases hc) hp.drawn
    rwa [List.map_nil, List.append_nil] at this
  | x :: items, acc, μ, K, hp, hl, k => by
    refine ⟨fun _ => ?_, fun z => Bool.noConfusion z⟩
    refine ⟨_, rfl, p, _, rfl, hp, by decide, by decide, fun i μ1 i0 i1 r1 => ⟨_, _, rfl, rfl, ?_, ?_⟩⟩
    · show acc.length ≤ 1000000
      simp only [List.length_cons] at hl; omega
    · refine parts_goal items _ μ1 K r1.pool (by simp only [List.length_append, List.length_cons, List.length_nil] at hl ⊢; omega) fun u μ2 hu hc r2 => ?_
      have := k ((i - 2) :: u) μ2 (by simp [hu]) (fun c hc' => by
        rcases List.mem_cons.mp hc' with rfl | hc'
        · omega
        · exact hc c hc') (r1.trans r2)
      rw [List.append_assoc]
      exact this
theorem parts_t7 {Ψ : XKd} {p : Addr} {B : Option DT} {C : Option DT} {size : Int} {many : Nat} {ns : List Str} {rs : List (Str × Int)} {R : Option DT} {ms : List Mode} {es : List Int} {a10 a11 a12 a13 a14 : Option DT} {μ0 μ : Mu} {Φ : PK}
    (hs : 2 ≤ size ∧ size ≤ 10) (hn : NamesOk ns) (hr : RegsIn rs many) (hm : ms.map Mode.nm = ns) (hm2 : ∀ m ∈ ms, DrawnRows m.rows size many ns) (he : es.Pairwise (· < ·)) (he2 : ∀ e ∈ es, absI e < size) (he3 : es.length ≤ 1000) (r0 : Drawn p μ0 μ) (k : ∀ P μ', Good P → (P.base.natAbs : Int) = size → Drawn p μ0 μ' → Φ (partsD P) μ') :
    d_law_parts.t7 Ψ { nx := fun _ μ' => Φ .non μ', rt := Φ } [some (.adr p), B, C, some (.int size), some (.int many), some (.lst (ns.map .str)), some (.lst (rs.map regD)), R, some (.lst (ms.map modeD)), some (.lst (es.map .int)), a10, a11, a12, a13, a14] μ := by
  refine ⟨_, rfl, _, _, rfl, rfl, _, rfl, by have := hr.m; omega, by have := hr.m; omega, ?_⟩
  refine parts_goal _ [] μ _ r0.pool (by rw [rngD_len]; have := hr.m; show 0 + _ ≤ _; omega) fun goal μ1 hg hg2 r1 => ?_
  rw [rngD_len] at hg
  refine ⟨_, _, rfl, rfl, ?_⟩
  refine ⟨_, rfl, _, rfl, _, rfl, _, rfl, _, _, rfl, rfl, by walk_at "sw_nn", p, _, _, rfl, r1.pool, rfl, (fun z => nomatch z), by walk_at "sw_nn", by walk_at "sw_nn", fun x hx μ2 r2 => ?_⟩
  obtain ⟨b, hb, rfl⟩ : ∃ b : Int, b.natAbs = size.natAbs ∧ x = .int b := by
    simp only [List.mem_cons, List.not_mem_nil, or_false] at hx
    rcases hx with rfl | rfl | rfl
    · exact ⟨size, rfl, rfl⟩
    · exact ⟨size, rfl, rfl⟩
    · exact ⟨0 - size, by omega, rfl⟩
  refine ⟨_, rfl, _, rfl, _, rfl, _, rfl, by walk_at "sw_nn", ?_⟩
  have eb : absI b = size := by rw [absI_abs, hb]; omega
  have hml : ms.length = ns.length := by rw [← hm, List.length_map]
  refine k ⟨b, rs, ms, es, goal⟩ μ2 ?_ (by show (b.natAbs : Int) = size; omega) ((r0.trans r1).trans r2)
  refine ⟨by show 2 ≤ b.natAbs ∧ b.natAbs ≤ 10; omega, ?_, hr.nm, hr.nd, ?_, fun m hm' => hn.nm m.nm (hm ▸ List.mem_map_of_mem hm'), ?_, fun m hm' => (hm2 m hm').n, fun m hm' r hr' => ?_, fun m hm' => (hm2 m hm').nd, fun m hm' => (hm2 m hm').al, ⟨he3, fun e he' => ?_, zip_up he⟩, ?_, hg2⟩
  · show 1 ≤ rs.length ∧ rs.length ≤ 3
    rw [hr.n]; exact hr.m
  · show 1 ≤ ms.length ∧ ms.length ≤ 4
    have := hn.n; omega
  · show (ms.map Mode.nm).Nodup
    rw [hm]; exact hn.nd
  · show RowIn r (absI b) rs.length (ms.map Mode.nm)
    rw [eb, hr.n, hm]
    exact (hm2 m hm').row r hr'
  · show absI e < absI b
    rw [eb]; exact he2 e he'
  · show goal.length = rs.length + 1
    rw [hg, hr.n]; omega
theorem parts_ends {Ψ : XKd} {p : Addr} {x13 : Option DT} {A0 A1 A2 A3 A4 A5 A6 A7 A8 A9 A10 A11 A12 : Option DT} : ∀ (is : List Int) (acc : List DT) (μ : Mu) (K : List DT → Mu → Prop), Pool μ p → acc.length + is.length ≤ 1000 → (∀ (es : List Int) μ', es.Sublist is → Drawn p μ μ' → K (acc ++ es.map .int) μ') →
    dLcGo (dName 13) (dOr (dTest (dOp dEq (dVar 13) (dC (.int 0)))) (dTest (dOp dEq (dCall noX sp_law_draw (dCons (dVar 0) (dCons (dC (.int 3)) dNil))) (dC (.int 0))))) (d_law_parts.c3 Ψ) [some (.adr p), A0, A1, A2, A3, A4, A5, A6, A7, A8, A9, A10, A11, x13, A12] (is.map .int) acc μ K
  | [], acc, μ, K, hp, hl, k => by
    have := k [] μ (.slnil) hp.drawn
    rwa [List.map_nil, List.append_nil] at this
  | x :: is, acc, μ, K, hp, hl, k => by
    have take : ∀ μ1, Drawn p μ μ1 → d_law_parts.c3 Ψ ([some (.adr p), A0, A1, A2, A3, A4, A5, A6, A7, A8, A9, A10, A11, some (.int x), A12]) μ1 fun y μ3 => Small acc ∧ dLcGo (dName 13) (dOr (dTest (dOp dEq (dVar 13) (dC (.int 0)))) (dTest (dOp dEq (dCall noX sp_law_draw (dCons (dVar 0) (dCons (dC (.int 3)) dNil))) (dC (.int 0))))) (d_law_parts.c3 Ψ) [some (.adr p), A0, A1, A2, A3, A4, A5, A6, A7, A8, A9, A10, A11, x13, A12] (is.map .int) (acc ++ [y]) μ3 K := by
      intro μ1 r1
      refine ⟨_, rfl, ?_, ?_⟩
      · show acc.length ≤ 1000000
        simp only [List.length_cons] at hl; omega
      · refine parts_ends is _ μ1 K r1.pool (by simp only [List.length_append, List.length_cons, List.length_nil] at hl ⊢; omega) fun es μ2 he r2 => ?_
        have := k (x :: es) μ2 (he.cons₂ x) (r1.trans r2)
        rw [List.append_assoc]; exact this
    refine ⟨_, rfl, .inl ⟨_, _, rfl, rfl, _, rfl, fun c => ⟨fun _ => take μ hp.drawn, fun z => Bool.noConfusion z⟩, fun c => ?_⟩⟩
    refine ⟨_, rfl, p, _, rfl, hp, by decide, by decide, fun i μ1 i0 i1 r1 => .inl ⟨_, _, rfl, rfl, _, rfl, fun c => take μ1 r1, fun c => ?_⟩⟩
    exact parts_ends is _ μ1 K r1.pool (by simp only [List.length_cons] at hl; omega) fun es μ2 he r2 => k es μ2 (he.cons x) (r1.trans r2)
theorem rngD_ints (lo : Int) (n : Nat) : rngD lo n = ((List.range n).map fun i : Nat => lo + (i : Int)).map .int := by
  unfold rngD; rw [List.map_map]; rfl
theorem rng_up (lo : Int) (n : Nat) : ((List.range n).map fun i : Nat => lo + (i : Int)).Pairwise (· < ·) := by
  rw [List.pairwise_map]
  exact List.pairwise_lt_range.imp fun h => by omega
theorem parts_t6 {Ψ : XKd} {p : Addr} {B : Option DT} {C : Option DT} {size : Int} {many : Nat} {ns : List Str} {rs : List (Str × Int)} {R : Option DT} {ms : List Mode} {a9 a10 a11 a12 a13 a14 : Option DT} {μ0 μ : Mu} {Φ : PK}
    (hs : 2 ≤ size ∧ size ≤ 10) (hn : NamesOk ns) (hr : RegsIn rs many) (hm : ms.map Mode.nm = ns) (hm2 : ∀ m ∈ ms, DrawnRows m.rows size many ns) (r0 : Drawn p μ0 μ) (k : ∀ P μ', Good P → (P.base.natAbs : Int) = size → Drawn p μ0 μ' → Φ (partsD P) μ') :
    d_law_parts.t6 Ψ { nx := fun _ μ' => Φ .non μ', rt := Φ } [some (.adr p), B, C, some (.int size), some (.int many), some (.lst (ns.map .str)), some (.lst (rs.map regD)), R, some (.lst (ms.map modeD)), a9, a10, a11, a12, a13, a14] μ := by
  refine ⟨_, rfl, _, _, rfl, rfl, _, rfl, _, _, rfl, by omega, ?_⟩
  rw [rngD_ints]
  refine parts_ends _ [] μ _ r0.pool (by rw [List.length_map, List.length_range]; show 0 + _ ≤ _; omega) fun es μ1 he r1 => ?_
  refine parts_t7 hs hn hr hm hm2 (List.Pairwise.sublist he (rng_up _ _)) (fun e hh => ?_) ?_ (r0.trans r1) k
  · obtain ⟨i, hi, rfl⟩ := List.mem_map.mp (he.subset hh)
    have := List.mem_range.mp hi
    rw [absI_abs]; omega
  · have := he.length_le
    rw [List.length_map, List.length_range] at this; omega
theorem parts_modes {Ψ : XKd} {p : Addr} {size : Int} {many : Nat} {ns : List Str} (hs : 2 ≤ size ∧ size ≤ 10) (hm : many ≤ 3) (hn : 0 < ns.length ∧ ns.length < 1000) {x12 : Option DT} {A0 A1 A6 A8 A9 A10 A11 A13 A14 : Option DT} : ∀ (todo : List Str) (acc : List DT) (μ : Mu) (K : List DT → Mu → Prop), Pool μ p → acc.length + todo.length ≤ 1000 →
    (∀ (ms : List Mode) μ', ms.map Mode.nm = todo → (∀ m ∈ ms, DrawnRows m.rows size many ns) → Drawn p μ μ' → K (acc ++ ms.map modeD) μ') →
    dLcGo (dName 12) dYes (d_law_parts.c2 Ψ) [some (.adr p), A0, A1, some (.int size), some (.int many), some (.lst (ns.map .str)), A6, some (.lst ruleXs), A8, A9, A10, A11, x12, A13, A14] (todo.map .str) acc μ K
  | [], acc, μ, K, hp, hl, k => by
    have := k [] μ rfl (fun m hm => by cases hm) hp.drawn
    rwa [List.map_nil, List.append_nil] at this
  | s :: todo, acc, μ, K, hp, hl, k => by
    refine ⟨fun _ => ?_, fun z => Bool.noConfusion z⟩
    refine ⟨_, rfl, _, rfl, _, rfl, p, _, ruleXs, rfl, hp, rfl, (fun z => nomatch z), by decide, by decide, fun x hx μ1 r1 => ?_⟩
    obtain ⟨r, rfl⟩ := ruleXs_mem hx
    refine ⟨_, rfl, _, rfl, _, rfl, _, rfl, p, size, many, ns, rfl, r1.pool, hs.1, hs.2, hm, hn.1, hn.2, fun rows μ2 hr r2 => ?_⟩
    refine ⟨by walk_at "sw_nn", ?_, ?_⟩
    · show acc.length ≤ 1000000
      simp only [List.length_cons] at hl; omega
    · refine parts_modes hs hm hn todo _ μ2 K r2.pool (by simp only [List.length_append, List.length_cons, List.length_nil] at hl ⊢; omega) fun ms μ3 h1 h2 r3 => ?_
      have := k (⟨s, r, rows⟩ :: ms) μ3 (by rw [List.map_cons, h1]) (fun m hm => by
        rcases List.mem_cons.mp hm with rfl | hm
        · exact hr
        · exact h2 m hm) ((r1.trans r2).trans r3)
      rw [List.append_assoc]; exact this
theorem parts_t4 {Ψ : XKd} {p : Addr} {B : Option DT} {C : Option DT} {size : Int} {many : Nat} {ns : List Str} {rs : List (Str × Int)} {a7 a8 a9 a10 a11 a12 a13 a14 : Option DT} {μ0 μ : Mu} {Φ : PK}
    (hs : 2 ≤ size ∧ size ≤ 10) (hn : NamesOk ns) (hr : RegsIn rs many) (r0 : Drawn p μ0 μ) (k : ∀ P μ', Good P → (P.base.natAbs : Int) = size → Drawn p μ0 μ' → Φ (partsD P) μ') :
    d_law_parts.t4 Ψ { nx := fun _ μ' => Φ .non μ', rt := Φ } [some (.adr p), B, C, some (.int size), some (.int many), some (.lst (ns.map .str)), some (.lst (rs.map regD)), a7, a8, a9, a10, a11, a12, a13, a14] μ := by
  refine ⟨by walk_at "sw_nn", ?_⟩
  refine ⟨_, rfl, _, rfl, ?_⟩
  have := hn.n
  refine parts_modes hs hr.m.2 (by omega) ns [] μ _ r0.pool (by show 0 + _ ≤ _; omega) fun ms μ1 h1 h2 r1 => ?_
  exact parts_t6 hs hn hr h1 h2 (r0.trans r1) k
theorem parts_t3 {Ψ : XKd} {p : Addr} {B : Option DT} {C : Option DT} {size : Int} {many : Nat} {ns : List Str} {μ0 μ : Mu} {Φ : PK}
    (hs : 2 ≤ size ∧ size ≤ 10) (hn : NamesOk ns) (hm : many = 1 ∨ many = 2) (r0 : Drawn p μ0 μ) (k : ∀ P μ', Good P → (P.base.natAbs : Int) = size → Drawn p μ0 μ' → Φ (partsD P) μ') :
    d_law_parts.t3 Ψ { nx := fun _ μ' => Φ .non μ', rt := Φ } [some (.adr p), B, C, some (.int size), some (.int many), some (.lst (ns.map .str)), none, none, none, none, none, none, none, none, none] μ := by
  refine ⟨_, rfl, _, rfl, by omega, by omega, ?_⟩
  rcases hm with rfl | rfl
  · refine ⟨fun _ => ?_, fun z => Bool.noConfusion z⟩
    refine ⟨by walk_at "sw_nn", _, rfl, _, _, .str "s", rfl, rfl, rfl, _, rfl, p, _, rfl, r0.pool, by decide, by decide, fun i μ1 i0 i1 r1 => ⟨_, _, rfl, rfl, by walk_at "sw_nn", by walk_at "sw_nn", ?_⟩⟩
    refine parts_t4 (rs := [("s", i - 2)]) hs hn ⟨rfl, by decide, fun r hr => ?_, by simp⟩ (r0.trans r1) k
    rw [List.mem_singleton.mp hr]
    exact ⟨(show nameD "s" = true by decide), (show ("s" : Str).length ≤ 1000 by decide), by show _ ≤ i - 2; omega, by show i - 2 ≤ _; omega⟩
  · refine ⟨fun _ => ?_, fun z => Bool.noConfusion z⟩
    refine ⟨by walk_at "sw_nn", _, rfl, _, _, .str "s", rfl, rfl, rfl, _, rfl, p, _, rfl, r0.pool, by decide, by decide, fun i μ1 i0 i1 r1 => ⟨_, _, rfl, rfl, by walk_at "sw_nn", by walk_at "sw_nn", ?_⟩⟩
    refine ⟨fun _ => ?_, fun z => Bool.noConfusion z⟩
    refine ⟨by walk_at "sw_nn", _, rfl, _, _, .str "p", rfl, rfl, rfl, _, rfl, p, _, rfl, r1.pool, by decide, by decide, fun j μ2 j0 j1 r2 => ⟨_, _, rfl, rfl, by walk_at "sw_nn", by walk_at "sw_nn", ?_⟩⟩
    refine parts_t4 (rs := [("s", i - 2), ("p", j - 2)]) hs hn ⟨rfl, by decide, fun r hr => ?_, (show (["s", "p"] : List Str).Nodup by decide)⟩ ((r0.trans r1).trans r2) k
    simp only [List.mem_cons, List.not_mem_nil, or_false] at hr
    rcases hr with rfl | rfl
    · exact ⟨(show nameD "s" = true by decide), (show ("s" : Str).length ≤ 1000 by decide), by show _ ≤ i - 2; omega, by show i - 2 ≤ _; omega⟩
    · exact ⟨(show nameD "p" = true by decide), (show ("p" : Str).length ≤ 1000 by decide), by show _ ≤ j - 2; omega, by show j - 2 ≤ _; omega⟩
theorem parts_t2 {Ψ : XKd} {p : Addr} {B : Option DT} {most : Int} {size : Int} {many : Nat} {μ0 μ : Mu} {Φ : PK}
    (hs : 2 ≤ size ∧ size ≤ 10) (ho : 1 ≤ most ∧ most ≤ 3) (hm : many = 1 ∨ many = 2) (r0 : Drawn p μ0 μ) (k : ∀ P μ', Good P → (P.base.natAbs : Int) = size → Drawn p μ0 μ' → Φ (partsD P) μ') :
    d_law_parts.t2 Ψ { nx := fun _ μ' => Φ .non μ', rt := Φ } [some (.adr p), B, some (.int most), some (.int size), some (.int many), none, none, none, none, none, none, none, none, none, none] μ := by
  refine ⟨by walk_at "sw_nn", _, rfl, _, rfl, p, most, rfl, r0.pool, by omega, by omega, fun i μ1 i0 i1 r1 => ⟨_, _, rfl, rfl, _, rfl, _, rfl, ?_⟩⟩
  have : i = 0 ∨ i = 1 ∨ i = 2 := by omega
  rcases this with rfl | rfl | rfl
  · exact parts_t3 (ns := ["m"]) hs ⟨by decide, by decide, by decide⟩ hm (r0.trans r1) k
  · exact parts_t3 (ns := ["m", "k"]) hs ⟨by decide, by decide, by decide⟩ hm (r0.trans r1) k
  · exact parts_t3 (ns := ["m", "k", "zz"]) hs ⟨by decide, by decide, by decide⟩ hm (r0.trans r1) k
theorem pure_law_parts (ds : List DT) (μ : Mu) (Φ : PK) (Ψ : XKd) (h : sp_law_parts ds μ Φ Ψ) : dRun (d_law_parts Ψ) n_law_parts ds μ Φ := by
  obtain ⟨p, szs, most, rfl, hp, l0, l1, hs, o1, o2, h⟩ := h
  refine ⟨_, rfl, _, rfl, p, _, _, rfl, hp, rfl, (fun z => nomatch z), by rw [List.length_map]; exact l0, by rw [List.length_map]; exact l1, fun x hx μ1 r1 => ?_⟩
  obtain ⟨size, hsz, rfl⟩ := List.mem_map.mp hx
  refine ⟨_, rfl, p, _, rfl, r1.pool, by decide, by decide, fun d μ2 d0 d1 r2 => ⟨_, _, rfl, rfl, ?_⟩⟩
  have : d = 0 ∨ d = 1 := by omega
  rcases this with rfl | rfl
  · exact parts_t2 (many := 1) (hs size hsz) ⟨o1, o2⟩ (.inl rfl) (r1.trans r2) fun P μ' g e => h P μ' g (e ▸ hsz)
  · exact parts_t2 (many := 2) (hs size hsz) ⟨o1, o2⟩ (.inr rfl) (r1.trans r2) fun P μ' g e => h P μ' g (e ▸ hsz)

/-! ### is_integer -/
def sp_is_integer : dSp := fun ds μ Φ _ => ∃ d t, ds = [d] ∧ tyOf μ d = some t ∧ Φ (.bl (isIntD d)) μ
theorem len_is_integer (ds : List DT) (μ : Mu) (Φ : PK) (Ψ : XKd) (h : sp_is_integer ds μ Φ Ψ) : ds.length = 1 := by obtain ⟨_, _, rfl, _⟩ := h; rfl
def n_is_integer : List Str := ["value"]
def t_is_integer (K : Kit) (E : XK) : TS := (tRet (tAndV (tCB (rIsi K) (tCons (tVar 0) (tCons (tC (.ty "int")) tNil))) (tNotV (tCB (rIsi K) (tCons (tVar 0) (tCons (tC (.ty "bool")) tNil))))))
def d_is_integer (Ψ : XKd) : dS := (dRet (dAndV (dIsi "int" (dVar 0)) (dNotV (dIsi "bool" (dVar 0)))))
theorem r_is_integer {K : Kit} (E : XK) (Ψ : XKd) : RS ⟨K, E, Ψ⟩ (t_is_integer K E) (d_is_integer Ψ) := (rs_ret (re_and (re_isi (by decide) re_var) (re_not (re_isi (by decide) re_var))))

theorem pure_is_integer (ds : List DT) (μ : Mu) (Φ : PK) (Ψ : XKd) (h : sp_is_integer ds μ Φ Ψ) : dRun (d_is_integer Ψ) n_is_integer ds μ Φ := by
  obtain ⟨d, t, rfl, ht, h⟩ := h
  obtain ⟨h1, h2, h3⟩ := ty_isInt ht
  refine ⟨_, rfl, t, ht, _, rfl, fun c => ?_, fun c => ?_⟩
  · refine ⟨_, rfl, t, ht, _, rfl, ?_⟩
    cases b : isTy t "bool" with
    | true => rw [h2 c b] at h; exact h
    | false => rw [h1 c b] at h; exact h
  · rw [h3 c] at h; exact h

/-! ### is_base -/
def sp_is_base : dSp := fun ds μ Φ _ => ∃ d t, ds = [d] ∧ tyOf μ d = some t ∧ Φ (.bl (isBaseD d)) μ
theorem len_is_base (ds : List DT) (μ : Mu) (Φ : PK) (Ψ : XKd) (h : sp_is_base ds μ Φ Ψ) : ds.length = 1 := by obtain ⟨_, _, rfl, _⟩ := h; rfl
def n_is_base : List Str := ["value"]
def t_is_base (K : Kit) (E : XK) : TS := (tRet (tAndV (tCall (lift K sp_is_integer) [] E0 (tCons (tVar 0) tNil)) (tChain oLe oLe (tC (.int 2)) (tCB bAbs (tCons (tVar 0) tNil)) (tC (.int 10)))))
def d_is_base (Ψ : XKd) : dS := (dRet (dAndV (dCall noX sp_is_integer (dCons (dVar 0) dNil)) (dChain dLe dLe (dC (.int 2)) (dCB dAbs (dCons (dVar 0) dNil)) (dC (.int 10)))))
theorem r_is_base {K : Kit} (E : XK) (Ψ : XKd) : RS ⟨K, E, Ψ⟩ (t_is_base K E) (d_is_base Ψ) := (rs_ret (re_and (re_call (ra_cons re_var ra_nil)) (re_chain ro_le ro_le re_int (re_cb rc_abs (ra_cons re_var ra_nil)) re_int)))

theorem pure_is_base (ds : List DT) (μ : Mu) (Φ : PK) (Ψ : XKd) (h : sp_is_base ds μ Φ Ψ) : dRun (d_is_base Ψ) n_is_base ds μ Φ := by
  obtain ⟨d, t, rfl, ht, h⟩ := h
  refine ⟨_, rfl, d, t, rfl, ht, _, rfl, fun c => ?_, fun c => ?_⟩
  · obtain ⟨i, rfl⟩ := isInt_ex c
    refine ⟨_, rfl, _, rfl, _, _, rfl, rfl, _, rfl, fun c2 => ⟨_, _, rfl, rfl, ?_⟩, fun c2 => ?_⟩
    · rw [isBase_int] at h
      rw [← le_abs i 2, ← abs_le i 10] at h
      have c2' : decide (((2 : Nat) : Int) ≤ if i < 0 then -i else i) = true := c2
      rw [c2'] at h; exact h
    · rw [isBase_int] at h
      rw [← le_abs i 2] at h
      have c2' : decide (((2 : Nat) : Int) ≤ if i < 0 then -i else i) = false := c2
      rw [c2'] at h; exact h
  · rw [isBase_no c] at h; exact h

/-! ### is_row_like -/
/-- a list or a tuple -/
def isRowD (μ : Mu) (d : DT) : Bool := match tyOf μ d with
  | some t => isTy t "list" || isTy t "tuple"
  | none => false
def sp_is_row_like : dSp := fun ds μ Φ _ => ∃ d t, ds = [d] ∧ tyOf μ d = some t ∧ Φ (.bl (isTy t "list" || isTy t "tuple")) μ
theorem len_is_row_like (ds : List DT) (μ : Mu) (Φ : PK) (Ψ : XKd) (h : sp_is_row_like ds μ Φ Ψ) : ds.length = 1 := by obtain ⟨_, _, rfl, _⟩ := h; rfl
def n_is_row_like : List Str := ["value"]
def t_is_row_like (K : Kit) (E : XK) : TS := (tRet (tCB (rIsiT K) (tCons (tVar 0) (tCons (tTup (tCons (tC (.ty "list")) (tCons (tC (.ty "tuple")) tNil))) tNil))))
def d_is_row_like (Ψ : XKd) : dS := (dRet (dIsi2 "list" "tuple" (dVar 0)))
theorem r_is_row_like {K : Kit} (E : XK) (Ψ : XKd) : RS ⟨K, E, Ψ⟩ (t_is_row_like K E) (d_is_row_like Ψ) := (rs_ret (re_isi2 (by decide) (by decide) re_var))

theorem pure_is_row_like (ds : List DT) (μ : Mu) (Φ : PK) (Ψ : XKd) (h : sp_is_row_like ds μ Φ Ψ) : dRun (d_is_row_like Ψ) n_is_row_like ds μ Φ := by
  obtain ⟨d, t, rfl, ht, h⟩ := h
  exact ⟨_, rfl, t, ht, h⟩

/-! ### is_name -/
def sp_is_name : dSp := fun ds μ Φ _ => ∃ s : Str, ds = [.str s] ∧ s.length ≤ 1000 ∧ Φ (.bl (nameD s)) μ
theorem len_is_name (ds : List DT) (μ : Mu) (Φ : PK) (Ψ : XKd) (h : sp_is_name ds μ Φ Ψ) : ds.length = 1 := by obtain ⟨_, rfl, _⟩ := h; rfl
def d_is_name.c1 (Ψ : XKd) : dE := (dOp dInS (dVar 1) (dC (.str "abcdefghijklmnopqrstuvwxyz")))
def n_is_name : List Str := ["value", "sign"]
def t_is_name (K : Kit) (E : XK) : TS := (tRet (tAndV (tCB (rIsi K) (tCons (tVar 0) (tCons (tC (.ty "str")) tNil))) (tAndV (tChain oLe oLe (tC (.int 1)) (tCB bLenS (tCons (tVar 0) tNil)) (tC (.int 8))) (tCB (rAll K) (tCons (tLc (iStr (tVar 0)) (gName 1) tYes (tOp rInS (tVar 1) (tC (.str "abcdefghijklmnopqrstuvwxyz"))) [1]) tNil)))))
def d_is_name (Ψ : XKd) : dS := (dRet (dAndV (dIsi "str" (dVar 0)) (dAndV (dChain dLe dLe (dC (.int 1)) (dCB dLenS (dCons (dVar 0) dNil)) (dC (.int 8))) (dCB dAll (dCons (dLc (dIStr (dVar 0)) (dName 1) dYes (d_is_name.c1 Ψ) [1]) dNil)))))
theorem r_is_name {K : Kit} (E : XK) (Ψ : XKd) : RS ⟨K, E, Ψ⟩ (t_is_name K E) (d_is_name Ψ) := (rs_ret (re_and (re_isi (by decide) re_var) (re_and (re_chain ro_le ro_le re_int (re_cb rc_lenS (ra_cons re_var ra_nil)) re_int) (re_cb rc_all (ra_cons (re_lc (vs := [1]) (ri_str re_var) (rg_name (by decide)) rt_yes (re_op ro_inS re_var re_str)) ra_nil)))))

theorem comp_is_name {Ψ : XKd} {V : DT} {μ : Mu} {x1 : Option DT} : ∀ (cs : List Nat) (acc : List DT) (K : List DT → Mu → Prop), acc.length + cs.length ≤ 1000 → K (acc ++ (cs.map isLow).map .bl) μ →
    dLcGo (dName 1) dYes (d_is_name.c1 Ψ) [some V, x1] (cs.map fun c => .str { cps := #[c] }) acc μ K
  | [], acc, K, hl, k => by
    show K acc μ
    rwa [List.map_nil, List.map_nil, List.append_nil] at k
  | c :: cs, acc, K, hl, k => by
    refine ⟨fun _ => ⟨_, rfl, c, _, rfl, rfl, ?_, ?_⟩, fun z => Bool.noConfusion z⟩
    · show acc.length ≤ 1000000
      simp only [List.length_cons] at hl; omega
    · refine comp_is_name cs _ K (by simp only [List.length_append, List.length_cons, List.length_nil] at hl ⊢; omega) ?_
      rw [List.append_assoc]; exact k
theorem pure_is_name (ds : List DT) (μ : Mu) (Φ : PK) (Ψ : XKd) (h : sp_is_name ds μ Φ Ψ) : dRun (d_is_name Ψ) n_is_name ds μ Φ := by
  obtain ⟨s, rfl, hs, h⟩ := h
  refine ⟨_, rfl, _, rfl, _, rfl, fun _ => ?_, fun c => absurd c (by decide)⟩
  refine ⟨_, rfl, s, rfl, hs, _, _, rfl, rfl, _, rfl, fun c1 => ⟨_, _, rfl, rfl, _, rfl, fun c2 => ?_, fun c2 => ?_⟩, fun c1 => ⟨_, rfl, fun z => Bool.noConfusion z, fun _ => ?_⟩⟩
  · refine ⟨_, rfl, s, rfl, comp_is_name s.cps.toList [] _ ?_ ⟨_, s.cps.toList.map isLow, rfl, rfl, ?_⟩⟩
    · have : s.cps.toList.length = s.length := Array.length_toList
      simp only [List.length_nil]; omega
    · have e : nameD s = (s.cps.toList.map isLow).all id := by
        unfold nameD; rw [c1, c2, List.all_map]; rfl
      rw [e] at h; exact h
  · have e : nameD s = false := by unfold nameD; rw [c1, c2]; rfl
    rw [e] at h; exact h
  · have e : nameD s = false := by unfold nameD; rw [c1]; rfl
    rw [e] at h; exact h

/-! ### is_between -/
def sp_is_between : dSp := fun ds μ Φ _ => ∃ d t lo hi, ds = [d, .int lo, .int hi] ∧ tyOf μ d = some t ∧ Φ (.bl (isBetD d lo hi)) μ
theorem len_is_between (ds : List DT) (μ : Mu) (Φ : PK) (Ψ : XKd) (h : sp_is_between ds μ Φ Ψ) : ds.length = 3 := by obtain ⟨_, _, _, _, rfl, _⟩ := h; rfl
def n_is_between : List Str := ["value", "least", "greatest"]
def t_is_between (K : Kit) (E : XK) : TS := (tRet (tAndV (tCall (lift K sp_is_integer) [] E0 (tCons (tVar 0) tNil)) (tChain oLe oLe (tVar 1) (tVar 0) (tVar 2))))
def d_is_between (Ψ : XKd) : dS := (dRet (dAndV (dCall noX sp_is_integer (dCons (dVar 0) dNil)) (dChain dLe dLe (dVar 1) (dVar 0) (dVar 2))))
theorem r_is_between {K : Kit} (E : XK) (Ψ : XKd) : RS ⟨K, E, Ψ⟩ (t_is_between K E) (d_is_between Ψ) := (rs_ret (re_and (re_call (ra_cons re_var ra_nil)) (re_chain ro_le ro_le re_var re_var re_var)))

theorem pure_is_between (ds : List DT) (μ : Mu) (Φ : PK) (Ψ : XKd) (h : sp_is_between ds μ Φ Ψ) : dRun (d_is_between Ψ) n_is_between ds μ Φ := by
  obtain ⟨d, t, lo, hi, rfl, ht, h⟩ := h
  refine ⟨_, rfl, d, t, rfl, ht, _, rfl, fun c => ?_, fun c => ?_⟩
  · obtain ⟨i, rfl⟩ := isInt_ex c
    refine ⟨_, rfl, _, rfl, _, _, rfl, rfl, _, rfl, fun c2 => ⟨_, rfl, _, _, rfl, rfl, ?_⟩, fun c2 => ?_⟩
    · rw [isBet_int, c2] at h; exact h
    · rw [isBet_int, c2] at h; exact h
  · rw [isBet_no c] at h; exact h

/-! ### is_term -/
def isTermD (d : DT) : Bool := isBetD d (-1000000) 1000000
def sp_is_term : dSp := fun ds μ Φ _ => ∃ d t, ds = [d] ∧ tyOf μ d = some t ∧ Φ (.bl (isTermD d)) μ
theorem len_is_term (ds : List DT) (μ : Mu) (Φ : PK) (Ψ : XKd) (h : sp_is_term ds μ Φ Ψ) : ds.length = 1 := by obtain ⟨_, _, rfl, _⟩ := h; rfl
def n_is_term : List Str := ["value"]
def t_is_term (K : Kit) (E : XK) : TS := (tRet (tCall (lift K sp_is_between) [] E0 (tCons (tVar 0) (tCons (tUn oNeg (tC (.int 1000000))) (tCons (tC (.int 1000000)) tNil)))))
def d_is_term (Ψ : XKd) : dS := (dRet (dCall noX sp_is_between (dCons (dVar 0) (dCons (dUn dNeg (dC (.int 1000000))) (dCons (dC (.int 1000000)) dNil)))))
theorem r_is_term {K : Kit} (E : XK) (Ψ : XKd) : RS ⟨K, E, Ψ⟩ (t_is_term K E) (d_is_term Ψ) := (rs_ret (re_call (ra_cons re_var (ra_cons (re_un ru_neg re_int) (ra_cons re_int ra_nil)))))

theorem pure_is_term (ds : List DT) (μ : Mu) (Φ : PK) (Ψ : XKd) (h : sp_is_term ds μ Φ Ψ) : dRun (d_is_term Ψ) n_is_term ds μ Φ := by
  obtain ⟨d, t, rfl, ht, h⟩ := h
  exact ⟨_, rfl, _, rfl, d, t, _, _, rfl, ht, h⟩

/-! ### is_register -/
theorem flat_strs (ns : List Str) : (ns.map DT.str).all flatD = true := by
  rw [List.all_map]; exact List.all_eq_true.mpr fun _ _ => rfl
/-- a pair (name, integer), beside the names up to there -/
def sp_is_register : dSp := fun ds μ Φ _ => ∃ (s : Str) (i : Int) (y : DT) (ns : List Str), ds = [.tup [.str s, .int i], y] ∧ seqOf μ y = some (ns.map .str) ∧ s.length ≤ 1000 ∧ Φ (.bl (nameD s && (!inD (.str s) (ns.map .str) && isTermD (.int i)))) μ
theorem len_is_register (ds : List DT) (μ : Mu) (Φ : PK) (Ψ : XKd) (h : sp_is_register ds μ Φ Ψ) : ds.length = 2 := by obtain ⟨_, _, _, _, rfl, _⟩ := h; rfl
def d_is_register.t1 (Ψ : XKd) : dS := (dRet (dAndV (dCall noX sp_is_name (dCons (dOp dIx (dVar 0) (dC (.int 0))) dNil)) (dAndV (dOp (dIn true) (dOp dIx (dVar 0) (dC (.int 0))) (dVar 1)) (dCall noX sp_is_term (dCons (dOp dIx (dVar 0) (dC (.int 1))) dNil)))))
def n_is_register : List Str := ["value", "names"]
def t_is_register (K : Kit) (E : XK) : TS := (tSeq (tIfS (tOr (tNot (tB (tCB (rIsi K) (tCons (tVar 0) (tCons (tC (.ty "tuple")) tNil))))) (tTest (tOp rNe (tCB (bLen K) (tCons (tVar 0) tNil)) (tC (.int 2))))) (tRet (tC (.bl false))) tNext) (tRet (tAndV (tCall (lift K sp_is_name) [] E0 (tCons (tOp (rIx K) (tVar 0) (tC (.int 0))) tNil)) (tAndV (tOp (rIn K true) (tOp (rIx K) (tVar 0) (tC (.int 0))) (tVar 1)) (tCall (lift K sp_is_term) [] E0 (tCons (tOp (rIx K) (tVar 0) (tC (.int 1))) tNil))))))
def d_is_register (Ψ : XKd) : dS := (dSeq (dIf (dOr (dNot (dTest (dIsi "tuple" (dVar 0)))) (dTest (dOp dNe (dCB dLen (dCons (dVar 0) dNil)) (dC (.int 2))))) (dRet (dC (.bl false))) dNext) (d_is_register.t1 Ψ))
theorem r_is_register {K : Kit} (E : XK) (Ψ : XKd) : RS ⟨K, E, Ψ⟩ (t_is_register K E) (d_is_register Ψ) := (rs_seq (rs_if (rt_or (rt_not (rt_b (re_isi (by decide) re_var))) (rt_test (re_op ro_ne (re_cb rc_len (ra_cons re_var ra_nil)) re_int))) (rs_ret re_bl) rs_next) (rs_ret (re_and (re_call (ra_cons (re_op ro_ix re_var re_int) ra_nil)) (re_and (re_op ro_in (re_op ro_ix re_var re_int) re_var) (re_call (ra_cons (re_op ro_ix re_var re_int) ra_nil))))))

theorem pure_is_register (ds : List DT) (μ : Mu) (Φ : PK) (Ψ : XKd) (h : sp_is_register ds μ Φ Ψ) : dRun (d_is_register Ψ) n_is_register ds μ Φ := by
  obtain ⟨s, i, y, ns, rfl, hy, hs, h⟩ := h
  refine ⟨_, rfl, "tuple", rfl, _, rfl, fun c => absurd c (by decide), fun _ => ?_⟩
  refine ⟨_, rfl, _, _, rfl, rfl, .inl ⟨_, _, rfl, rfl, _, rfl, fun c => Bool.noConfusion (show false = true from c), fun _ => ?_⟩⟩
  refine ⟨_, rfl, _, _, _, rfl, rfl, rfl, s, rfl, hs, _, rfl, fun c1 => ?_, fun c1 => ?_⟩
  · refine ⟨_, rfl, _, _, _, rfl, rfl, rfl, _, rfl, _, hy, rfl, flat_strs ns, _, rfl, fun c2 => ?_, fun c2 => ?_⟩
    · refine ⟨_, rfl, _, _, _, rfl, rfl, rfl, _, "int", rfl, rfl, ?_⟩
      rw [c1, show (!inD (.str s) (ns.map .str)) = true from c2] at h; exact h
    · rw [c1, show (!inD (.str s) (ns.map .str)) = false from c2] at h; exact h
  · rw [c1] at h; exact h

/-! ### require_registers -/
/-- registers that a program takes -/
structure RegsOk (rs : List (Str × Int)) : Prop where
  n : 1 ≤ rs.length ∧ rs.length ≤ 3
  nm : ∀ r ∈ rs, nameD r.1 = true ∧ r.1.length ≤ 1000 ∧ isTermD (.int r.2) = true
  nd : (rs.map Prod.fst).Nodup
def sp_require_registers : dSp := fun ds μ Φ _ => ∃ rs : List (Str × Int), ds = [.lst (rs.map regD)] ∧ RegsOk rs ∧ ∀ μ', Grow μ μ' → Φ .non μ'
theorem len_require_registers (ds : List DT) (μ : Mu) (Φ : PK) (Ψ : XKd) (h : sp_require_registers ds μ Φ Ψ) : ds.length = 1 := by obtain ⟨_, rfl, _⟩ := h; rfl
def d_require_registers.L1t1 (Ψ : XKd) : dS := (dDrop (dAppend (dVar 1) (dCons (dOp dIx (dVar 3) (dC (.int 0))) dNil)))
def d_require_registers.L1 (Ψ : XKd) : dS := (dSeq (dIf (dNot (dTest (dCall noX sp_is_register (dCons (dVar 3) (dCons (dVar 1) dNil))))) dNever dNext) (d_require_registers.L1t1 Ψ))
def d_require_registers.t2 (Ψ : XKd) : dS := (dFor (dIEnum (dCons (dVar 0) dNil)) (dGTup 2 (dGCons (dName 2) (dGCons (dName 3) dGNil))) (d_require_registers.L1 Ψ))
def d_require_registers.t1 (Ψ : XKd) : dS := (dSeq (dAsg (dLstM dNil) (dName 1)) (d_require_registers.t2 Ψ))
def n_require_registers : List Str := ["registers", "names", "number", "entry"]
def t_require_registers (K : Kit) (E : XK) : TS := (tSeq (tIfS (tOr (tNot (tB (tCall (lift K sp_is_row_like) [] E0 (tCons (tVar 0) tNil)))) (tNot (tTest (tChain oLe oLe (tC (.int 1)) (tCB (bLen K) (tCons (tVar 0) tNil)) (tC (.int 3)))))) tNever tNext) (tSeq (tAsg (tLst tNil) (gName 1)) (tFor (iEnum K (tCons (tVar 0) tNil)) (gTup K 2 (gCons (gName 2) (gCons (gName 3) gNil))) (tSeq (tIfS (tNot (tB (tCall (lift K sp_is_register) [] E0 (tCons (tVar 3) (tCons (tVar 1) tNil))))) tNever tNext) (tDrop (tBM K "list" rAppend (tVar 1) (tCons (tOp (rIx K) (tVar 3) (tC (.int 0))) tNil)))))))
def d_require_registers (Ψ : XKd) : dS := (dSeq (dIf (dOr (dNot (dTest (dCall noX sp_is_row_like (dCons (dVar 0) dNil)))) (dNot (dTest (dChain dLe dLe (dC (.int 1)) (dCB dLen (dCons (dVar 0) dNil)) (dC (.int 3)))))) dNever dNext) (d_require_registers.t1 Ψ))
theorem r_require_registers {K : Kit} (E : XK) (Ψ : XKd) : RS ⟨K, E, Ψ⟩ (t_require_registers K E) (d_require_registers Ψ) := (rs_seq (rs_if (rt_or (rt_not (rt_b (re_call (ra_cons re_var ra_nil)))) (rt_not (rt_test (re_chain ro_le ro_le re_int (re_cb rc_len (ra_cons re_var ra_nil)) re_int)))) rs_never rs_next) (rs_seq (rs_asg (re_lstM ra_nil) (rg_name (vs := [1]) (by decide))) (rs_for (ri_enum (ra_cons re_var ra_nil)) (rg_tup (vs := [2, 3]) (rgs_cons (rg_name (by decide)) (rgs_cons (rg_name (by decide)) rgs_nil))) (rs_seq (rs_if (rt_not (rt_b (re_call (ra_cons re_var (ra_cons re_var ra_nil))))) rs_never rs_next) (rs_drop (re_append re_var (ra_cons (re_op ro_ix re_var re_int) ra_nil)))))))

theorem loop_require_registers {Ψ : XKd} {q : Addr} {R : DT} {μ0 : Mu} (h0 : μ0 q = none) {Φ : PK} : ∀ (rs : List (Str × Int)) (k : Nat) (ns : List Str) (x2 x3 : Option DT) (μ : Mu), Grow μ0 μ → μ q = some (.lst (ns.map .str)) → ns.length + rs.length ≤ 1000 →
    (∀ r ∈ rs, nameD r.1 = true ∧ r.1.length ≤ 1000 ∧ isTermD (.int r.2) = true) → (ns ++ rs.map Prod.fst).Nodup → (∀ μ', Grow μ0 μ' → Φ .non μ') →
    dLoop (dGTup 2 (dGCons (dName 2) (dGCons (dName 3) dGNil))) (d_require_registers.L1 Ψ) { nx := fun _ μ' => Φ .non μ', rt := Φ } (((rs.map regD).zipIdx k).map fun p => .tup [.int p.2, p.1]) [some R, some (.adr q), x2, x3] μ
  | [], k, ns, x2, x3, μ, g, hq, hl, hn, nd, fin => fin μ g
  | (s, i) :: rs, k, ns, x2, x3, μ, g, hq, hl, hn, nd, fin => by
    obtain ⟨a1, a2, a3⟩ := hn _ (.head _)
    have out : s ∉ ns := fun z => (List.nodup_append.mp nd).2.2 s z s (.head _) rfl
    refine ⟨_, rfl, rfl, _, _, rfl, _, _, rfl, rfl, ?_⟩
    refine ⟨_, rfl, _, rfl, s, i, _, ns, rfl, (by simp only [seqOf, hq]), a2, _, rfl, (fun c => ?_), fun _ => ?_⟩
    · rw [a1, a3, inD_strs, decide_eq_false out] at c; cases c
    · refine ⟨_, rfl, q, _, rfl, hq, _, rfl, _, _, _, rfl, rfl, rfl, _, _, rfl, hq, ?_, ?_⟩
      · show List.length _ ≤ 1000000
        rw [List.length_map]; omega
      · refine loop_require_registers h0 rs (k + 1) (ns ++ [s]) _ _ _ (g.new h0) ?_ ?_ (fun r hr => hn r (.tail _ hr)) ?_ fin
        · rw [Mu.put_same, List.map_append]; rfl
        · simp only [List.length_append, List.length_cons, List.length_nil] at hl ⊢; omega
        · rw [List.append_assoc]; exact nd
theorem pure_require_registers (ds : List DT) (μ : Mu) (Φ : PK) (Ψ : XKd) (h : sp_require_registers ds μ Φ Ψ) : dRun (d_require_registers Ψ) n_require_registers ds μ Φ := by
  obtain ⟨rs, rfl, ok, h⟩ := h
  refine ⟨_, rfl, .lst (rs.map regD), "list", rfl, rfl, _, rfl, (fun c => absurd c (by decide)), fun _ => ?_⟩
  have e1 : decide ((1 : Int) ≤ ((rs.map regD).length : Int)) = true := decide_eq_true (by rw [List.length_map]; have := ok.n.1; omega)
  have e2 : decide (((rs.map regD).length : Int) ≤ 3) = true := decide_eq_true (by rw [List.length_map]; have := ok.n.2; omega)
  refine ⟨_, rfl, _, _, rfl, rfl, _, _, rfl, rfl, _, rfl, fun _ => ⟨_, _, rfl, rfl, _, rfl, (fun c => ?_), fun _ => ?_⟩, fun c => Bool.noConfusion (e1.symm.trans c)⟩
  · rw [e2] at c; cases c
  · refine ⟨by walk_at "sw_nn", fun q hq => ?_⟩
    refine ⟨_, rfl, _, rfl, ?_⟩
    refine loop_require_registers hq rs 0 [] _ _ _ ((Grow.refl μ).new hq) Mu.put_same ?_ ok.nm ok.nd h
    have := ok.n.2
    show 0 + _ ≤ _; omega

/-! ### is_rule -/
def sp_is_rule : dSp := fun ds μ Φ _ => ∃ d t, ds = [d] ∧ tyOf μ d = some t ∧ Φ (.bl (isRuleD d)) μ
theorem len_is_rule (ds : List DT) (μ : Mu) (Φ : PK) (Ψ : XKd) (h : sp_is_rule ds μ Φ Ψ) : ds.length = 1 := by obtain ⟨_, _, rfl, _⟩ := h; rfl
def n_is_rule : List Str := ["value"]
def t_is_rule (K : Kit) (E : XK) : TS := (tRet (tAndV (tCB (rIsi K) (tCons (tVar 0) (tCons (tC (.ty "str")) tNil))) (tOp (rIn K false) (tVar 0) (tC (.ref (He.ga K "RULES"))))))
def d_is_rule (Ψ : XKd) : dS := (dRet (dAndV (dIsi "str" (dVar 0)) (dOp (dIn false) (dVar 0) (dC c_RULES))))
theorem r_is_rule {K : Kit} (tb_RULES : TabRULES K) (E : XK) (Ψ : XKd) : RS ⟨K, E, Ψ⟩ (t_is_rule K E) (d_is_rule Ψ) := (rs_ret (re_and (re_isi (by decide) re_var) (re_op ro_in re_var (re_c (rep_RULES tb_RULES)))))

theorem pure_is_rule (ds : List DT) (μ : Mu) (Φ : PK) (Ψ : XKd) (h : sp_is_rule ds μ Φ Ψ) : dRun (d_is_rule Ψ) n_is_rule ds μ Φ := by
  obtain ⟨d, t, rfl, ht, h⟩ := h
  refine ⟨_, rfl, t, ht, _, rfl, fun c => ?_, fun c => ?_⟩
  · obtain ⟨z, rfl⟩ := ty_strd ht c
    exact ⟨_, rfl, _, rfl, rfl, rfl, h⟩
  · rw [isRule_no ht c] at h; exact h

/-! ### is_mode -/
/-- a triple (name, rule, rows), beside the names up to there -/
def sp_is_mode : dSp := fun ds μ Φ _ => ∃ (s : Str) (r : Rule) (l y : DT) (t : String) (ns : List Str), ds = [.tup [.str s, .str (rname r), l], y] ∧ tyOf μ l = some t ∧ seqOf μ y = some (ns.map .str) ∧ s.length ≤ 1000 ∧ Φ (.bl (nameD s && (!inD (.str s) (ns.map .str) && (isTy t "list" || isTy t "tuple")))) μ
theorem len_is_mode (ds : List DT) (μ : Mu) (Φ : PK) (Ψ : XKd) (h : sp_is_mode ds μ Φ Ψ) : ds.length = 2 := by obtain ⟨_, _, _, _, _, _, rfl, _⟩ := h; rfl
theorem rule_good (r : Rule) : isRuleD (.str (rname r)) = true := by cases r <;> decide +kernel
def d_is_mode.t1 (Ψ : XKd) : dS := (dRet (dAndV (dCall noX sp_is_name (dCons (dOp dIx (dVar 0) (dC (.int 0))) dNil)) (dAndV (dOp (dIn true) (dOp dIx (dVar 0) (dC (.int 0))) (dVar 1)) (dAndV (dCall noX sp_is_rule (dCons (dOp dIx (dVar 0) (dC (.int 1))) dNil)) (dCall noX sp_is_row_like (dCons (dOp dIx (dVar 0) (dC (.int 2))) dNil))))))
def n_is_mode : List Str := ["value", "names"]
def t_is_mode (K : Kit) (E : XK) : TS := (tSeq (tIfS (tOr (tNot (tB (tCB (rIsi K) (tCons (tVar 0) (tCons (tC (.ty "tuple")) tNil))))) (tTest (tOp rNe (tCB (bLen K) (tCons (tVar 0) tNil)) (tC (.int 3))))) (tRet (tC (.bl false))) tNext) (tRet (tAndV (tCall (lift K sp_is_name) [] E0 (tCons (tOp (rIx K) (tVar 0) (tC (.int 0))) tNil)) (tAndV (tOp (rIn K true) (tOp (rIx K) (tVar 0) (tC (.int 0))) (tVar 1)) (tAndV (tCall (lift K sp_is_rule) [] E0 (tCons (tOp (rIx K) (tVar 0) (tC (.int 1))) tNil)) (tCall (lift K sp_is_row_like) [] E0 (tCons (tOp (rIx K) (tVar 0) (tC (.int 2))) tNil)))))))
def d_is_mode (Ψ : XKd) : dS := (dSeq (dIf (dOr (dNot (dTest (dIsi "tuple" (dVar 0)))) (dTest (dOp dNe (dCB dLen (dCons (dVar 0) dNil)) (dC (.int 3))))) (dRet (dC (.bl false))) dNext) (d_is_mode.t1 Ψ))
theorem r_is_mode {K : Kit} (E : XK) (Ψ : XKd) : RS ⟨K, E, Ψ⟩ (t_is_mode K E) (d_is_mode Ψ) := (rs_seq (rs_if (rt_or (rt_not (rt_b (re_isi (by decide) re_var))) (rt_test (re_op ro_ne (re_cb rc_len (ra_cons re_var ra_nil)) re_int))) (rs_ret re_bl) rs_next) (rs_ret (re_and (re_call (ra_cons (re_op ro_ix re_var re_int) ra_nil)) (re_and (re_op ro_in (re_op ro_ix re_var re_int) re_var) (re_and (re_call (ra_cons (re_op ro_ix re_var re_int) ra_nil)) (re_call (ra_cons (re_op ro_ix re_var re_int) ra_nil)))))))

theorem pure_is_mode (ds : List DT) (μ : Mu) (Φ : PK) (Ψ : XKd) (h : sp_is_mode ds μ Φ Ψ) : dRun (d_is_mode Ψ) n_is_mode ds μ Φ := by
  obtain ⟨s, r, l, y, t, ns, rfl, hl, hy, hs, h⟩ := h
  refine ⟨_, rfl, "tuple", rfl, _, rfl, fun c => absurd c (by decide), fun _ => ?_⟩
  refine ⟨_, rfl, _, _, rfl, rfl, .inl ⟨_, _, rfl, rfl, _, rfl, fun c => Bool.noConfusion (show false = true from c), fun _ => ?_⟩⟩
  refine ⟨_, rfl, _, _, _, rfl, rfl, rfl, s, rfl, hs, _, rfl, fun c1 => ?_, fun c1 => ?_⟩
  · refine ⟨_, rfl, _, _, _, rfl, rfl, rfl, _, rfl, _, hy, rfl, flat_strs ns, _, rfl, fun c2 => ?_, fun c2 => ?_⟩
    · refine ⟨_, rfl, _, _, _, rfl, rfl, rfl, _, "str", rfl, rfl, _, rfl, fun c3 => ?_, fun c3 => Bool.noConfusion ((rule_good r).symm.trans c3)⟩
      refine ⟨_, rfl, _, _, _, rfl, rfl, rfl, _, t, rfl, hl, ?_⟩
      rw [c1, show (!inD (.str s) (ns.map .str)) = true from c2] at h; exact h
    · rw [c1, show (!inD (.str s) (ns.map .str)) = false from c2] at h; exact h
  · rw [c1] at h; exact h

/-! ### require_modes -/
/-- modes that a program takes, whatever their rows -/
structure ModesOk (rs : List Mode) : Prop where
  n : 1 ≤ rs.length ∧ rs.length ≤ 4
  nm : ∀ r ∈ rs, nameD r.nm = true ∧ r.nm.length ≤ 1000
  nd : (rs.map Mode.nm).Nodup
def sp_require_modes : dSp := fun ds μ Φ _ => ∃ rs : List Mode, ds = [.lst (rs.map modeD)] ∧ ModesOk rs ∧ ∀ μ', Grow μ μ' → Φ .non μ'
theorem len_require_modes (ds : List DT) (μ : Mu) (Φ : PK) (Ψ : XKd) (h : sp_require_modes ds μ Φ Ψ) : ds.length = 1 := by obtain ⟨_, rfl, _⟩ := h; rfl
def d_require_modes.L1t1 (Ψ : XKd) : dS := (dDrop (dAppend (dVar 1) (dCons (dOp dIx (dVar 3) (dC (.int 0))) dNil)))
def d_require_modes.L1 (Ψ : XKd) : dS := (dSeq (dIf (dNot (dTest (dCall noX sp_is_mode (dCons (dVar 3) (dCons (dVar 1) dNil))))) dNever dNext) (d_require_modes.L1t1 Ψ))
def d_require_modes.t2 (Ψ : XKd) : dS := (dFor (dIEnum (dCons (dVar 0) dNil)) (dGTup 2 (dGCons (dName 2) (dGCons (dName 3) dGNil))) (d_require_modes.L1 Ψ))
def d_require_modes.t1 (Ψ : XKd) : dS := (dSeq (dAsg (dLstM dNil) (dName 1)) (d_require_modes.t2 Ψ))
def n_require_modes : List Str := ["modes", "names", "number", "mode"]
def t_require_modes (K : Kit) (E : XK) : TS := (tSeq (tIfS (tOr (tNot (tB (tCall (lift K sp_is_row_like) [] E0 (tCons (tVar 0) tNil)))) (tNot (tTest (tChain oLe oLe (tC (.int 1)) (tCB (bLen K) (tCons (tVar 0) tNil)) (tC (.int 4)))))) tNever tNext) (tSeq (tAsg (tLst tNil) (gName 1)) (tFor (iEnum K (tCons (tVar 0) tNil)) (gTup K 2 (gCons (gName 2) (gCons (gName 3) gNil))) (tSeq (tIfS (tNot (tB (tCall (lift K sp_is_mode) [] E0 (tCons (tVar 3) (tCons (tVar 1) tNil))))) tNever tNext) (tDrop (tBM K "list" rAppend (tVar 1) (tCons (tOp (rIx K) (tVar 3) (tC (.int 0))) tNil)))))))
def d_require_modes (Ψ : XKd) : dS := (dSeq (dIf (dOr (dNot (dTest (dCall noX sp_is_row_like (dCons (dVar 0) dNil)))) (dNot (dTest (dChain dLe dLe (dC (.int 1)) (dCB dLen (dCons (dVar 0) dNil)) (dC (.int 4)))))) dNever dNext) (d_require_modes.t1 Ψ))
theorem r_require_modes {K : Kit} (E : XK) (Ψ : XKd) : RS ⟨K, E, Ψ⟩ (t_require_modes K E) (d_require_modes Ψ) := (rs_seq (rs_if (rt_or (rt_not (rt_b (re_call (ra_cons re_var ra_nil)))) (rt_not (rt_test (re_chain ro_le ro_le re_int (re_cb rc_len (ra_cons re_var ra_nil)) re_int)))) rs_never rs_next) (rs_seq (rs_asg (re_lstM ra_nil) (rg_name (vs := [1]) (by decide))) (rs_for (ri_enum (ra_cons re_var ra_nil)) (rg_tup (vs := [2, 3]) (rgs_cons (rg_name (by decide)) (rgs_cons (rg_name (by decide)) rgs_nil))) (rs_seq (rs_if (rt_not (rt_b (re_call (ra_cons re_var (ra_cons re_var ra_nil))))) rs_never rs_next) (rs_drop (re_append re_var (ra_cons (re_op ro_ix re_var re_int) ra_nil)))))))

theorem loop_require_modes {Ψ : XKd} {q : Addr} {R : DT} {μ0 : Mu} (h0 : μ0 q = none) {Φ : PK} : ∀ (rs : List Mode) (k : Nat) (ns : List Str) (x2 x3 : Option DT) (μ : Mu), Grow μ0 μ → μ q = some (.lst (ns.map .str)) → ns.length + rs.length ≤ 1000 →
    (∀ r ∈ rs, nameD r.nm = true ∧ r.nm.length ≤ 1000) → (ns ++ rs.map Mode.nm).Nodup → (∀ μ', Grow μ0 μ' → Φ .non μ') →
    dLoop (dGTup 2 (dGCons (dName 2) (dGCons (dName 3) dGNil))) (d_require_modes.L1 Ψ) { nx := fun _ μ' => Φ .non μ', rt := Φ } (((rs.map modeD).zipIdx k).map fun p => .tup [.int p.2, p.1]) [some R, some (.adr q), x2, x3] μ
  | [], k, ns, x2, x3, μ, g, hq, hl, hn, nd, fin => fin μ g
  | m :: rs, k, ns, x2, x3, μ, g, hq, hl, hn, nd, fin => by
    obtain ⟨a1, a2⟩ := hn _ (.head _)
    have out : m.nm ∉ ns := fun z => (List.nodup_append.mp nd).2.2 m.nm z m.nm (.head _) rfl
    refine ⟨_, rfl, rfl, _, _, rfl, _, _, rfl, rfl, ?_⟩
    refine ⟨_, rfl, _, rfl, m.nm, m.ru, .lst (m.rows.map rowD), _, "list", ns, rfl, rfl, (by simp only [seqOf, hq]), a2, _, rfl, (fun c => ?_), fun _ => ?_⟩
    · rw [a1, inD_strs, decide_eq_false out] at c; cases c
    · refine ⟨_, rfl, q, _, rfl, hq, _, rfl, _, _, _, rfl, rfl, rfl, _, _, rfl, hq, ?_, ?_⟩
      · show List.length _ ≤ 1000000
        rw [List.length_map]; omega
      · refine loop_require_modes h0 rs (k + 1) (ns ++ [m.nm]) _ _ _ (g.new h0) ?_ ?_ (fun r hr => hn r (.tail _ hr)) ?_ fin
        · rw [Mu.put_same, List.map_append]; rfl
        · simp only [List.length_append, List.length_cons, List.length_nil] at hl ⊢; omega
        · rw [List.append_assoc]; exact nd
theorem pure_require_modes (ds : List DT) (μ : Mu) (Φ : PK) (Ψ : XKd) (h : sp_require_modes ds μ Φ Ψ) : dRun (d_require_modes Ψ) n_require_modes ds μ Φ := by
  obtain ⟨rs, rfl, ok, h⟩ := h
  refine ⟨_, rfl, .lst (rs.map modeD), "list", rfl, rfl, _, rfl, (fun c => absurd c (by decide)), fun _ => ?_⟩
  have e1 : decide ((1 : Int) ≤ ((rs.map modeD).length : Int)) = true := decide_eq_true (by rw [List.length_map]; have := ok.n.1; omega)
  have e2 : decide (((rs.map modeD).length : Int) ≤ 4) = true := decide_eq_true (by rw [List.length_map]; have := ok.n.2; omega)
  refine ⟨_, rfl, _, _, rfl, rfl, _, _, rfl, rfl, _, rfl, fun _ => ⟨_, _, rfl, rfl, _, rfl, (fun c => ?_), fun _ => ?_⟩, fun c => Bool.noConfusion (e1.symm.trans c)⟩
  · rw [e2] at c; cases c
  · refine ⟨by walk_at "sw_nn", fun q hq => ?_⟩
    refine ⟨_, rfl, _, rfl, ?_⟩
    refine loop_require_modes hq rs 0 [] _ _ _ ((Grow.refl μ).new hq) Mu.put_same ?_ ok.nm ok.nd h
    have := ok.n.2
    show 0 + _ ≤ _; omega

/-! ### are_terms -/
/-- so many terms, in a tuple -/
def termsD (d : DT) (many : Int) : Bool := match d with
  | .tup ds => decide ((ds.length : Int) = many) && ds.all isTermD
  | _ => false
def sp_are_terms : dSp := fun ds μ Φ _ => ∃ d t many, ds = [d, .int many] ∧ tyOf μ d = some t ∧ Kinds μ d ∧ Φ (.bl (termsD d many)) μ
theorem len_are_terms (ds : List DT) (μ : Mu) (Φ : PK) (Ψ : XKd) (h : sp_are_terms ds μ Φ Ψ) : ds.length = 2 := by obtain ⟨_, _, _, rfl, _⟩ := h; rfl
def d_are_terms.c1 (Ψ : XKd) : dE := (dCall noX sp_is_term (dCons (dVar 2) dNil))
def n_are_terms : List Str := ["value", "many", "one"]
def t_are_terms (K : Kit) (E : XK) : TS := (tRet (tAndV (tCB (rIsi K) (tCons (tVar 0) (tCons (tC (.ty "tuple")) tNil))) (tAndV (tOp rEq (tCB (bLen K) (tCons (tVar 0) tNil)) (tVar 1)) (tCB (rAll K) (tCons (tLc (iTup K (tVar 0)) (gName 2) tYes (tCall (lift K sp_is_term) [] E0 (tCons (tVar 2) tNil)) [2]) tNil)))))
def d_are_terms (Ψ : XKd) : dS := (dRet (dAndV (dIsi "tuple" (dVar 0)) (dAndV (dOp dEq (dCB dLen (dCons (dVar 0) dNil)) (dVar 1)) (dCB dAll (dCons (dLc (dITup (dVar 0)) (dName 2) dYes (d_are_terms.c1 Ψ) [2]) dNil)))))
theorem r_are_terms {K : Kit} (E : XK) (Ψ : XKd) : RS ⟨K, E, Ψ⟩ (t_are_terms K E) (d_are_terms Ψ) := (rs_ret (re_and (re_isi (by decide) re_var) (re_and (re_op ro_eq (re_cb rc_len (ra_cons re_var ra_nil)) re_var) (re_cb rc_all (ra_cons (re_lc (vs := [2]) (ri_tup re_var) (rg_name (by decide)) rt_yes (re_call (ra_cons re_var ra_nil))) ra_nil)))))

theorem comp_are_terms {Ψ : XKd} {V : DT} {many : DT} {μ : Mu} {x2 : Option DT} : ∀ (xs : List DT) (acc : List DT) (K : List DT → Mu → Prop), acc.length + xs.length ≤ 5000 → (∀ x ∈ xs, ∃ t, tyOf μ x = some t) → K (acc ++ (xs.map isTermD).map .bl) μ →
    dLcGo (dName 2) dYes (d_are_terms.c1 Ψ) [some V, some many, x2] xs acc μ K
  | [], acc, K, hl, ht, k => by
    show K acc μ
    rwa [List.map_nil, List.map_nil, List.append_nil] at k
  | x :: xs, acc, K, hl, ht, k => by
    obtain ⟨t, hx⟩ := ht x (.head _)
    refine ⟨fun _ => ⟨_, rfl, x, t, rfl, hx, ?_, ?_⟩, fun z => Bool.noConfusion z⟩
    · show acc.length ≤ 1000000
      simp only [List.length_cons] at hl; omega
    · refine comp_are_terms xs _ K (by simp only [List.length_append, List.length_cons, List.length_nil] at hl ⊢; omega) (fun y hy => ht y (.tail _ hy)) ?_
      rw [List.append_assoc]; exact k
theorem pure_are_terms (ds : List DT) (μ : Mu) (Φ : PK) (Ψ : XKd) (h : sp_are_terms ds μ Φ Ψ) : dRun (d_are_terms Ψ) n_are_terms ds μ Φ := by
  obtain ⟨d, t, many, rfl, ht, hk, h⟩ := h
  refine ⟨_, rfl, t, ht, _, rfl, fun c => ?_, fun c => ?_⟩
  · obtain ⟨zs, rfl⟩ := ty_tupd ht c
    obtain ⟨hl, hz⟩ := hk zs rfl
    refine ⟨_, rfl, _, _, rfl, rfl, _, rfl, .inl ⟨_, _, rfl, rfl, _, rfl, fun c2 => ?_, fun c2 => ?_⟩⟩
    · refine ⟨_, rfl, _, rfl, ?_⟩
      refine comp_are_terms zs [] _ (by show 0 + _ ≤ _; omega) hz ?_
      refine ⟨_, zs.map isTermD, rfl, rfl, ?_⟩
      have e : (zs.map isTermD).all id = termsD (.tup zs) many := by
        show _ = (decide ((zs.length : Int) = many) && zs.all isTermD)
        rw [c2, List.all_map]; rfl
      rw [e]; exact h
    · have e : termsD (.tup zs) many = false := by
        show (decide ((zs.length : Int) = many) && zs.all isTermD) = false
        rw [c2]; rfl
      rw [e] at h; exact h
  · have e : termsD d many = false := by
      have := ty_tupn ht c
      cases d <;> first | rfl | exact absurd rfl (this _)
    rw [e] at h; exact h

/-! ### are_updates -/
/-- updates: a tuple of so many tuples of terms -/
def updatesD (d : DT) (many : Int) : Bool := match d with
  | .tup ds => decide ((ds.length : Int) = many) && ds.all fun x => termsD x (many + 2)
  | _ => false
def sp_are_updates : dSp := fun ds μ Φ _ => ∃ d t many, ds = [d, .int many] ∧ tyOf μ d = some t ∧ Kinds μ d ∧ (∀ zs, d = .tup zs → ∀ x ∈ zs, Kinds μ x) ∧ Φ (.bl (updatesD d many)) μ
theorem len_are_updates (ds : List DT) (μ : Mu) (Φ : PK) (Ψ : XKd) (h : sp_are_updates ds μ Φ Ψ) : ds.length = 2 := by obtain ⟨_, _, _, rfl, _⟩ := h; rfl
def d_are_updates.c1 (Ψ : XKd) : dE := (dCall noX sp_are_terms (dCons (dVar 2) (dCons (dOp dAdd (dVar 1) (dC (.int 2))) dNil)))
def n_are_updates : List Str := ["value", "many", "one"]
def t_are_updates (K : Kit) (E : XK) : TS := (tRet (tAndV (tCB (rIsi K) (tCons (tVar 0) (tCons (tC (.ty "tuple")) tNil))) (tAndV (tOp rEq (tCB (bLen K) (tCons (tVar 0) tNil)) (tVar 1)) (tCB (rAll K) (tCons (tLc (iTup K (tVar 0)) (gName 2) tYes (tCall (lift K sp_are_terms) [] E0 (tCons (tVar 2) (tCons (tOp oAdd (tVar 1) (tC (.int 2))) tNil))) [2]) tNil)))))
def d_are_updates (Ψ : XKd) : dS := (dRet (dAndV (dIsi "tuple" (dVar 0)) (dAndV (dOp dEq (dCB dLen (dCons (dVar 0) dNil)) (dVar 1)) (dCB dAll (dCons (dLc (dITup (dVar 0)) (dName 2) dYes (d_are_updates.c1 Ψ) [2]) dNil)))))
theorem r_are_updates {K : Kit} (E : XK) (Ψ : XKd) : RS ⟨K, E, Ψ⟩ (t_are_updates K E) (d_are_updates Ψ) := (rs_ret (re_and (re_isi (by decide) re_var) (re_and (re_op ro_eq (re_cb rc_len (ra_cons re_var ra_nil)) re_var) (re_cb rc_all (ra_cons (re_lc (vs := [2]) (ri_tup re_var) (rg_name (by decide)) rt_yes (re_call (ra_cons re_var (ra_cons (re_op ro_add re_var re_int) ra_nil)))) ra_nil)))))

theorem comp_are_updates {Ψ : XKd} {V : DT} {many : Int} {μ : Mu} {x2 : Option DT} : ∀ (xs : List DT) (acc : List DT) (K : List DT → Mu → Prop), acc.length + xs.length ≤ 5000 → (∀ x ∈ xs, (∃ t, tyOf μ x = some t) ∧ Kinds μ x) → K (acc ++ (xs.map fun x => termsD x (many + 2)).map .bl) μ →
    dLcGo (dName 2) dYes (d_are_updates.c1 Ψ) [some V, some (.int many), x2] xs acc μ K
  | [], acc, K, hl, ht, k => by
    show K acc μ
    rwa [List.map_nil, List.map_nil, List.append_nil] at k
  | x :: xs, acc, K, hl, ht, k => by
    obtain ⟨⟨t, hx⟩, hk⟩ := ht x (.head _)
    refine ⟨fun _ => ⟨_, rfl, _, rfl, _, _, rfl, rfl, x, t, _, rfl, hx, hk, ?_, ?_⟩, fun z => Bool.noConfusion z⟩
    · show acc.length ≤ 1000000
      simp only [List.length_cons] at hl; omega
    · refine comp_are_updates xs _ K (by simp only [List.length_append, List.length_cons, List.length_nil] at hl ⊢; omega) (fun y hy => ht y (.tail _ hy)) ?_
      rw [List.append_assoc]; exact k
theorem pure_are_updates (ds : List DT) (μ : Mu) (Φ : PK) (Ψ : XKd) (h : sp_are_updates ds μ Φ Ψ) : dRun (d_are_updates Ψ) n_are_updates ds μ Φ := by
  obtain ⟨d, t, many, rfl, ht, hk, hk2, h⟩ := h
  refine ⟨_, rfl, t, ht, _, rfl, fun c => ?_, fun c => ?_⟩
  · obtain ⟨zs, rfl⟩ := ty_tupd ht c
    obtain ⟨hl, hz⟩ := hk zs rfl
    refine ⟨_, rfl, _, _, rfl, rfl, _, rfl, .inl ⟨_, _, rfl, rfl, _, rfl, fun c2 => ?_, fun c2 => ?_⟩⟩
    · refine ⟨_, rfl, _, rfl, ?_⟩
      refine comp_are_updates zs [] _ (by show 0 + _ ≤ _; omega) (fun x hx => ⟨hz x hx, hk2 zs rfl x hx⟩) ?_
      refine ⟨_, zs.map fun x => termsD x (many + 2), rfl, rfl, ?_⟩
      have e : (zs.map fun x => termsD x (many + 2)).all id = updatesD (.tup zs) many := by
        show _ = (decide ((zs.length : Int) = many) && zs.all fun x => termsD x (many + 2))
        rw [c2, List.all_map]; rfl
      rw [e]; exact h
    · have e : updatesD (.tup zs) many = false := by
        show (decide ((zs.length : Int) = many) && zs.all fun x => termsD x (many + 2)) = false
        rw [c2]; rfl
      rw [e] at h; exact h
  · have e : updatesD d many = false := by
      have := ty_tupn ht c
      cases d <;> first | rfl | exact absurd rfl (this _)
    rw [e] at h; exact h

/-! ### is_line -/
/-- a row that a program takes -/
structure LineOk (r : Row) (size many : Int) (ns : List Str) : Prop where
  sg : ∀ i, r.k.1 = some i → -1 ≤ i ∧ i ≤ 1
  rm : ∀ i, r.k.2 = some i → absI i < size
  us : updatesD (usD r.us) many = true
  n : r.us.length ≤ 1000 ∧ ∀ u ∈ r.us, u.length ≤ 1000
  th : ∀ t, r.th = some t → t ∈ ns
def sp_is_line : dSp := fun ds μ Φ _ => ∃ (r : Row) (size many : Int) (ns : List Str), ds = [rowD r, .int size, .int many, .lst (ns.map .str)] ∧ LineOk r size many ns ∧ Φ (.bl true) μ
theorem len_is_line (ds : List DT) (μ : Mu) (Φ : PK) (Ψ : XKd) (h : sp_is_line ds μ Φ Ψ) : ds.length = 4 := by obtain ⟨_, _, _, _, rfl, _⟩ := h; rfl
def d_is_line.t4 (Ψ : XKd) : dS := (dRet (dAndV (dCall noX sp_are_updates (dCons (dVar 6) (dCons (dVar 2) dNil))) (dOrV (dOp dIsN (dVar 7) (dC .non)) (dAndV (dIsi "str" (dVar 7)) (dOp (dIn false) (dVar 7) (dVar 3))))))
def d_is_line.t3 (Ψ : XKd) : dS := (dSeq (dIf (dAnd (dTest (dOp dNotN (dVar 5) (dC .non))) (dNot (dAnd (dTest (dCall noX sp_is_integer (dCons (dVar 5) dNil))) (dTest (dOp dLt (dCB dAbs (dCons (dVar 5) dNil)) (dVar 1)))))) (dRet (dC (.bl false))) dNext) (d_is_line.t4 Ψ))
def d_is_line.t2 (Ψ : XKd) : dS := (dSeq (dIf (dAnd (dTest (dOp dNotN (dVar 4) (dC .non))) (dNot (dTest (dCall noX sp_is_between (dCons (dVar 4) (dCons (dUn dNeg (dC (.int 1))) (dCons (dC (.int 1)) dNil))))))) (dRet (dC (.bl false))) dNext) (d_is_line.t3 Ψ))
def d_is_line.t1 (Ψ : XKd) : dS := (dSeq (dAsg (dVar 0) (dGTup 4 (dGCons (dName 4) (dGCons (dName 5) (dGCons (dName 6) (dGCons (dName 7) dGNil)))))) (d_is_line.t2 Ψ))
def n_is_line : List Str := ["value", "size", "many", "names", "sign", "remainder", "updates", "then"]
def t_is_line (K : Kit) (E : XK) : TS := (tSeq (tIfS (tOr (tNot (tB (tCB (rIsi K) (tCons (tVar 0) (tCons (tC (.ty "tuple")) tNil))))) (tTest (tOp rNe (tCB (bLen K) (tCons (tVar 0) tNil)) (tC (.int 4))))) (tRet (tC (.bl false))) tNext) (tSeq (tAsg (tVar 0) (gTup K 4 (gCons (gName 4) (gCons (gName 5) (gCons (gName 6) (gCons (gName 7) gNil)))))) (tSeq (tIfS (tAnd (tTest (tOp rNotN (tVar 4) (tC .non))) (tNot (tB (tCall (lift K sp_is_between) [] E0 (tCons (tVar 4) (tCons (tUn oNeg (tC (.int 1))) (tCons (tC (.int 1)) tNil))))))) (tRet (tC (.bl false))) tNext) (tSeq (tIfS (tAnd (tTest (tOp rNotN (tVar 5) (tC .non))) (tNot (tAnd (tB (tCall (lift K sp_is_integer) [] E0 (tCons (tVar 5) tNil))) (tTest (tOp oLt (tCB bAbs (tCons (tVar 5) tNil)) (tVar 1)))))) (tRet (tC (.bl false))) tNext) (tRet (tAndV (tCall (lift K sp_are_updates) [] E0 (tCons (tVar 6) (tCons (tVar 2) tNil))) (tOrV (tOp rIsN (tVar 7) (tC .non)) (tAndV (tCB (rIsi K) (tCons (tVar 7) (tCons (tC (.ty "str")) tNil))) (tOp (rIn K false) (tVar 7) (tVar 3))))))))))
def d_is_line (Ψ : XKd) : dS := (dSeq (dIf (dOr (dNot (dTest (dIsi "tuple" (dVar 0)))) (dTest (dOp dNe (dCB dLen (dCons (dVar 0) dNil)) (dC (.int 4))))) (dRet (dC (.bl false))) dNext) (d_is_line.t1 Ψ))
theorem r_is_line {K : Kit} (E : XK) (Ψ : XKd) : RS ⟨K, E, Ψ⟩ (t_is_line K E) (d_is_line Ψ) := (rs_seq (rs_if (rt_or (rt_not (rt_b (re_isi (by decide) re_var))) (rt_test (re_op ro_ne (re_cb rc_len (ra_cons re_var ra_nil)) re_int))) (rs_ret re_bl) rs_next) (rs_seq (rs_asg re_var (rg_tup (vs := [4, 5, 6, 7]) (rgs_cons (rg_name (by decide)) (rgs_cons (rg_name (by decide)) (rgs_cons (rg_name (by decide)) (rgs_cons (rg_name (by decide)) rgs_nil)))))) (rs_seq (rs_if (rt_and (rt_test (re_op ro_notN re_var re_non)) (rt_not (rt_b (re_call (ra_cons re_var (ra_cons (re_un ru_neg re_int) (ra_cons re_int ra_nil))))))) (rs_ret re_bl) rs_next) (rs_seq (rs_if (rt_and (rt_test (re_op ro_notN re_var re_non)) (rt_not (rt_and (rt_b (re_call (ra_cons re_var ra_nil))) (rt_test (re_op ro_lt (re_cb rc_abs (ra_cons re_var ra_nil)) re_var))))) (rs_ret re_bl) rs_next) (rs_ret (re_and (re_call (ra_cons re_var (ra_cons re_var ra_nil))) (re_or (re_op ro_isN re_var re_non) (re_and (re_isi (by decide) re_var) (re_op ro_in re_var re_var)))))))))

theorem pure_is_line (ds : List DT) (μ : Mu) (Φ : PK) (Ψ : XKd) (h : sp_is_line ds μ Φ Ψ) : dRun (d_is_line Ψ) n_is_line ds μ Φ := by
  obtain ⟨r, size, many, ns, rfl, ok, h⟩ := h
  refine ⟨_, rfl, "tuple", rfl, _, rfl, fun c => absurd c (by decide), fun _ => ?_⟩
  refine ⟨_, rfl, _, _, rfl, rfl, .inl ⟨_, _, rfl, rfl, _, rfl, fun c => Bool.noConfusion (show false = true from c), fun _ => ?_⟩⟩
  refine ⟨_, rfl, _, rfl, rfl, _, _, rfl, _, _, rfl, _, _, rfl, _, _, rfl, rfl, ?_⟩
  have t4 : (d_is_line.t4 Ψ) { nx := fun _ μ' => Φ .non μ', rt := Φ } [some (rowD r), some (.int size), some (.int many), some (.lst (ns.map .str)), some (optI r.k.1), some (optI r.k.2), some (usD r.us), some (optS r.th)] μ := by
    refine ⟨_, rfl, _, rfl, usD r.us, "tuple", many, rfl, rfl, ?_, ?_, _, rfl, fun _ => ?_, fun c => Bool.noConfusion (ok.us.symm.trans c)⟩
    · intro zs e; cases e
      refine ⟨by rw [List.length_map]; have := ok.n.1; omega, fun x hx => ?_⟩
      obtain ⟨u, _, rfl⟩ := List.mem_map.mp hx
      exact ⟨_, rfl⟩
    · intro zs e x hx ys ey; cases e
      obtain ⟨u, hu, rfl⟩ := List.mem_map.mp hx
      cases ey
      refine ⟨by rw [List.length_map]; have := ok.n.2 u hu; omega, fun y hy => ?_⟩
      obtain ⟨i, _, rfl⟩ := List.mem_map.mp hy
      exact ⟨_, rfl⟩
    · cases ht : r.th with
      | none => exact ⟨_, rfl, rfl, _, rfl, fun _ => h, fun c => Bool.noConfusion (show true = false from c)⟩
      | some t =>
        refine ⟨_, rfl, rfl, _, rfl, (fun c => Bool.noConfusion (show false = true from c)), fun _ => ⟨_, rfl, "str", rfl, _, rfl, fun _ => ?_, fun c => absurd c (by decide)⟩⟩
        refine ⟨_, rfl, _, rfl, _, rfl, rfl, flat_strs ns, ?_⟩
        have e : inD (.str t) (ns.map .str) = true := by
          refine List.any_eq_true.mpr ⟨.str t, List.mem_map.mpr ⟨t, ok.th t ht, rfl⟩, ?_⟩
          rw [eqD_str]; exact decide_eq_true rfl
        show Φ (.bl (inD (.str t) (ns.map .str))) μ
        rw [e]; exact h
  have t3 : (d_is_line.t3 Ψ) { nx := fun _ μ' => Φ .non μ', rt := Φ } [some (rowD r), some (.int size), some (.int many), some (.lst (ns.map .str)), some (optI r.k.1), some (optI r.k.2), some (usD r.us), some (optS r.th)] μ := by
    cases h2 : r.k.2 with
    | none =>
      rw [h2] at t4
      exact ⟨_, rfl, rfl, _, rfl, (fun c => Bool.noConfusion (show false = true from c)), fun _ => ⟨fun c => Bool.noConfusion c, fun _ => t4⟩⟩
    | some i =>
      rw [h2] at t4
      refine ⟨_, rfl, rfl, _, rfl, fun _ => ?_, fun c => Bool.noConfusion (show true = false from c)⟩
      refine ⟨_, rfl, .int i, "int", rfl, rfl, _, rfl, fun _ => ⟨_, rfl, _, rfl, _, rfl, _, _, rfl, rfl, _, rfl, fun c => ?_, fun _ => t4⟩, fun c => Bool.noConfusion (show true = false from c)⟩
      have e : decide ((if i < 0 then -i else i) < size) = true := decide_eq_true (ok.rm i h2)
      rw [e] at c; cases c
  cases h1 : r.k.1 with
  | none =>
    rw [h1] at t3
    exact ⟨_, rfl, rfl, _, rfl, (fun c => Bool.noConfusion (show false = true from c)), fun _ => ⟨fun c => Bool.noConfusion c, fun _ => t3⟩⟩
  | some i =>
    rw [h1] at t3
    refine ⟨_, rfl, rfl, _, rfl, fun _ => ?_, fun c => Bool.noConfusion (show true = false from c)⟩
    refine ⟨_, rfl, _, rfl, .int i, "int", -1, 1, rfl, rfl, _, rfl, fun c => ?_, fun _ => t3⟩
    have e : isBetD (.int i) (-1) 1 = true := by
      rw [isBet_int, decide_eq_true (ok.sg i h1).1, decide_eq_true (ok.sg i h1).2]; rfl
    rw [e] at c; cases c

/-! ### require_rows -/
/-- rows that a program takes -/
structure RowsOk (rows : List Row) (size many : Int) (ns : List Str) : Prop where
  n : rows.length ≤ 1000
  ln : ∀ r ∈ rows, LineOk r size many ns
  nd : (rows.map Row.k).Nodup
  al : (none, none) ∈ rows.map Row.k
def sp_require_rows : dSp := fun ds μ Φ _ => ∃ (nm : DT) (rows : List Row) (size many : Int) (ns : List Str), ds = [nm, .lst (rows.map rowD), .int size, .int many, .lst (ns.map .str)] ∧ RowsOk rows size many ns ∧ ∀ μ', Grow μ μ' → Φ .non μ'
theorem len_require_rows (ds : List DT) (μ : Mu) (Φ : PK) (Ψ : XKd) (h : sp_require_rows ds μ Φ Ψ) : ds.length = 5 := by obtain ⟨_, _, _, _, _, rfl, _⟩ := h; rfl
def d_require_rows.L1t1 (Ψ : XKd) : dS := (dDrop (dAppend (dVar 5) (dCons (dSl dSlT (dVar 7) dNoPart (dPart (dC (.int 2)))) dNil)))
def d_require_rows.L1 (Ψ : XKd) : dS := (dSeq (dIf (dOr (dNot (dTest (dCall noX sp_is_line (dCons (dVar 7) (dCons (dVar 2) (dCons (dVar 3) (dCons (dVar 4) dNil))))))) (dTest (dOp (dInL false) (dSl dSlT (dVar 7) dNoPart (dPart (dC (.int 2)))) (dVar 5)))) dNever dNext) (d_require_rows.L1t1 Ψ))
def d_require_rows.t2 (Ψ : XKd) : dS := (dIf (dTest (dOp (dInL true) (dTup (dCons (dC .non) (dCons (dC .non) dNil))) (dVar 5))) dNever dNext)
def d_require_rows.t1 (Ψ : XKd) : dS := (dSeq (dFor (dIEnum (dCons (dVar 1) dNil)) (dGTup 2 (dGCons (dName 6) (dGCons (dName 7) dGNil))) (d_require_rows.L1 Ψ)) (d_require_rows.t2 Ψ))
def n_require_rows : List Str := ["mode", "rows", "size", "many", "names", "seen", "number", "row"]
def t_require_rows (K : Kit) (E : XK) : TS := (tSeq (tAsg (tLst tNil) (gName 5)) (tSeq (tFor (iEnum K (tCons (tVar 1) tNil)) (gTup K 2 (gCons (gName 6) (gCons (gName 7) gNil))) (tSeq (tIfS (tOr (tNot (tB (tCall (lift K sp_is_line) [] E0 (tCons (tVar 7) (tCons (tVar 2) (tCons (tVar 3) (tCons (tVar 4) tNil))))))) (tTest (tOp (rInD K) (tSl (rSlA K) (tVar 7) tNoPart (tPart (tC (.int 2)))) (tVar 5)))) tNever tNext) (tDrop (tBM K "list" rAppend (tVar 5) (tCons (tSl (rSlA K) (tVar 7) tNoPart (tPart (tC (.int 2)))) tNil))))) (tIfS (tTest (tOp (rNotInD K) (tTup (tCons (tC .non) (tCons (tC .non) tNil))) (tVar 5))) tNever tNext)))
def d_require_rows (Ψ : XKd) : dS := (dSeq (dAsg (dLstM dNil) (dName 5)) (d_require_rows.t1 Ψ))
theorem r_require_rows {K : Kit} (E : XK) (Ψ : XKd) : RS ⟨K, E, Ψ⟩ (t_require_rows K E) (d_require_rows Ψ) := (rs_seq (rs_asg (re_lstM ra_nil) (rg_name (vs := [5]) (by decide))) (rs_seq (rs_for (ri_enum (ra_cons re_var ra_nil)) (rg_tup (vs := [6, 7]) (rgs_cons (rg_name (by decide)) (rgs_cons (rg_name (by decide)) rgs_nil))) (rs_seq (rs_if (rt_or (rt_not (rt_b (re_call (ra_cons re_var (ra_cons re_var (ra_cons re_var (ra_cons re_var ra_nil))))))) (rt_test (re_op ro_inL (re_sl rsl_t re_var rp_no (rp_part re_int)) re_var))) rs_never rs_next) (rs_drop (re_append re_var (ra_cons (re_sl rsl_t re_var rp_no (rp_part re_int)) ra_nil))))) (rs_if (rt_test (re_op ro_notInL (re_tup (ra_cons re_non (ra_cons re_non ra_nil))) re_var)) rs_never rs_next)))

theorem loop_require_rows {Ψ : XKd} {q : Addr} {M R : DT} {size many : Int} {ns : List Str} {μ0 : Mu} (h0 : μ0 q = none) {Φ : PK} : ∀ (rs : List Row) (k : Nat) (ks : List RKey) (x2 x3 : Option DT) (μ : Mu), Grow μ0 μ → μ q = some (.lst (ks.map keyD)) → ks.length + rs.length ≤ 1000 →
    (∀ r ∈ rs, LineOk r size many ns) → (ks ++ rs.map Row.k).Nodup → (none, none) ∈ ks ++ rs.map Row.k → (∀ μ', Grow μ0 μ' → Φ .non μ') →
    dLoop (dGTup 2 (dGCons (dName 6) (dGCons (dName 7) dGNil))) (d_require_rows.L1 Ψ) { nx := d_require_rows.t2 Ψ { nx := fun _ μ' => Φ .non μ', rt := Φ }, rt := Φ } (((rs.map rowD).zipIdx k).map fun p => .tup [.int p.2, p.1]) [some M, some R, some (.int size), some (.int many), some (.lst (ns.map .str)), some (.adr q), x2, x3] μ
  | [], k, ks, x2, x3, μ, g, hq, hl, hn, nd, al, fin => by
    have e : inD (keyD (none, none)) (ks.map keyD) = true := by
      rw [inD_keys]; rw [List.map_nil, List.append_nil] at al; exact decide_eq_true al
    refine ⟨by walk_at "sw_nn", _, rfl, _, (by simp only [lstOf, hq]), rfl, ok7_keys ks, _, rfl, fun c => ?_, fun _ => fin μ g⟩
    have c' : (!inD (keyD (none, none)) (ks.map keyD)) = true := c
    rw [e] at c'; cases c'
  | r :: rs, k, ks, x2, x3, μ, g, hq, hl, hn, nd, al, fin => by
    have out : r.k ∉ ks := fun z => (List.nodup_append.mp nd).2.2 r.k z r.k (.head _) rfl
    have e : inD (keyD r.k) (ks.map keyD) = false := by rw [inD_keys]; exact decide_eq_false out
    refine ⟨_, rfl, rfl, _, _, rfl, _, _, rfl, rfl, ?_⟩
    refine ⟨_, rfl, _, rfl, _, rfl, _, rfl, r, size, many, ns, rfl, hn r (.head _), _, rfl, (fun c => ?_), fun _ => ?_⟩
    · cases c
    · refine ⟨_, rfl, _, rfl, _, rfl, _, rfl, _, (by simp only [lstOf, hq]), ok7_keyD r.k, ok7_keys ks, _, rfl, (fun c => ?_), fun _ => ?_⟩
      · have c' : inD (keyD r.k) (ks.map keyD) = true := c
        rw [e] at c'; cases c'
      · refine ⟨_, rfl, q, _, rfl, hq, _, rfl, _, rfl, _, rfl, _, _, rfl, hq, ?_, ?_⟩
        · show List.length _ ≤ 1000000
          rw [List.length_map]; simp only [List.length_cons] at hl; omega
        · refine loop_require_rows h0 rs (k + 1) (ks ++ [r.k]) _ _ _ (g.new h0) ?_ ?_ (fun r' hr => hn r' (.tail _ hr)) ?_ ?_ fin
          · rw [Mu.put_same, List.map_append]; rfl
          · simp only [List.length_append, List.length_cons, List.length_nil] at hl ⊢; omega
          · rw [List.append_assoc]; exact nd
          · rw [List.append_assoc]; exact al
theorem pure_require_rows (ds : List DT) (μ : Mu) (Φ : PK) (Ψ : XKd) (h : sp_require_rows ds μ Φ Ψ) : dRun (d_require_rows Ψ) n_require_rows ds μ Φ := by
  obtain ⟨nm, rs, size, many, ns, rfl, ok, h⟩ := h
  refine ⟨by walk_at "sw_nn", fun q hq => ?_⟩
  refine ⟨_, rfl, _, rfl, ?_⟩
  refine loop_require_rows hq rs 0 [] _ _ _ ((Grow.refl μ).new hq) Mu.put_same ?_ ok.ln ok.nd ok.al h
  have := ok.n
  show 0 + _ ≤ _; omega

/-! ### are_ends -/
/-- ends that a program takes: in order, small -/
structure EndsOk (es : List Int) (size : Int) : Prop where
  n : es.length ≤ 1000
  lt : ∀ e ∈ es, absI e < size
  up : ∀ p ∈ es.zip (es.drop 1), p.1 < p.2
def sp_are_ends : dSp := fun ds μ Φ _ => ∃ (es : List Int) (size : Int), ds = [.lst (es.map .int), .int size] ∧ EndsOk es size ∧ Φ (.bl true) μ
theorem len_are_ends (ds : List DT) (μ : Mu) (Φ : PK) (Ψ : XKd) (h : sp_are_ends ds μ Φ Ψ) : ds.length = 2 := by obtain ⟨_, _, rfl, _⟩ := h; rfl
theorem cut_one (xs : List DT) : cutD xs (some 1) none = xs.drop 1 := by
  unfold cutD HT.sIx
  cases xs with
  | nil => rfl
  | cons x xs => simp
def d_are_ends.c1 (Ψ : XKd) : dE := (dAndV (dCall noX sp_is_integer (dCons (dVar 2) dNil)) (dOp dLt (dCB dAbs (dCons (dVar 2) dNil)) (dVar 1)))
def d_are_ends.c2 (Ψ : XKd) : dE := (dOp dLt (dVar 2) (dVar 3))
def d_are_ends.t1 (Ψ : XKd) : dS := (dRet (dCB dAll (dCons (dLc (dIZipM (dCons (dVar 0) (dCons (dSl dSlL (dVar 0) (dPart (dC (.int 1))) dNoPart) dNil))) (dGTup 2 (dGCons (dName 2) (dGCons (dName 3) dGNil))) dYes (d_are_ends.c2 Ψ) [2, 3]) dNil)))
def n_are_ends : List Str := ["value", "size", "one", "other"]
def t_are_ends (K : Kit) (E : XK) : TS := (tSeq (tIfS (tOr (tNot (tB (tCall (lift K sp_is_row_like) [] E0 (tCons (tVar 0) tNil)))) (tNot (tB (tCB (rAll K) (tCons (tLc (iList K (tVar 0)) (gName 2) tYes (tAndV (tCall (lift K sp_is_integer) [] E0 (tCons (tVar 2) tNil)) (tOp oLt (tCB bAbs (tCons (tVar 2) tNil)) (tVar 1))) [2]) tNil))))) (tRet (tC (.bl false))) tNext) (tRet (tCB (rAll K) (tCons (tLc (iZipM K (tCons (tVar 0) (tCons (tSl (rSlL K) (tVar 0) (tPart (tC (.int 1))) tNoPart) tNil))) (gTup K 2 (gCons (gName 2) (gCons (gName 3) gNil))) tYes (tOp oLt (tVar 2) (tVar 3)) [2, 3]) tNil))))
def d_are_ends (Ψ : XKd) : dS := (dSeq (dIf (dOr (dNot (dTest (dCall noX sp_is_row_like (dCons (dVar 0) dNil)))) (dNot (dTest (dCB dAll (dCons (dLc (dIList (dVar 0)) (dName 2) dYes (d_are_ends.c1 Ψ) [2]) dNil))))) (dRet (dC (.bl false))) dNext) (d_are_ends.t1 Ψ))
theorem r_are_ends {K : Kit} (E : XK) (Ψ : XKd) : RS ⟨K, E, Ψ⟩ (t_are_ends K E) (d_are_ends Ψ) := (rs_seq (rs_if (rt_or (rt_not (rt_b (re_call (ra_cons re_var ra_nil)))) (rt_not (rt_b (re_cb rc_all (ra_cons (re_lc (vs := [2]) (ri_list re_var) (rg_name (by decide)) rt_yes (re_and (re_call (ra_cons re_var ra_nil)) (re_op ro_lt (re_cb rc_abs (ra_cons re_var ra_nil)) re_var))) ra_nil))))) (rs_ret re_bl) rs_next) (rs_ret (re_cb rc_all (ra_cons (re_lc (vs := [2, 3]) (ri_zipM (ra_cons re_var (ra_cons (re_sl rsl_l re_var (rp_part re_int) rp_no) ra_nil))) (rg_tup (rgs_cons (rg_name (by decide)) (rgs_cons (rg_name (by decide)) rgs_nil))) rt_yes (re_op ro_lt re_var re_var)) ra_nil))))

theorem comp1_are_ends {Ψ : XKd} {V : DT} {size : Int} {μ : Mu} {x2 x3 : Option DT} : ∀ (es : List Int) (acc : List DT) (K : List DT → Mu → Prop), acc.length + es.length ≤ 1000 → (∀ e ∈ es, absI e < size) → K (acc ++ (es.map fun _ => true).map .bl) μ →
    dLcGo (dName 2) dYes (d_are_ends.c1 Ψ) [some V, some (.int size), x2, x3] (es.map .int) acc μ K
  | [], acc, K, hl, ht, k => by
    show K acc μ
    rwa [List.map_nil, List.map_nil, List.append_nil] at k
  | e :: es, acc, K, hl, ht, k => by
    refine ⟨fun _ => ⟨_, rfl, .int e, "int", rfl, rfl, _, rfl, fun _ => ⟨_, rfl, _, rfl, _, rfl, _, _, rfl, rfl, ?_, ?_⟩, fun c => Bool.noConfusion (show true = false from c)⟩, fun z => Bool.noConfusion z⟩
    · show acc.length ≤ 1000000
      simp only [List.length_cons] at hl; omega
    · have q : decide ((if e < 0 then -e else e) < size) = true := decide_eq_true (ht e (.head _))
      show dLcGo _ _ _ _ _ (acc ++ [.bl (decide ((if e < 0 then -e else e) < size))]) _ _
      rw [q]
      refine comp1_are_ends es _ K (by simp only [List.length_append, List.length_cons, List.length_nil] at hl ⊢; omega) (fun y hy => ht y (.tail _ hy)) ?_
      rw [List.append_assoc]; exact k
theorem comp2_are_ends {Ψ : XKd} {V : DT} {size : Int} {μ : Mu} {x2 x3 : Option DT} : ∀ (ps : List (Int × Int)) (acc : List DT) (K : List DT → Mu → Prop), acc.length + ps.length ≤ 1000 → (∀ p ∈ ps, p.1 < p.2) → K (acc ++ (ps.map fun _ => true).map .bl) μ →
    dLcGo (dGTup 2 (dGCons (dName 2) (dGCons (dName 3) dGNil))) dYes (d_are_ends.c2 Ψ) [some V, some (.int size), x2, x3] (ps.map fun p => .tup [.int p.1, .int p.2]) acc μ K
  | [], acc, K, hl, ht, k => by
    show K acc μ
    rwa [List.map_nil, List.map_nil, List.append_nil] at k
  | e :: es, acc, K, hl, ht, k => by
    refine ⟨_, rfl, rfl, _, _, rfl, _, _, rfl, rfl, fun _ => ⟨_, rfl, _, rfl, _, _, rfl, rfl, ?_, ?_⟩, fun z => Bool.noConfusion z⟩
    · show acc.length ≤ 1000000
      simp only [List.length_cons] at hl; omega
    · have q : decide (e.1 < e.2) = true := decide_eq_true (ht e (.head _))
      show dLcGo _ _ _ _ _ (acc ++ [.bl (decide (e.1 < e.2))]) _ _
      rw [q]
      refine comp2_are_ends es _ K (by simp only [List.length_append, List.length_cons, List.length_nil] at hl ⊢; omega) (fun y hy => ht y (.tail _ hy)) ?_
      rw [List.append_assoc]; exact k
theorem pure_are_ends (ds : List DT) (μ : Mu) (Φ : PK) (Ψ : XKd) (h : sp_are_ends ds μ Φ Ψ) : dRun (d_are_ends Ψ) n_are_ends ds μ Φ := by
  obtain ⟨es, size, rfl, ok, h⟩ := h
  refine ⟨_, rfl, .lst (es.map .int), "list", rfl, rfl, _, rfl, (fun c => absurd c (by decide)), fun _ => ?_⟩
  refine ⟨_, rfl, _, rfl, ?_⟩
  refine comp1_are_ends es [] _ (by show 0 + _ ≤ _; have := ok.n; omega) ok.lt ?_
  refine ⟨_, es.map fun _ => true, rfl, rfl, _, rfl, fun c => ?_, fun _ => ?_⟩
  · have e : (es.map fun _ => true).all id = true := by rw [List.all_map]; exact List.all_eq_true.mpr fun _ _ => rfl
    rw [e] at c; cases c
  · refine ⟨_, rfl, _, rfl, 1, rfl, es.map .int, rfl, _, _, _, _, rfl, rfl, rfl, rfl, rfl, ?_⟩
    have e : ((es.map DT.int).zip (cutD (es.map DT.int) (some 1) none)).map (fun p => DT.tup [p.1, p.2]) = (es.zip (es.drop 1)).map fun p => DT.tup [.int p.1, .int p.2] := by
      rw [cut_one, ← List.map_drop, List.zip_map, List.map_map]; rfl
    rw [e]
    refine comp2_are_ends (es.zip (es.drop 1)) [] _ (by show 0 + _ ≤ _; rw [List.length_zip]; have := ok.n; omega) ok.up ?_
    refine ⟨_, (es.zip (es.drop 1)).map fun _ => true, rfl, rfl, ?_⟩
    have e : ((es.zip (es.drop 1)).map fun _ => true).all id = true := by rw [List.all_map]; exact List.all_eq_true.mpr fun _ _ => rfl
    rw [e]; exact h

/-! ### require_all -/
/-- programs that are taken -/
structure PrgOk (P : Prg) : Prop where
  base : isBaseD (.int P.base) = true
  regs : RegsOk P.regs
  modes : ModesOk P.modes
  rows : ∀ m ∈ P.modes, RowsOk m.rows (absI P.base) P.regs.length (P.modes.map Mode.nm)
  ends : EndsOk P.ends (absI P.base)
  res : termsD (.tup (P.res.map .int)) (P.regs.length + 1) = true ∧ P.res.length ≤ 5000
def sp_require_all : dSp := fun ds μ Φ _ => ∃ P : Prg, ds = [.int P.base, .lst (P.regs.map regD), .lst (P.modes.map modeD), .lst (P.ends.map .int), .tup (P.res.map .int)] ∧ PrgOk P ∧ ∀ μ', Grow μ μ' → Φ .non μ'
theorem len_require_all (ds : List DT) (μ : Mu) (Φ : PK) (Ψ : XKd) (h : sp_require_all ds μ Φ Ψ) : ds.length = 5 := by obtain ⟨_, rfl, _⟩ := h; rfl
theorem terms_ints {us : List Int} {n : Nat} (h1 : us.length = n) (h2 : ∀ c ∈ us, -1000000 ≤ c ∧ c ≤ 1000000) : termsD (.tup (us.map .int)) (n : Int) = true := by
  show (decide (((us.map DT.int).length : Int) = n) && (us.map DT.int).all isTermD) = true
  rw [Bool.and_eq_true]
  refine ⟨decide_eq_true (by rw [List.length_map, h1]), List.all_eq_true.mpr fun d hd => ?_⟩
  obtain ⟨i, hi, rfl⟩ := List.mem_map.mp hd
  have := h2 i hi
  unfold isTermD
  rw [isBet_int, decide_eq_true this.1, decide_eq_true this.2]; rfl
theorem RowIn.line {r : Row} {size : Int} {many : Nat} {ns : List Str} (h : RowIn r size many ns) (hm : many ≤ 900) : LineOk r size many ns := by
  refine ⟨h.sg, h.rm, ?_, ⟨by have := h.us.1; omega, fun u hu => by have := (h.us.2 u hu).1; omega⟩, h.th⟩
  show (decide (((r.us.map fun u => DT.tup (u.map .int)).length : Int) = many) && (r.us.map fun u => DT.tup (u.map .int)).all fun x => termsD x ((many : Int) + 2)) = true
  rw [Bool.and_eq_true]
  refine ⟨decide_eq_true (by rw [List.length_map, h.us.1]), List.all_eq_true.mpr fun d hd => ?_⟩
  obtain ⟨u, hu, rfl⟩ := List.mem_map.mp hd
  obtain ⟨e1, e2⟩ := h.us.2 u hu
  exact terms_ints (n := many + 2) e1 e2
theorem Good.ok {P : Prg} (g : Good P) : PrgOk P where
  base := by rw [isBase_int, decide_eq_true g.base.1, decide_eq_true g.base.2]; rfl
  regs := ⟨g.regs, fun r hr => ⟨(g.rnm r hr).1, (g.rnm r hr).2.1, by
    unfold isTermD
    rw [isBet_int, decide_eq_true (g.rnm r hr).2.2.1, decide_eq_true (g.rnm r hr).2.2.2]; rfl⟩, g.rnd⟩
  modes := ⟨g.modes, g.mnm, g.nd⟩
  rows := fun m hm => ⟨g.rn m hm, fun r hr => (g.row m hm r hr).line (by have := g.regs; omega), g.rd m hm, g.al m hm⟩
  ends := ⟨g.en.1, g.en.2.1, g.en.2.2⟩
  res := ⟨terms_ints (n := P.regs.length + 1) g.res.1 g.res.2, by have := g.res.1; have := g.regs; omega⟩
def d_require_all.c1 (Ψ : XKd) : dE := (dOp dIx (dVar 9) (dC (.int 0)))
def d_require_all.L1 (Ψ : XKd) : dS := (dDrop (dCall noX sp_require_rows (dCons (dVar 6) (dCons (dVar 8) (dCons (dCB dAbs (dCons (dVar 0) dNil)) (dCons (dCB dLen (dCons (dVar 1) dNil)) (dCons (dVar 5) dNil)))))))
def d_require_all.t6 (Ψ : XKd) : dS := (dIf (dNot (dTest (dCall noX sp_are_terms (dCons (dVar 4) (dCons (dOp dAdd (dCB dLen (dCons (dVar 1) dNil)) (dC (.int 1))) dNil))))) dNever dNext)
def d_require_all.t5 (Ψ : XKd) : dS := (dSeq (dIf (dNot (dTest (dCall noX sp_are_ends (dCons (dVar 3) (dCons (dCB dAbs (dCons (dVar 0) dNil)) dNil))))) dNever dNext) (d_require_all.t6 Ψ))
def d_require_all.t4 (Ψ : XKd) : dS := (dSeq (dFor (dIList (dVar 2)) (dGTup 3 (dGCons (dName 6) (dGCons (dName 7) (dGCons (dName 8) dGNil)))) (d_require_all.L1 Ψ)) (d_require_all.t5 Ψ))
def d_require_all.t3 (Ψ : XKd) : dS := (dSeq (dAsg (dLc (dIList (dVar 2)) (dName 9) dYes (d_require_all.c1 Ψ) [9]) (dName 5)) (d_require_all.t4 Ψ))
def d_require_all.t2 (Ψ : XKd) : dS := (dSeq (dDrop (dCall noX sp_require_modes (dCons (dVar 2) dNil))) (d_require_all.t3 Ψ))
def d_require_all.t1 (Ψ : XKd) : dS := (dSeq (dDrop (dCall noX sp_require_registers (dCons (dVar 1) dNil))) (d_require_all.t2 Ψ))
def n_require_all : List Str := ["base", "registers", "modes", "ends", "result", "names", "name", "rule", "rows", "mode"]
def t_require_all (K : Kit) (E : XK) : TS := (tSeq (tIfS (tNot (tB (tCall (lift K sp_is_base) [] E0 (tCons (tVar 0) tNil)))) tNever tNext) (tSeq (tDrop (tCall (lift K sp_require_registers) [] E0 (tCons (tVar 1) tNil))) (tSeq (tDrop (tCall (lift K sp_require_modes) [] E0 (tCons (tVar 2) tNil))) (tSeq (tAsg (tLc (iList K (tVar 2)) (gName 9) tYes (tOp (rIx K) (tVar 9) (tC (.int 0))) [9]) (gName 5)) (tSeq (tFor (iList K (tVar 2)) (gTup K 3 (gCons (gName 6) (gCons (gName 7) (gCons (gName 8) gNil)))) (tDrop (tCall (lift K sp_require_rows) [] E0 (tCons (tVar 6) (tCons (tVar 8) (tCons (tCB bAbs (tCons (tVar 0) tNil)) (tCons (tCB (bLen K) (tCons (tVar 1) tNil)) (tCons (tVar 5) tNil)))))))) (tSeq (tIfS (tNot (tB (tCall (lift K sp_are_ends) [] E0 (tCons (tVar 3) (tCons (tCB bAbs (tCons (tVar 0) tNil)) tNil))))) tNever tNext) (tIfS (tNot (tB (tCall (lift K sp_are_terms) [] E0 (tCons (tVar 4) (tCons (tOp oAdd (tCB (bLen K) (tCons (tVar 1) tNil)) (tC (.int 1))) tNil))))) tNever tNext)))))))
def d_require_all (Ψ : XKd) : dS := (dSeq (dIf (dNot (dTest (dCall noX sp_is_base (dCons (dVar 0) dNil)))) dNever dNext) (d_require_all.t1 Ψ))
theorem r_require_all {K : Kit} (E : XK) (Ψ : XKd) : RS ⟨K, E, Ψ⟩ (t_require_all K E) (d_require_all Ψ) := (rs_seq (rs_if (rt_not (rt_b (re_call (ra_cons re_var ra_nil)))) rs_never rs_next) (rs_seq (rs_drop (re_call (ra_cons re_var ra_nil))) (rs_seq (rs_drop (re_call (ra_cons re_var ra_nil))) (rs_seq (rs_asg (re_lc (vs := [9]) (ri_list re_var) (rg_name (by decide)) rt_yes (re_op ro_ix re_var re_int)) (rg_name (vs := [5]) (by decide))) (rs_seq (rs_for (ri_list re_var) (rg_tup (vs := [6, 7, 8]) (rgs_cons (rg_name (by decide)) (rgs_cons (rg_name (by decide)) (rgs_cons (rg_name (by decide)) rgs_nil)))) (rs_drop (re_call (ra_cons re_var (ra_cons re_var (ra_cons (re_cb rc_abs (ra_cons re_var ra_nil)) (ra_cons (re_cb rc_len (ra_cons re_var ra_nil)) (ra_cons re_var ra_nil)))))))) (rs_seq (rs_if (rt_not (rt_b (re_call (ra_cons re_var (ra_cons (re_cb rc_abs (ra_cons re_var ra_nil)) ra_nil))))) rs_never rs_next) (rs_if (rt_not (rt_b (re_call (ra_cons re_var (ra_cons (re_op ro_add (re_cb rc_len (ra_cons re_var ra_nil)) re_int) ra_nil))))) rs_never rs_next)))))))

theorem loop_require_all {Ψ : XKd} {P : Prg} (ok : PrgOk P) {D : dEnds} {A B C : DT} {x9 : Option DT} {μ0 : Mu} (fin : ∀ x6 x7 x8 μ', Grow μ0 μ' → D.nx [some (.int P.base), some (.lst (P.regs.map regD)), some A, some B, some C, some (.lst ((P.modes.map Mode.nm).map .str)), x6, x7, x8, x9] μ') : ∀ (ms : List Mode) (x6 x7 x8 : Option DT) (μ : Mu), (∀ m ∈ ms, m ∈ P.modes) → Grow μ0 μ →
    dLoop (dGTup 3 (dGCons (dName 6) (dGCons (dName 7) (dGCons (dName 8) dGNil)))) (d_require_all.L1 Ψ) D (ms.map modeD) [some (.int P.base), some (.lst (P.regs.map regD)), some A, some B, some C, some (.lst ((P.modes.map Mode.nm).map .str)), x6, x7, x8, x9] μ
  | [], x6, x7, x8, μ, hm, g => fin _ _ _ μ g
  | m :: ms, x6, x7, x8, μ, hm, g => by
    refine ⟨_, rfl, rfl, _, _, rfl, _, _, rfl, _, _, rfl, rfl, ?_⟩
    refine ⟨_, rfl, _, rfl, _, rfl, _, rfl, _, rfl, _, _, rfl, rfl, _, rfl, .str m.nm, m.rows, absI P.base, P.regs.length, P.modes.map Mode.nm, ?_, ok.rows m (hm m (.head _)), fun μ' g' => ?_⟩
    · rw [List.length_map]; rfl
    · exact loop_require_all ok fin ms _ _ _ μ' (fun y hy => hm y (.tail _ hy)) (g.trans g')
theorem pure_require_all (ds : List DT) (μ : Mu) (Φ : PK) (Ψ : XKd) (h : sp_require_all ds μ Φ Ψ) : dRun (d_require_all Ψ) n_require_all ds μ Φ := by
  obtain ⟨P, rfl, ok, h⟩ := h
  refine ⟨_, rfl, .int P.base, "int", rfl, rfl, _, rfl, (fun c => ?_), fun _ => ?_⟩
  · have c' : (!isBaseD (.int P.base)) = true := c
    rw [ok.base] at c'; cases c'
  refine ⟨_, rfl, P.regs, rfl, ok.regs, fun μ1 g1 => ⟨_, rfl, P.modes, rfl, ok.modes, fun μ2 g2 => ?_⟩⟩
  refine ⟨_, rfl, _, rfl, ?_⟩
  refine lcGo_map (src := modeD) (res := fun m => .str m.nm) P.modes [] (by have := ok.modes.n; show 0 + _ ≤ _; omega) (fun m _ => ⟨_, fun N h => h, fun Φ h => ⟨_, rfl, _, 0, .str m.nm, rfl, rfl, rfl, h⟩⟩) ?_
  have e : [] ++ P.modes.map (fun m => DT.str m.nm) = (P.modes.map Mode.nm).map .str := by rw [List.nil_append, List.map_map]; rfl
  rw [e]
  refine ⟨_, rfl, _, rfl, ?_⟩
  refine loop_require_all ok (fun x6 x7 x8 μ' g' => ?_) P.modes _ _ _ _ (fun m hm => hm) (Grow.refl μ2)
  refine ⟨_, rfl, _, rfl, _, rfl, P.ends, absI P.base, rfl, ok.ends, _, rfl, (fun c => ?_), fun _ => ?_⟩
  · cases c
  refine ⟨_, rfl, _, rfl, _, _, rfl, rfl, _, _, rfl, rfl, .tup (P.res.map .int), "tuple", _, rfl, rfl, ?_, _, rfl, (fun c => ?_), fun _ => h μ' ((g1.trans g2).trans g')⟩
  · intro zs e; cases e
    refine ⟨by rw [List.length_map]; exact ok.res.2, fun x hx => ?_⟩
    obtain ⟨i, _, rfl⟩ := List.mem_map.mp hx
    exact ⟨_, rfl⟩
  · have e2 : termsD (.tup (P.res.map .int)) (((P.regs.map regD).length : Int) + 1) = true := by rw [List.length_map]; exact ok.res.1
    have c' : (!termsD (.tup (P.res.map .int)) (((P.regs.map regD).length : Int) + 1)) = true := c
    rw [e2] at c'; cases c'

/-! ### Program.__init__ -/
def sp_Program___init__ : dSp := fun ds μ Φ _ => ∃ (p : Addr) (P : Prg), ds = [.adr p, .int P.base, .lst (P.regs.map regD), .lst (P.modes.map modeD), .lst (P.ends.map .int), .tup (P.res.map .int)] ∧ μ p = some (.obj "Program" []) ∧ PrgOk P ∧ ∀ μ', GrowBut p μ μ' → μ' p = some (.obj "Program" (progF P)) → Φ .non μ'
theorem len_Program___init__ (ds : List DT) (μ : Mu) (Φ : PK) (Ψ : XKd) (h : sp_Program___init__ ds μ Φ Ψ) : ds.length = 6 := by obtain ⟨_, _, rfl, _⟩ := h; rfl
theorem keys_nodup {rows : List Row} (h : (rows.map Row.k).Nodup) : (rows.map fun r => keyOf (keyD r.k)).Nodup := by
  induction rows with
  | nil => exact List.nodup_nil
  | cons r rows ih =>
    rw [List.map_cons, List.nodup_cons] at h ⊢
    refine ⟨fun c => ?_, ih h.2⟩
    obtain ⟨r', hr', e⟩ := List.mem_map.mp c
    exact h.1 (List.mem_map.mpr ⟨r', hr', keyD_inj.mp e⟩)
def d_Program___init__.c1 (Ψ : XKd) : dE := (dOp dIx (dVar 6) (dC (.int 0)))
def d_Program___init__.t7 (Ψ : XKd) : dS := (dsFld flds (dVar 0) (dVar 5) "own_result")
def d_Program___init__.t6 (Ψ : XKd) : dS := (dSeq (dsFld flds (dVar 0) (dCB dTuple (dCons (dVar 4) dNil)) "own_ends") (d_Program___init__.t7 Ψ))
def d_Program___init__.t5 (Ψ : XKd) : dS := (dSeq (dsFld flds (dVar 0) (dDcS (dIList (dVar 3)) (dName 6) dYes (dOp dIx (dVar 6) (dC (.int 0))) (dDcT (dIList (dOp dIx (dVar 6) (dC (.int 2)))) (dName 7) dYes (dSl dSlT (dVar 7) dNoPart (dPart (dC (.int 2)))) (dSl dSlT (dVar 7) (dPart (dC (.int 2))) dNoPart) [7]) [6]) "own_rows") (d_Program___init__.t6 Ψ))
def d_Program___init__.t4 (Ψ : XKd) : dS := (dSeq (dsFld flds (dVar 0) (dDcS (dIList (dVar 3)) (dName 6) dYes (dOp dIx (dVar 6) (dC (.int 0))) (dOp dIx (dVar 6) (dC (.int 1))) [6]) "own_rules") (d_Program___init__.t5 Ψ))
def d_Program___init__.t3 (Ψ : XKd) : dS := (dSeq (dsFld flds (dVar 0) (dLc (dIList (dVar 3)) (dName 6) dYes (d_Program___init__.c1 Ψ) [6]) "own_names") (d_Program___init__.t4 Ψ))
def d_Program___init__.t2 (Ψ : XKd) : dS := (dSeq (dsFld flds (dVar 0) (dCB dTuple (dCons (dVar 2) dNil)) "own_registers") (d_Program___init__.t3 Ψ))
def d_Program___init__.t1 (Ψ : XKd) : dS := (dSeq (dsFld flds (dVar 0) (dVar 1) "own_base") (d_Program___init__.t2 Ψ))
def n_Program___init__ : List Str := ["self", "base", "registers", "modes", "ends", "result", "mode", "row"]
def t_Program___init__ (K : Kit) (E : XK) : TS := (tSeq (tDrop (tCall (lift K sp_require_all) [] E0 (tCons (tVar 1) (tCons (tVar 2) (tCons (tVar 3) (tCons (tVar 4) (tCons (tVar 5) tNil))))))) (tSeq (sFld K (tVar 0) (tVar 1) "own_base") (tSeq (sFld K (tVar 0) (tCB (bTuple K) (tCons (tVar 2) tNil)) "own_registers") (tSeq (sFld K (tVar 0) (tLc (iList K (tVar 3)) (gName 6) tYes (tOp (rIx K) (tVar 6) (tC (.int 0))) [6]) "own_names") (tSeq (sFld K (tVar 0) (tDc (iList K (tVar 3)) (gName 6) tYes (tOp (rIx K) (tVar 6) (tC (.int 0))) (tOp (rIx K) (tVar 6) (tC (.int 1))) [6]) "own_rules") (tSeq (sFld K (tVar 0) (tDc (iList K (tVar 3)) (gName 6) tYes (tOp (rIx K) (tVar 6) (tC (.int 0))) (tDcT K (iList K (tOp (rIx K) (tVar 6) (tC (.int 2)))) (gName 7) tYes (tSl (rSlA K) (tVar 7) tNoPart (tPart (tC (.int 2)))) (tSl (rSlA K) (tVar 7) (tPart (tC (.int 2))) tNoPart) [7]) [6]) "own_rows") (tSeq (sFld K (tVar 0) (tCB (bTuple K) (tCons (tVar 4) tNil)) "own_ends") (sFld K (tVar 0) (tVar 5) "own_result"))))))))
def d_Program___init__ (Ψ : XKd) : dS := (dSeq (dDrop (dCall noX sp_require_all (dCons (dVar 1) (dCons (dVar 2) (dCons (dVar 3) (dCons (dVar 4) (dCons (dVar 5) dNil))))))) (d_Program___init__.t1 Ψ))
theorem r_Program___init__ {K : Kit} (fl : FlOk K flds) (E : XK) (Ψ : XKd) : RS ⟨K, E, Ψ⟩ (t_Program___init__ K E) (d_Program___init__ Ψ) := (rs_seq (rs_drop (re_call (ra_cons re_var (ra_cons re_var (ra_cons re_var (ra_cons re_var (ra_cons re_var ra_nil))))))) (rs_seq (rs_fld fl re_var re_var) (rs_seq (rs_fld fl re_var (re_cb rc_tuple (ra_cons re_var ra_nil))) (rs_seq (rs_fld fl re_var (re_lc (vs := [6]) (ri_list re_var) (rg_name (by decide)) rt_yes (re_op ro_ix re_var re_int))) (rs_seq (rs_fld fl re_var (re_dcS (vs := [6]) (ri_list re_var) (rg_name (by decide)) rt_yes (re_op ro_ix re_var re_int) (re_op ro_ix re_var re_int))) (rs_seq (rs_fld fl re_var (re_dcS (vs := [6]) (ri_list re_var) (rg_name (by decide)) rt_yes (re_op ro_ix re_var re_int) (re_dcT (vs := [7]) (ri_list (re_op ro_ix re_var re_int)) (rg_name (by decide)) rt_yes (re_sl rsl_t re_var rp_no (rp_part re_int)) (re_sl rsl_t re_var (rp_part re_int) rp_no)))) (rs_seq (rs_fld fl re_var (re_cb rc_tuple (ra_cons re_var ra_nil))) (rs_fld fl re_var re_var))))))))

theorem pure_Program___init__ (ds : List DT) (μ : Mu) (Φ : PK) (Ψ : XKd) (h : sp_Program___init__ ds μ Φ Ψ) : dRun (d_Program___init__ Ψ) n_Program___init__ ds μ Φ := by
  obtain ⟨p, P, rfl, hp, ok, h⟩ := h
  have hl : ∀ n : Nat, n ≤ 5000 → ([] : List DT).length + n ≤ 1000000 := fun n h => by simp only [List.length_nil]; omega
  have hl2 : ∀ n : Nat, n ≤ 5000 → ([] : List (DT × DT)).length + n ≤ 1000000 := fun n h => by simp only [List.length_nil]; omega
  have nm := ok.modes.n
  refine ⟨_, rfl, _, rfl, _, rfl, _, rfl, _, rfl, P, rfl, ok, fun μ1 g1 => ?_⟩
  have hp1 := g1 p _ hp
  refine ⟨_, rfl, _, rfl, p, _, _, rfl, hp1, rfl, by walk_at "sw_nn", ?_⟩
  refine ⟨_, rfl, _, _, rfl, rfl, _, rfl, p, _, _, rfl, Mu.put_same, rfl, by walk_at "sw_nn", ?_⟩
  refine ⟨_, rfl, _, rfl, ?_⟩
  refine lcGo_map (src := modeD) (res := fun m => .str m.nm) P.modes [] (hl _ (by omega)) (fun m _ => ⟨_, fun N h => h, fun Φ h => ⟨_, rfl, _, 0, .str m.nm, rfl, rfl, rfl, h⟩⟩) ?_
  refine ⟨_, rfl, p, _, _, rfl, Mu.put_same, rfl, by walk_at "sw_nn", ?_⟩
  refine ⟨_, rfl, _, rfl, ?_⟩
  refine dsGo_map (src := modeD) (kf := Mode.nm) (vf := fun m => .str (rname m.ru)) P.modes [] (hl2 _ (by omega)) ok.modes.nd (fun x _ q hq => by cases hq) (fun m _ => ⟨_, fun N h => h, fun Φ h => ⟨_, rfl, _, 0, .str m.nm, rfl, rfl, rfl, h⟩, fun Φ h => ⟨_, rfl, _, 1, .str (rname m.ru), rfl, rfl, rfl, h⟩⟩) ?_
  refine ⟨_, rfl, p, _, _, rfl, Mu.put_same, rfl, by walk_at "sw_nn", ?_⟩
  refine ⟨_, rfl, _, rfl, ?_⟩
  refine dsGo_map (src := modeD) (kf := Mode.nm) (vf := fun m => .dct (rowsKV m.rows)) P.modes [] (hl2 _ (by omega)) ok.modes.nd (fun x _ q hq => by cases hq) (fun m hm => ⟨_, fun N h => h, fun Φ h => ⟨_, rfl, _, 0, .str m.nm, rfl, rfl, rfl, h⟩, fun Φ h => ?_⟩) ?_
  · refine ⟨_, rfl, _, 2, .lst (m.rows.map rowD), rfl, rfl, rfl, _, rfl, ?_⟩
    exact dcGo_map (src := rowD) (kf := fun r => keyD r.k) (vf := valD) m.rows [] (hl2 _ (by have := (ok.rows m hm).n; omega)) (keys_nodup (ok.rows m hm).nd) (fun r _ => keyD_ok r.k) (fun x _ q hq => by cases hq) (fun r _ => ⟨_, fun N h => h, fun Φ h => ⟨_, rfl, _, rfl, _, rfl, h⟩, fun Φ h => ⟨_, rfl, _, rfl, _, rfl, h⟩⟩) h
  refine ⟨_, rfl, p, _, _, rfl, Mu.put_same, rfl, by walk_at "sw_nn", ?_⟩
  refine ⟨_, rfl, _, _, rfl, rfl, _, rfl, p, _, _, rfl, Mu.put_same, rfl, by walk_at "sw_nn", ?_⟩
  refine ⟨_, rfl, _, rfl, p, _, _, rfl, Mu.put_same, rfl, by walk_at "sw_nn", ?_⟩
  exact h _ g1.but.put.put.put.put.put.put.put Mu.put_same

/-! ### _law_made -/
def sp_law_made : dSp := fun ds μ Φ _ => ∃ P : Prg, ds = [partsD P] ∧ PrgOk P ∧ ∀ μ', Grow μ μ' → Φ (progD P) μ'
theorem len_law_made (ds : List DT) (μ : Mu) (Φ : PK) (Ψ : XKd) (h : sp_law_made ds μ Φ Ψ) : ds.length = 1 := by obtain ⟨_, rfl, _⟩ := h; rfl
def n_law_made : List Str := ["parts"]
def t_law_made (K : Kit) (E : XK) : TS := (tRet (tMake (He.ga K "Program") (lift K sp_Program___init__) [] E0 (tCons (tOp (rIx K) (tVar 0) (tC (.int 0))) (tCons (tOp (rIx K) (tVar 0) (tC (.int 1))) (tCons (tOp (rIx K) (tVar 0) (tC (.int 2))) (tCons (tOp (rIx K) (tVar 0) (tC (.int 3))) (tCons (tOp (rIx K) (tVar 0) (tC (.int 4))) tNil)))))))
def d_law_made (Ψ : XKd) : dS := (dRet (dMake noX "Program" sp_Program___init__ (dCons (dOp dIx (dVar 0) (dC (.int 0))) (dCons (dOp dIx (dVar 0) (dC (.int 1))) (dCons (dOp dIx (dVar 0) (dC (.int 2))) (dCons (dOp dIx (dVar 0) (dC (.int 3))) (dCons (dOp dIx (dVar 0) (dC (.int 4))) dNil)))))))
theorem r_law_made {K : Kit} (E : XK) (Ψ : XKd) : RS ⟨K, E, Ψ⟩ (t_law_made K E) (d_law_made Ψ) := (rs_ret (re_make (ra_cons (re_op ro_ix re_var re_int) (ra_cons (re_op ro_ix re_var re_int) (ra_cons (re_op ro_ix re_var re_int) (ra_cons (re_op ro_ix re_var re_int) (ra_cons (re_op ro_ix re_var re_int) ra_nil)))))))

theorem pure_law_made (ds : List DT) (μ : Mu) (Φ : PK) (Ψ : XKd) (h : sp_law_made ds μ Φ Ψ) : dRun (d_law_made Ψ) n_law_made ds μ Φ := by
  obtain ⟨P, rfl, ok, h⟩ := h
  refine ⟨_, rfl, _, 0, .int P.base, rfl, rfl, rfl, ?_⟩
  refine ⟨_, rfl, _, 1, .lst (P.regs.map regD), rfl, rfl, rfl, ?_⟩
  refine ⟨_, rfl, _, 2, .lst (P.modes.map modeD), rfl, rfl, rfl, ?_⟩
  refine ⟨_, rfl, _, 3, .lst (P.ends.map .int), rfl, rfl, rfl, ?_⟩
  refine ⟨_, rfl, _, 4, .tup (P.res.map .int), rfl, rfl, rfl, fun p hp => ?_⟩
  refine ⟨p, P, rfl, Mu.put_same, ok, fun μ' g e => ⟨rfl, _, e, ?_⟩⟩
  exact h _ ((g.new.out).grow hp)

/-! ### _law_number -/
def sp_law_number : dSp := fun ds μ Φ _ => ∃ p, ds = [.adr p] ∧ Pool μ p ∧ ∀ n μ', n.natAbs ≤ 10 ^ 20 → Drawn p μ μ' → Φ (.int n) μ'
theorem len_law_number (ds : List DT) (μ : Mu) (Φ : PK) (Ψ : XKd) (h : sp_law_number ds μ Φ Ψ) : ds.length = 1 := by obtain ⟨_, rfl, _⟩ := h; rfl
def d_law_number.t1 (Ψ : XKd) : dS := (dRet (dCall noX sp_law_choose (dCons (dVar 0) (dCons (dVar 1) dNil))))
def n_law_number : List Str := ["pool", "some"]
def t_law_number (K : Kit) (E : XK) : TS := (tSeq (tAsg (tLst (tCons (tOp oSub (tCall (lift K sp_law_draw) [] E0 (tCons (tVar 0) (tCons (tC (.int 41)) tNil))) (tC (.int 20))) (tCons (tOp oSub (tCall (lift K sp_law_draw) [] E0 (tCons (tVar 0) (tCons (tC (.int 2001)) tNil))) (tC (.int 1000))) (tCons (tOp oSub (tCall (lift K sp_law_draw) [] E0 (tCons (tVar 0) (tCons (tOp oPow (tC (.int 10)) (tC (.int 20))) tNil))) (tOp oPow (tC (.int 10)) (tC (.int 19)))) tNil)))) (gName 1)) (tRet (tCall (lift K sp_law_choose) [] E0 (tCons (tVar 0) (tCons (tVar 1) tNil)))))
def d_law_number (Ψ : XKd) : dS := (dSeq (dAsg (dLst (dCons (dOp dSub (dCall noX sp_law_draw (dCons (dVar 0) (dCons (dC (.int 41)) dNil))) (dC (.int 20))) (dCons (dOp dSub (dCall noX sp_law_draw (dCons (dVar 0) (dCons (dC (.int 2001)) dNil))) (dC (.int 1000))) (dCons (dOp dSub (dCall noX sp_law_draw (dCons (dVar 0) (dCons (dOp dPow (dC (.int 10)) (dC (.int 20))) dNil))) (dOp dPow (dC (.int 10)) (dC (.int 19)))) dNil)))) (dName 1)) (d_law_number.t1 Ψ))
theorem r_law_number {K : Kit} (E : XK) (Ψ : XKd) : RS ⟨K, E, Ψ⟩ (t_law_number K E) (d_law_number Ψ) := (rs_seq (rs_asg (re_lst (ra_cons (re_op ro_sub (re_call (ra_cons re_var (ra_cons re_int ra_nil))) re_int) (ra_cons (re_op ro_sub (re_call (ra_cons re_var (ra_cons re_int ra_nil))) re_int) (ra_cons (re_op ro_sub (re_call (ra_cons re_var (ra_cons (re_op ro_pow re_int re_int) ra_nil))) (re_op ro_pow re_int re_int)) ra_nil)))) (rg_name (vs := [1]) (by decide))) (rs_ret (re_call (ra_cons re_var (ra_cons re_var ra_nil)))))

theorem pure_law_number (ds : List DT) (μ : Mu) (Φ : PK) (Ψ : XKd) (h : sp_law_number ds μ Φ Ψ) : dRun (d_law_number Ψ) n_law_number ds μ Φ := by
  obtain ⟨p, rfl, hp, h⟩ := h
  have e20 : (10 : Int) ^ (20 : Int).toNat = 100000000000000000000 := by decide
  have e19 : (10 : Int) ^ (19 : Int).toNat = 10000000000000000000 := by decide
  refine ⟨_, rfl, p, _, rfl, hp, by decide, by decide, fun i1 μ1 a1 b1 r1 => ⟨_, _, rfl, rfl, ?_⟩⟩
  refine ⟨_, rfl, p, _, rfl, r1.pool, by decide, by decide, fun i2 μ2 a2 b2 r2 => ⟨_, _, rfl, rfl, ?_⟩⟩
  refine ⟨_, rfl, _, _, rfl, rfl, ⟨by decide, by decide, by decide⟩, p, _, rfl, r2.pool, by decide, by decide, fun i3 μ3 a3 b3 r3 => ⟨_, _, rfl, rfl, ⟨by decide, by decide, by decide⟩, _, _, rfl, rfl, by walk_at "sw_nn", ?_⟩⟩
  have b3' : i3 < 100000000000000000000 := e20 ▸ b3
  refine ⟨_, rfl, _, rfl, p, _, _, rfl, r3.pool, rfl, (fun z => nomatch z), by walk_at "sw_nn", by walk_at "sw_nn", fun x hx μ4 r4 => ?_⟩
  have rr := ((r1.trans r2).trans r3).trans r4
  simp only [List.mem_cons, List.not_mem_nil, or_false] at hx
  rcases hx with rfl | rfl | rfl
  · exact h _ μ4 (by omega) rr
  · exact h _ μ4 (by omega) rr
  · refine h _ μ4 ?_ rr
    have b4 : (0 : Int) ≤ i3 := a3
    have e20n : (10 : Nat) ^ 20 = 100000000000000000000 := by decide
    rw [e19, e20n]; omega

/-! ### _law_figures -/
def sp_law_figures : dSp := fun ds μ Φ _ => ∃ (n : Int) (b : Nat), ds = [.int n, .int b] ∧ 2 ≤ b ∧ b ≤ 10 ∧ n.natAbs < 2 ^ 2900 ∧ ∀ μ', Grow μ μ' → Φ (.tup ((digs b n.natAbs).map .int)) μ'
theorem len_law_figures (ds : List DT) (μ : Mu) (Φ : PK) (Ψ : XKd) (h : sp_law_figures ds μ Φ Ψ) : ds.length = 2 := by obtain ⟨_, _, rfl, _⟩ := h; rfl
def d_law_figures.L1t1 (Ψ : XKd) : dS := (dAsg (dOp dDiv (dVar 2) (dVar 1)) (dName 2))
def d_law_figures.L1 (Ψ : XKd) : dS := (dSeq (dDrop (dAppend (dVar 3) (dCons (dOp dMod (dCB dInt (dCons (dVar 2) dNil)) (dVar 1)) dNil))) (d_law_figures.L1t1 Ψ))
def d_law_figures.t2 (Ψ : XKd) : dS := (dRet (dCB dTuple (dCons (dVar 3) dNil)))
def d_law_figures.t1 (Ψ : XKd) : dS := (dSeq (dWhile (dTest (dOp dGt (dVar 2) (dC (.int 0)))) (d_law_figures.L1 Ψ)) (d_law_figures.t2 Ψ))
def n_law_figures : List Str := ["number", "size", "left", "found"]
def t_law_figures (K : Kit) (E : XK) : TS := (tSeq (tPar 2 3 (tCons (tCB bAbs (tCons (tVar 0) tNil)) (tCons (tLst tNil) tNil))) (tSeq (tWhile (tTest (tOp oGt (tVar 2) (tC (.int 0)))) (tSeq (tDrop (tBM K "list" rAppend (tVar 3) (tCons (tOp oMod (tCB bInt (tCons (tVar 2) tNil)) (tVar 1)) tNil))) (tAsg (tOp oDiv (tVar 2) (tVar 1)) (gName 2)))) (tRet (tCB (bTuple K) (tCons (tVar 3) tNil)))))
def d_law_figures (Ψ : XKd) : dS := (dSeq (dPar 2 3 (dCons (dCB dAbs (dCons (dVar 0) dNil)) (dCons (dLstM dNil) dNil))) (d_law_figures.t1 Ψ))
theorem r_law_figures {K : Kit} (E : XK) (Ψ : XKd) : RS ⟨K, E, Ψ⟩ (t_law_figures K E) (d_law_figures Ψ) := (rs_seq (rs_par (ra_cons (re_cb rc_abs (ra_cons re_var ra_nil)) (ra_cons (re_lstM ra_nil) ra_nil))) (rs_seq (rs_while (rt_test (re_op ro_gt re_var re_int)) (rs_seq (rs_drop (re_append re_var (ra_cons (re_op ro_mod (re_cb rc_int (ra_cons re_var ra_nil)) re_var) ra_nil))) (rs_asg (re_op ro_div re_var re_var) (rg_name (vs := [2]) (by decide))))) (rs_ret (re_cb rc_tuple (ra_cons re_var ra_nil)))))

theorem pure_law_figures (ds : List DT) (μ : Mu) (Φ : PK) (Ψ : XKd) (h : sp_law_figures ds μ Φ Ψ) : dRun (d_law_figures Ψ) n_law_figures ds μ Φ := by
  obtain ⟨n, b, rfl, hb, hb2, hn, h⟩ := h
  have ea : (if n < 0 then -n else n) = (n.natAbs : Int) := by split <;> omega
  refine ⟨_, rfl, _, rfl, by walk_at "sw_nn", fun q hq => ⟨_, _, rfl, ?_⟩⟩
  show dSeq _ _ _ [some (.int n), some (.int b), some (.int (if n < 0 then -n else n)), some (.adr q)] _
  rw [ea]
  refine ⟨fun m env μ1 => ∃ (l : Nat) (pre : List Int), l = m ∧ env = [some (.int n), some (.int b), some (.int l), some (.adr q)] ∧ μ1 q = some (.lst (pre.map .int)) ∧ Grow μ μ1 ∧ l ≤ n.natAbs ∧ pre ++ digs b l = digs b n.natAbs,
    ⟨_, n.natAbs, [], rfl, rfl, Mu.put_same, (Grow.refl μ).new hq, Nat.le_refl _, rfl⟩, fun m env μ1 hI => ?_⟩
  obtain ⟨l, pre, rfl, rfl, hq1, g1, hl, he⟩ := hI
  refine ⟨_, rfl, _, _, rfl, rfl, _, rfl, fun c => ?_, fun c => ?_⟩
  · have c := of_decide_eq_true c
    have hl0 : 0 < l := by omega
    rw [digs_pos hb hl0] at he
    have pl : pre.length + 1 ≤ 2900 := by
      have := digs_len hb 2900 _ hn
      rw [← he] at this
      simp only [List.length_append, List.length_cons] at this; omega
    refine ⟨_, rfl, q, _, rfl, hq1, _, rfl, .inl ⟨_, rfl, _, rfl, _, _, rfl, rfl, by omega, _, _, rfl, hq1, by show List.length _ ≤ 1000000; rw [List.length_map]; omega, ?_⟩⟩
    refine ⟨_, rfl, _, rfl, _, _, rfl, rfl, wide_div (by omega) (b := 2900) (by omega) (by decide) (by decide), ?_⟩
    refine ⟨l / b, Nat.div_lt_self hl0 hb, l / b, pre ++ [((l % b : Nat) : Int)], rfl, rfl, ?_, g1.new hq, Nat.le_trans (Nat.div_le_self _ _) hl, ?_⟩
    · rw [Mu.put_same, List.map_append]; rfl
    · rw [List.append_assoc]; exact he
  · have c := of_decide_eq_false c
    have hl0 : l = 0 := by omega
    subst hl0
    rw [digs_zero, List.append_nil] at he
    refine ⟨_, rfl, _, pre.map .int, rfl, ?_, ?_⟩
    rotate_left
    · have := h μ1 g1
      rw [← he] at this
      exact this
    · simp only [seqOf, hq1]

/-! ### figures_in -/
def sp_figures_in : dSp := fun ds μ Φ _ => ∃ (n : Int) (b : Nat), ds = [.int n, .int b] ∧ 2 ≤ b ∧ b ≤ 10 ∧ n.natAbs < 2 ^ 2900 ∧ ∀ μ', Grow μ μ' → Φ (.tup ((digs b n.natAbs).map .int)) μ'
theorem len_figures_in (ds : List DT) (μ : Mu) (Φ : PK) (Ψ : XKd) (h : sp_figures_in ds μ Φ Ψ) : ds.length = 2 := by obtain ⟨_, _, rfl, _⟩ := h; rfl
def d_figures_in.L1t1 (Ψ : XKd) : dS := (dDrop (dAppend (dVar 2) (dCons (dVar 4) dNil)))
def d_figures_in.L1 (Ψ : XKd) : dS := (dSeq (dAsg (dCB dDivmod (dCons (dVar 3) (dCons (dVar 1) dNil))) (dGTup 2 (dGCons (dName 3) (dGCons (dName 4) dGNil)))) (d_figures_in.L1t1 Ψ))
def d_figures_in.t3 (Ψ : XKd) : dS := (dRet (dCB dTuple (dCons (dVar 2) dNil)))
def d_figures_in.t2 (Ψ : XKd) : dS := (dSeq (dWhile (dTest (dOp dGt (dVar 3) (dC (.int 0)))) (d_figures_in.L1 Ψ)) (d_figures_in.t3 Ψ))
def d_figures_in.t1 (Ψ : XKd) : dS := (dSeq (dAsg (dCB dAbs (dCons (dVar 0) dNil)) (dName 3)) (d_figures_in.t2 Ψ))
def n_figures_in : List Str := ["number", "size", "found", "left", "figure"]
def t_figures_in (K : Kit) (E : XK) : TS := (tSeq (tAsg (tLst tNil) (gName 2)) (tSeq (tAsg (tCB bAbs (tCons (tVar 0) tNil)) (gName 3)) (tSeq (tWhile (tTest (tOp oGt (tVar 3) (tC (.int 0)))) (tSeq (tAsg (tCB bDivmod (tCons (tVar 3) (tCons (tVar 1) tNil))) (gTup K 2 (gCons (gName 3) (gCons (gName 4) gNil)))) (tDrop (tBM K "list" rAppend (tVar 2) (tCons (tVar 4) tNil))))) (tRet (tCB (bTuple K) (tCons (tVar 2) tNil))))))
def d_figures_in (Ψ : XKd) : dS := (dSeq (dAsg (dLstM dNil) (dName 2)) (d_figures_in.t1 Ψ))
theorem r_figures_in {K : Kit} (E : XK) (Ψ : XKd) : RS ⟨K, E, Ψ⟩ (t_figures_in K E) (d_figures_in Ψ) := (rs_seq (rs_asg (re_lstM ra_nil) (rg_name (vs := [2]) (by decide))) (rs_seq (rs_asg (re_cb rc_abs (ra_cons re_var ra_nil)) (rg_name (vs := [3]) (by decide))) (rs_seq (rs_while (rt_test (re_op ro_gt re_var re_int)) (rs_seq (rs_asg (re_cb rc_divmod (ra_cons re_var (ra_cons re_var ra_nil))) (rg_tup (vs := [3, 4]) (rgs_cons (rg_name (by decide)) (rgs_cons (rg_name (by decide)) rgs_nil)))) (rs_drop (re_append re_var (ra_cons re_var ra_nil))))) (rs_ret (re_cb rc_tuple (ra_cons re_var ra_nil))))))

theorem pure_figures_in (ds : List DT) (μ : Mu) (Φ : PK) (Ψ : XKd) (h : sp_figures_in ds μ Φ Ψ) : dRun (d_figures_in Ψ) n_figures_in ds μ Φ := by
  obtain ⟨n, b, rfl, hb, hb2, hn, h⟩ := h
  refine ⟨by walk_at "sw_nn", fun q hq => ?_⟩
  have ea : (if n < 0 then -n else n) = (n.natAbs : Int) := by split <;> omega
  refine ⟨_, rfl, _, rfl, ?_⟩
  show dSeq _ _ _ [some (.int n), some (.int b), some (.adr q), some (.int (if n < 0 then -n else n)), none] _
  rw [ea]
  refine ⟨fun m env μ1 => ∃ (l : Nat) (pre : List Int) (x : Option DT), l = m ∧ env = [some (.int n), some (.int b), some (.adr q), some (.int l), x] ∧ μ1 q = some (.lst (pre.map .int)) ∧ Grow μ μ1 ∧ l ≤ n.natAbs ∧ pre ++ digs b l = digs b n.natAbs,
    ⟨_, n.natAbs, [], none, rfl, rfl, Mu.put_same, (Grow.refl μ).new hq, Nat.le_refl _, rfl⟩, fun m env μ1 hI => ?_⟩
  obtain ⟨l, pre, x, rfl, rfl, hq1, g1, hl, he⟩ := hI
  refine ⟨_, rfl, _, _, rfl, rfl, _, rfl, fun c => ?_, fun c => ?_⟩
  · have c := of_decide_eq_true c
    have hl0 : 0 < l := by omega
    rw [digs_pos hb hl0] at he
    have pl : pre.length + 1 ≤ 2900 := by
      have := digs_len hb 2900 _ hn
      rw [← he] at this
      simp only [List.length_append, List.length_cons] at this; omega
    refine ⟨_, rfl, _, rfl, _, _, rfl, divOk (by omega) (by omega), _, rfl, rfl, _, _, rfl, _, _, rfl, rfl, ?_⟩
    refine ⟨_, rfl, q, _, rfl, hq1, _, rfl, _, _, rfl, hq1, by show List.length _ ≤ 1000000; rw [List.length_map]; omega, ?_⟩
    refine ⟨l / b, Nat.div_lt_self hl0 hb, l / b, pre ++ [((l % b : Nat) : Int)], _, rfl, rfl, ?_, g1.new hq, Nat.le_trans (Nat.div_le_self _ _) hl, ?_⟩
    · rw [Mu.put_same, List.map_append]; rfl
    · rw [List.append_assoc]; exact he
  · have c := of_decide_eq_false c
    have hl0 : l = 0 := by omega
    subst hl0
    rw [digs_zero, List.append_nil] at he
    refine ⟨_, rfl, _, pre.map .int, rfl, ?_, ?_⟩
    rotate_left
    · have := h μ1 g1
      rw [← he] at this
      exact this
    · simp only [seqOf, hq1]

/-! ### figures_of -/
def sp_figures_of : dSp := fun ds μ Φ Ψ => ∃ d s t u, ds = [d, s] ∧ tyOf μ d = some t ∧ tyOf μ s = some u ∧
  (isIntD d = false → Ψ "InvalidNumber" [("value", d)] μ) ∧
  (isIntD d = true → isBetD s 2 10 = false → Ψ "InvalidBase" [("value", s)] μ) ∧
  (∀ (n : Int) (b : Nat), d = .int n → s = .int b → 2 ≤ b → b ≤ 10 → n.natAbs < 2 ^ 2900 ∧ ∀ μ', Grow μ μ' → Φ (.tup ((digs b n.natAbs).map .int)) μ')
theorem len_figures_of (ds : List DT) (μ : Mu) (Φ : PK) (Ψ : XKd) (h : sp_figures_of ds μ Φ Ψ) : ds.length = 2 := by obtain ⟨_, _, _, _, rfl, _⟩ := h; rfl
theorem int_of {d : DT} (h : isIntD d = true) : ∃ n, d = .int n := by cases d <;> first | exact ⟨_, rfl⟩ | cases h
theorem bet_of {d : DT} {lo hi : Int} (h : isBetD d lo hi = true) : ∃ n, d = .int n ∧ lo ≤ n ∧ n ≤ hi := by
  cases d with
  | int n => 
    have h' : (decide (lo ≤ n) && decide (n ≤ hi)) = true := h
    rw [Bool.and_eq_true] at h'
    exact ⟨n, rfl, of_decide_eq_true h'.1, of_decide_eq_true h'.2⟩
  | _ => cases h
def d_figures_of.t2 (Ψ : XKd) : dS := (dRet (dCall noX sp_figures_in (dCons (dVar 0) (dCons (dVar 1) dNil))))
def d_figures_of.t1 (Ψ : XKd) : dS := (dSeq (dIf (dNot (dTest (dCall noX sp_is_between (dCons (dVar 1) (dCons (dC (.int 2)) (dCons (dC (.int 10)) dNil)))))) (dRaise Ψ "InvalidBase" "value" (dVar 1)) dNext) (d_figures_of.t2 Ψ))
def n_figures_of : List Str := ["number", "size"]
def t_figures_of (K : Kit) (E : XK) : TS := (tSeq (tIfS (tNot (tB (tCall (lift K sp_is_integer) [] E0 (tCons (tVar 0) tNil)))) (fun _ σ H => tMkO (He.ga K "InvalidNumber") (spExc K "value") [] (tCons (tVar 0) tNil) σ H fun cls d H' => E cls d H') tNext) (tSeq (tIfS (tNot (tB (tCall (lift K sp_is_between) [] E0 (tCons (tVar 1) (tCons (tC (.int 2)) (tCons (tC (.int 10)) tNil)))))) (fun _ σ H => tMkO (He.ga K "InvalidBase") (spExc K "value") [] (tCons (tVar 1) tNil) σ H fun cls d H' => E cls d H') tNext) (tRet (tCall (lift K sp_figures_in) [] E0 (tCons (tVar 0) (tCons (tVar 1) tNil))))))
def d_figures_of (Ψ : XKd) : dS := (dSeq (dIf (dNot (dTest (dCall noX sp_is_integer (dCons (dVar 0) dNil)))) (dRaise Ψ "InvalidNumber" "value" (dVar 0)) dNext) (d_figures_of.t1 Ψ))
theorem r_figures_of {K : Kit} (x_InvalidNumber : XcOk K "InvalidNumber" "value") (x_InvalidBase : XcOk K "InvalidBase" "value") (E : XK) (Ψ : XKd) : RS ⟨K, E, Ψ⟩ (t_figures_of K E) (d_figures_of Ψ) := (rs_seq (rs_if (rt_not (rt_b (re_call (ra_cons re_var ra_nil)))) (rs_raise x_InvalidNumber re_var) rs_next) (rs_seq (rs_if (rt_not (rt_b (re_call (ra_cons re_var (ra_cons re_int (ra_cons re_int ra_nil)))))) (rs_raise x_InvalidBase re_var) rs_next) (rs_ret (re_call (ra_cons re_var (ra_cons re_var ra_nil))))))

theorem pure_figures_of (ds : List DT) (μ : Mu) (Φ : PK) (Ψ : XKd) (h : sp_figures_of ds μ Φ Ψ) : dRun (d_figures_of Ψ) n_figures_of ds μ Φ := by
  obtain ⟨d, s, t, u, rfl, ht, hu, h1, h2, h3⟩ := h
  refine ⟨_, rfl, d, t, rfl, ht, _, rfl, fun c => ?_, fun c => ?_⟩
  · have c' : isIntD d = false := by revert c; cases isIntD d <;> intro c <;> first | rfl | cases c
    exact ⟨_, rfl, h1 c'⟩
  · have c' : isIntD d = true := by revert c; cases isIntD d <;> intro c <;> first | rfl | cases c
    refine ⟨_, rfl, s, u, 2, 10, rfl, hu, _, rfl, fun c2 => ?_, fun c2 => ?_⟩
    · have c3 : isBetD s 2 10 = false := by revert c2; cases isBetD s 2 10 <;> intro c <;> first | rfl | cases c
      exact ⟨_, rfl, h2 c' c3⟩
    · have c3 : isBetD s 2 10 = true := by revert c2; cases isBetD s 2 10 <;> intro c <;> first | rfl | cases c
      obtain ⟨n, rfl⟩ := int_of c'
      obtain ⟨m, rfl, l1, l2⟩ := bet_of c3
      obtain ⟨b, rfl⟩ : ∃ b : Nat, m = b := ⟨m.toNat, by omega⟩
      obtain ⟨hs, h3⟩ := h3 n b rfl rfl (by omega) (by omega)
      exact ⟨_, rfl, _, rfl, n, b, rfl, by omega, by omega, hs, h3⟩

/-! ### is_sign -/
def sp_is_sign : dSp := fun ds μ Φ _ => ∃ d t, ds = [d] ∧ tyOf μ d = some t ∧ Φ (.bl (isSignD d)) μ
theorem len_is_sign (ds : List DT) (μ : Mu) (Φ : PK) (Ψ : XKd) (h : sp_is_sign ds μ Φ Ψ) : ds.length = 1 := by obtain ⟨_, _, rfl, _⟩ := h; rfl
def n_is_sign : List Str := ["value"]
def t_is_sign (K : Kit) (E : XK) : TS := (tRet (tAndV (tCall (lift K sp_is_integer) [] E0 (tCons (tVar 0) tNil)) (tOp (rIn K false) (tVar 0) (tTup (tCons (tUn oNeg (tC (.int 1))) (tCons (tC (.int 1)) tNil))))))
def d_is_sign (Ψ : XKd) : dS := (dRet (dAndV (dCall noX sp_is_integer (dCons (dVar 0) dNil)) (dOp (dIn false) (dVar 0) (dTup (dCons (dUn dNeg (dC (.int 1))) (dCons (dC (.int 1)) dNil))))))
theorem r_is_sign {K : Kit} (E : XK) (Ψ : XKd) : RS ⟨K, E, Ψ⟩ (t_is_sign K E) (d_is_sign Ψ) := (rs_ret (re_and (re_call (ra_cons re_var ra_nil)) (re_op ro_in re_var (re_tup (ra_cons (re_un ru_neg re_int) (ra_cons re_int ra_nil))))))

theorem pure_is_sign (ds : List DT) (μ : Mu) (Φ : PK) (Ψ : XKd) (h : sp_is_sign ds μ Φ Ψ) : dRun (d_is_sign Ψ) n_is_sign ds μ Φ := by
  obtain ⟨d, t, rfl, ht, h⟩ := h
  refine ⟨_, rfl, d, t, rfl, ht, _, rfl, fun c => ?_, fun c => ?_⟩
  · obtain ⟨i, rfl⟩ := isInt_ex c
    refine ⟨_, rfl, _, rfl, by walk_at "sw_nn", _, rfl, rfl, rfl, ?_⟩
    have e : inD (.int i) [.int (-1), .int 1] = isSignD (.int i) := by
      rw [isSign_int]; simp only [inD, List.any_cons, List.any_nil, Bool.or_false, eqD_int]
      congr 1 <;> exact decide_eq_decide.mpr ⟨fun z => z.symm, fun z => z.symm⟩
    show Φ (.bl (inD (.int i) [.int (-1), .int 1])) μ
    rw [e]; exact h
  · rw [isSign_no c] at h; exact h

/-! ### are_figures -/
def figD (d : DT) (size : Int) : Bool := match d with
  | .tup ds => ds.all fun x => isBetD x 0 (size - 1)
  | _ => false
def sp_are_figures : dSp := fun ds μ Φ _ => ∃ d t size, ds = [d, .int size] ∧ tyOf μ d = some t ∧ Kinds μ d ∧ Φ (.bl (figD d size)) μ
theorem len_are_figures (ds : List DT) (μ : Mu) (Φ : PK) (Ψ : XKd) (h : sp_are_figures ds μ Φ Ψ) : ds.length = 2 := by obtain ⟨_, _, _, rfl, _⟩ := h; rfl
theorem figD_no {d : DT} {s : Int} (h : ∀ z, d ≠ .tup z) : figD d s = false := by
  cases d <;> first | rfl | exact absurd rfl (h _)
def d_are_figures.c1 (Ψ : XKd) : dE := (dCall noX sp_is_between (dCons (dVar 2) (dCons (dC (.int 0)) (dCons (dOp dSub (dVar 1) (dC (.int 1))) dNil))))
def n_are_figures : List Str := ["value", "size", "one"]
def t_are_figures (K : Kit) (E : XK) : TS := (tRet (tAndV (tCB (rIsi K) (tCons (tVar 0) (tCons (tC (.ty "tuple")) tNil))) (tCB (rAll K) (tCons (tLc (iTup K (tVar 0)) (gName 2) tYes (tCall (lift K sp_is_between) [] E0 (tCons (tVar 2) (tCons (tC (.int 0)) (tCons (tOp oSub (tVar 1) (tC (.int 1))) tNil)))) [2]) tNil))))
def d_are_figures (Ψ : XKd) : dS := (dRet (dAndV (dIsi "tuple" (dVar 0)) (dCB dAll (dCons (dLc (dITup (dVar 0)) (dName 2) dYes (d_are_figures.c1 Ψ) [2]) dNil))))
theorem r_are_figures {K : Kit} (E : XK) (Ψ : XKd) : RS ⟨K, E, Ψ⟩ (t_are_figures K E) (d_are_figures Ψ) := (rs_ret (re_and (re_isi (by decide) re_var) (re_cb rc_all (ra_cons (re_lc (vs := [2]) (ri_tup re_var) (rg_name (by decide)) rt_yes (re_call (ra_cons re_var (ra_cons re_int (ra_cons (re_op ro_sub re_var re_int) ra_nil))))) ra_nil))))

theorem comp_are_figures {Ψ : XKd} {V : DT} {size : Int} {μ : Mu} {x2 : Option DT} : ∀ (xs : List DT) (acc : List DT) (K : List DT → Mu → Prop), acc.length + xs.length ≤ 5000 → (∀ x ∈ xs, ∃ t, tyOf μ x = some t) → K (acc ++ (xs.map fun x => isBetD x 0 (size - 1)).map .bl) μ →
    dLcGo (dName 2) dYes (d_are_figures.c1 Ψ) [some V, some (.int size), x2] xs acc μ K
  | [], acc, K, hl, ht, k => by
    show K acc μ
    rwa [List.map_nil, List.map_nil, List.append_nil] at k
  | x :: xs, acc, K, hl, ht, k => by
    obtain ⟨t, hx⟩ := ht x (.head _)
    refine ⟨fun _ => ⟨_, rfl, _, rfl, _, _, rfl, rfl, x, t, 0, size - 1, rfl, hx, ?_, ?_⟩, fun z => Bool.noConfusion z⟩
    · show acc.length ≤ 1000000
      simp only [List.length_cons] at hl; omega
    · refine comp_are_figures xs _ K (by simp only [List.length_append, List.length_cons, List.length_nil] at hl ⊢; omega) (fun y hy => ht y (.tail _ hy)) ?_
      rw [List.append_assoc]; exact k
theorem pure_are_figures (ds : List DT) (μ : Mu) (Φ : PK) (Ψ : XKd) (h : sp_are_figures ds μ Φ Ψ) : dRun (d_are_figures Ψ) n_are_figures ds μ Φ := by
  obtain ⟨d, t, size, rfl, ht, hk, h⟩ := h
  refine ⟨_, rfl, t, ht, _, rfl, fun c => ?_, fun c => ?_⟩
  · obtain ⟨zs, rfl⟩ := ty_tupd ht c
    obtain ⟨hl, hz⟩ := hk zs rfl
    refine ⟨_, rfl, _, rfl, ?_⟩
    refine comp_are_figures zs [] _ (by show 0 + _ ≤ _; omega) hz ?_
    refine ⟨_, zs.map fun x => isBetD x 0 (size - 1), rfl, rfl, ?_⟩
    have e : (zs.map fun x => isBetD x 0 (size - 1)).all id = figD (.tup zs) size := by
      rw [List.all_map]; rfl
    rw [e]; exact h
  · rw [figD_no (ty_tupn ht c)] at h; exact h

/-! ### are_whole_figures -/
/-- figures, the highest above 0 -/
def wholeD (d : DT) (size : Int) : Bool := figD d size && match d with
  | .tup ds => match ds.getLast? with
    | some (.int i) => decide (0 < i)
    | _ => true
  | _ => false
def sp_are_whole_figures : dSp := fun ds μ Φ _ => ∃ d t size, ds = [d, .int size] ∧ tyOf μ d = some t ∧ Kinds μ d ∧ Φ (.bl (wholeD d size)) μ
theorem len_are_whole_figures (ds : List DT) (μ : Mu) (Φ : PK) (Ψ : XKd) (h : sp_are_whole_figures ds μ Φ Ψ) : ds.length = 2 := by obtain ⟨_, _, _, rfl, _⟩ := h; rfl
theorem fig_ints {zs : List DT} {s : Int} (h : figD (.tup zs) s = true) : ∃ ns : List Int, zs = ns.map .int := by
  have h' : zs.all (fun x => isBetD x 0 (s - 1)) = true := h
  clear h
  induction zs with
  | nil => exact ⟨[], rfl⟩
  | cons z zs ih =>
    rw [List.all_cons, Bool.and_eq_true] at h'
    obtain ⟨ns, e⟩ := ih h'.2
    cases z with
    | int i => exact ⟨i :: ns, by rw [e]; rfl⟩
    | _ => cases h'.1
theorem okAll_ints (n : Nat) (ns : List Int) : okAll n (ns.map .int) = true := okAll_of fun d hd => by
  obtain ⟨i, _, rfl⟩ := List.mem_map.mp hd
  cases n <;> rfl
theorem eqD_nil (ns : List Int) : eqD (.tup (ns.map .int)) (.tup []) = decide (ns = []) := by
  cases ns with
  | nil => rfl
  | cons n ns => rfl
def n_are_whole_figures : List Str := ["value", "size"]
def t_are_whole_figures (K : Kit) (E : XK) : TS := (tRet (tAndV (tCall (lift K sp_are_figures) [] E0 (tCons (tVar 0) (tCons (tVar 1) tNil))) (tOrV (tOp (rEqD K) (tVar 0) (tTup tNil)) (tOp oGt (tOp (rIx K) (tVar 0) (tUn oNeg (tC (.int 1)))) (tC (.int 0))))))
def d_are_whole_figures (Ψ : XKd) : dS := (dRet (dAndV (dCall noX sp_are_figures (dCons (dVar 0) (dCons (dVar 1) dNil))) (dOrV (dOp dEqD (dVar 0) (dTup dNil)) (dOp dGt (dOp dIx (dVar 0) (dUn dNeg (dC (.int 1)))) (dC (.int 0))))))
theorem r_are_whole_figures {K : Kit} (E : XK) (Ψ : XKd) : RS ⟨K, E, Ψ⟩ (t_are_whole_figures K E) (d_are_whole_figures Ψ) := (rs_ret (re_and (re_call (ra_cons re_var (ra_cons re_var ra_nil))) (re_or (re_op ro_eqD re_var (re_tup ra_nil)) (re_op ro_gt (re_op ro_ix re_var (re_un ru_neg re_int)) re_int))))

theorem pure_are_whole_figures (ds : List DT) (μ : Mu) (Φ : PK) (Ψ : XKd) (h : sp_are_whole_figures ds μ Φ Ψ) : dRun (d_are_whole_figures Ψ) n_are_whole_figures ds μ Φ := by
  obtain ⟨d, t, size, rfl, ht, hk, h⟩ := h
  refine ⟨_, rfl, _, rfl, d, t, size, rfl, ht, hk, _, rfl, fun c => ?_, fun c => ?_⟩
  · obtain ⟨zs, rfl⟩ : ∃ zs, d = .tup zs := by
      cases d <;> first | exact ⟨_, rfl⟩ | cases c
    obtain ⟨ns, rfl⟩ := fig_ints c
    refine ⟨_, rfl, by walk_at "sw_nn", okAll_ints 7 ns, rfl, ?_⟩
    rw [eqD_nil]
    refine ⟨_, rfl, fun c2 => ?_, fun c2 => ?_⟩
    · have e : ns = [] := of_decide_eq_true c2
      subst e
      have e2 : wholeD (.tup (([] : List Int).map .int)) size = true := by
        show (figD _ size && true) = true
        rw [Bool.and_true]; exact c
      rw [e2] at h; exact h
    · have e : ns ≠ [] := of_decide_eq_false c2
      have hl : ns.length - 1 < ns.length := by have := List.length_pos_iff.mpr e; omega
      have e2 : atI (ns.map DT.int) (-1) = some (.int (ns[ns.length - 1])) := by
        unfold atI ixN
        rw [List.length_map, if_neg (by decide), if_pos (by omega)]
        show (ns.map DT.int)[(-1 + (ns.length : Int)).toNat]? = _
        have e3 : (-1 + (ns.length : Int)).toNat = ns.length - 1 := by omega
        rw [e3, List.getElem?_map, List.getElem?_eq_getElem hl]; rfl
      have e4 : wholeD (.tup (ns.map .int)) size = decide (0 < ns[ns.length - 1]) := by
        unfold wholeD
        rw [c, Bool.true_and]
        show (match (ns.map DT.int).getLast? with | some (.int i) => decide (0 < i) | _ => true) = _
        rw [List.getLast?_eq_getElem?, List.length_map, List.getElem?_map, List.getElem?_eq_getElem hl]; rfl
      rw [e4] at h
      exact ⟨_, rfl, _, rfl, _, _, _, rfl, rfl, e2, _, _, rfl, rfl, h⟩
  · have e : wholeD d size = false := by unfold wholeD; rw [show figD d size = false from c]; rfl
    rw [e] at h; exact h

/-! ### size_in -/
/-- a number from its figures, the lowest first -/
def sizeIn (b : Int) : List Int → Int
  | [] => 0
  | f :: fs => sizeIn b fs * b + f
def sp_size_in : dSp := fun ds μ Φ _ => ∃ (fs : List Int) (b : Int), ds = [.tup (fs.map .int), .int b] ∧ (2 ≤ b ∧ b ≤ 10) ∧ Φ (.int (sizeIn b fs)) μ
theorem len_size_in (ds : List DT) (μ : Mu) (Φ : PK) (Ψ : XKd) (h : sp_size_in ds μ Φ Ψ) : ds.length = 2 := by obtain ⟨_, _, rfl, _⟩ := h; rfl
theorem sizeIn_foldl (b : Int) (fs : List Int) : fs.reverse.foldl (fun a f => a * b + f) 0 = sizeIn b fs := by
  rw [List.foldl_reverse]
  induction fs with
  | nil => rfl
  | cons f fs ih => rw [List.foldr_cons, ih]; rfl
def d_size_in.L1 (Ψ : XKd) : dS := (dAsg (dOp dAdd (dOp dMul (dVar 2) (dVar 1)) (dVar 3)) (dName 2))
def d_size_in.t2 (Ψ : XKd) : dS := (dRet (dVar 2))
def d_size_in.t1 (Ψ : XKd) : dS := (dSeq (dFor (dITup (dRevT (dVar 0))) (dName 3) (d_size_in.L1 Ψ)) (d_size_in.t2 Ψ))
def n_size_in : List Str := ["figures", "size", "found", "figure"]
def t_size_in (K : Kit) (E : XK) : TS := (tSeq (tAsg (tC (.int 0)) (gName 2)) (tSeq (tFor (iTup K (tRevT K (tVar 0))) (gName 3) (tAsg (tOp oAdd (tOp oMul (tVar 2) (tVar 1)) (tVar 3)) (gName 2))) (tRet (tVar 2))))
def d_size_in (Ψ : XKd) : dS := (dSeq (dAsg (dC (.int 0)) (dName 2)) (d_size_in.t1 Ψ))
theorem r_size_in {K : Kit} (E : XK) (Ψ : XKd) : RS ⟨K, E, Ψ⟩ (t_size_in K E) (d_size_in Ψ) := (rs_seq (rs_asg re_int (rg_name (vs := [2]) (by decide))) (rs_seq (rs_for (ri_tup (re_revT re_var)) (rg_name (vs := [3]) (by decide)) (rs_asg (re_op ro_add (re_op ro_mul re_var re_var) re_var) (rg_name (vs := [2]) (by decide)))) (rs_ret re_var)))

theorem loop_size_in (Ψ : XKd) (μ : Mu) (Φ : PK) (T : DT) (b : Int) (hb : 2 ≤ b ∧ b ≤ 10) (last : Option DT) : ∀ (fs : List Int) (a : Int) (x : Option DT), Φ (.int (fs.foldl (fun a f => a * b + f) a)) μ →
    dLoop (dName 3) (d_size_in.L1 Ψ) { nx := fun env μ' => d_size_in.t2 Ψ { nx := fun _ μ' => Φ .non μ', rt := Φ } env μ', rt := Φ } (fs.map .int) [some T, some (.int b), some (.int a), x] μ
  | [], a, x, h => ⟨_, rfl, h⟩
  | f :: fs, a, x, h => by
    refine ⟨_, rfl, _, rfl, _, _, rfl, rfl, .inr (by omega), _, rfl, _, _, rfl, rfl, ?_⟩
    exact loop_size_in Ψ μ Φ T b hb last fs _ _ h
theorem pure_size_in (ds : List DT) (μ : Mu) (Φ : PK) (Ψ : XKd) (h : sp_size_in ds μ Φ Ψ) : dRun (d_size_in Ψ) n_size_in ds μ Φ := by
  obtain ⟨fs, b, rfl, hb, h⟩ := h
  refine ⟨_, rfl, _, rfl, _, rfl, ?_⟩
  rw [← List.map_reverse]
  refine loop_size_in Ψ μ Φ _ b hb none _ _ _ ?_
  rw [sizeIn_foldl]; exact h

/-! ### number_of -/
def sp_number_of : dSp := fun ds μ Φ Ψ => ∃ g d s t u v, ds = [g, d, s] ∧ tyOf μ g = some v ∧ tyOf μ d = some t ∧ tyOf μ s = some u ∧ Kinds μ d ∧
  (isSignD g = false → Ψ "InvalidSign" [("value", g)] μ) ∧
  (isSignD g = true → isBetD s 2 10 = false → Ψ "InvalidBase" [("value", s)] μ) ∧
  (∀ b, isSignD g = true → s = .int b → 2 ≤ b → b ≤ 10 → wholeD d b = false → Ψ "InvalidFigures" [("value", d)] μ) ∧
  (∀ i fs b, g = .int i → d = .tup (fs.map .int) → s = .int b → 2 ≤ b → b ≤ 10 → wholeD d b = true → Φ (.int (i * sizeIn b fs)) μ)
theorem len_number_of (ds : List DT) (μ : Mu) (Φ : PK) (Ψ : XKd) (h : sp_number_of ds μ Φ Ψ) : ds.length = 3 := by obtain ⟨_, _, _, _, _, _, rfl, _⟩ := h; rfl
theorem sign_ex {d : DT} (h : isSignD d = true) : ∃ n, d = .int n := by cases d <;> first | exact ⟨_, rfl⟩ | cases h
theorem sign_small {i : Int} (h : isSignD (.int i) = true) : -(2 ^ 64) < i ∧ i < 2 ^ 64 := by
  rw [isSign_int, Bool.or_eq_true] at h
  rcases h with h | h
  · rw [of_decide_eq_true h]; decide
  · rw [of_decide_eq_true h]; decide
theorem whole_ints {d : DT} {s : Int} (h : wholeD d s = true) : ∃ ns : List Int, d = .tup (ns.map .int) := by
  unfold wholeD at h
  rw [Bool.and_eq_true] at h
  cases d with
  | tup zs => obtain ⟨ns, rfl⟩ := fig_ints h.1; exact ⟨ns, rfl⟩
  | _ => cases h.1
def d_number_of.t3 (Ψ : XKd) : dS := (dRet (dOp dMul (dVar 0) (dCall noX sp_size_in (dCons (dVar 1) (dCons (dVar 2) dNil)))))
def d_number_of.t2 (Ψ : XKd) : dS := (dSeq (dIf (dNot (dTest (dCall noX sp_are_whole_figures (dCons (dVar 1) (dCons (dVar 2) dNil))))) (dRaise Ψ "InvalidFigures" "value" (dVar 1)) dNext) (d_number_of.t3 Ψ))
def d_number_of.t1 (Ψ : XKd) : dS := (dSeq (dIf (dNot (dTest (dCall noX sp_is_between (dCons (dVar 2) (dCons (dC (.int 2)) (dCons (dC (.int 10)) dNil)))))) (dRaise Ψ "InvalidBase" "value" (dVar 2)) dNext) (d_number_of.t2 Ψ))
def n_number_of : List Str := ["sign", "figures", "size"]
def t_number_of (K : Kit) (E : XK) : TS := (tSeq (tIfS (tNot (tB (tCall (lift K sp_is_sign) [] E0 (tCons (tVar 0) tNil)))) (fun _ σ H => tMkO (He.ga K "InvalidSign") (spExc K "value") [] (tCons (tVar 0) tNil) σ H fun cls d H' => E cls d H') tNext) (tSeq (tIfS (tNot (tB (tCall (lift K sp_is_between) [] E0 (tCons (tVar 2) (tCons (tC (.int 2)) (tCons (tC (.int 10)) tNil)))))) (fun _ σ H => tMkO (He.ga K "InvalidBase") (spExc K "value") [] (tCons (tVar 2) tNil) σ H fun cls d H' => E cls d H') tNext) (tSeq (tIfS (tNot (tB (tCall (lift K sp_are_whole_figures) [] E0 (tCons (tVar 1) (tCons (tVar 2) tNil))))) (fun _ σ H => tMkO (He.ga K "InvalidFigures") (spExc K "value") [] (tCons (tVar 1) tNil) σ H fun cls d H' => E cls d H') tNext) (tRet (tOp oMul (tVar 0) (tCall (lift K sp_size_in) [] E0 (tCons (tVar 1) (tCons (tVar 2) tNil))))))))
def d_number_of (Ψ : XKd) : dS := (dSeq (dIf (dNot (dTest (dCall noX sp_is_sign (dCons (dVar 0) dNil)))) (dRaise Ψ "InvalidSign" "value" (dVar 0)) dNext) (d_number_of.t1 Ψ))
theorem r_number_of {K : Kit} (x_InvalidSign : XcOk K "InvalidSign" "value") (x_InvalidBase : XcOk K "InvalidBase" "value") (x_InvalidFigures : XcOk K "InvalidFigures" "value") (E : XK) (Ψ : XKd) : RS ⟨K, E, Ψ⟩ (t_number_of K E) (d_number_of Ψ) := (rs_seq (rs_if (rt_not (rt_b (re_call (ra_cons re_var ra_nil)))) (rs_raise x_InvalidSign re_var) rs_next) (rs_seq (rs_if (rt_not (rt_b (re_call (ra_cons re_var (ra_cons re_int (ra_cons re_int ra_nil)))))) (rs_raise x_InvalidBase re_var) rs_next) (rs_seq (rs_if (rt_not (rt_b (re_call (ra_cons re_var (ra_cons re_var ra_nil))))) (rs_raise x_InvalidFigures re_var) rs_next) (rs_ret (re_op ro_mul re_var (re_call (ra_cons re_var (ra_cons re_var ra_nil))))))))

theorem pure_number_of (ds : List DT) (μ : Mu) (Φ : PK) (Ψ : XKd) (h : sp_number_of ds μ Φ Ψ) : dRun (d_number_of Ψ) n_number_of ds μ Φ := by
  obtain ⟨g, d, s, t, u, v, rfl, hv, ht, hu, hk, h1, h2, h3, h4⟩ := h
  refine ⟨_, rfl, g, v, rfl, hv, _, rfl, fun c => ?_, fun c => ?_⟩
  · have c' : isSignD g = false := by revert c; cases isSignD g <;> intro c <;> first | rfl | cases c
    exact ⟨_, rfl, h1 c'⟩
  · have c' : isSignD g = true := by revert c; cases isSignD g <;> intro c <;> first | rfl | cases c
    refine ⟨_, rfl, s, u, 2, 10, rfl, hu, _, rfl, fun c2 => ?_, fun c2 => ?_⟩
    · have c3 : isBetD s 2 10 = false := by revert c2; cases isBetD s 2 10 <;> intro c <;> first | rfl | cases c
      exact ⟨_, rfl, h2 c' c3⟩
    · have c3 : isBetD s 2 10 = true := by revert c2; cases isBetD s 2 10 <;> intro c <;> first | rfl | cases c
      obtain ⟨b, rfl, l1, l2⟩ := bet_of c3
      refine ⟨_, rfl, _, rfl, d, t, b, rfl, ht, hk, _, rfl, fun c4 => ?_, fun c4 => ?_⟩
      · have c5 : wholeD d b = false := by revert c4; cases wholeD d b <;> intro c <;> first | rfl | cases c
        exact ⟨_, rfl, h3 b c' rfl l1 l2 c5⟩
      · have c5 : wholeD d b = true := by revert c4; cases wholeD d b <;> intro c <;> first | rfl | cases c
        obtain ⟨i, rfl⟩ := sign_ex c'
        obtain ⟨fs, rfl⟩ := whole_ints c5
        exact ⟨_, rfl, _, rfl, _, rfl, fs, b, rfl, ⟨l1, l2⟩, _, _, rfl, rfl, .inl (sign_small c'), h4 i fs b rfl rfl rfl l1 l2 c5⟩

/-! ### _law_divide -/
def sp_law_divide : dSp := fun ds μ Φ _ => ∃ (r : Rule) (x d : Int), ds = [.str (rname r), .int x, .int d] ∧ DivPre x d ∧ Φ (.tup [.int (divided r x d).1, .int (divided r x d).2]) μ
theorem len_law_divide (ds : List DT) (μ : Mu) (Φ : PK) (Ψ : XKd) (h : sp_law_divide ds μ Φ Ψ) : ds.length = 3 := by obtain ⟨_, _, _, rfl, _⟩ := h; rfl
def d_law_divide.t3 (Ψ : XKd) : dS := (dRet (dTup (dCons (dOp dMul (dOp dDiv (dOp dSub (dVar 1) (dVar 3)) (dVar 4)) (dVar 5)) (dCons (dVar 3) dNil))))
def d_law_divide.t2 (Ψ : XKd) : dS := (dSeq (dIf (dTest (dOp dEq (dVar 0) (dC (.str "down")))) (dAsg (dOp dSub (dVar 3) (dOp dMul (dVar 4) (dCB dInt (dCons (dAndV (dOp dLt (dVar 2) (dC (.int 0))) (dOp dGt (dVar 3) (dC (.int 0)))) dNil)))) (dName 3)) (dIf (dTest (dOp dEq (dVar 0) (dC (.str "up")))) (dAsg (dOp dSub (dVar 3) (dOp dMul (dVar 4) (dCB dInt (dCons (dAndV (dOp dGt (dVar 2) (dC (.int 0))) (dOp dGt (dVar 3) (dC (.int 0)))) dNil)))) (dName 3)) (dIf (dTest (dOp dEq (dVar 0) (dC (.str "zero")))) (dAsg (dOp dSub (dVar 3) (dOp dMul (dVar 4) (dCB dInt (dCons (dAndV (dOp dLt (dVar 1) (dC (.int 0))) (dOp dGt (dVar 3) (dC (.int 0)))) dNil)))) (dName 3)) (dIf (dTest (dOp dEq (dVar 0) (dC (.str "near")))) (dAsg (dOp dSub (dVar 3) (dOp dMul (dVar 4) (dCB dInt (dCons (dOp dGt (dOp dMul (dC (.int 2)) (dVar 3)) (dVar 4)) dNil)))) (dName 3)) dNext)))) (d_law_divide.t3 Ψ))
def d_law_divide.t1 (Ψ : XKd) : dS := (dSeq (dAsg (dOp dMod (dCB dInt (dCons (dVar 1) dNil)) (dVar 4)) (dName 3)) (d_law_divide.t2 Ψ))
def n_law_divide : List Str := ["rule", "x", "base", "part", "size", "spun"]
def t_law_divide (K : Kit) (E : XK) : TS := (tSeq (tPar 4 5 (tCons (tCB bAbs (tCons (tVar 2) tNil)) (tCons (tOp oSub (tC (.int 1)) (tOp oMul (tC (.int 2)) (tCB bInt (tCons (tOp oLt (tVar 2) (tC (.int 0))) tNil)))) tNil))) (tSeq (tAsg (tOp oMod (tCB bInt (tCons (tVar 1) tNil)) (tVar 4)) (gName 3)) (tSeq (tIfS (tTest (tOp rEq (tVar 0) (tC (.str "down")))) (tAsg (tOp oSub (tVar 3) (tOp oMul (tVar 4) (tCB bInt (tCons (tAndV (tOp oLt (tVar 2) (tC (.int 0))) (tOp oGt (tVar 3) (tC (.int 0)))) tNil)))) (gName 3)) (tIfS (tTest (tOp rEq (tVar 0) (tC (.str "up")))) (tAsg (tOp oSub (tVar 3) (tOp oMul (tVar 4) (tCB bInt (tCons (tAndV (tOp oGt (tVar 2) (tC (.int 0))) (tOp oGt (tVar 3) (tC (.int 0)))) tNil)))) (gName 3)) (tIfS (tTest (tOp rEq (tVar 0) (tC (.str "zero")))) (tAsg (tOp oSub (tVar 3) (tOp oMul (tVar 4) (tCB bInt (tCons (tAndV (tOp oLt (tVar 1) (tC (.int 0))) (tOp oGt (tVar 3) (tC (.int 0)))) tNil)))) (gName 3)) (tIfS (tTest (tOp rEq (tVar 0) (tC (.str "near")))) (tAsg (tOp oSub (tVar 3) (tOp oMul (tVar 4) (tCB bInt (tCons (tOp oGt (tOp oMul (tC (.int 2)) (tVar 3)) (tVar 4)) tNil)))) (gName 3)) tNext)))) (tRet (tTup (tCons (tOp oMul (tOp oDiv (tOp oSub (tVar 1) (tVar 3)) (tVar 4)) (tVar 5)) (tCons (tVar 3) tNil)))))))
def d_law_divide (Ψ : XKd) : dS := (dSeq (dPar 4 5 (dCons (dCB dAbs (dCons (dVar 2) dNil)) (dCons (dOp dSub (dC (.int 1)) (dOp dMul (dC (.int 2)) (dCB dInt (dCons (dOp dLt (dVar 2) (dC (.int 0))) dNil)))) dNil))) (d_law_divide.t1 Ψ))
theorem r_law_divide {K : Kit} (E : XK) (Ψ : XKd) : RS ⟨K, E, Ψ⟩ (t_law_divide K E) (d_law_divide Ψ) := (rs_seq (rs_par (ra_cons (re_cb rc_abs (ra_cons re_var ra_nil)) (ra_cons (re_op ro_sub re_int (re_op ro_mul re_int (re_cb rc_int (ra_cons (re_op ro_lt re_var re_int) ra_nil)))) ra_nil))) (rs_seq (rs_asg (re_op ro_mod (re_cb rc_int (ra_cons re_var ra_nil)) re_var) (rg_name (vs := [3]) (by decide))) (rs_seq (rs_if (rt_test (re_op ro_eq re_var re_str)) (rs_asg (re_op ro_sub re_var (re_op ro_mul re_var (re_cb rc_int (ra_cons (re_and (re_op ro_lt re_var re_int) (re_op ro_gt re_var re_int)) ra_nil)))) (rg_name (vs := [3]) (by decide))) (rs_if (rt_test (re_op ro_eq re_var re_str)) (rs_asg (re_op ro_sub re_var (re_op ro_mul re_var (re_cb rc_int (ra_cons (re_and (re_op ro_gt re_var re_int) (re_op ro_gt re_var re_int)) ra_nil)))) (rg_name (vs := [3]) (by decide))) (rs_if (rt_test (re_op ro_eq re_var re_str)) (rs_asg (re_op ro_sub re_var (re_op ro_mul re_var (re_cb rc_int (ra_cons (re_and (re_op ro_lt re_var re_int) (re_op ro_gt re_var re_int)) ra_nil)))) (rg_name (vs := [3]) (by decide))) (rs_if (rt_test (re_op ro_eq re_var re_str)) (rs_asg (re_op ro_sub re_var (re_op ro_mul re_var (re_cb rc_int (ra_cons (re_op ro_gt (re_op ro_mul re_int re_var) re_var) ra_nil)))) (rg_name (vs := [3]) (by decide))) rs_next)))) (rs_ret (re_tup (ra_cons (re_op ro_mul (re_op ro_div (re_op ro_sub re_var re_var) re_var) re_var) (ra_cons re_var ra_nil)))))))

theorem pure_law_divide (ds : List DT) (μ : Mu) (Φ : PK) (Ψ : XKd) (h : sp_law_divide ds μ Φ Ψ) : dRun (d_law_divide Ψ) n_law_divide ds μ Φ := by
  obtain ⟨r, x, d, rfl, ⟨hx, hd, hd2⟩, h⟩ := h
  rw [← law_eq r x d hd] at h
  have hs := absI_pos hd
  have b2r : ∀ b, (-(2 ^ 64) < b2 b ∧ b2 b < 2 ^ 64) := fun b => by cases b <;> decide
  have spr : (-(2 ^ 64) < spun d ∧ spun d < 2 ^ 64) := by
    unfold spun
    cases decide (d < 0) <;> decide
  have sprs : -(2 ^ 64) < (2 : Int) ∧ (2 : Int) < 2 ^ 64 := by decide
  refine ⟨_, rfl, _, rfl, _, rfl, _, _, rfl, rfl, .inr ⟨_, rfl, _, _, rfl, rfl, .inl sprs, _, _, rfl, rfl, _, _, rfl, ?_⟩⟩
  refine ⟨_, rfl, .inl ⟨_, rfl, _, rfl, _, _, rfl, rfl, hs, ?_⟩⟩
  have tl : ∀ pt : Int, lawPart r x d = pt → (d_law_divide.t3 Ψ) { nx := fun _ μ' => Φ .non μ', rt := Φ }
      [some (.str (rname r)), some (.int x), some (.int d), some (.int pt), some (.int (absI d)), some (.int (spun d))] μ := by
    intro pt e
    refine ⟨_, rfl, _, rfl, _, _, rfl, rfl, _, rfl, _, _, rfl, rfl, wide_div hs (b := 64) (by omega) (by decide) (by decide), _, rfl, _, _, rfl, rfl, .inr spr, _, rfl, by walk_at "sw_nn", ?_⟩
    rw [← e]; exact h
  have str : ∀ {a b : Str} {P Q : Prop}, (a = b → P) → (a ≠ b → Q) → (decide (a = b) = true → P) ∧ (decide (a = b) = false → Q) := fun p q => ⟨fun c => p (of_decide_eq_true c), fun c => q (of_decide_eq_false c)⟩
  cases r with
  | down =>
    refine ⟨_, rfl, .inr (.inl ⟨_, _, rfl, rfl, _, rfl, fun _ => ?_, fun c => absurd c (by decide +kernel)⟩)⟩
    refine ⟨_, rfl, _, rfl, _, rfl, _, _, rfl, rfl, _, rfl, andD (c2 := decide (0 < x % absI d)) (fun _ q' => ⟨_, rfl, _, _, rfl, rfl, q'⟩) ?_⟩
    exact .inr ⟨_, rfl, _, _, rfl, rfl, .inr (b2r _), _, _, rfl, rfl, tl _ rfl⟩
  | up =>
    refine ⟨_, rfl, .inr (.inl ⟨_, _, rfl, rfl, _, rfl, fun c => absurd c (by decide +kernel), fun _ => ?_⟩)⟩
    refine ⟨_, rfl, .inr (.inl ⟨_, _, rfl, rfl, _, rfl, fun _ => ?_, fun c => absurd c (by decide +kernel)⟩)⟩
    refine ⟨_, rfl, _, rfl, _, rfl, _, _, rfl, rfl, _, rfl, andD (c2 := decide (0 < x % absI d)) (fun _ q' => ⟨_, rfl, _, _, rfl, rfl, q'⟩) ?_⟩
    exact .inr ⟨_, rfl, _, _, rfl, rfl, .inr (b2r _), _, _, rfl, rfl, tl _ rfl⟩
  | zero =>
    refine ⟨_, rfl, .inr (.inl ⟨_, _, rfl, rfl, _, rfl, fun c => absurd c (by decide +kernel), fun _ => ?_⟩)⟩
    refine ⟨_, rfl, .inr (.inl ⟨_, _, rfl, rfl, _, rfl, fun c => absurd c (by decide +kernel), fun _ => ?_⟩)⟩
    refine ⟨_, rfl, .inr (.inl ⟨_, _, rfl, rfl, _, rfl, fun _ => ?_, fun c => absurd c (by decide +kernel)⟩)⟩
    refine ⟨_, rfl, _, rfl, _, rfl, _, _, rfl, rfl, _, rfl, andD (c2 := decide (0 < x % absI d)) (fun _ q' => ⟨_, rfl, _, _, rfl, rfl, q'⟩) ?_⟩
    exact .inr ⟨_, rfl, _, _, rfl, rfl, .inr (b2r _), _, _, rfl, rfl, tl _ rfl⟩
  | near =>
    refine ⟨_, rfl, .inr (.inl ⟨_, _, rfl, rfl, _, rfl, fun c => absurd c (by decide +kernel), fun _ => ?_⟩)⟩
    refine ⟨_, rfl, .inr (.inl ⟨_, _, rfl, rfl, _, rfl, fun c => absurd c (by decide +kernel), fun _ => ?_⟩)⟩
    refine ⟨_, rfl, .inr (.inl ⟨_, _, rfl, rfl, _, rfl, fun c => absurd c (by decide +kernel), fun _ => ?_⟩)⟩
    refine ⟨_, rfl, .inr (.inl ⟨_, _, rfl, rfl, _, rfl, fun _ => ?_, fun c => absurd c (by decide +kernel)⟩)⟩
    refine ⟨_, rfl, _, rfl, _, rfl, _, _, rfl, rfl, .inl sprs, _, rfl, _, _, rfl, rfl, ?_⟩
    exact .inr ⟨_, rfl, _, _, rfl, rfl, .inr (b2r _), _, _, rfl, rfl, tl _ rfl⟩
  | positive =>
    refine ⟨_, rfl, .inr (.inl ⟨_, _, rfl, rfl, _, rfl, fun c => absurd c (by decide +kernel), fun _ => ?_⟩)⟩
    refine ⟨_, rfl, .inr (.inl ⟨_, _, rfl, rfl, _, rfl, fun c => absurd c (by decide +kernel), fun _ => ?_⟩)⟩
    refine ⟨_, rfl, .inr (.inl ⟨_, _, rfl, rfl, _, rfl, fun c => absurd c (by decide +kernel), fun _ => ?_⟩)⟩
    refine ⟨_, rfl, .inr (.inl ⟨_, _, rfl, rfl, _, rfl, fun c => absurd c (by decide +kernel), fun _ => ?_⟩)⟩
    exact tl _ rfl

/-! ### _law_line -/
def sp_law_line : dSp := fun ds μ Φ _ => ∃ (rows : List Row) (s r : Int) (row : Row), ds = [.lst (rows.map rowD), .int s, .int r] ∧ pickRow rows s r = some row ∧ Φ (rowD row) μ
theorem len_law_line (ds : List DT) (μ : Mu) (Φ : PK) (Ψ : XKd) (h : sp_law_line ds μ Φ Ψ) : ds.length = 3 := by obtain ⟨_, _, _, _, rfl, _⟩ := h; rfl
def d_law_line.L2 (Ψ : XKd) : dS := (dIf (dTest (dOp dEqD (dSl dSlT (dVar 4) dNoPart (dPart (dC (.int 2)))) (dVar 3))) (dRet (dVar 4)) dNext)
def d_law_line.L1 (Ψ : XKd) : dS := (dFor (dIList (dVar 0)) (dName 4) (d_law_line.L2 Ψ))
def d_law_line.t1 (Ψ : XKd) : dS := (dRet (dC .non))
def n_law_line : List Str := ["rows", "sign", "part", "key", "row"]
def t_law_line (K : Kit) (E : XK) : TS := (tSeq (tFor (iList K (tLst (tCons (tTup (tCons (tVar 1) (tCons (tVar 2) tNil))) (tCons (tTup (tCons (tC .non) (tCons (tVar 2) tNil))) (tCons (tTup (tCons (tVar 1) (tCons (tC .non) tNil))) (tCons (tTup (tCons (tC .non) (tCons (tC .non) tNil))) tNil)))))) (gName 3) (tFor (iList K (tVar 0)) (gName 4) (tIfS (tTest (tOp (rEqD K) (tSl (rSlA K) (tVar 4) tNoPart (tPart (tC (.int 2)))) (tVar 3))) (tRet (tVar 4)) tNext))) (tRet (tC .non)))
def d_law_line (Ψ : XKd) : dS := (dSeq (dFor (dIList (dLst (dCons (dTup (dCons (dVar 1) (dCons (dVar 2) dNil))) (dCons (dTup (dCons (dC .non) (dCons (dVar 2) dNil))) (dCons (dTup (dCons (dVar 1) (dCons (dC .non) dNil))) (dCons (dTup (dCons (dC .non) (dCons (dC .non) dNil))) dNil)))))) (dName 3) (d_law_line.L1 Ψ)) (d_law_line.t1 Ψ))
theorem r_law_line {K : Kit} (E : XK) (Ψ : XKd) : RS ⟨K, E, Ψ⟩ (t_law_line K E) (d_law_line Ψ) := (rs_seq (rs_for (ri_list (re_lst (ra_cons (re_tup (ra_cons re_var (ra_cons re_var ra_nil))) (ra_cons (re_tup (ra_cons re_non (ra_cons re_var ra_nil))) (ra_cons (re_tup (ra_cons re_var (ra_cons re_non ra_nil))) (ra_cons (re_tup (ra_cons re_non (ra_cons re_non ra_nil))) ra_nil)))))) (rg_name (vs := [3]) (by decide)) (rs_for (ri_list re_var) (rg_name (vs := [4]) (by decide)) (rs_if (rt_test (re_op ro_eqD (re_sl rsl_t re_var rp_no (rp_part re_int)) re_var)) (rs_ret re_var) rs_next))) (rs_ret re_non))

theorem row_law_line {Ψ : XKd} {De : dEnds} {R : DT} {s r : Int} {k : RKey} {μ : Mu} : ∀ (rows : List Row) (x : Option DT), (match findRow rows k with | some row => De.rt (rowD row) μ | none => ∀ y, De.nx [some R, some (.int s), some (.int r), some (keyD k), y] μ) →
    dLoop (dName 4) (d_law_line.L2 Ψ) De (rows.map rowD) [some R, some (.int s), some (.int r), some (keyD k), x] μ
  | [], x, h => h x
  | row :: rows, x, h => by
    have hr : eqD (.tup (cutD [optI row.k.1, optI row.k.2, usD row.us, optS row.th] none (some 2))) (keyD k) = decide (row.k = k) := eqD_keyD row.k k
    refine ⟨_, rfl, _, rfl, _, rfl, _, rfl, ok_keyD row.k, ok_keyD k, _, rfl, fun c => ?_, fun c => ?_⟩
    · have c' := c
      rw [hr] at c'
      have e : findRow (row :: rows) k = some row := by
        unfold findRow; rw [List.find?_cons, c']
      rw [e] at h
      exact ⟨_, rfl, h⟩
    · have c' := c
      rw [hr] at c'
      refine row_law_line rows _ ?_
      have e : findRow (row :: rows) k = findRow rows k := by
        unfold findRow; rw [List.find?_cons, c']
      rw [e] at h; exact h
theorem loop_law_line {Ψ : XKd} {rows : List Row} {s r : Int} {Φ : PK} {μ : Mu} {row : Row} (hΦ : Φ (rowD row) μ) : ∀ (ks : List RKey) (x y : Option DT), firstOf rows ks = some row →
    dLoop (dName 3) (d_law_line.L1 Ψ) { nx := d_law_line.t1 Ψ { nx := fun _ μ' => Φ .non μ', rt := Φ }, rt := Φ } (ks.map keyD) [some (.lst (rows.map rowD)), some (.int s), some (.int r), x, y] μ
  | [], x, y, h => by cases h
  | k :: ks, x, y, h => by
    refine ⟨_, rfl, _, rfl, ?_⟩
    refine row_law_line rows y ?_
    cases q : findRow rows k with
    | some r0 =>
      simp only [firstOf, q] at h
      cases h; exact hΦ
    | none =>
      intro z
      simp only [firstOf, q] at h
      exact loop_law_line hΦ ks _ z h
theorem pure_law_line (ds : List DT) (μ : Mu) (Φ : PK) (Ψ : XKd) (h : sp_law_line ds μ Φ Ψ) : dRun (d_law_line Ψ) n_law_line ds μ Φ := by
  obtain ⟨rows, s, r, row, rfl, hp, h⟩ := h
  refine ⟨_, rfl, _, rfl, by walk_at "sw_nn", _, rfl, by walk_at "sw_nn", _, rfl, by walk_at "sw_nn", by walk_at "sw_nn", by walk_at "sw_nn", _, rfl, ?_⟩
  exact loop_law_line h (keys4 s r) none none hp

/-! ### _law_next -/
/-- the values behind a round, in the law's order of adding -/
def nextSum : List Int → List Int → Int → Int
  | c :: cs, v :: vs, t => nextSum cs vs (t + c * v)
  | _, _, t => t
theorem nextSum_eq : ∀ (cs vs : List Int) (t : Int), nextSum cs vs t = t + (dotI cs vs).sum
  | [], vs, t => by cases vs <;> simp [nextSum, dotI]
  | c :: cs, [], t => by simp [nextSum, dotI]
  | c :: cs, v :: vs, t => by rw [nextSum, nextSum_eq, dotI, List.sum_cons]; omega
def sp_law_next : dSp := fun ds μ Φ _ => ∃ (row : Row) (d : DT) (vs : List Int) (r : Int), ds = [rowD row, d, .int r] ∧ noAdr d = true ∧ seqOf μ d = some (vs.map .int) ∧ SmallC row.us ∧ (∀ u ∈ row.us, u.length = vs.length + 2) ∧ row.us.length ≤ 1000 ∧ vs.length ≤ 1000 ∧ ∀ μ', Grow μ μ' → Φ (.lst ((updAll row.us vs r).map .int)) μ'
theorem len_law_next (ds : List DT) (μ : Mu) (Φ : PK) (Ψ : XKd) (h : sp_law_next ds μ Φ Ψ) : ds.length = 3 := by obtain ⟨_, _, _, _, rfl, _⟩ := h; rfl
theorem seq_any {μ μ' : Mu} {d : DT} {xs : List DT} (n : noAdr d = true) (h : seqOf μ d = some xs) : seqOf μ' d = some xs := by
  cases d <;> first | exact h | cases n
theorem at_last {u : List Int} (h : 2 ≤ u.length) : atI (u.map DT.int) (-1) = some (.int (u.getD (u.length - 1) 0)) ∧ atI (u.map DT.int) (-2) = some (.int (u.getD (u.length - 2) 0)) := by
  have h1 : u.length - 1 < u.length := by omega
  have h2 : u.length - 2 < u.length := by omega
  constructor
  · unfold atI ixN
    rw [List.length_map, if_neg (by decide), if_pos (by omega)]
    show (u.map DT.int)[(-1 + (u.length : Int)).toNat]? = _
    have e : (-1 + (u.length : Int)).toNat = u.length - 1 := by omega
    rw [e, List.getElem?_map, List.getElem?_eq_getElem h1, List.getD_eq_getElem?_getD, List.getElem?_eq_getElem h1]; rfl
  · unfold atI ixN
    rw [List.length_map, if_neg (by decide), if_pos (by omega)]
    show (u.map DT.int)[(-2 + (u.length : Int)).toNat]? = _
    have e : (-2 + (u.length : Int)).toNat = u.length - 2 := by omega
    rw [e, List.getElem?_map, List.getElem?_eq_getElem h2, List.getD_eq_getElem?_getD, List.getElem?_eq_getElem h2]; rfl
def d_law_next.L2 (Ψ : XKd) : dS := (dAsg (dOp dAdd (dVar 5) (dOp dMul (dOp dIx (dVar 4) (dVar 6)) (dOp dIx (dVar 1) (dVar 6)))) (dName 5))
def d_law_next.L1t2 (Ψ : XKd) : dS := (dDrop (dAppend (dVar 3) (dCons (dVar 5) dNil)))
def d_law_next.L1t1 (Ψ : XKd) : dS := (dSeq (dFor (dIRng1 (dCons (dCB dLen (dCons (dVar 1) dNil)) dNil)) (dName 6) (d_law_next.L2 Ψ)) (d_law_next.L1t2 Ψ))
def d_law_next.L1 (Ψ : XKd) : dS := (dSeq (dAsg (dOp dAdd (dOp dIx (dVar 4) (dUn dNeg (dC (.int 1)))) (dOp dMul (dOp dIx (dVar 4) (dUn dNeg (dC (.int 2)))) (dVar 2))) (dName 5)) (d_law_next.L1t1 Ψ))
def d_law_next.t2 (Ψ : XKd) : dS := (dRet (dVarF 3))
def d_law_next.t1 (Ψ : XKd) : dS := (dSeq (dFor (dITup (dOp dIx (dVar 0) (dC (.int 2)))) (dName 4) (d_law_next.L1 Ψ)) (d_law_next.t2 Ψ))
def n_law_next : List Str := ["row", "values", "part", "found", "update", "total", "at"]
def t_law_next (K : Kit) (E : XK) : TS := (tSeq (tAsg (tLst tNil) (gName 3)) (tSeq (tFor (iTup K (tOp (rIx K) (tVar 0) (tC (.int 2)))) (gName 4) (tSeq (tAsg (tOp oAdd (tOp (rIx K) (tVar 4) (tUn oNeg (tC (.int 1)))) (tOp oMul (tOp (rIx K) (tVar 4) (tUn oNeg (tC (.int 2)))) (tVar 2))) (gName 5)) (tSeq (tFor (iRng1 (tCons (tCB (bLen K) (tCons (tVar 1) tNil)) tNil)) (gName 6) (tAsg (tOp oAdd (tVar 5) (tOp oMul (tOp (rIx K) (tVar 4) (tVar 6)) (tOp (rIx K) (tVar 1) (tVar 6)))) (gName 5))) (tDrop (tBM K "list" rAppend (tVar 3) (tCons (tVar 5) tNil)))))) (tRet (tVar 3))))
def d_law_next (Ψ : XKd) : dS := (dSeq (dAsg (dLstM dNil) (dName 3)) (d_law_next.t1 Ψ))
theorem r_law_next {K : Kit} (E : XK) (Ψ : XKd) : RS ⟨K, E, Ψ⟩ (t_law_next K E) (d_law_next Ψ) := (rs_seq (rs_asg (re_lstM ra_nil) (rg_name (vs := [3]) (by decide))) (rs_seq (rs_for (ri_tup (re_op ro_ix re_var re_int)) (rg_name (vs := [4]) (by decide)) (rs_seq (rs_asg (re_op ro_add (re_op ro_ix re_var (re_un ru_neg re_int)) (re_op ro_mul (re_op ro_ix re_var (re_un ru_neg re_int)) re_var)) (rg_name (vs := [5]) (by decide))) (rs_seq (rs_for (ri_rng1 (ra_cons (re_cb rc_len (ra_cons re_var ra_nil)) ra_nil)) (rg_name (vs := [6]) (by decide)) (rs_asg (re_op ro_add re_var (re_op ro_mul (re_op ro_ix re_var re_var) (re_op ro_ix re_var re_var))) (rg_name (vs := [5]) (by decide)))) (rs_drop (re_append re_var (ra_cons re_var ra_nil)))))) (rs_ret re_varF)))

theorem in_law_next {Ψ : XKd} {De : dEnds} {R D : DT} {u vs : List Int} {r : Int} {q : Addr} {μ : Mu} (hD : seqOf μ D = some (vs.map .int)) (hc : ∀ c ∈ u, -1000000 ≤ c ∧ c ≤ 1000000) (hu : u.length = vs.length + 2) : ∀ (n k : Nat) (t : Int) (x : Option DT), k + n = vs.length →
    (∀ x, De.nx [some R, some D, some (.int r), some (.adr q), some (.tup (u.map .int)), some (.int (nextSum ((u.take vs.length).drop k) (vs.drop k) t)), x] μ) →
    dLoop (dName 6) (d_law_next.L2 Ψ) De ((List.range' k n).map fun i : Nat => DT.int (i : Int)) [some R, some D, some (.int r), some (.adr q), some (.tup (u.map .int)), some (.int t), x] μ
  | 0, k, t, x, e, h => by
    have e2 : vs.drop k = [] := List.drop_eq_nil_of_le (by omega)
    have := h x
    rw [e2] at this
    have e3 : ∀ l : List Int, nextSum l [] t = t := fun l => by cases l <;> rfl
    rw [e3] at this
    exact this
  | n + 1, k, t, x, e, h => by
    have h1 : k < vs.length := by omega
    have h2 : k < u.length := by omega
    rw [List.range'_succ, List.map_cons]
    have c1 : atI (u.map DT.int) (k : Int) = some (.int u[k]) := atI_nat (by simp [h2])
    have c2 : atI (vs.map DT.int) (k : Int) = some (.int vs[k]) := atI_nat (by simp [h1])
    have b := hc u[k] (List.getElem_mem h2)
    refine ⟨_, rfl, _, rfl, _, rfl, _, _, _, rfl, rfl, c1, _, rfl, _, rfl, _, _, _, hD, rfl, c2, _, _, rfl, rfl, .inl ⟨by omega, by omega⟩, _, _, rfl, rfl, ?_⟩
    refine in_law_next hD hc hu n (k + 1) _ _ (by omega) fun y => ?_
    have := h y
    have ht : k < (u.take vs.length).length := by rw [List.length_take]; omega
    rw [List.drop_eq_getElem_cons ht, List.drop_eq_getElem_cons h1, nextSum, List.getElem_take] at this
    exact this
theorem rngD_zero (n : Nat) : rngD 0 n = (List.range' 0 n).map fun i : Nat => DT.int (i : Int) := by
  unfold rngD
  rw [List.range_eq_range']
  exact List.map_congr_left fun i _ => by rw [Int.zero_add]
theorem out_law_next {Ψ : XKd} {R D : DT} {vs : List Int} {r : Int} {q : Addr} {μ0 : Mu} (h0 : μ0 q = none) (nD : noAdr D = true) (hD : ∀ μ, seqOf μ D = some (vs.map .int)) (hv : vs.length ≤ 1000) {Φ : PK} : ∀ (us : List (List Int)) (done : List Int) (x4 x5 x6 : Option DT) (μ : Mu), SmallC us → (∀ u ∈ us, u.length = vs.length + 2) → Grow μ0 μ → μ q = some (.lst (done.map .int)) → done.length + us.length ≤ 1000 →
    (∀ μ', Grow μ0 μ' → Φ (.lst ((done ++ updAll us vs r).map .int)) μ') →
    dLoop (dName 4) (d_law_next.L1 Ψ) { nx := d_law_next.t2 Ψ { nx := fun _ μ' => Φ .non μ', rt := Φ }, rt := Φ } (us.map fun u => .tup (u.map .int)) [some R, some D, some (.int r), some (.adr q), x4, x5, x6] μ
  | [], done, x4, x5, x6, μ, hs, hu, hg, hq, hl, k => by
    refine ⟨q, _, rfl, hq, ?_⟩
    have := k (μ.out q) (hg.out h0)
    simp only [updAll, List.map_nil, List.append_nil] at this
    exact this
  | u :: us, done, x4, x5, x6, μ, hs, hu, hg, hq, hl, k => by
    obtain ⟨hu2, hc⟩ := hs u (.head _)
    have hul := hu u (.head _)
    have al := at_last hu2
    have hcL : -1000000 ≤ u.getD (u.length - 2) 0 ∧ u.getD (u.length - 2) 0 ≤ 1000000 := by
      rw [List.getD_eq_getElem?_getD, List.getElem?_eq_getElem (by omega : u.length - 2 < u.length)]; exact hc _ (List.getElem_mem _)
    refine ⟨_, rfl, _, rfl, _, _, _, rfl, rfl, al.1, _, rfl, _, rfl, _, _, _, rfl, rfl, al.2, _, rfl, _, _, rfl, rfl, .inl ⟨by omega, by omega⟩, _, _, rfl, rfl, ?_⟩
    refine ⟨_, rfl, _, _, rfl, hD μ, _, rfl, by rw [List.length_map]; omega, by rw [List.length_map]; omega, ?_⟩
    rw [List.length_map, Int.toNat_natCast, rngD_zero]
    refine in_law_next (hD μ) hc hul vs.length 0 _ x6 (by omega) fun y => ?_
    have e : nextSum ((u.take vs.length).drop 0) (vs.drop 0) (u.getD (u.length - 1) 0 + u.getD (u.length - 2) 0 * r) = upd1 u vs r := by
      rw [List.drop_zero, List.drop_zero, nextSum_eq]
      unfold upd1
      have e2 : u.length - 2 = vs.length := by omega
      rw [e2]; omega
    rw [e]
    refine ⟨_, rfl, q, _, rfl, hq, _, rfl, _, _, rfl, hq, ?_, ?_⟩
    · show List.length _ ≤ 1000000
      simp only [List.length_cons] at hl; rw [List.length_map]; omega
    · refine out_law_next h0 nD hD hv us (done ++ [upd1 u vs r]) _ _ _ _ (fun v hv' => hs v (.tail _ hv')) (fun v hv' => hu v (.tail _ hv')) (hg.new h0) ?_ (by simp only [List.length_append, List.length_cons, List.length_nil] at hl ⊢; omega) fun μ' g => ?_
      · rw [Mu.put_same, List.map_append]; rfl
      · rw [List.append_assoc]; exact k μ' g
theorem pure_law_next (ds : List DT) (μ : Mu) (Φ : PK) (Ψ : XKd) (h : sp_law_next ds μ Φ Ψ) : dRun (d_law_next Ψ) n_law_next ds μ Φ := by
  obtain ⟨row, D, vs, r, rfl, nD, hD, hs, hu, hl, hv, h⟩ := h
  refine ⟨by walk_at "sw_nn", fun q hq => ?_⟩
  refine ⟨_, rfl, _, 2, usD row.us, rfl, rfl, rfl, _, rfl, ?_⟩
  exact out_law_next hq nD (fun μ' => seq_any nD hD) hv row.us [] none none none _ hs hu ((Grow.refl μ).new hq) Mu.put_same (by show 0 + _ ≤ _; omega) h

/-! ### _law_run -/
/-- what a law's own run tells -/
def outD (R : RunR) : DT := match R.how with
  | none => .lst [.str "endless", .non, .non, .lst (R.rounds.map rndL)]
  | some s => .lst [.str s, .lst (R.vs.map .int), .int R.x, .lst (R.rounds.map rndL)]
def sp_law_run : dSp := fun ds μ Φ _ => ∃ (P : Prg) (n : Int) (e : Nat) (m : Mode) (ms : List Mode), ds = [partsD P, .int n] ∧ Good P ∧ P.modes = m :: ms ∧ n.natAbs ≤ 2 ^ e ∧ e ≤ 2500 ∧
  ∀ μ', Grow μ μ' → Φ (outD (runP P (3 * P.modes.length + e) [] m n (firstVals P))) μ'
theorem len_law_run (ds : List DT) (μ : Mu) (Φ : PK) (Ψ : XKd) (h : sp_law_run ds μ Φ Ψ) : ds.length = 2 := by obtain ⟨_, _, _, _, _, rfl, _⟩ := h; rfl
/-- the law's modes, by name -/
def lawModes (P : Prg) : DT := .dcs (P.modes.map fun m => (.str m.nm, .lst [.str (rname m.ru), .lst (m.rows.map rowD)]))
structure LawAt (P : Prg) (R : RunR) (K : Nat) (μ0 : Mu) (ps pr : Addr) (k : Nat) (seen : List (Str × Int)) (m : Mode) (x : Int) (vs : List Int) (done : List Rnd) (μ : Mu) : Prop where
  hm : m ∈ P.modes
  fu : Fuel P k seen x
  gr : Grow μ0 μ
  s : μ ps = some (.dct (seenKV seen))
  r : μ pr = some (.lst (done.map rndL))
  wh : Whole done (runP P k seen m x vs) R
  vl : vs.length = P.regs.length
  n : done.length + k ≤ K
  sl : seen.length = done.length
def d_law_run.c1 (Ψ : XKd) : dE := (dTup (dCons (dVar 11) (dCons (dLst (dCons (dVar 12) (dCons (dVar 13) dNil))) dNil)))
def d_law_run.c2 (Ψ : XKd) : dE := (dVar 14)
def d_law_run.L1t7 (Ψ : XKd) : dS := (dAsg (dOp dIx (dVar 8) (dC (.int 3))) (dName 3))
def d_law_run.L1t6 (Ψ : XKd) : dS := (dSeq (dIf (dTest (dOp dIsN (dOp dIx (dVar 8) (dC (.int 3))) (dC .non))) (dRet (dLst (dCons (dC (.str "stops")) (dCons (dVar 5) (dCons (dVar 4) (dCons (dVarF 7) dNil)))))) dNext) (d_law_run.L1t7 Ψ))
def d_law_run.L1t5 (Ψ : XKd) : dS := (dSeq (dPar 5 4 (dCons (dCall noX sp_law_next (dCons (dVar 8) (dCons (dVar 5) (dCons (dVar 10) dNil)))) (dCons (dVar 9) dNil))) (d_law_run.L1t6 Ψ))
def d_law_run.L1t4 (Ψ : XKd) : dS := (dSeq (dDrop (dAppend (dVar 7) (dCons (dTup (dCons (dVar 3) (dCons (dVar 4) (dCons (dVar 10) (dCons (dVar 5) dNil))))) dNil))) (d_law_run.L1t5 Ψ))
def d_law_run.L1t3 (Ψ : XKd) : dS := (dSeq (dAsg (dCall noX sp_law_line (dCons (dOp dIx (dGetS (dVar 2) (dVar 3)) (dC (.int 1))) (dCons (dOp dSub (dCB dInt (dCons (dOp dGt (dVar 4) (dC (.int 0))) dNil)) (dCB dInt (dCons (dOp dLt (dVar 4) (dC (.int 0))) dNil))) (dCons (dVar 10) dNil)))) (dName 8)) (d_law_run.L1t4 Ψ))
def d_law_run.L1t2 (Ψ : XKd) : dS := (dSeq (dAsg (dCall noX sp_law_divide (dCons (dOp dIx (dGetS (dVar 2) (dVar 3)) (dC (.int 0))) (dCons (dVar 4) (dCons (dOp dIx (dVar 0) (dC (.int 0))) dNil)))) (dGTup 2 (dGCons (dName 9) (dGCons (dName 10) dGNil)))) (d_law_run.L1t3 Ψ))
def d_law_run.L1t1 (Ψ : XKd) : dS := (dSeq (dIf (dTest (dOp (dIn false) (dVar 4) (dOp dIx (dVar 0) (dC (.int 3))))) (dRet (dLst (dCons (dC (.str "rests")) (dCons (dVar 5) (dCons (dVar 4) (dCons (dVarF 7) dNil)))))) dNext) (d_law_run.L1t2 Ψ))
def d_law_run.L1 (Ψ : XKd) : dS := (dSeq (dAsg (dC (.bl true)) (dgSubD (dVar 6) (dTup (dCons (dVar 3) (dCons (dVar 4) dNil))))) (d_law_run.L1t1 Ψ))
def d_law_run.t4 (Ψ : XKd) : dS := (dRet (dLst (dCons (dC (.str "endless")) (dCons (dC .non) (dCons (dC .non) (dCons (dVarF 7) dNil))))))
def d_law_run.t3 (Ψ : XKd) : dS := (dSeq (dWhile (dTest (dOp (dInD true) (dTup (dCons (dVar 3) (dCons (dVar 4) dNil))) (dVar 6))) (d_law_run.L1 Ψ)) (d_law_run.t4 Ψ))
def d_law_run.t2 (Ψ : XKd) : dS := (dSeq (dPar 6 7 (dCons dNewD (dCons (dLstM dNil) dNil))) (d_law_run.t3 Ψ))
def d_law_run.t1 (Ψ : XKd) : dS := (dSeq (dPar3 3 4 5 (dCons (dOp dIx (dOp dIx (dOp dIx (dVar 0) (dC (.int 2))) (dC (.int 0))) (dC (.int 0))) (dCons (dVar 1) (dCons (dLc (dIList (dOp dIx (dVar 0) (dC (.int 1)))) (dGTup 2 (dGCons (dName 11) (dGCons (dName 14) dGNil))) dYes (d_law_run.c2 Ψ) [11, 14]) dNil)))) (d_law_run.t2 Ψ))
def n_law_run : List Str := ["parts", "number", "modes", "mode", "x", "values", "seen", "rounds", "row", "later", "part", "name", "rule", "rows", "first"]
def t_law_run (K : Kit) (E : XK) : TS := (tSeq (tAsg (tCB (bDictP K) (tCons (tLc (iList K (tOp (rIx K) (tVar 0) (tC (.int 2)))) (gTup K 3 (gCons (gName 11) (gCons (gName 12) (gCons (gName 13) gNil)))) tYes (tTup (tCons (tVar 11) (tCons (tLst (tCons (tVar 12) (tCons (tVar 13) tNil))) tNil))) [11, 12, 13]) tNil)) (gName 2)) (tSeq (tPar3 3 4 5 (tCons (tOp (rIx K) (tOp (rIx K) (tOp (rIx K) (tVar 0) (tC (.int 2))) (tC (.int 0))) (tC (.int 0))) (tCons (tVar 1) (tCons (tLc (iList K (tOp (rIx K) (tVar 0) (tC (.int 1)))) (gTup K 2 (gCons (gName 11) (gCons (gName 14) gNil))) tYes (tVar 14) [11, 14]) tNil)))) (tSeq (tPar 6 7 (tCons (tDNewT K) (tCons (tLst tNil) tNil))) (tSeq (tWhile (tTest (tOp (rInDc K true) (tTup (tCons (tVar 3) (tCons (tVar 4) tNil))) (tVar 6))) (tSeq (tAsg (tC (.bl true)) (gSub (tVar 6) (tTup (tCons (tVar 3) (tCons (tVar 4) tNil))) (rSetDc K))) (tSeq (tIfS (tTest (tOp (rIn K false) (tVar 4) (tOp (rIx K) (tVar 0) (tC (.int 3))))) (tRet (tLst (tCons (tC (.str "rests")) (tCons (tVar 5) (tCons (tVar 4) (tCons (tVar 7) tNil)))))) tNext) (tSeq (tAsg (tCall (lift K sp_law_divide) [] E0 (tCons (tOp (rIx K) (tDGet (tVar 2) (tVar 3)) (tC (.int 0))) (tCons (tVar 4) (tCons (tOp (rIx K) (tVar 0) (tC (.int 0))) tNil)))) (gTup K 2 (gCons (gName 9) (gCons (gName 10) gNil)))) (tSeq (tAsg (tCall (lift K sp_law_line) [] E0 (tCons (tOp (rIx K) (tDGet (tVar 2) (tVar 3)) (tC (.int 1))) (tCons (tOp oSub (tCB bInt (tCons (tOp oGt (tVar 4) (tC (.int 0))) tNil)) (tCB bInt (tCons (tOp oLt (tVar 4) (tC (.int 0))) tNil))) (tCons (tVar 10) tNil)))) (gName 8)) (tSeq (tDrop (tBM K "list" rAppend (tVar 7) (tCons (tTup (tCons (tVar 3) (tCons (tVar 4) (tCons (tVar 10) (tCons (tVar 5) tNil))))) tNil))) (tSeq (tPar 5 4 (tCons (tCall (lift K sp_law_next) [] E0 (tCons (tVar 8) (tCons (tVar 5) (tCons (tVar 10) tNil)))) (tCons (tVar 9) tNil))) (tSeq (tIfS (tTest (tOp rIsN (tOp (rIx K) (tVar 8) (tC (.int 3))) (tC .non))) (tRet (tLst (tCons (tC (.str "stops")) (tCons (tVar 5) (tCons (tVar 4) (tCons (tVar 7) tNil)))))) tNext) (tAsg (tOp (rIx K) (tVar 8) (tC (.int 3))) (gName 3)))))))))) (tRet (tLst (tCons (tC (.str "endless")) (tCons (tC .non) (tCons (tC .non) (tCons (tVar 7) tNil))))))))))
def d_law_run (Ψ : XKd) : dS := (dSeq (dAsg (dCB dDictP (dCons (dLc (dIList (dOp dIx (dVar 0) (dC (.int 2)))) (dGTup 3 (dGCons (dName 11) (dGCons (dName 12) (dGCons (dName 13) dGNil)))) dYes (d_law_run.c1 Ψ) [11, 12, 13]) dNil)) (dName 2)) (d_law_run.t1 Ψ))
theorem r_law_run {K : Kit} (E : XK) (Ψ : XKd) : RS ⟨K, E, Ψ⟩ (t_law_run K E) (d_law_run Ψ) := (rs_seq (rs_asg (re_cb rc_dictP (ra_cons (re_lc (vs := [11, 12, 13]) (ri_list (re_op ro_ix re_var re_int)) (rg_tup (rgs_cons (rg_name (by decide)) (rgs_cons (rg_name (by decide)) (rgs_cons (rg_name (by decide)) rgs_nil)))) rt_yes (re_tup (ra_cons re_var (ra_cons (re_lst (ra_cons re_var (ra_cons re_var ra_nil))) ra_nil)))) ra_nil)) (rg_name (vs := [2]) (by decide))) (rs_seq (rs_par3 (ra_cons (re_op ro_ix (re_op ro_ix (re_op ro_ix re_var re_int) re_int) re_int) (ra_cons re_var (ra_cons (re_lc (vs := [11, 14]) (ri_list (re_op ro_ix re_var re_int)) (rg_tup (rgs_cons (rg_name (by decide)) (rgs_cons (rg_name (by decide)) rgs_nil))) rt_yes re_var) ra_nil)))) (rs_seq (rs_par (ra_cons re_newD (ra_cons (re_lstM ra_nil) ra_nil))) (rs_seq (rs_while (rt_test (re_op ro_inD (re_tup (ra_cons re_var (ra_cons re_var ra_nil))) re_var)) (rs_seq (rs_asg re_bl (rg_subD (vs := []) re_var (re_tup (ra_cons re_var (ra_cons re_var ra_nil))))) (rs_seq (rs_if (rt_test (re_op ro_in re_var (re_op ro_ix re_var re_int))) (rs_ret (re_lst (ra_cons re_str (ra_cons re_var (ra_cons re_var (ra_cons re_varF ra_nil)))))) rs_next) (rs_seq (rs_asg (re_call (ra_cons (re_op ro_ix (re_getS re_var re_var) re_int) (ra_cons re_var (ra_cons (re_op ro_ix re_var re_int) ra_nil)))) (rg_tup (vs := [9, 10]) (rgs_cons (rg_name (by decide)) (rgs_cons (rg_name (by decide)) rgs_nil)))) (rs_seq (rs_asg (re_call (ra_cons (re_op ro_ix (re_getS re_var re_var) re_int) (ra_cons (re_op ro_sub (re_cb rc_int (ra_cons (re_op ro_gt re_var re_int) ra_nil)) (re_cb rc_int (ra_cons (re_op ro_lt re_var re_int) ra_nil))) (ra_cons re_var ra_nil)))) (rg_name (vs := [8]) (by decide))) (rs_seq (rs_drop (re_append re_var (ra_cons (re_tup (ra_cons re_var (ra_cons re_var (ra_cons re_var (ra_cons re_var ra_nil))))) ra_nil))) (rs_seq (rs_par (ra_cons (re_call (ra_cons re_var (ra_cons re_var (ra_cons re_var ra_nil)))) (ra_cons re_var ra_nil))) (rs_seq (rs_if (rt_test (re_op ro_isN (re_op ro_ix re_var re_int) re_non)) (rs_ret (re_lst (ra_cons re_str (ra_cons re_var (ra_cons re_var (ra_cons re_varF ra_nil)))))) rs_next) (rs_asg (re_op ro_ix re_var re_int) (rg_name (vs := [3]) (by decide))))))))))) (rs_ret (re_lst (ra_cons re_str (ra_cons re_non (ra_cons re_non (ra_cons re_varF ra_nil))))))))))

theorem loop_law_run {Ψ : XKd} {P : Prg} {n : Int} {K : Nat} (hK : K ≤ 2600) (g : Good P) {R : RunR} {μ0 : Mu} {ps pr : Addr} (s0 : μ0 ps = none) (r0 : μ0 pr = none) (nsr : ps ≠ pr) {Φ : PK} (fin : ∀ μ', Grow μ0 μ' → Φ (outD R) μ') {k : Nat} {seen : List (Str × Int)} {m : Mode} {x : Int} {vs : List Int} {done : List Rnd} {x8 x9 x10 x11 x12 x13 x14 : Option DT} {μ : Mu} (I : LawAt P R K μ0 ps pr k seen m x vs done μ) :
    d_law_run.t3 Ψ { nx := fun _ μ' => Φ .non μ', rt := Φ } [some (partsD P), some (.int n), some (lawModes P), some (.str m.nm), some (.int x), some (.lst (vs.map .int)), some (.adr ps), some (.adr pr), x8, x9, x10, x11, x12, x13, x14] μ := by
  refine ⟨fun k env μ1 => ∃ seen m x vs done x8 x9 x10, LawAt P R K μ0 ps pr k seen m x vs done μ1 ∧ env = [some (partsD P), some (.int n), some (lawModes P), some (.str m.nm), some (.int x), some (.lst (vs.map .int)), some (.adr ps), some (.adr pr), x8, x9, x10, x11, x12, x13, x14],
    ⟨k, seen, m, x, vs, done, x8, x9, x10, I, rfl⟩, ?_⟩
  clear I
  intro k env μ1 hI
  obtain ⟨seen, m, x, vs, done, x8, x9, x10, I, rfl⟩ := hI
  have key : (dkAt (seenKV seen) (stD (m.nm, x))).isSome = decide ((m.nm, x) ∈ seen) := seen_at seen (m.nm, x)
  have In := I.n
  have nd := g.nd
  have hreg := g.regs
  refine ⟨_, rfl, _, rfl, by walk_at "sw_nn", _, rfl, seenKV seen, stD_ok (m.nm, x), (by simp only [dctOf, I.s]), _, rfl, (fun c => ?_), fun c => ?_⟩
  · have c' : (!(dkAt (seenKV seen) (stD (m.nm, x))).isSome) = true := c
    rw [key] at c'
    have hns : (m.nm, x) ∉ seen := fun z => by rw [decide_eq_true z] at c'; cases c'
    obtain ⟨k', rfl, fu'⟩ := I.fu.step (List.mem_map_of_mem I.hm) hns (quot_half m.ru x P.base g.base.1)
    refine ⟨_, rfl, _, rfl, _, rfl, by walk_at "sw_nn", ps, _, rfl, stD_ok (m.nm, x), I.s, by rw [seenKV_len, I.sl]; omega, ?_⟩
    have ep : dkPut (seenKV seen) (.tup [.str m.nm, .int x]) (.bl true) = seenKV ((m.nm, x) :: seen) := seen_put hns
    rw [ep]
    have r1 : (μ1.put ps (.dct (seenKV ((m.nm, x) :: seen)))) pr = some (.lst (done.map rndL)) := (Mu.put_ne (Ne.symm nsr)).trans I.r
    have s1 : (μ1.put ps (.dct (seenKV ((m.nm, x) :: seen)))) ps = some (.dct (seenKV ((m.nm, x) :: seen))) := Mu.put_same
    have g1 : Grow μ0 (μ1.put ps (.dct (seenKV ((m.nm, x) :: seen)))) := fun a o h => (Mu.put_ne fun z => by subst z; rw [s0] at h; cases h).trans (I.gr a o h)
    generalize μ1.put ps (.dct (seenKV ((m.nm, x) :: seen))) = M2 at r1 s1 g1 ⊢
    have hrow := rowOf_ok g I.hm x
    have hus := hrow.2.us
    have m1 : ksAt (P.modes.map fun m => (DT.str m.nm, DT.lst [.str (rname m.ru), .lst (m.rows.map rowD)])) (.str m.nm) = some (.lst [.str (rname m.ru), .lst (m.rows.map rowD)]) := ksAt_name nd I.hm
    refine ⟨_, rfl, _, rfl, _, 3, .lst (P.ends.map .int), rfl, rfl, rfl, _, rfl, rfl, flat_ints _, _, rfl, (fun c => ?_), fun c => ?_⟩
    · have c2 : inD (.int x) (P.ends.map .int) = true := c
      rw [inD_ints] at c2
      have hx := of_decide_eq_true c2
      have w := I.wh
      rw [runP_rest hns hx] at w
      unfold Whole at w
      simp only [List.append_nil] at w
      refine ⟨_, rfl, _, rfl, pr, _, rfl, r1, by walk_at "sw_nn", ?_⟩
      have f := fin (M2.out pr) (g1.out r0)
      rw [w] at f; exact f
    · have c2 : inD (.int x) (P.ends.map .int) = false := c
      rw [inD_ints] at c2
      have hx := of_decide_eq_false c2
      refine ⟨_, rfl, _, rfl, _, _, rfl, rfl, m1, _, 0, .str (rname m.ru), rfl, rfl, rfl, _, rfl, _, rfl, _, 0, .int P.base, rfl, rfl, rfl, m.ru, x, P.base, rfl, g.pre I.fu (by omega), ?_⟩
      refine ⟨_, rfl, rfl, _, _, rfl, _, _, rfl, rfl, ?_⟩
      refine ⟨_, rfl, _, rfl, _, _, rfl, rfl, m1, _, 1, .lst (m.rows.map rowD), rfl, rfl, rfl, _, rfl, _, _, rfl, rfl, .inr ⟨_, rfl, _, rfl, _, _, rfl, rfl, .inr ⟨_, rfl, _, _, rfl, rfl, _, rfl, m.rows, sgn x, _, rowOf P m x, ?_, hrow.1, ?_⟩⟩⟩
      · have e : sgn x = (if decide (0 < x) = true then 1 else 0) - (if decide (x < 0) = true then 1 else 0) := by unfold sgn; simp only [decide_eq_true_eq]
        rw [e]
      refine ⟨_, rfl, pr, _, rfl, r1, _, rfl, _, rfl, _, rfl, _, rfl, by walk_at "sw_nn", _, _, rfl, r1, ?_, ?_⟩
      · show List.length _ ≤ 1000000
        rw [List.length_map]; omega
      have g2 : Grow μ0 (M2.put pr (.lst (done.map rndL ++ [rndL ⟨m.nm, x, (divided m.ru x P.base).2, vs⟩]))) := fun a o h => (Mu.put_ne fun z => by subst z; rw [r0] at h; cases h).trans (g1 a o h)
      refine ⟨_, rfl, _, rfl, _, rfl, rowOf P m x, .lst (vs.map .int), vs, _, rfl, rfl, rfl, hrow.2.small, (fun u hu => by rw [I.vl]; exact (hus.2 u hu).1), by omega, by rw [I.vl]; omega, fun μ3 g3 => ?_⟩
      have r3 := g3 pr _ Mu.put_same
      have s3 := g3 ps _ ((Mu.put_ne nsr).trans s1)
      have gr3 := g2.trans g3
      refine ⟨_, rfl, _, _, rfl, ?_⟩
      refine ⟨_, rfl, _, 3, optS (rowOf P m x).th, rfl, rfl, rfl, rfl, _, rfl, (fun c => ?_), fun c => ?_⟩
      · cases ht : (rowOf P m x).th with
        | some t => rw [ht] at c; cases c
        | none =>
          have w := I.wh
          rw [runP_stop hns hx ht] at w
          unfold Whole at w
          refine ⟨_, rfl, _, rfl, pr, _, rfl, r3, by walk_at "sw_nn", ?_⟩
          have f := fin (μ3.out pr) (gr3.out r0)
          rw [w] at f
          unfold outD at f
          simp only [List.map_append] at f
          exact f
      · cases ht : (rowOf P m x).th with
        | none => rw [ht] at c; cases c
        | some t =>
          have hm' := modeAt_mem (m := m) (hrow.2.th t ht)
          refine ⟨_, rfl, _, 3, .str t, rfl, rfl, ?_, ?_⟩
          · show some (optS (rowOf P m x).th) = _
            rw [ht]; rfl
          refine ⟨k', by omega, (m.nm, x) :: seen, modeAt P t m, _, _, done ++ [⟨m.nm, x, (divided m.ru x P.base).2, vs⟩], _, _, _, ⟨hm'.1, fu', gr3, s3, ?_, runP_go hns hx ht I.wh, ?_, ?_, ?_⟩, by rw [hm'.2]; rfl⟩
          · rw [List.map_append]; exact r3
          · rw [updAll_len, hus.1]
          · rw [List.length_append]; simp only [List.length_cons, List.length_nil]; omega
          · rw [List.length_append]; simp only [List.length_cons, List.length_nil]; rw [I.sl]
  · have c' : (!(dkAt (seenKV seen) (stD (m.nm, x))).isSome) = false := c
    rw [key] at c'
    have hs' : (m.nm, x) ∈ seen := by
      by_cases z : (m.nm, x) ∈ seen
      · exact z
      · rw [decide_eq_false z] at c'; cases c'
    have w := I.wh
    rw [runP_seen hs'] at w
    unfold Whole at w
    simp only [List.append_nil] at w
    refine ⟨pr, _, rfl, I.r, by walk_at "sw_nn", ?_⟩
    have f := fin (μ1.out pr) (I.gr.out r0)
    rw [w] at f; exact f
theorem pure_law_run (ds : List DT) (μ : Mu) (Φ : PK) (Ψ : XKd) (h : sp_law_run ds μ Φ Ψ) : dRun (d_law_run Ψ) n_law_run ds μ Φ := by
  obtain ⟨P, n, e, m0, ms, rfl, g, hms, hn, he, h⟩ := h
  have hmo := g.modes
  have hre := g.regs
  refine ⟨_, rfl, _, 2, .lst (P.modes.map modeD), rfl, rfl, rfl, _, rfl, ?_⟩
  refine lcGo_map (src := modeD) (res := fun m => .tup [.str m.nm, .lst [.str (rname m.ru), .lst (m.rows.map rowD)]]) P.modes [] (by show 0 + _ ≤ _; omega) (fun m _ => ⟨_, fun N h => ⟨_, rfl, rfl, _, _, rfl, _, _, rfl, _, _, rfl, rfl, h⟩, fun Φ h => ⟨_, rfl, _, rfl, _, rfl, by walk_at "sw_nn", by walk_at "sw_nn", h⟩⟩) ?_
  refine ⟨_, P.modes.map (fun m => (.str m.nm, .lst [.str (rname m.ru), .lst (m.rows.map rowD)])), rfl, ?_, ?_, ?_⟩
  · rw [List.map_map, List.nil_append]; rfl
  · rw [List.all_map]; exact List.all_eq_true.mpr fun _ _ => rfl
  rw [ksMerge_new _ [] ?_ fun p hp => by cases hp]
  · refine ⟨_, rfl, _, 2, .lst (P.modes.map modeD), rfl, rfl, rfl, _, 0, modeD m0, rfl, rfl, ?_, _, 0, .str m0.nm, rfl, rfl, rfl, _, rfl, ?_⟩
    · rw [hms]; show atI _ ((0 : Nat) : Int) = _; exact atI_nat rfl
    refine ⟨_, rfl, _, 1, .lst (P.regs.map regD), rfl, rfl, rfl, _, rfl, ?_⟩
    refine lcGo_map (src := regD) (res := fun r => .int r.2) P.regs [] (by show 0 + _ ≤ _; omega) (fun r _ => ⟨_, fun N h => ⟨_, rfl, rfl, _, _, rfl, _, _, rfl, rfl, h⟩, fun Φ h => ⟨_, rfl, h⟩⟩) ?_
    refine ⟨_, _, _, rfl, fun ps hs => ⟨by walk_at "sw_nn", fun pr hr => ⟨_, _, rfl, ?_⟩⟩⟩
    have nsr : ps ≠ pr := fun z => by subst z; rw [Mu.put_same] at hr; cases hr
    have r0 : μ pr = none := (Mu.put_ne (Ne.symm nsr)).symm.trans hr
    have ev : [] ++ P.regs.map (fun r => DT.int r.2) = (firstVals P).map .int := by rw [List.nil_append]; unfold firstVals; rw [List.map_map]; rfl
    rw [ev]
    exact loop_law_run (n := n) (done := []) (seen := []) (K := 3 * P.modes.length + e) (by omega) g hs r0 nsr h ⟨by rw [hms]; exact .head _, Fuel.first hn, ((Grow.refl μ).new hs).new r0, (Mu.put_ne nsr).trans Mu.put_same, Mu.put_same, rfl, List.length_map _, by show 0 + _ ≤ _; omega, rfl⟩
  · rw [List.map_map]
    have nd := g.nd
    clear hms h hmo
    generalize P.modes = l at nd
    induction l with
    | nil => exact List.nodup_nil
    | cons a l ih =>
      rw [List.map_cons, List.nodup_cons] at nd ⊢
      refine ⟨fun c => ?_, ih nd.2⟩
      obtain ⟨b, hb, eb⟩ := List.mem_map.mp c
      have eb : a.nm = b.nm := by simpa [keyS, Function.comp, eq_comm] using eb
      exact nd.1 (List.mem_map.mpr ⟨b, hb, eb.symm⟩)

/-! ### Run.rounds -/
/-- a run's fields -/
def runF (P : Prg) (n : Int) (pr pv pl : Addr) : List (Str × DT) := [("own_key", .tup [progD P, .int n]), ("own_rounds", .adr pr), ("own_values", .adr pv), ("own_loop", .adr pl)]
def sp_Run_rounds : dSp := fun ds μ Φ _ => ∃ P n pr pv pl xs, ds = [.obj "Run" (runF P n pr pv pl)] ∧ μ pr = some (.lst xs) ∧ Φ (.lst xs) μ
theorem len_Run_rounds (ds : List DT) (μ : Mu) (Φ : PK) (Ψ : XKd) (h : sp_Run_rounds ds μ Φ Ψ) : ds.length = 1 := by obtain ⟨_, _, _, _, _, _, rfl, _⟩ := h; rfl
def n_Run_rounds : List Str := ["self"]
def t_Run_rounds (K : Kit) (E : XK) : TS := (tRet (tCB (bList K) (tCons (tFld K (tVar 0) "own_rounds") tNil)))
def d_Run_rounds (Ψ : XKd) : dS := (dRet (dCB dList (dCons (dFld flds (dVar 0) "own_rounds") dNil)))
theorem r_Run_rounds {K : Kit} (fl : FlOk K flds) (E : XK) (Ψ : XKd) : RS ⟨K, E, Ψ⟩ (t_Run_rounds K E) (d_Run_rounds Ψ) := (rs_ret (re_cb rc_list (ra_cons (re_fld fl re_var) ra_nil)))

theorem pure_Run_rounds (ds : List DT) (μ : Mu) (Φ : PK) (Ψ : XKd) (h : sp_Run_rounds ds μ Φ Ψ) : dRun (d_Run_rounds Ψ) n_Run_rounds ds μ Φ := by
  obtain ⟨P, n, pr, pv, pl, xs, rfl, hp, h⟩ := h
  exact ⟨_, rfl, _, _, _, rfl, rfl, rfl, _, xs, rfl, (by simp only [seqOf, hp]), h⟩

/-! ### Program.first_row -/
/-- the registers' first values, 1 behind them -/
def sp_Program_first_row : dSp := fun ds μ Φ _ => ∃ P : Prg, ds = [progD P] ∧ P.regs.length ≤ 1000 ∧ Φ (.tup ((firstVals P ++ [1]).map .int)) μ
theorem len_Program_first_row (ds : List DT) (μ : Mu) (Φ : PK) (Ψ : XKd) (h : sp_Program_first_row ds μ Φ Ψ) : ds.length = 1 := by obtain ⟨_, rfl, _⟩ := h; rfl
def d_Program_first_row.c1 (Ψ : XKd) : dE := (dVar 2)
def n_Program_first_row : List Str := ["self", "name", "first"]
def t_Program_first_row (K : Kit) (E : XK) : TS := (tRet (tTup (StX.tStar K (tLc (iTup K (tFld K (tVar 0) "own_registers")) (gTup K 2 (gCons (gName 1) (gCons (gName 2) gNil))) tYes (tVar 2) [1, 2]) (tCons (tC (.int 1)) tNil))))
def d_Program_first_row (Ψ : XKd) : dS := (dRet (dTup (dStar (dLc (dITup (dFld flds (dVar 0) "own_registers")) (dGTup 2 (dGCons (dName 1) (dGCons (dName 2) dGNil))) dYes (d_Program_first_row.c1 Ψ) [1, 2]) (dCons (dC (.int 1)) dNil))))
theorem r_Program_first_row {K : Kit} (fl : FlOk K flds) (E : XK) (Ψ : XKd) : RS ⟨K, E, Ψ⟩ (t_Program_first_row K E) (d_Program_first_row Ψ) := (rs_ret (re_tup (ra_star (re_lc (vs := [1, 2]) (ri_tup (re_fld fl re_var)) (rg_tup (rgs_cons (rg_name (by decide)) (rgs_cons (rg_name (by decide)) rgs_nil))) rt_yes re_var) (ra_cons re_int ra_nil))))

theorem comp_first_row {Ψ : XKd} {env : DEnv} {μ : Mu} (he : env.length = 3) : ∀ (rs : List (Str × Int)) (acc : List DT) (K : List DT → Mu → Prop), acc.length + rs.length ≤ 1000 → K (acc ++ rs.map fun p => .int p.2) μ →
    dLcGo (dGTup 2 (dGCons (dName 1) (dGCons (dName 2) dGNil))) dYes (d_Program_first_row.c1 Ψ) env (rs.map regD) acc μ K
  | [], acc, K, hl, k => by
    show K acc μ
    rwa [List.map_nil, List.append_nil] at k
  | p :: rs, acc, K, hl, k => by
    have l2 : ((env.set 1 (some (.str p.1))).set 2 (some (.int p.2)))[2]? = some (some (.int p.2)) := by
      rw [List.getElem?_set, if_pos rfl, if_pos (by rw [List.length_set]; omega)]
    refine ⟨_, rfl, rfl, _, _, rfl, _, _, rfl, rfl, fun _ => ⟨_, l2, ?_, ?_⟩, fun z => Bool.noConfusion z⟩
    · show acc.length ≤ 1000000
      simp only [List.length_cons] at hl; omega
    · refine comp_first_row he rs _ K (by simp only [List.length_append, List.length_cons, List.length_nil] at hl ⊢; omega) ?_
      rw [List.append_assoc]; exact k
theorem pure_Program_first_row (ds : List DT) (μ : Mu) (Φ : PK) (Ψ : XKd) (h : sp_Program_first_row ds μ Φ Ψ) : dRun (d_Program_first_row Ψ) n_Program_first_row ds μ Φ := by
  obtain ⟨P, rfl, hl, h⟩ := h
  refine ⟨_, rfl, _, _, _, rfl, rfl, rfl, _, rfl, ?_⟩
  refine comp_first_row rfl P.regs [] _ (by show 0 + _ ≤ _; omega) ?_
  refine ⟨_, rfl, ?_, ?_⟩
  · show List.length _ ≤ 1000000
    simp only [List.nil_append, List.length_append, List.length_map, List.length_cons, List.length_nil]; omega
  · have e : ([] ++ P.regs.map fun p => DT.int p.2) ++ [DT.int 1] = (firstVals P ++ [1]).map DT.int := by
      unfold firstVals; simp
    rw [e]; exact h

/-! ### Loop.__init__ -/
/-- a loop's fields -/
def loopF (P : Prg) (m : Str) (x : Int) (vs : List Int) (how : Option Str) : List (Str × DT) := [("own_program", progD P), ("own_mode", .str m), ("own_x", .int x), ("own_values", .tup (vs.map .int)), ("own_how", optS how)]
def sp_Loop___init__ : dSp := fun ds μ Φ _ => ∃ (p : Addr) (P : Prg) (x : Int) (m : Mode) (ms : List Mode), ds = [.adr p, progD P, .int x] ∧ μ p = some (.obj "Loop" []) ∧ P.modes = m :: ms ∧ P.regs.length ≤ 1000 ∧ Φ .non (μ.put p (.obj "Loop" (loopF P m.nm x (firstVals P) none)))
theorem len_Loop___init__ (ds : List DT) (μ : Mu) (Φ : PK) (Ψ : XKd) (h : sp_Loop___init__ ds μ Φ Ψ) : ds.length = 3 := by obtain ⟨_, _, _, _, _, rfl, _⟩ := h; rfl
theorem cut_last {xs : List DT} {y : DT} : cutD (xs ++ [y]) none (some (-1)) = xs := by
  unfold cutD HT.sIx
  simp only [List.length_append, List.length_cons, List.length_nil]
  rw [if_pos (by decide)]
  have e : (-1 + ((xs.length + (0 + 1) : Nat) : Int)).toNat = xs.length := by omega
  rw [e, Nat.sub_zero, List.drop_zero, List.take_left]
def d_Loop___init__.t4 (Ψ : XKd) : dS := (dsFld flds (dVar 0) (dC .non) "own_how")
def d_Loop___init__.t3 (Ψ : XKd) : dS := (dSeq (dsFld flds (dVar 0) (dSl dSlT (dMeth noX "Program" "first_row" sp_Program_first_row (dVar 1) dNil) dNoPart (dPart (dUn dNeg (dC (.int 1))))) "own_values") (d_Loop___init__.t4 Ψ))
def d_Loop___init__.t2 (Ψ : XKd) : dS := (dSeq (dsFld flds (dVar 0) (dVar 2) "own_x") (d_Loop___init__.t3 Ψ))
def d_Loop___init__.t1 (Ψ : XKd) : dS := (dSeq (dsFld flds (dVar 0) (dOp dIx (dFld flds (dVar 1) "own_names") (dC (.int 0))) "own_mode") (d_Loop___init__.t2 Ψ))
def n_Loop___init__ : List Str := ["self", "program", "number"]
def t_Loop___init__ (K : Kit) (E : XK) : TS := (tSeq (sFld K (tVar 0) (tVar 1) "own_program") (tSeq (sFld K (tVar 0) (tOp (rIx K) (tFld K (tVar 1) "own_names") (tC (.int 0))) "own_mode") (tSeq (sFld K (tVar 0) (tVar 2) "own_x") (tSeq (sFld K (tVar 0) (tSl (rSlA K) (tMeth (He.ga K "Program") "first_row" (lift K sp_Program_first_row) [] E0 (tVar 1) tNil) tNoPart (tPart (tUn oNeg (tC (.int 1))))) "own_values") (sFld K (tVar 0) (tC .non) "own_how")))))
def d_Loop___init__ (Ψ : XKd) : dS := (dSeq (dsFld flds (dVar 0) (dVar 1) "own_program") (d_Loop___init__.t1 Ψ))
theorem r_Loop___init__ {K : Kit} (fl : FlOk K flds) (E : XK) (Ψ : XKd) : RS ⟨K, E, Ψ⟩ (t_Loop___init__ K E) (d_Loop___init__ Ψ) := (rs_seq (rs_fld fl re_var re_var) (rs_seq (rs_fld fl re_var (re_op ro_ix (re_fld fl re_var) re_int)) (rs_seq (rs_fld fl re_var re_var) (rs_seq (rs_fld fl re_var (re_sl rsl_t (re_meth re_var ra_nil) rp_no (rp_part (re_un ru_neg re_int)))) (rs_fld fl re_var re_non)))))

theorem pure_Loop___init__ (ds : List DT) (μ : Mu) (Φ : PK) (Ψ : XKd) (h : sp_Loop___init__ ds μ Φ Ψ) : dRun (d_Loop___init__ Ψ) n_Loop___init__ ds μ Φ := by
  obtain ⟨p, P, x, m, ms, rfl, hp, hm, hl, h⟩ := h
  refine ⟨_, rfl, _, rfl, p, _, _, rfl, hp, rfl, by decide, ?_⟩
  refine ⟨_, rfl, _, _, _, rfl, rfl, rfl, _, 0, .str m.nm, rfl, rfl, ?_, _, rfl, p, _, _, rfl, Mu.put_same, rfl, by walk_at "sw_nn", ?_⟩
  · rw [hm]; show atI _ ((0 : Nat) : Int) = _; exact atI_nat rfl
  refine ⟨_, rfl, _, rfl, p, _, _, rfl, Mu.put_same, rfl, by walk_at "sw_nn", ?_⟩
  refine ⟨_, rfl, _, rfl, rfl, P, rfl, hl, _, rfl, _, rfl, _, rfl, _, rfl, p, _, _, rfl, Mu.put_same, rfl, by walk_at "sw_nn", ?_⟩
  refine ⟨_, rfl, p, _, _, rfl, Mu.put_same, rfl, by walk_at "sw_nn", ?_⟩
  simp only [Mu.put_put]
  have e : cutD ((firstVals P ++ [1]).map DT.int) none (some (-1)) = (firstVals P).map DT.int := by rw [List.map_append]; exact cut_last
  rw [e]
  exact h

/-! ### sign_of -/
def sp_sign_of : dSp := fun ds μ Φ _ => ∃ n, ds = [.int n] ∧ Φ (.int (sgn n)) μ
theorem len_sign_of (ds : List DT) (μ : Mu) (Φ : PK) (Ψ : XKd) (h : sp_sign_of ds μ Φ Ψ) : ds.length = 1 := by obtain ⟨_, rfl, _⟩ := h; rfl
def n_sign_of : List Str := ["number"]
def t_sign_of (K : Kit) (E : XK) : TS := (tRet (tOp oSub (tCB bInt (tCons (tOp oGt (tVar 0) (tC (.int 0))) tNil)) (tCB bInt (tCons (tOp oLt (tVar 0) (tC (.int 0))) tNil))))
def d_sign_of (Ψ : XKd) : dS := (dRet (dOp dSub (dCB dInt (dCons (dOp dGt (dVar 0) (dC (.int 0))) dNil)) (dCB dInt (dCons (dOp dLt (dVar 0) (dC (.int 0))) dNil))))
theorem r_sign_of {K : Kit} (E : XK) (Ψ : XKd) : RS ⟨K, E, Ψ⟩ (t_sign_of K E) (d_sign_of Ψ) := (rs_ret (re_op ro_sub (re_cb rc_int (ra_cons (re_op ro_gt re_var re_int) ra_nil)) (re_cb rc_int (ra_cons (re_op ro_lt re_var re_int) ra_nil))))

theorem pure_sign_of (ds : List DT) (μ : Mu) (Φ : PK) (Ψ : XKd) (h : sp_sign_of ds μ Φ Ψ) : dRun (d_sign_of Ψ) n_sign_of ds μ Φ := by
  obtain ⟨n, rfl, h⟩ := h
  refine ⟨_, rfl, _, _, rfl, rfl, .inr ⟨_, rfl, _, rfl, _, _, rfl, rfl, .inr ⟨_, rfl, _, _, rfl, rfl, ?_⟩⟩⟩
  have e : (if decide (0 < n) = true then (1 : Int) else 0) - (if decide (n < 0) = true then 1 else 0) = sgn n := by unfold sgn; simp
  rw [← e] at h
  exact h

/-! ### is_greater -/
def sp_is_greater : dSp := fun ds μ Φ _ => ∃ (r : Rule) (sign s part size : Int), ds = [.str (rname r), .int sign, .int s, .int part, .int size] ∧ (-(2 ^ 64) < sign ∧ sign < 2 ^ 64) ∧ Φ (.bl (isGreater r sign s part size)) μ
theorem len_is_greater (ds : List DT) (μ : Mu) (Φ : PK) (Ψ : XKd) (h : sp_is_greater ds μ Φ Ψ) : ds.length = 5 := by obtain ⟨_, _, _, _, _, rfl, _⟩ := h; rfl
def n_is_greater : List Str := ["rule", "sign", "divisor_sign", "part", "size"]
def t_is_greater (K : Kit) (E : XK) : TS := (tMatch (tVar 0) (mStr "down" (tRet (tOp oLt (tOp oMul (tVar 1) (tVar 2)) (tC (.int 0)))) (mStr "up" (tRet (tOp oGt (tOp oMul (tVar 1) (tVar 2)) (tC (.int 0)))) (mStr "positive" (tRet (tOp oLt (tVar 1) (tC (.int 0)))) (mStr "near" (tRet (tOrV (tOp oGt (tOp oMul (tC (.int 2)) (tVar 3)) (tVar 4)) (tAndV (tOp rEq (tOp oMul (tC (.int 2)) (tVar 3)) (tVar 4)) (tOp oLt (tVar 1) (tC (.int 0)))))) (mElse (tRet (tC (.bl false)))))))))
def d_is_greater (Ψ : XKd) : dS := (dMatch (dVar 0) (dmStr "down" (dRet (dOp dLt (dOp dMul (dVar 1) (dVar 2)) (dC (.int 0)))) (dmStr "up" (dRet (dOp dGt (dOp dMul (dVar 1) (dVar 2)) (dC (.int 0)))) (dmStr "positive" (dRet (dOp dLt (dVar 1) (dC (.int 0)))) (dmStr "near" (dRet (dOrV (dOp dGt (dOp dMul (dC (.int 2)) (dVar 3)) (dVar 4)) (dAndV (dOp dEq (dOp dMul (dC (.int 2)) (dVar 3)) (dVar 4)) (dOp dLt (dVar 1) (dC (.int 0)))))) (dmElse (dRet (dC (.bl false)))))))))
theorem r_is_greater {K : Kit} (E : XK) (Ψ : XKd) : RS ⟨K, E, Ψ⟩ (t_is_greater K E) (d_is_greater Ψ) := (rs_match re_var (rm_str (rs_ret (re_op ro_lt (re_op ro_mul re_var re_var) re_int)) (rm_str (rs_ret (re_op ro_gt (re_op ro_mul re_var re_var) re_int)) (rm_str (rs_ret (re_op ro_lt re_var re_int)) (rm_str (rs_ret (re_or (re_op ro_gt (re_op ro_mul re_int re_var) re_var) (re_and (re_op ro_eq (re_op ro_mul re_int re_var) re_var) (re_op ro_lt re_var re_int)))) (rm_else (rs_ret re_bl)))))))

theorem pure_is_greater (ds : List DT) (μ : Mu) (Φ : PK) (Ψ : XKd) (h : sp_is_greater ds μ Φ Ψ) : dRun (d_is_greater Ψ) n_is_greater ds μ Φ := by
  obtain ⟨r, sign, s, part, size, rfl, hb, h⟩ := h
  cases r with
  | down =>
    refine ⟨_, rfl, _, rfl, fun _ => ?_, fun z => absurd rfl z⟩
    exact ⟨_, rfl, _, rfl, _, _, rfl, rfl, .inl hb, _, _, rfl, rfl, h⟩
  | up =>
    refine ⟨_, rfl, _, rfl, fun z => absurd z (by decide), fun _ => ⟨_, rfl, fun _ => ?_, fun z => absurd rfl z⟩⟩
    exact ⟨_, rfl, _, rfl, _, _, rfl, rfl, .inl hb, _, _, rfl, rfl, h⟩
  | positive =>
    refine ⟨_, rfl, _, rfl, fun z => absurd z (by decide), fun _ => ⟨_, rfl, fun z => absurd z (by decide), fun _ => ⟨_, rfl, fun _ => ?_, fun z => absurd rfl z⟩⟩⟩
    exact ⟨_, rfl, _, _, rfl, rfl, h⟩
  | near =>
    refine ⟨_, rfl, _, rfl, fun z => absurd z (by decide), fun _ => ⟨_, rfl, fun z => absurd z (by decide), fun _ => ⟨_, rfl, fun z => absurd z (by decide), fun _ => ⟨_, rfl, fun _ => ?_, fun z => absurd rfl z⟩⟩⟩⟩
    refine ⟨_, rfl, _, _, rfl, rfl, .inl (by decide), _, rfl, _, _, rfl, rfl, _, rfl, fun c1 => ?_, fun c1 => ?_⟩
    · have e : isGreater .near sign s part size = true := by
        show (decide (size < 2 * part) || _) = true
        rw [c1]; rfl
      rw [e] at h; exact h
    · have e0 : isGreater .near sign s part size = (decide (2 * part = size) && decide (sign < 0)) := by
        show (decide (size < 2 * part) || _) = _
        rw [c1]; rfl
      refine ⟨_, rfl, _, _, rfl, rfl, .inl (by decide), _, rfl, .inl ⟨_, _, rfl, rfl, _, rfl, fun c2 => ?_, fun c2 => ?_⟩⟩
      · refine ⟨_, rfl, _, _, rfl, rfl, ?_⟩
        rw [e0, c2] at h; exact h
      · rw [e0, c2] at h; exact h
  | zero =>
    refine ⟨_, rfl, _, rfl, fun z => absurd z (by decide), fun _ => ⟨_, rfl, fun z => absurd z (by decide), fun _ => ⟨_, rfl, fun z => absurd z (by decide), fun _ => ⟨_, rfl, fun z => absurd z (by decide), fun _ => h⟩⟩⟩⟩

/-! ### divided -/
def sp_divided : dSp := fun ds μ Φ _ => ∃ (r : Rule) (x d : Int), ds = [.str (rname r), .int x, .int d] ∧ DivPre x d ∧ Φ (.tup [.int (divided r x d).1, .int (divided r x d).2]) μ
theorem len_divided (ds : List DT) (μ : Mu) (Φ : PK) (Ψ : XKd) (h : sp_divided ds μ Φ Ψ) : ds.length = 3 := by obtain ⟨_, _, _, rfl, _⟩ := h; rfl
def d_divided.t3 (Ψ : XKd) : dS := (dRet (dTup (dCons (dOp dMul (dOp dMul (dVar 4) (dCall noX sp_sign_of (dCons (dVar 2) dNil))) (dVar 5)) (dCons (dOp dMul (dVar 4) (dVar 6)) dNil))))
def d_divided.t2 (Ψ : XKd) : dS := (dSeq (dIf (dAnd (dTest (dOp dGt (dVar 6) (dC (.int 0)))) (dTest (dCall noX sp_is_greater (dCons (dVar 0) (dCons (dVar 4) (dCons (dCall noX sp_sign_of (dCons (dVar 2) dNil)) (dCons (dVar 6) (dCons (dVar 3) dNil)))))))) (dPar 5 6 (dCons (dOp dAdd (dVar 5) (dC (.int 1))) (dCons (dOp dSub (dVar 6) (dVar 3)) dNil))) dNext) (d_divided.t3 Ψ))
def d_divided.t1 (Ψ : XKd) : dS := (dSeq (dAsg (dCB dDivmod (dCons (dCB dAbs (dCons (dVar 1) dNil)) (dCons (dVar 3) dNil))) (dGTup 2 (dGCons (dName 5) (dGCons (dName 6) dGNil)))) (d_divided.t2 Ψ))
def n_divided : List Str := ["rule", "x", "divisor", "size", "sign", "whole", "part"]
def t_divided (K : Kit) (E : XK) : TS := (tSeq (tPar 3 4 (tCons (tCB bAbs (tCons (tVar 2) tNil)) (tCons (tCall (lift K sp_sign_of) [] E0 (tCons (tVar 1) tNil)) tNil))) (tSeq (tAsg (tCB bDivmod (tCons (tCB bAbs (tCons (tVar 1) tNil)) (tCons (tVar 3) tNil))) (gTup K 2 (gCons (gName 5) (gCons (gName 6) gNil)))) (tSeq (tIfS (tAnd (tTest (tOp oGt (tVar 6) (tC (.int 0)))) (tB (tCall (lift K sp_is_greater) [] E0 (tCons (tVar 0) (tCons (tVar 4) (tCons (tCall (lift K sp_sign_of) [] E0 (tCons (tVar 2) tNil)) (tCons (tVar 6) (tCons (tVar 3) tNil)))))))) (tPar 5 6 (tCons (tOp oAdd (tVar 5) (tC (.int 1))) (tCons (tOp oSub (tVar 6) (tVar 3)) tNil))) tNext) (tRet (tTup (tCons (tOp oMul (tOp oMul (tVar 4) (tCall (lift K sp_sign_of) [] E0 (tCons (tVar 2) tNil))) (tVar 5)) (tCons (tOp oMul (tVar 4) (tVar 6)) tNil)))))))
def d_divided (Ψ : XKd) : dS := (dSeq (dPar 3 4 (dCons (dCB dAbs (dCons (dVar 2) dNil)) (dCons (dCall noX sp_sign_of (dCons (dVar 1) dNil)) dNil))) (d_divided.t1 Ψ))
theorem r_divided {K : Kit} (E : XK) (Ψ : XKd) : RS ⟨K, E, Ψ⟩ (t_divided K E) (d_divided Ψ) := (rs_seq (rs_par (ra_cons (re_cb rc_abs (ra_cons re_var ra_nil)) (ra_cons (re_call (ra_cons re_var ra_nil)) ra_nil))) (rs_seq (rs_asg (re_cb rc_divmod (ra_cons (re_cb rc_abs (ra_cons re_var ra_nil)) (ra_cons re_var ra_nil))) (rg_tup (vs := [5, 6]) (rgs_cons (rg_name (by decide)) (rgs_cons (rg_name (by decide)) rgs_nil)))) (rs_seq (rs_if (rt_and (rt_test (re_op ro_gt re_var re_int)) (rt_b (re_call (ra_cons re_var (ra_cons re_var (ra_cons (re_call (ra_cons re_var ra_nil)) (ra_cons re_var (ra_cons re_var ra_nil)))))))) (rs_par (ra_cons (re_op ro_add re_var re_int) (ra_cons (re_op ro_sub re_var re_var) ra_nil))) rs_next) (rs_ret (re_tup (ra_cons (re_op ro_mul (re_op ro_mul re_var (re_call (ra_cons re_var ra_nil))) re_var) (ra_cons (re_op ro_mul re_var re_var) ra_nil)))))))

theorem pure_divided (ds : List DT) (μ : Mu) (Φ : PK) (Ψ : XKd) (h : sp_divided ds μ Φ Ψ) : dRun (d_divided Ψ) n_divided ds μ Φ := by
  obtain ⟨r, x, d, rfl, ⟨hx, hd, hd2⟩, h⟩ := h
  have hs := absI_pos hd
  have hn : (absI x).natAbs < 2 ^ 3000 := by have := absI_abs x; omega
  have sb : ∀ n, -(2 ^ 64) < sgn n ∧ sgn n < 2 ^ 64 := fun n => by unfold sgn; split <;> split <;> omega
  refine ⟨_, rfl, _, rfl, _, rfl, _, rfl, _, _, rfl, ?_⟩
  refine ⟨_, rfl, _, rfl, _, rfl, _, _, rfl, divOk hn hs, _, rfl, rfl, _, _, rfl, _, _, rfl, rfl, ?_⟩
  have tl : ∀ (w pt : Int), sgn x * sgn d * w = (divided r x d).1 → sgn x * pt = (divided r x d).2 →
      (d_divided.t3 Ψ) { nx := fun _ μ' => Φ .non μ', rt := Φ } [some (.str (rname r)), some (.int x), some (.int d), some (.int (absI d)), some (.int (sgn x)), some (.int w), some (.int pt)] μ := by
    intro w pt h1 h2
    refine ⟨_, rfl, _, rfl, _, rfl, _, _, rfl, rfl, .inl (sb x), _, rfl, _, _, rfl, rfl, .inl ?_, _, rfl, _, rfl, _, _, rfl, rfl, .inl (sb x), by walk_at "sw_nn", ?_⟩
    · rcases sgn_cases x with a | a | a <;> rcases sgn_cases d with b | b | b <;> rw [a, b] <;> decide
    · rw [← h1, ← h2] at h; exact h
  refine ⟨_, rfl, _, _, rfl, rfl, _, rfl, fun c1 => ?_, fun c1 => ?_⟩
  · have c1' := of_decide_eq_true c1
    refine ⟨_, rfl, _, rfl, _, rfl, _, rfl, _, rfl, _, rfl, r, _, _, _, _, rfl, sb x, _, rfl, fun c2 => ?_, fun c2 => ?_⟩
    · refine ⟨_, rfl, _, _, rfl, rfl, _, rfl, _, rfl, _, _, rfl, rfl, _, _, rfl, ?_⟩
      have e : divided r x d = (sgn x * sgn d * (absI x / absI d + 1), sgn x * (absI x % absI d - absI d)) := if_pos ⟨c1', c2⟩
      exact tl _ _ (congrArg Prod.fst e).symm (congrArg Prod.snd e).symm
    · have e : divided r x d = (sgn x * sgn d * (absI x / absI d), sgn x * (absI x % absI d)) := if_neg fun z => Bool.noConfusion (z.2.symm.trans c2)
      exact tl _ _ (congrArg Prod.fst e).symm (congrArg Prod.snd e).symm
  · refine ⟨fun z => Bool.noConfusion z, fun _ => ?_⟩
    have e : divided r x d = (sgn x * sgn d * (absI x / absI d), sgn x * (absI x % absI d)) := if_neg fun z => of_decide_eq_false c1 z.1
    exact tl _ _ (congrArg Prod.fst e).symm (congrArg Prod.snd e).symm

/-! ### picked -/
def sp_picked : dSp := fun ds μ Φ _ => ∃ (rows : List Row) (s r : Int) (row : Row), ds = [.dct (rowsKV rows), .int s, .int r] ∧ pickRow rows s r = some row ∧ Φ (valD row) μ
theorem len_picked (ds : List DT) (μ : Mu) (Φ : PK) (Ψ : XKd) (h : sp_picked ds μ Φ Ψ) : ds.length = 3 := by obtain ⟨_, _, _, _, rfl, _⟩ := h; rfl
def d_picked.L1 (Ψ : XKd) : dS := (dIf (dTest (dOp (dInD false) (dVar 3) (dVar 0))) (dRet (dOp dIxD (dVar 0) (dVar 3))) dNext)
def d_picked.t1 (Ψ : XKd) : dS := (dRet (dOp dIxD (dVar 0) (dTup (dCons (dC .non) (dCons (dC .non) dNil)))))
def n_picked : List Str := ["rows", "sign", "remainder", "key"]
def t_picked (K : Kit) (E : XK) : TS := (tSeq (tFor (iTup K (tTup (tCons (tTup (tCons (tVar 1) (tCons (tVar 2) tNil))) (tCons (tTup (tCons (tC .non) (tCons (tVar 2) tNil))) (tCons (tTup (tCons (tVar 1) (tCons (tC .non) tNil))) tNil))))) (gName 3) (tIfS (tTest (tOp (rInDc K false) (tVar 3) (tVar 0))) (tRet (tOp (rIxDc K) (tVar 0) (tVar 3))) tNext)) (tRet (tOp (rIxDc K) (tVar 0) (tTup (tCons (tC .non) (tCons (tC .non) tNil))))))
def d_picked (Ψ : XKd) : dS := (dSeq (dFor (dITup (dTup (dCons (dTup (dCons (dVar 1) (dCons (dVar 2) dNil))) (dCons (dTup (dCons (dC .non) (dCons (dVar 2) dNil))) (dCons (dTup (dCons (dVar 1) (dCons (dC .non) dNil))) dNil))))) (dName 3) (d_picked.L1 Ψ)) (d_picked.t1 Ψ))
theorem r_picked {K : Kit} (E : XK) (Ψ : XKd) : RS ⟨K, E, Ψ⟩ (t_picked K E) (d_picked Ψ) := (rs_seq (rs_for (ri_tup (re_tup (ra_cons (re_tup (ra_cons re_var (ra_cons re_var ra_nil))) (ra_cons (re_tup (ra_cons re_non (ra_cons re_var ra_nil))) (ra_cons (re_tup (ra_cons re_var (ra_cons re_non ra_nil))) ra_nil))))) (rg_name (vs := [3]) (by decide)) (rs_if (rt_test (re_op ro_inD re_var re_var)) (rs_ret (re_op ro_ixD re_var re_var)) rs_next)) (rs_ret (re_op ro_ixD re_var (re_tup (ra_cons re_non (ra_cons re_non ra_nil))))))

theorem loop_picked {Ψ : XKd} {rows : List Row} {s r : Int} {Φ : PK} {μ : Mu} {row : Row} (hΦ : Φ (valD row) μ) : ∀ (ks : List RKey) (x : Option DT), firstOf rows (ks ++ [(none, none)]) = some row →
    dLoop (dName 3) (d_picked.L1 Ψ) { nx := d_picked.t1 Ψ { nx := fun _ μ' => Φ .non μ', rt := Φ }, rt := Φ } (ks.map keyD) [some (.dct (rowsKV rows)), some (.int s), some (.int r), x] μ
  | [], x, h => by
    have e : findRow rows (none, none) = some row := by
      simp only [List.nil_append, firstOf] at h
      cases q : findRow rows (none, none) with
      | none => rw [q] at h; cases h
      | some r0 => rw [q] at h; exact h
    refine ⟨_, rfl, by walk_at "sw_nn", _, valD row, rfl, rfl, ?_, hΦ⟩
    have := rows_at rows (none, none)
    rw [e] at this; exact this
  | k :: ks, x, h => by
    have ra := rows_at rows k
    cases q : findRow rows k with
    | some r0 =>
      rw [q] at ra
      have e : r0 = row := by
        simp only [List.cons_append, firstOf, q] at h; exact Option.some.inj h
      subst e
      refine ⟨_, rfl, _, rfl, _, keyD_ok k, rfl, _, rfl, fun _ => ?_, fun z => ?_⟩
      · exact ⟨_, rfl, _, rfl, _, _, keyD_ok k, rfl, ra, hΦ⟩
      · have z' : (dkAt (rowsKV rows) (keyD k)).isSome = false := z
        rw [ra] at z'; cases z'
    | none =>
      rw [q] at ra
      refine ⟨_, rfl, _, rfl, _, keyD_ok k, rfl, _, rfl, fun z => ?_, fun _ => ?_⟩
      · have z' : (dkAt (rowsKV rows) (keyD k)).isSome = true := z
        rw [ra] at z'; cases z'
      · refine loop_picked hΦ ks _ ?_
        simp only [List.cons_append, firstOf, q] at h; exact h
theorem pure_picked (ds : List DT) (μ : Mu) (Φ : PK) (Ψ : XKd) (h : sp_picked ds μ Φ Ψ) : dRun (d_picked Ψ) n_picked ds μ Φ := by
  obtain ⟨rows, s, r, row, rfl, hp, h⟩ := h
  refine ⟨_, rfl, _, rfl, by walk_at "sw_nn", _, rfl, by walk_at "sw_nn", _, rfl, by walk_at "sw_nn", by walk_at "sw_nn", _, rfl, ?_⟩
  exact loop_picked h [(some s, some r), (none, some r), (some s, none)] none hp

/-! ### updated -/
def sp_updated : dSp := fun ds μ Φ _ => ∃ (us : List (List Int)) (vs : List Int) (r : Int), ds = [usD us, .tup (vs.map .int), .int r] ∧ SmallC us ∧ us.length ≤ 1000 ∧ vs.length ≤ 1000 ∧ ∀ μ', Grow μ μ' → Φ (.tup ((updAll us vs r).map .int)) μ'
theorem len_updated (ds : List DT) (μ : Mu) (Φ : PK) (Ψ : XKd) (h : sp_updated ds μ Φ Ψ) : ds.length = 3 := by obtain ⟨_, _, _, rfl, _⟩ := h; rfl
def d_updated.c1 (Ψ : XKd) : dE := (dOp dMul (dVar 8) (dVar 9))
def d_updated.L1t1 (Ψ : XKd) : dS := (dDrop (dAppend (dVar 3) (dCons (dOp dAdd (dOp dAdd (dCB dSum (dCons (dVar 6) dNil)) (dOp dMul (dVar 4) (dVar 2))) (dVar 5)) dNil)))
def d_updated.L1 (Ψ : XKd) : dS := (dSeq (dAsg (dLc (dIZipM (dCons (dVar 7) (dCons (dVar 1) dNil))) (dGTup 2 (dGCons (dName 8) (dGCons (dName 9) dGNil))) dYes (d_updated.c1 Ψ) [8, 9]) (dName 6)) (d_updated.L1t1 Ψ))
def d_updated.t2 (Ψ : XKd) : dS := (dRet (dCB dTuple (dCons (dVar 3) dNil)))
def d_updated.t1 (Ψ : XKd) : dS := (dSeq (dFor (dITup (dVar 0)) (dgStar 2 (dName 7) (dGCons (dName 4) (dGCons (dName 5) dGNil))) (d_updated.L1 Ψ)) (d_updated.t2 Ψ))
def n_updated : List Str := ["updates", "values", "remainder", "found", "by_remainder", "constant", "parts", "coefficients", "one", "value"]
def t_updated (K : Kit) (E : XK) : TS := (tSeq (tAsg (tLst tNil) (gName 3)) (tSeq (tFor (iTup K (tVar 0)) (gStar K 2 (gName 7) (gCons (gName 4) (gCons (gName 5) gNil))) (tSeq (tAsg (tLc (iZipM K (tCons (tVar 7) (tCons (tVar 1) tNil))) (gTup K 2 (gCons (gName 8) (gCons (gName 9) gNil))) tYes (tOp oMul (tVar 8) (tVar 9)) [8, 9]) (gName 6)) (tDrop (tBM K "list" rAppend (tVar 3) (tCons (tOp oAdd (tOp oAdd (tCB (rSum K) (tCons (tVar 6) tNil)) (tOp oMul (tVar 4) (tVar 2))) (tVar 5)) tNil))))) (tRet (tCB (bTuple K) (tCons (tVar 3) tNil)))))
def d_updated (Ψ : XKd) : dS := (dSeq (dAsg (dLstM dNil) (dName 3)) (d_updated.t1 Ψ))
theorem r_updated {K : Kit} (E : XK) (Ψ : XKd) : RS ⟨K, E, Ψ⟩ (t_updated K E) (d_updated Ψ) := (rs_seq (rs_asg (re_lstM ra_nil) (rg_name (vs := [3]) (by decide))) (rs_seq (rs_for (ri_tup re_var) (rg_star (vs := [4, 5, 7]) (rg_name (by decide)) (rgs_cons (rg_name (by decide)) (rgs_cons (rg_name (by decide)) rgs_nil))) (rs_seq (rs_asg (re_lc (vs := [8, 9]) (ri_zipM (ra_cons re_var (ra_cons re_var ra_nil))) (rg_tup (rgs_cons (rg_name (by decide)) (rgs_cons (rg_name (by decide)) rgs_nil))) rt_yes (re_op ro_mul re_var re_var)) (rg_name (vs := [6]) (by decide))) (rs_drop (re_append re_var (ra_cons (re_op ro_add (re_op ro_add (re_cb rc_sum (ra_cons re_var ra_nil)) (re_op ro_mul re_var re_var)) re_var) ra_nil))))) (rs_ret (re_cb rc_tuple (ra_cons re_var ra_nil)))))

theorem comp_updated {Ψ : XKd} {env : DEnv} {μ : Mu} (he : env.length = 10) : ∀ (cs vs : List Int) (acc : List DT) (K : List DT → Mu → Prop), (∀ c ∈ cs, -1000000 ≤ c ∧ c ≤ 1000000) → acc.length + vs.length ≤ 1000 → K (acc ++ (dotI cs vs).map .int) μ →
    dLcGo (dGTup 2 (dGCons (dName 8) (dGCons (dName 9) dGNil))) dYes (d_updated.c1 Ψ) env (((cs.map DT.int).zip (vs.map DT.int)).map fun p => .tup [p.1, p.2]) acc μ K
  | [], vs, acc, K, hc, hl, k => by
    show K acc μ
    rwa [dotI, List.map_nil, List.append_nil] at k
    exact fun _ _ _ _ z => nomatch z
  | c :: cs, [], acc, K, hc, hl, k => by
    show K acc μ
    rwa [dotI, List.map_nil, List.append_nil] at k
    exact fun _ _ _ _ _ z => nomatch z
  | c :: cs, v :: vs, acc, K, hc, hl, k => by
    obtain ⟨b1, b2⟩ := hc c (.head _)
    have l8 : ((env.set 8 (some (.int c))).set 9 (some (.int v)))[8]? = some (some (.int c)) := by
      rw [List.getElem?_set_ne (by decide), List.getElem?_set, if_pos rfl, if_pos (by omega)]
    have l9 : ((env.set 8 (some (.int c))).set 9 (some (.int v)))[9]? = some (some (.int v)) := by
      rw [List.getElem?_set, if_pos rfl, if_pos (by rw [List.length_set]; omega)]
    refine ⟨_, rfl, rfl, _, _, rfl, _, _, rfl, rfl, fun _ => ⟨_, l8, _, l9, _, _, rfl, rfl, .inl ⟨by omega, by omega⟩, ?_, ?_⟩, fun z => Bool.noConfusion z⟩
    · show acc.length ≤ 1000000
      simp only [List.length_cons] at hl; omega
    · refine comp_updated he cs vs _ K (fun x hx => hc x (.tail _ hx)) (by simp only [List.length_append, List.length_cons, List.length_nil] at hl ⊢; omega) ?_
      rw [List.append_assoc]; exact k
theorem loop_updated {Ψ : XKd} {q : Addr} {U : DT} {vs : List Int} {r : Int} (hv : vs.length ≤ 1000) {μ0 : Mu} (h0 : μ0 q = none) {Φ : PK} : ∀ (us : List (List Int)) (done : List Int) (x4 x5 x6 x7 : Option DT) (μ : Mu), SmallC us → Grow μ0 μ → μ q = some (.lst (done.map .int)) → done.length + us.length ≤ 1000 →
    (∀ μ', Grow μ0 μ' → Φ (.tup ((done ++ updAll us vs r).map .int)) μ') →
    dLoop (dgStar 2 (dName 7) (dGCons (dName 4) (dGCons (dName 5) dGNil))) (d_updated.L1 Ψ) { nx := d_updated.t2 Ψ { nx := fun _ μ' => Φ .non μ', rt := Φ }, rt := Φ } (us.map fun u => .tup (u.map .int)) [some U, some (.tup (vs.map .int)), some (.int r), some (.adr q), x4, x5, x6, x7, none, none] μ
  | [], done, x4, x5, x6, x7, μ, hs, hg, hq, hl, k => by
    refine ⟨_, rfl, _, done.map .int, rfl, by simp only [seqOf, hq], ?_⟩
    have := k μ hg
    simp only [updAll, List.map_nil, List.append_nil] at this
    exact this
  | u :: us, done, x4, x5, x6, x7, μ, hs, hg, hq, hl, k => by
    obtain ⟨hu, hc⟩ := hs u (.head _)
    have l2 := last2 hu
    have hcL : ∀ i, -1000000 ≤ u.getD i 0 ∧ u.getD i 0 ≤ 1000000 := fun i => by
      by_cases hi : i < u.length
      · rw [List.getD_eq_getElem?_getD, List.getElem?_eq_getElem hi]; exact hc _ (List.getElem_mem hi)
      · rw [List.getD_eq_getElem?_getD, List.getElem?_eq_none (by omega)]; decide
    refine ⟨_, rfl, by rw [List.length_map]; exact hu, _, _, rfl, ?_⟩
    rw [List.length_map, ← List.map_drop, ← List.map_take, l2]
    refine ⟨_, _, rfl, _, _, rfl, rfl, ?_⟩
    refine ⟨_, rfl, _, rfl, _, _, _, _, rfl, rfl, rfl, rfl, rfl, ?_⟩
    refine comp_updated rfl (u.take (u.length - 2)) vs [] _ (fun c hc' => hc c (List.mem_of_mem_take hc')) (by show 0 + _ ≤ _; omega) ?_
    refine ⟨_, rfl, _, _, rfl, hq, _, rfl, _, dotI (u.take (u.length - 2)) vs, rfl, rfl, _, rfl, _, rfl, _, _, rfl, rfl, .inl ⟨?_, ?_⟩, _, _, rfl, rfl, _, rfl, _, _, rfl, rfl, _, _, rfl, hq, ?_, ?_⟩
    · have := (hcL (u.length - 2)).1; omega
    · have := (hcL (u.length - 2)).2; omega
    · show List.length _ ≤ 1000000
      simp only [List.length_cons] at hl; rw [List.length_map]; omega
    · refine loop_updated hv h0 us (done ++ [upd1 u vs r]) _ _ _ _ _ (fun v hv' => hs v (.tail _ hv')) (hg.new h0) ?_ (by simp only [List.length_append, List.length_cons, List.length_nil] at hl ⊢; omega) fun μ' g => ?_
      · rw [Mu.put_same, List.map_append]; rfl
      · rw [List.append_assoc]; exact k μ' g
theorem pure_updated (ds : List DT) (μ : Mu) (Φ : PK) (Ψ : XKd) (h : sp_updated ds μ Φ Ψ) : dRun (d_updated Ψ) n_updated ds μ Φ := by
  obtain ⟨us, vs, r, rfl, hs, hl, hv, h⟩ := h
  refine ⟨by walk_at "sw_nn", fun q hq => ?_⟩
  refine ⟨_, rfl, _, rfl, ?_⟩
  exact loop_updated hv hq us [] none none none none _ hs ((Grow.refl μ).new hq) Mu.put_same (by show 0 + _ ≤ _; omega) h

/-! ### Loop.go_on -/
def sp_Loop_go_on : dSp := fun ds μ Φ _ => ∃ (p : Addr) (P : Prg) (m : Mode) (x : Int) (vs : List Int), ds = [.adr p] ∧ μ p = some (.obj "Loop" (loopF P m.nm x vs none)) ∧ Stands P m ∧
  (x ∈ P.ends → Φ .non (μ.put p (.obj "Loop" (loopF P m.nm x vs (some "rests"))))) ∧
  (x ∉ P.ends → ∃ row, DivPre x P.base ∧ pickRow m.rows (sgn x) (divided m.ru x P.base).2 = some row ∧ SmallC row.us ∧ row.us.length ≤ 1000 ∧ vs.length ≤ 1000 ∧
    ∀ μ', GrowBut p μ μ' → μ' p = some (.obj "Loop" (loopF P (row.th.getD m.nm) (divided m.ru x P.base).1 (updAll row.us vs (divided m.ru x P.base).2) (if row.th = none then some "stops" else none))) → Φ (.tup [.str m.nm, .int x, .int (divided m.ru x P.base).2]) μ')
theorem len_Loop_go_on (ds : List DT) (μ : Mu) (Φ : PK) (Ψ : XKd) (h : sp_Loop_go_on ds μ Φ Ψ) : ds.length = 1 := by obtain ⟨_, _, _, _, _, rfl, _⟩ := h; rfl
def d_Loop_go_on.t7 (Ψ : XKd) : dS := (dRet (dTup (dCons (dVar 2) (dCons (dVar 3) (dCons (dVar 4) dNil)))))
def d_Loop_go_on.t6 (Ψ : XKd) : dS := (dSeq (dIf (dTest (dOp dIsN (dVar 6) (dC .non))) (dsFld flds (dVar 0) (dC (.str "stops")) "own_how") (dsFld flds (dVar 0) (dVar 6) "own_mode")) (d_Loop_go_on.t7 Ψ))
def d_Loop_go_on.t5 (Ψ : XKd) : dS := (dSeq (dsFld flds (dVar 0) (dCall noX sp_updated (dCons (dVar 5) (dCons (dFld flds (dVar 0) "own_values") (dCons (dVar 4) dNil)))) "own_values") (d_Loop_go_on.t6 Ψ))
def d_Loop_go_on.t4 (Ψ : XKd) : dS := (dSeq (dAsg (dCall noX sp_picked (dCons (dGetS (dFld flds (dVar 1) "own_rows") (dVar 2)) (dCons (dCall noX sp_sign_of (dCons (dVar 3) dNil)) (dCons (dVar 4) dNil)))) (dGTup 2 (dGCons (dName 5) (dGCons (dName 6) dGNil)))) (d_Loop_go_on.t5 Ψ))
def d_Loop_go_on.t3 (Ψ : XKd) : dS := (dSeq (dAsg (dCall noX sp_divided (dCons (dGetS (dFld flds (dVar 1) "own_rules") (dVar 2)) (dCons (dVar 3) (dCons (dFld flds (dVar 1) "own_base") dNil)))) (dGTup 2 (dGCons (dgFld flds (dVar 0) "own_x") (dGCons (dName 4) dGNil)))) (d_Loop_go_on.t4 Ψ))
def d_Loop_go_on.t2 (Ψ : XKd) : dS := (dSeq (dIf (dTest (dOp dNotN (dFld flds (dVar 0) "own_how") (dC .non))) (dRet (dC .non)) dNext) (d_Loop_go_on.t3 Ψ))
def d_Loop_go_on.t1 (Ψ : XKd) : dS := (dSeq (dIf (dAnd (dTest (dOp dIsN (dFld flds (dVar 0) "own_how") (dC .non))) (dTest (dOp (dIn false) (dVar 3) (dFld flds (dVar 1) "own_ends")))) (dsFld flds (dVar 0) (dC (.str "rests")) "own_how") dNext) (d_Loop_go_on.t2 Ψ))
def n_Loop_go_on : List Str := ["self", "program", "mode", "x", "remainder", "updates", "then"]
def t_Loop_go_on (K : Kit) (E : XK) : TS := (tSeq (tPar3 1 2 3 (tCons (tFld K (tVar 0) "own_program") (tCons (tFld K (tVar 0) "own_mode") (tCons (tFld K (tVar 0) "own_x") tNil)))) (tSeq (tIfS (tAnd (tTest (tOp rIsN (tFld K (tVar 0) "own_how") (tC .non))) (tTest (tOp (rIn K false) (tVar 3) (tFld K (tVar 1) "own_ends")))) (sFld K (tVar 0) (tC (.str "rests")) "own_how") tNext) (tSeq (tIfS (tTest (tOp rNotN (tFld K (tVar 0) "own_how") (tC .non))) (tRet (tC .non)) tNext) (tSeq (tAsg (tCall (lift K sp_divided) [] E0 (tCons (tDGet (tFld K (tVar 1) "own_rules") (tVar 2)) (tCons (tVar 3) (tCons (tFld K (tVar 1) "own_base") tNil)))) (gTup K 2 (gCons (gFld K (tVar 0) "own_x") (gCons (gName 4) gNil)))) (tSeq (tAsg (tCall (lift K sp_picked) [] E0 (tCons (tDGet (tFld K (tVar 1) "own_rows") (tVar 2)) (tCons (tCall (lift K sp_sign_of) [] E0 (tCons (tVar 3) tNil)) (tCons (tVar 4) tNil)))) (gTup K 2 (gCons (gName 5) (gCons (gName 6) gNil)))) (tSeq (sFld K (tVar 0) (tCall (lift K sp_updated) [] E0 (tCons (tVar 5) (tCons (tFld K (tVar 0) "own_values") (tCons (tVar 4) tNil)))) "own_values") (tSeq (tIfS (tTest (tOp rIsN (tVar 6) (tC .non))) (sFld K (tVar 0) (tC (.str "stops")) "own_how") (sFld K (tVar 0) (tVar 6) "own_mode")) (tRet (tTup (tCons (tVar 2) (tCons (tVar 3) (tCons (tVar 4) tNil))))))))))))
def d_Loop_go_on (Ψ : XKd) : dS := (dSeq (dPar3 1 2 3 (dCons (dFld flds (dVar 0) "own_program") (dCons (dFld flds (dVar 0) "own_mode") (dCons (dFld flds (dVar 0) "own_x") dNil)))) (d_Loop_go_on.t1 Ψ))
theorem r_Loop_go_on {K : Kit} (fl : FlOk K flds) (E : XK) (Ψ : XKd) : RS ⟨K, E, Ψ⟩ (t_Loop_go_on K E) (d_Loop_go_on Ψ) := (rs_seq (rs_par3 (ra_cons (re_fld fl re_var) (ra_cons (re_fld fl re_var) (ra_cons (re_fld fl re_var) ra_nil)))) (rs_seq (rs_if (rt_and (rt_test (re_op ro_isN (re_fld fl re_var) re_non)) (rt_test (re_op ro_in re_var (re_fld fl re_var)))) (rs_fld fl re_var re_str) rs_next) (rs_seq (rs_if (rt_test (re_op ro_notN (re_fld fl re_var) re_non)) (rs_ret re_non) rs_next) (rs_seq (rs_asg (re_call (ra_cons (re_getS (re_fld fl re_var) re_var) (ra_cons re_var (ra_cons (re_fld fl re_var) ra_nil)))) (rg_tup (vs := [4]) (rgs_cons (rg_fld fl re_var) (rgs_cons (rg_name (by decide)) rgs_nil)))) (rs_seq (rs_asg (re_call (ra_cons (re_getS (re_fld fl re_var) re_var) (ra_cons (re_call (ra_cons re_var ra_nil)) (ra_cons re_var ra_nil)))) (rg_tup (vs := [5, 6]) (rgs_cons (rg_name (by decide)) (rgs_cons (rg_name (by decide)) rgs_nil)))) (rs_seq (rs_fld fl re_var (re_call (ra_cons re_var (ra_cons (re_fld fl re_var) (ra_cons re_var ra_nil))))) (rs_seq (rs_if (rt_test (re_op ro_isN re_var re_non)) (rs_fld fl re_var re_str) (rs_fld fl re_var re_var)) (rs_ret (re_tup (ra_cons re_var (ra_cons re_var (ra_cons re_var ra_nil))))))))))))

theorem pure_Loop_go_on (ds : List DT) (μ : Mu) (Φ : PK) (Ψ : XKd) (h : sp_Loop_go_on ds μ Φ Ψ) : dRun (d_Loop_go_on Ψ) n_Loop_go_on ds μ Φ := by
  obtain ⟨p, P, m, x, vs, rfl, hp, hm, h1, h2⟩ := h
  have ho := obj_put hp
  refine ⟨_, rfl, _, _, _, ho, rfl, rfl, _, rfl, _, _, _, ho, rfl, rfl, _, rfl, _, _, _, ho, rfl, rfl, _, _, _, rfl, ?_⟩
  refine ⟨_, rfl, _, _, _, ho, rfl, rfl, rfl, _, rfl, fun _ => ?_, fun z => by cases z⟩
  refine ⟨_, rfl, _, rfl, _, _, _, rfl, rfl, rfl, _, rfl, rfl, flat_ints _, _, rfl, fun c => ?_, fun c => ?_⟩
  · have c' : inD (.int x) (P.ends.map .int) = true := c
    rw [inD_ints] at c'
    refine ⟨_, rfl, p, _, _, rfl, hp, rfl, by walk_at "sw_nn", ?_⟩
    refine ⟨_, rfl, _, _, _, obj_put Mu.put_same, rfl, rfl, rfl, _, rfl, fun _ => ?_, fun z => by cases z⟩
    exact h1 (of_decide_eq_true c')
  · have c' : inD (.int x) (P.ends.map .int) = false := c
    rw [inD_ints] at c'
    obtain ⟨row, hd, hr, hs, hl, hv, h2⟩ := h2 (of_decide_eq_false c')
    refine ⟨_, rfl, _, _, _, ho, rfl, rfl, rfl, _, rfl, (fun z => by cases z), fun _ => ?_⟩
    refine ⟨_, rfl, _, _, _, rfl, rfl, rfl, _, rfl, _, _, rfl, rfl, hm.ru, _, rfl, _, rfl, _, _, _, rfl, rfl, rfl, m.ru, x, P.base, rfl, hd, _, rfl, rfl, _, _, rfl, ?_⟩
    refine ⟨_, rfl, p, _, _, rfl, hp, rfl, by walk_at "sw_nn", _, _, rfl, rfl, ?_⟩
    refine ⟨_, rfl, _, _, _, rfl, rfl, rfl, _, rfl, _, _, rfl, rfl, hm.rows, _, rfl, _, rfl, _, rfl, m.rows, sgn x, _, row, rfl, hr, _, rfl, rfl, _, _, rfl, _, _, rfl, rfl, ?_⟩
    refine ⟨_, rfl, _, rfl, _, _, _, obj_put Mu.put_same, rfl, rfl, _, rfl, row.us, vs, _, rfl, hs, hl, hv, fun μ' g => ?_⟩
    have gp := g p _ Mu.put_same
    refine ⟨_, rfl, p, _, _, rfl, gp, rfl, by walk_at "sw_nn", ?_⟩
    have fin : ∀ (A B : MO), GrowBut p μ ((μ'.put p A).put p B) := fun A B a m' ne ha => by
      rw [Mu.put_ne ne, Mu.put_ne ne]
      exact g a m' ((Mu.put_ne ne).trans ha)
    cases ht : row.th with
    | none =>
      rw [ht] at h2
      refine ⟨_, rfl, rfl, _, rfl, fun _ => ?_, fun z => by cases z⟩
      refine ⟨_, rfl, p, _, _, rfl, Mu.put_same, rfl, by walk_at "sw_nn", ?_⟩
      refine ⟨_, rfl, _, rfl, _, rfl, by walk_at "sw_nn", ?_⟩
      exact h2 _ (fin _ _) Mu.put_same
    | some t =>
      rw [ht] at h2
      refine ⟨_, rfl, rfl, _, rfl, (fun z => by cases z), fun _ => ?_⟩
      refine ⟨_, rfl, _, rfl, p, _, _, rfl, Mu.put_same, rfl, by walk_at "sw_nn", ?_⟩
      refine ⟨_, rfl, _, rfl, _, rfl, by walk_at "sw_nn", ?_⟩
      exact h2 _ (fin _ _) Mu.put_same

/-! ### Run.__init__ -/
def sp_Run___init__ : dSp := fun ds μ Φ _ => ∃ p P n pr pv pl, ds = [.adr p, progD P, .int n, .adr pr, .adr pv, .adr pl] ∧ μ p = some (.obj "Run" []) ∧ Φ .non (μ.put p (.obj "Run" (runF P n pr pv pl)))
theorem len_Run___init__ (ds : List DT) (μ : Mu) (Φ : PK) (Ψ : XKd) (h : sp_Run___init__ ds μ Φ Ψ) : ds.length = 6 := by obtain ⟨_, _, _, _, _, _, rfl, _⟩ := h; rfl
def d_Run___init__.t3 (Ψ : XKd) : dS := (dsFld flds (dVar 0) (dVar 5) "own_loop")
def d_Run___init__.t2 (Ψ : XKd) : dS := (dSeq (dsFld flds (dVar 0) (dVar 4) "own_values") (d_Run___init__.t3 Ψ))
def d_Run___init__.t1 (Ψ : XKd) : dS := (dSeq (dsFld flds (dVar 0) (dVar 3) "own_rounds") (d_Run___init__.t2 Ψ))
def n_Run___init__ : List Str := ["self", "program", "number", "rounds", "rows", "loop"]
def t_Run___init__ (K : Kit) (E : XK) : TS := (tSeq (sFld K (tVar 0) (tTup (tCons (tVar 1) (tCons (tVar 2) tNil))) "own_key") (tSeq (sFld K (tVar 0) (tVar 3) "own_rounds") (tSeq (sFld K (tVar 0) (tVar 4) "own_values") (sFld K (tVar 0) (tVar 5) "own_loop"))))
def d_Run___init__ (Ψ : XKd) : dS := (dSeq (dsFld flds (dVar 0) (dTup (dCons (dVar 1) (dCons (dVar 2) dNil))) "own_key") (d_Run___init__.t1 Ψ))
theorem r_Run___init__ {K : Kit} (fl : FlOk K flds) (E : XK) (Ψ : XKd) : RS ⟨K, E, Ψ⟩ (t_Run___init__ K E) (d_Run___init__ Ψ) := (rs_seq (rs_fld fl re_var (re_tup (ra_cons re_var (ra_cons re_var ra_nil)))) (rs_seq (rs_fld fl re_var re_var) (rs_seq (rs_fld fl re_var re_var) (rs_fld fl re_var re_var))))

theorem pure_Run___init__ (ds : List DT) (μ : Mu) (Φ : PK) (Ψ : XKd) (h : sp_Run___init__ ds μ Φ Ψ) : dRun (d_Run___init__ Ψ) n_Run___init__ ds μ Φ := by
  obtain ⟨p, P, n, pr, pv, pl, rfl, hp, h⟩ := h
  refine ⟨_, rfl, _, rfl, by walk_at "sw_nn", _, rfl, p, _, _, rfl, hp, rfl, by walk_at "sw_nn", ?_⟩
  refine ⟨_, rfl, _, rfl, p, _, _, rfl, Mu.put_same, rfl, by walk_at "sw_nn", ?_⟩
  refine ⟨_, rfl, _, rfl, p, _, _, rfl, Mu.put_same, rfl, by walk_at "sw_nn", ?_⟩
  refine ⟨_, rfl, _, rfl, p, _, _, rfl, Mu.put_same, rfl, by walk_at "sw_nn", ?_⟩
  simp only [Mu.put_put]
  exact h

/-! ### run -/
def sp_run : dSp := fun ds μ Φ _ => ∃ (P : Prg) (n : Int) (e : Nat) (m : Mode) (ms : List Mode), ds = [progD P, .int n] ∧ Good P ∧ P.modes = m :: ms ∧ n.natAbs ≤ 2 ^ e ∧ e ≤ 2500 ∧
  ∀ (pr pv pl : Addr) (μ' : Mu) (R : RunR), R = runP P (3 * P.modes.length + e) [] m n (firstVals P) → Grow μ μ' → μ pr = none → μ pv = none → μ pl = none → μ' pr = some (.lst (R.rounds.map rndD)) → μ' pv = some (.lst ((R.rounds.map fun r => tupD r.vs) ++ [tupD R.vs])) → μ' pl = some (.obj "Loop" (loopF P R.m R.x R.vs R.how)) →
    Φ (.obj "Run" (runF P n pr pv pl)) μ'
theorem len_run (ds : List DT) (μ : Mu) (Φ : PK) (Ψ : XKd) (h : sp_run ds μ Φ Ψ) : ds.length = 2 := by obtain ⟨_, _, _, _, _, rfl, _⟩ := h; rfl
/-- where a run stands -/
structure RunAt (P : Prg) (R : RunR) (K : Nat) (μ0 : Mu) (pl ps pr pv : Addr) (k : Nat) (seen : List (Str × Int)) (m : Mode) (x : Int) (vs : List Int) (done : List Rnd) (μ : Mu) : Prop where
  hm : m ∈ P.modes
  fu : Fuel P k seen x
  gr : Grow μ0 μ
  l : μ pl = some (.obj "Loop" (loopF P m.nm x vs none))
  s : μ ps = some (.dct (seenKV seen))
  r : μ pr = some (.lst (done.map rndD))
  v : μ pv = some (.lst ((done.map fun r => tupD r.vs) ++ [tupD vs]))
  wh : Whole done (runP P k seen m x vs) R
  vl : vs.length = P.regs.length
  n : done.length + k ≤ K
  sl : seen.length = done.length
def d_run.L1t5 (Ψ : XKd) : dS := (dIf (dTest (dOp dNotN (dFld flds (dVar 2) "own_how") (dC .non))) dBreak dNext)
def d_run.L1t4 (Ψ : XKd) : dS := (dSeq (dDrop (dAppend (dVar 5) (dCons (dFld flds (dVar 2) "own_values") dNil))) (d_run.L1t5 Ψ))
def d_run.L1t3 (Ψ : XKd) : dS := (dSeq (dDrop (dAppend (dVar 4) (dCons (dVar 6) dNil))) (d_run.L1t4 Ψ))
def d_run.L1t2 (Ψ : XKd) : dS := (dSeq (dIf (dTest (dOp dIsN (dVar 6) (dC .non))) dBreak dNext) (d_run.L1t3 Ψ))
def d_run.L1t1 (Ψ : XKd) : dS := (dSeq (dAsg (dMeth noX "Loop" "go_on" sp_Loop_go_on (dVar 2) dNil) (dName 6)) (d_run.L1t2 Ψ))
def d_run.L1 (Ψ : XKd) : dS := (dSeq (dAsg (dC (.bl true)) (dgSubD (dVar 3) (dTup (dCons (dFld flds (dVar 2) "own_mode") (dCons (dFld flds (dVar 2) "own_x") dNil))))) (d_run.L1t1 Ψ))
def d_run.t4 (Ψ : XKd) : dS := (dRet (dMake noX "Run" sp_Run___init__ (dCons (dVar 0) (dCons (dVar 1) (dCons (dVar 4) (dCons (dVar 5) (dCons (dVar 2) dNil)))))))
def d_run.t3 (Ψ : XKd) : dS := (dSeq (dWhile (dTest (dOp (dInD true) (dTup (dCons (dFld flds (dVar 2) "own_mode") (dCons (dFld flds (dVar 2) "own_x") dNil))) (dVar 3))) (d_run.L1 Ψ)) (d_run.t4 Ψ))
def d_run.t2 (Ψ : XKd) : dS := (dSeq (dPar 4 5 (dCons (dLstM dNil) (dCons (dLstM (dCons (dFld flds (dVar 2) "own_values") dNil)) dNil))) (d_run.t3 Ψ))
def d_run.t1 (Ψ : XKd) : dS := (dSeq (dPar 2 3 (dCons (dMakeM noX "Loop" sp_Loop___init__ (dCons (dVar 0) (dCons (dVar 1) dNil))) (dCons dNewD dNil))) (d_run.t2 Ψ))
def n_run : List Str := ["program", "number", "loop", "seen", "rounds", "rows", "done"]
def t_run (K : Kit) (E : XK) : TS := (tSeq (tIfS (tNot (tB (tCall (lift K sp_is_integer) [] E0 (tCons (tVar 1) tNil)))) tNever tNext) (tSeq (tPar 2 3 (tCons (tMake (He.ga K "Loop") (lift K sp_Loop___init__) [] E0 (tCons (tVar 0) (tCons (tVar 1) tNil))) (tCons (tDNewT K) tNil))) (tSeq (tPar 4 5 (tCons (tLst tNil) (tCons (tLst (tCons (tFld K (tVar 2) "own_values") tNil)) tNil))) (tSeq (tWhile (tTest (tOp (rInDc K true) (tTup (tCons (tFld K (tVar 2) "own_mode") (tCons (tFld K (tVar 2) "own_x") tNil))) (tVar 3))) (tSeq (tAsg (tC (.bl true)) (gSub (tVar 3) (tTup (tCons (tFld K (tVar 2) "own_mode") (tCons (tFld K (tVar 2) "own_x") tNil))) (rSetDc K))) (tSeq (tAsg (tMeth (He.ga K "Loop") "go_on" (lift K sp_Loop_go_on) [] E0 (tVar 2) tNil) (gName 6)) (tSeq (tIfS (tTest (tOp rIsN (tVar 6) (tC .non))) tBreak tNext) (tSeq (tDrop (tBM K "list" rAppend (tVar 4) (tCons (tVar 6) tNil))) (tSeq (tDrop (tBM K "list" rAppend (tVar 5) (tCons (tFld K (tVar 2) "own_values") tNil))) (tIfS (tTest (tOp rNotN (tFld K (tVar 2) "own_how") (tC .non))) tBreak tNext))))))) (tRet (tMake (He.ga K "Run") (lift K sp_Run___init__) [] E0 (tCons (tVar 0) (tCons (tVar 1) (tCons (tVar 4) (tCons (tVar 5) (tCons (tVar 2) tNil)))))))))))
def d_run (Ψ : XKd) : dS := (dSeq (dIf (dNot (dTest (dCall noX sp_is_integer (dCons (dVar 1) dNil)))) dNever dNext) (d_run.t1 Ψ))
theorem r_run {K : Kit} (fl : FlOk K flds) (E : XK) (Ψ : XKd) : RS ⟨K, E, Ψ⟩ (t_run K E) (d_run Ψ) := (rs_seq (rs_if (rt_not (rt_b (re_call (ra_cons re_var ra_nil)))) rs_never rs_next) (rs_seq (rs_par (ra_cons (re_makeM (ra_cons re_var (ra_cons re_var ra_nil))) (ra_cons re_newD ra_nil))) (rs_seq (rs_par (ra_cons (re_lstM ra_nil) (ra_cons (re_lstM (ra_cons (re_fld fl re_var) ra_nil)) ra_nil))) (rs_seq (rs_while (rt_test (re_op ro_inD (re_tup (ra_cons (re_fld fl re_var) (ra_cons (re_fld fl re_var) ra_nil))) re_var)) (rs_seq (rs_asg re_bl (rg_subD (vs := []) re_var (re_tup (ra_cons (re_fld fl re_var) (ra_cons (re_fld fl re_var) ra_nil))))) (rs_seq (rs_asg (re_meth re_var ra_nil) (rg_name (vs := [6]) (by decide))) (rs_seq (rs_if (rt_test (re_op ro_isN re_var re_non)) rs_break rs_next) (rs_seq (rs_drop (re_append re_var (ra_cons re_var ra_nil))) (rs_seq (rs_drop (re_append re_var (ra_cons (re_fld fl re_var) ra_nil))) (rs_if (rt_test (re_op ro_notN (re_fld fl re_var) re_non)) rs_break rs_next))))))) (rs_ret (re_make (ra_cons re_var (ra_cons re_var (ra_cons re_var (ra_cons re_var (ra_cons re_var ra_nil)))))))))))

theorem pure_run (ds : List DT) (μ : Mu) (Φ : PK) (Ψ : XKd) (h : sp_run ds μ Φ Ψ) : dRun (d_run Ψ) n_run ds μ Φ := by
  obtain ⟨P, n, e, m0, ms, rfl, g, hms, hn, he, h⟩ := h
  refine ⟨_, rfl, .int n, "int", rfl, rfl, _, rfl, (fun c => by cases c), fun _ => ?_⟩
  refine ⟨_, rfl, _, rfl, fun pl hl => ⟨pl, P, n, m0, ms, rfl, Mu.put_same, hms, by have := g.regs; omega, rfl, fun ps hs => ⟨_, _, rfl, ?_⟩⟩⟩
  rw [Mu.put_put] at hs
  rw [Mu.put_put]
  refine ⟨by walk_at "sw_nn", fun pr hr => ⟨_, rfl, _, _, _, obj_put (C := "Loop") (fs := loopF P m0.nm n (firstVals P) none) ?_, rfl, rfl, by walk_at "sw_nn", fun pv hv => ⟨_, _, rfl, ?_⟩⟩⟩
  · rw [Mu.put_ne, Mu.put_ne, Mu.put_same]
    · intro z; subst z; rw [Mu.put_same] at hs; cases hs
    · intro z; subst z; rw [Mu.put_ne, Mu.put_same] at hr
      · cases hr
      · intro z; subst z; rw [Mu.put_same] at hs; cases hs
  generalize hM : (((μ.put pl (.obj "Loop" (loopF P m0.nm n (firstVals P) none))).put ps (.dct [])).put pr (.lst [])) = M at *
  have nls : pl ≠ ps := fun z => by subst z; rw [Mu.put_same] at hs; cases hs
  have nsr : ps ≠ pr := fun z => by subst z; rw [Mu.put_same] at hr; cases hr
  have nlr : pl ≠ pr := fun z => by subst z; rw [Mu.put_ne nls, Mu.put_same] at hr; cases hr
  have nrv : pr ≠ pv := fun z => by subst z; rw [← hM, Mu.put_same] at hv; cases hv
  have nsv : ps ≠ pv := fun z => by subst z; rw [← hM, Mu.put_ne nsr, Mu.put_same] at hv; cases hv
  have nlv : pl ≠ pv := fun z => by subst z; rw [← hM, Mu.put_ne nlr, Mu.put_ne nls, Mu.put_same] at hv; cases hv
  have s0 : μ ps = none := (Mu.put_ne (Ne.symm nls)).symm.trans hs
  have r0 : μ pr = none := ((Mu.put_ne (Ne.symm nlr)).symm.trans (Mu.put_ne (Ne.symm nsr)).symm).trans hr
  have v0 : μ pv = none := by
    rw [← hM, Mu.put_ne (Ne.symm nrv), Mu.put_ne (Ne.symm nsv), Mu.put_ne (Ne.symm nlv)] at hv; exact hv
  have gM : Grow μ M := by
    rw [← hM]
    exact ((((Grow.refl μ).new hl).new s0).new r0)
  generalize hR : runP P (3 * P.modes.length + e) [] m0 n (firstVals P) = R at *
  have fin : ∀ x6 μ1 (w : μ1 pr = some (.lst (R.rounds.map rndD))) (w2 : μ1 pv = some (.lst ((R.rounds.map fun r => tupD r.vs) ++ [tupD R.vs]))) (w3 : μ1 pl = some (.obj "Loop" (loopF P R.m R.x R.vs R.how))) (w4 : Grow μ μ1),
      d_run.t4 Ψ { nx := fun _ μ' => Φ .non μ', rt := Φ } [some (progD P), some (.int n), some (.adr pl), some (.adr ps), some (.adr pr), some (.adr pv), x6] μ1 := by
    intro x6 μ1 w w2 w3 w4
    refine ⟨_, rfl, _, rfl, _, rfl, _, rfl, _, rfl, fun p hp => ⟨p, P, n, pr, pv, pl, rfl, Mu.put_same, rfl, _, Mu.put_same, ?_⟩⟩
    have nn : ∀ q o, μ1 q = some o → q ≠ p := fun q o h z => by subst z; rw [hp] at h; cases h
    have at' : ∀ q o, μ1 q = some o → ((μ1.put p (.obj "Run" [])).put p (.obj "Run" (runF P n pr pv pl))).out p q = some o := fun q o h => by
      rw [Mu.out_ne (nn q o h), Mu.put_ne (nn q o h), Mu.put_ne (nn q o h)]; exact h
    exact h pr pv pl _ R rfl (fun a m e => at' a m (w4 a m e)) r0 v0 hl (at' _ _ w) (at' _ _ w2) (at' _ _ w3)
  have v0' : M pv = none := hv
  refine ⟨fun k env μ1 => ∃ seen m x vs done x6, RunAt P R (3 * P.modes.length + e) μ pl ps pr pv k seen m x vs done μ1 ∧ env = [some (progD P), some (.int n), some (.adr pl), some (.adr ps), some (.adr pr), some (.adr pv), x6],
    ⟨3 * P.modes.length + e, [], m0, n, firstVals P, [], none, ⟨by rw [hms]; exact .head _, Fuel.first hn, gM.new v0, ?_, ?_, ?_, Mu.put_same, ?_, ?_, by show 0 + _ ≤ _; omega, rfl⟩, rfl⟩, ?_⟩
  · rw [Mu.put_ne nlv, ← hM, Mu.put_ne nlr, Mu.put_ne nls, Mu.put_same]
  · rw [Mu.put_ne nsv, ← hM, Mu.put_ne nsr, Mu.put_same]; rfl
  · rw [Mu.put_ne nrv, ← hM, Mu.put_same]; rfl
  · unfold Whole; rw [hR]; rfl
  · exact List.length_map _
  intro k env μ1 hI
  obtain ⟨seen, m, x, vs, done, x6, I, rfl⟩ := hI
  have kM : 3 * P.modes.length + e ≤ 2600 := by have := g.modes; omega
  have key : (dkAt (seenKV seen) (stD (m.nm, x))).isSome = decide ((m.nm, x) ∈ seen) := seen_at seen (m.nm, x)
  have In := I.n
  refine ⟨_, rfl, _, _, _, obj_put I.l, rfl, rfl, _, rfl, _, _, _, obj_put I.l, rfl, rfl, by walk_at "sw_nn", _, rfl, seenKV seen, stD_ok (m.nm, x), (by simp only [dctOf, I.s]), _, rfl, (fun c => ?_), fun c => ?_⟩
  · have c' : (!(dkAt (seenKV seen) (stD (m.nm, x))).isSome) = true := c
    rw [key] at c'
    have hns : (m.nm, x) ∉ seen := fun z => by rw [decide_eq_true z] at c'; cases c'
    obtain ⟨k', rfl, fu'⟩ := I.fu.step (List.mem_map_of_mem I.hm) hns (quot_half m.ru x P.base g.base.1)
    refine ⟨_, rfl, _, rfl, _, _, _, obj_put I.l, rfl, rfl, _, rfl, _, _, _, obj_put I.l, rfl, rfl, by walk_at "sw_nn", ps, _, rfl, stD_ok (m.nm, x), I.s, by rw [seenKV_len, I.sl]; omega, ?_⟩
    have ep : dkPut (seenKV seen) (.tup [.str m.nm, .int x]) (.bl true) = seenKV ((m.nm, x) :: seen) := seen_put hns
    rw [ep]
    have l1 : (μ1.put ps (.dct (seenKV ((m.nm, x) :: seen)))) pl = some (.obj "Loop" (loopF P m.nm x vs none)) := (Mu.put_ne nls).trans I.l
    have r1 : (μ1.put ps (.dct (seenKV ((m.nm, x) :: seen)))) pr = some (.lst (done.map rndD)) := (Mu.put_ne (Ne.symm nsr)).trans I.r
    have v1 : (μ1.put ps (.dct (seenKV ((m.nm, x) :: seen)))) pv = some (.lst ((done.map fun r => tupD r.vs) ++ [tupD vs])) := (Mu.put_ne (Ne.symm nsv)).trans I.v
    have s1 : (μ1.put ps (.dct (seenKV ((m.nm, x) :: seen)))) ps = some (.dct (seenKV ((m.nm, x) :: seen))) := Mu.put_same
    have g1 : Grow μ (μ1.put ps (.dct (seenKV ((m.nm, x) :: seen)))) := fun a o h => (Mu.put_ne fun z => by subst z; rw [s0] at h; cases h).trans (I.gr a o h)
    generalize μ1.put ps (.dct (seenKV ((m.nm, x) :: seen))) = M2 at l1 r1 v1 s1 g1 ⊢
    have hrow := rowOf_ok g I.hm x
    have hus := hrow.2.us.1
    have hregs := g.regs
    refine ⟨_, rfl, _, obj_put l1, rfl, pl, P, m, x, vs, rfl, l1, stands_of g.nd I.hm, (fun hx => ?_), fun hx => ⟨rowOf P m x, g.pre I.fu (by omega), hrow.1, hrow.2.small, by omega, by rw [I.vl]; omega, fun μ3 g3 l3 => ?_⟩⟩
    · refine ⟨_, rfl, rfl, _, rfl, fun _ => ?_, fun z => Bool.noConfusion (show true = false from z)⟩
      have w := I.wh
      rw [runP_rest hns hx] at w
      unfold Whole at w
      simp only [List.append_nil] at w
      have gg : ∀ a o, a ≠ pl → M2 a = some o → (M2.put pl (.obj "Loop" (loopF P m.nm x vs (some "rests")))) a = some o := fun a o n h => (Mu.put_ne n).trans h
      refine fin _ _ ?_ ?_ ?_ fun a o h => gg a o (fun z => by subst z; rw [hl] at h; cases h) (g1 a o h)
      · rw [w]; exact gg _ _ (Ne.symm nlr) r1
      · rw [w]; exact gg _ _ (Ne.symm nlv) v1
      · rw [w]; exact Mu.put_same
    · refine ⟨_, rfl, rfl, _, rfl, (fun z => Bool.noConfusion (show false = true from z)), fun _ => ?_⟩
      have r3 := g3 pr _ (Ne.symm nlr) r1
      have v3 := g3 pv _ (Ne.symm nlv) v1
      have s3 := g3 ps _ (Ne.symm nls) s1
      have gr3 : Grow μ μ3 := fun a o h => g3 a o (fun z => by subst z; rw [hl] at h; cases h) (g1 a o h)
      refine ⟨_, rfl, pr, _, rfl, r3, _, rfl, _, _, rfl, r3, ?_, ?_⟩
      · show List.length _ ≤ 1000000
        rw [List.length_map]; omega
      have l4 : (μ3.put pr (.lst (done.map rndD ++ [rndD ⟨m.nm, x, (divided m.ru x P.base).2, vs⟩]))) pl = _ := (Mu.put_ne nlr).trans l3
      have v4 : (μ3.put pr (.lst (done.map rndD ++ [rndD ⟨m.nm, x, (divided m.ru x P.base).2, vs⟩]))) pv = _ := (Mu.put_ne (Ne.symm nrv)).trans v3
      refine ⟨_, rfl, pv, _, rfl, v4, _, rfl, _, _, _, obj_put l4, rfl, rfl, _, _, rfl, v4, ?_, ?_⟩
      · show List.length _ ≤ 1000000
        rw [List.length_append, List.length_map, List.length_cons, List.length_nil]; omega
      have l5 : ((μ3.put pr (.lst (done.map rndD ++ [rndD ⟨m.nm, x, (divided m.ru x P.base).2, vs⟩]))).put pv (.lst (((done.map fun r => tupD r.vs) ++ [tupD vs]) ++ [tupD (updAll (rowOf P m x).us vs (divided m.ru x P.base).2)]))) pl = _ := (Mu.put_ne nlv).trans l4
      have r5 : ((μ3.put pr (.lst (done.map rndD ++ [rndD ⟨m.nm, x, (divided m.ru x P.base).2, vs⟩]))).put pv (.lst (((done.map fun r => tupD r.vs) ++ [tupD vs]) ++ [tupD (updAll (rowOf P m x).us vs (divided m.ru x P.base).2)]))) pr = _ := (Mu.put_ne nrv).trans Mu.put_same
      have v5 : ((μ3.put pr (.lst (done.map rndD ++ [rndD ⟨m.nm, x, (divided m.ru x P.base).2, vs⟩]))).put pv (.lst (((done.map fun r => tupD r.vs) ++ [tupD vs]) ++ [tupD (updAll (rowOf P m x).us vs (divided m.ru x P.base).2)]))) pv = _ := Mu.put_same
      have s5 : ((μ3.put pr (.lst (done.map rndD ++ [rndD ⟨m.nm, x, (divided m.ru x P.base).2, vs⟩]))).put pv (.lst (((done.map fun r => tupD r.vs) ++ [tupD vs]) ++ [tupD (updAll (rowOf P m x).us vs (divided m.ru x P.base).2)]))) ps = _ := (Mu.put_ne nsv).trans ((Mu.put_ne nsr).trans s3)
      have g5 : Grow μ ((μ3.put pr (.lst (done.map rndD ++ [rndD ⟨m.nm, x, (divided m.ru x P.base).2, vs⟩]))).put pv (.lst (((done.map fun r => tupD r.vs) ++ [tupD vs]) ++ [tupD (updAll (rowOf P m x).us vs (divided m.ru x P.base).2)]))) := fun a o h => (Mu.put_ne fun z => by subst z; rw [v0] at h; cases h).trans ((Mu.put_ne fun z => by subst z; rw [r0] at h; cases h).trans (gr3 a o h))
      refine ⟨_, rfl, _, _, _, obj_put l5, rfl, rfl, rfl, _, rfl, (fun c => ?_), fun c => ?_⟩
      · cases ht : (rowOf P m x).th with
        | some t => rw [ht] at c; cases c
        | none =>
          have w := I.wh
          rw [runP_stop hns hx ht] at w
          unfold Whole at w
          rw [ht] at l5
          refine fin _ _ ?_ ?_ ?_ g5
          · rw [w, List.map_append]; exact r5
          · rw [w, List.map_append]; exact v5
          · rw [w]; exact l5
      · cases ht : (rowOf P m x).th with
        | none => rw [ht] at c; cases c
        | some t =>
          rw [ht] at l5
          have hm' := modeAt_mem (m := m) (hrow.2.th t ht)
          refine ⟨k', by omega, (m.nm, x) :: seen, modeAt P t m, _, _, done ++ [⟨m.nm, x, (divided m.ru x P.base).2, vs⟩], _, ⟨hm'.1, fu', g5, ?_, s5, ?_, ?_, runP_go hns hx ht I.wh, ?_, ?_, ?_⟩, rfl⟩
          · rw [hm'.2]; exact l5
          · rw [List.map_append]; exact r5
          · rw [List.map_append]; exact v5
          · rw [updAll_len, hus]
          · rw [List.length_append]; simp only [List.length_cons, List.length_nil]; omega
          · rw [List.length_append]; simp only [List.length_cons, List.length_nil]; rw [I.sl]
  · have c' : (!(dkAt (seenKV seen) (stD (m.nm, x))).isSome) = false := c
    rw [key] at c'
    have hs' : (m.nm, x) ∈ seen := by
      by_cases z : (m.nm, x) ∈ seen
      · exact z
      · rw [decide_eq_false z] at c'; cases c'
    have w := I.wh
    rw [runP_seen hs'] at w
    unfold Whole at w
    simp only [List.append_nil] at w
    refine fin _ _ ?_ ?_ ?_ I.gr
    · rw [w]; exact I.r
    · rw [w]; exact I.v
    · rw [w]; exact I.l

/-! ### Program.size -/
def sp_Program_size : dSp := fun ds μ Φ _ => ∃ P : Prg, ds = [progD P] ∧ Φ (.int (absI P.base)) μ
theorem len_Program_size (ds : List DT) (μ : Mu) (Φ : PK) (Ψ : XKd) (h : sp_Program_size ds μ Φ Ψ) : ds.length = 1 := by obtain ⟨_, rfl, _⟩ := h; rfl
def n_Program_size : List Str := ["self"]
def t_Program_size (K : Kit) (E : XK) : TS := (tRet (tCB bAbs (tCons (tFld K (tVar 0) "own_base") tNil)))
def d_Program_size (Ψ : XKd) : dS := (dRet (dCB dAbs (dCons (dFld flds (dVar 0) "own_base") dNil)))
theorem r_Program_size {K : Kit} (fl : FlOk K flds) (E : XK) (Ψ : XKd) : RS ⟨K, E, Ψ⟩ (t_Program_size K E) (d_Program_size Ψ) := (rs_ret (re_cb rc_abs (ra_cons (re_fld fl re_var) ra_nil)))

theorem pure_Program_size (ds : List DT) (μ : Mu) (Φ : PK) (Ψ : XKd) (h : sp_Program_size ds μ Φ Ψ) : dRun (d_Program_size Ψ) n_Program_size ds μ Φ := by
  obtain ⟨P, rfl, h⟩ := h
  exact ⟨_, rfl, _, _, _, rfl, rfl, rfl, _, rfl, h⟩

/-! ### Program.base -/
def sp_Program_base : dSp := fun ds μ Φ _ => ∃ P : Prg, ds = [progD P] ∧ Φ (.int P.base) μ
theorem len_Program_base (ds : List DT) (μ : Mu) (Φ : PK) (Ψ : XKd) (h : sp_Program_base ds μ Φ Ψ) : ds.length = 1 := by obtain ⟨_, rfl, _⟩ := h; rfl
def n_Program_base : List Str := ["self"]
def t_Program_base (K : Kit) (E : XK) : TS := (tRet (tFld K (tVar 0) "own_base"))
def d_Program_base (Ψ : XKd) : dS := (dRet (dFld flds (dVar 0) "own_base"))
theorem r_Program_base {K : Kit} (fl : FlOk K flds) (E : XK) (Ψ : XKd) : RS ⟨K, E, Ψ⟩ (t_Program_base K E) (d_Program_base Ψ) := (rs_ret (re_fld fl re_var))

theorem pure_Program_base (ds : List DT) (μ : Mu) (Φ : PK) (Ψ : XKd) (h : sp_Program_base ds μ Φ Ψ) : dRun (d_Program_base Ψ) n_Program_base ds μ Φ := by
  obtain ⟨P, rfl, h⟩ := h
  exact ⟨_, rfl, _, _, _, rfl, rfl, rfl, h⟩

/-! ### standings -/
def sp_standings : dSp := fun ds μ Φ _ => ∃ (P : Prg) (n : Int) (e : Nat) (m : Mode) (ms : List Mode), ds = [progD P, .int n] ∧ Good P ∧ P.modes = m :: ms ∧ n.natAbs ≤ 2 ^ e ∧ e ≤ 2500 ∧
  ∀ μ', Grow μ μ' → Φ (.lst ((toldOf P (decide (n ≠ 0)) (runP P (3 * P.modes.length + e) [] m n (firstVals P)).rounds (sg n) n.natAbs).map toldD)) μ'
theorem len_standings (ds : List DT) (μ : Mu) (Φ : PK) (Ψ : XKd) (h : sp_standings ds μ Φ Ψ) : ds.length = 2 := by obtain ⟨_, _, _, _, _, rfl, _⟩ := h; rfl
def d_standings.L1t2 (Ψ : XKd) : dS := (dAsg (dIfE (dOr (dTest (dOp dGt (dProp noX "Program" sp_Program_base (dVar 0)) (dC (.int 0)))) (dTest (dOp dEq (dVar 1) (dC (.int 0))))) (dVar 3) (dUn dNeg (dVar 3))) (dName 3))
def d_standings.L1t1 (Ψ : XKd) : dS := (dSeq (dAsg (dOp dDiv (dVar 4) (dProp noX "Program" sp_Program_size (dVar 0))) (dName 4)) (d_standings.L1t2 Ψ))
def d_standings.L1 (Ψ : XKd) : dS := (dSeq (dDrop (dAppend (dVar 5) (dCons (dTup (dCons (dVar 6) (dCons (dVar 3) (dCons (dVar 4) (dCons (dOp dSub (dOp dMul (dVar 3) (dVar 7)) (dVar 4)) dNil))))) dNil))) (d_standings.L1t1 Ψ))
def d_standings.t3 (Ψ : XKd) : dS := (dRet (dVarF 5))
def d_standings.t2 (Ψ : XKd) : dS := (dSeq (dFor (dIList (dVar 2)) (dGTup 3 (dGCons (dName 6) (dGCons (dName 7) (dGCons (dName 8) dGNil)))) (d_standings.L1 Ψ)) (d_standings.t3 Ψ))
def d_standings.t1 (Ψ : XKd) : dS := (dSeq (dPar3 3 4 5 (dCons (dIfE (dTest (dOp dLt (dVar 1) (dC (.int 0)))) (dUn dNeg (dC (.int 1))) (dC (.int 1))) (dCons (dCB dAbs (dCons (dVar 1) dNil)) (dCons (dLstM dNil) dNil)))) (d_standings.t2 Ψ))
def n_standings : List Str := ["program", "number", "rounds", "sign", "left", "found", "mode", "x", "remainder"]
def t_standings (K : Kit) (E : XK) : TS := (tSeq (tAsg (tMeth (He.ga K "Run") "rounds" (lift K sp_Run_rounds) [] E0 (tCall (lift K sp_run) [] E0 (tCons (tVar 0) (tCons (tVar 1) tNil))) tNil) (gName 2)) (tSeq (tPar3 3 4 5 (tCons (tIf (tTest (tOp oLt (tVar 1) (tC (.int 0)))) (tUn oNeg (tC (.int 1))) (tC (.int 1))) (tCons (tCB bAbs (tCons (tVar 1) tNil)) (tCons (tLst tNil) tNil)))) (tSeq (tFor (iList K (tVar 2)) (gTup K 3 (gCons (gName 6) (gCons (gName 7) (gCons (gName 8) gNil)))) (tSeq (tDrop (tBM K "list" rAppend (tVar 5) (tCons (tTup (tCons (tVar 6) (tCons (tVar 3) (tCons (tVar 4) (tCons (tOp oSub (tOp oMul (tVar 3) (tVar 7)) (tVar 4)) tNil))))) tNil))) (tSeq (tAsg (tOp oDiv (tVar 4) (tProp (He.ga K "Program") (lift K sp_Program_size) [] E0 (tVar 0))) (gName 4)) (tAsg (tIf (tOr (tTest (tOp oGt (tProp (He.ga K "Program") (lift K sp_Program_base) [] E0 (tVar 0)) (tC (.int 0)))) (tTest (tOp rEq (tVar 1) (tC (.int 0))))) (tVar 3) (tUn oNeg (tVar 3))) (gName 3))))) (tRet (tVar 5)))))
def d_standings (Ψ : XKd) : dS := (dSeq (dAsg (dMeth noX "Run" "rounds" sp_Run_rounds (dCall noX sp_run (dCons (dVar 0) (dCons (dVar 1) dNil))) dNil) (dName 2)) (d_standings.t1 Ψ))
theorem r_standings {K : Kit} (E : XK) (Ψ : XKd) : RS ⟨K, E, Ψ⟩ (t_standings K E) (d_standings Ψ) := (rs_seq (rs_asg (re_meth (re_call (ra_cons re_var (ra_cons re_var ra_nil))) ra_nil) (rg_name (vs := [2]) (by decide))) (rs_seq (rs_par3 (ra_cons (re_ifE (rt_test (re_op ro_lt re_var re_int)) (re_un ru_neg re_int) re_int) (ra_cons (re_cb rc_abs (ra_cons re_var ra_nil)) (ra_cons (re_lstM ra_nil) ra_nil)))) (rs_seq (rs_for (ri_list re_var) (rg_tup (vs := [6, 7, 8]) (rgs_cons (rg_name (by decide)) (rgs_cons (rg_name (by decide)) (rgs_cons (rg_name (by decide)) rgs_nil)))) (rs_seq (rs_drop (re_append re_var (ra_cons (re_tup (ra_cons re_var (ra_cons re_var (ra_cons re_var (ra_cons (re_op ro_sub (re_op ro_mul re_var re_var) re_var) ra_nil))))) ra_nil))) (rs_seq (rs_asg (re_op ro_div re_var (re_prop re_var)) (rg_name (vs := [4]) (by decide))) (rs_asg (re_ifE (rt_or (rt_test (re_op ro_gt (re_prop re_var) re_int)) (rt_test (re_op ro_eq re_var re_int))) re_var (re_un ru_neg re_var)) (rg_name (vs := [3]) (by decide)))))) (rs_ret re_varF))))

theorem loop_standings {Ψ : XKd} {P : Prg} (g : Good P) {n : Int} {q : Addr} {R : DT} {μ0 : Mu} (h0 : μ0 q = none) {Φ : PK} : ∀ (Rs : List Rnd) (done : List DT) (s : Int) (l : Nat) (x6 x7 x8 : Option DT) (μ : Mu), (s = 1 ∨ s = -1) → Grow μ0 μ → μ q = some (.lst done) → done.length + Rs.length ≤ 3000 →
    (∀ μ', Grow μ0 μ' → Φ (.lst (done ++ (toldOf P (decide (n ≠ 0)) Rs s l).map toldD)) μ') →
    dLoop (dGTup 3 (dGCons (dName 6) (dGCons (dName 7) (dGCons (dName 8) dGNil)))) (d_standings.L1 Ψ) { nx := d_standings.t3 Ψ { nx := fun _ μ' => Φ .non μ', rt := Φ }, rt := Φ } (Rs.map rndD) [some (progD P), some (.int n), some R, some (.int s), some (.int l), some (.adr q), x6, x7, x8] μ
  | [], done, s, l, x6, x7, x8, μ, hs, gr, hq, hl, k => by
    refine ⟨q, _, rfl, hq, ?_⟩
    have := k _ (gr.out h0)
    simp only [toldOf, List.map_nil, List.append_nil] at this
    exact this
  | Rn :: Rs, done, s, l, x6, x7, x8, μ, hs, gr, hq, hl, k => by
    have hb := g.base
    refine ⟨_, rfl, rfl, _, _, rfl, _, _, rfl, _, _, rfl, rfl, ?_⟩
    refine ⟨_, rfl, q, _, rfl, hq, _, rfl, _, rfl, _, rfl, _, rfl, _, rfl, _, _, rfl, rfl, .inl ⟨by omega, by omega⟩, _, rfl, _, _, rfl, rfl, by walk_at "sw_nn", _, _, rfl, hq, ?_, ?_⟩
    · show done.length ≤ 1000000
      omega
    refine ⟨_, rfl, _, rfl, _, rfl, P, rfl, _, _, rfl, rfl, wide_div (absI_pos g.base0) (b := 64) (by rw [g.abs]; omega) (by decide) (by decide), ?_⟩
    have e1 : (l : Int) / absI P.base = ((l / P.base.natAbs : Nat) : Int) := by rw [g.abs]; rfl
    have done2 : ∀ s2, s2 = nextSign P (decide (n ≠ 0)) s → dLoop (dGTup 3 (dGCons (dName 6) (dGCons (dName 7) (dGCons (dName 8) dGNil)))) (d_standings.L1 Ψ) { nx := d_standings.t3 Ψ { nx := fun _ μ' => Φ .non μ', rt := Φ }, rt := Φ } (Rs.map rndD) [some (progD P), some (.int n), some R, some (.int s2), some (.int ((l : Int) / absI P.base)), some (.adr q), some (.str Rn.m), some (.int Rn.x), some (.int Rn.r)] (μ.put q (.lst (done ++ [toldD (Rn.m, s, l, s * Rn.x - l)]))) := by
      intro s2 e2
      rw [e1, e2]
      refine loop_standings g h0 Rs (done ++ [toldD (Rn.m, s, l, s * Rn.x - l)]) _ _ _ _ _ _ (nextSign_cases P _ hs) (fun a o h => (Mu.put_ne fun z => by subst z; rw [h0] at h; cases h).trans (gr a o h)) Mu.put_same (by simp only [List.length_append, List.length_cons, List.length_nil] at hl ⊢; omega) fun μ' gr' => ?_
      have := k μ' gr'
      rw [List.append_assoc]
      exact this
    have hsp : (0 < P.base → spun P.base = 1) ∧ (P.base < 0 → spun P.base = -1) := by
      unfold spun b2
      constructor
      · intro h; rw [decide_eq_false (by omega)]; rfl
      · intro h; rw [decide_eq_true h]; rfl
    refine ⟨_, rfl, _, rfl, P, rfl, _, _, rfl, rfl, _, rfl, (fun c => ⟨fun _ => ⟨_, rfl, ?_⟩, fun z => Bool.noConfusion z⟩), fun c => ⟨_, rfl, .inl ⟨_, _, rfl, rfl, _, rfl, (fun c2 => ⟨_, rfl, ?_⟩), fun c2 => ⟨_, rfl, _, rfl, ?_⟩⟩⟩⟩
    · have hb0 : 0 < P.base := of_decide_eq_true c
      refine done2 _ ?_
      unfold nextSign; rw [hsp.1 hb0]; split <;> omega
    · have c3 : n = 0 := of_decide_eq_true c2
      refine done2 _ ?_
      unfold nextSign; rw [if_neg (by simp [c3])]
    · have c3 : ¬ n = 0 := of_decide_eq_false c2
      have hb0 : ¬ 0 < P.base := of_decide_eq_false c
      refine done2 _ ?_
      unfold nextSign; rw [if_pos (by simp [c3]), hsp.2 (by omega)]; omega
theorem pure_standings (ds : List DT) (μ : Mu) (Φ : PK) (Ψ : XKd) (h : sp_standings ds μ Φ Ψ) : dRun (d_standings Ψ) n_standings ds μ Φ := by
  obtain ⟨P, n, e, m, ms, rfl, g, hms, hn, he, h⟩ := h
  refine ⟨_, rfl, _, rfl, P, n, e, m, ms, rfl, g, hms, hn, he, fun pr pv pl μ1 R hR g1 r0 v0 l0 e1 e2 e3 => ?_⟩
  rw [← hR] at h
  refine ⟨_, rfl, rfl, P, n, pr, pv, pl, _, rfl, e1, ?_⟩
  have len : R.rounds.length ≤ 3 * P.modes.length + e := by rw [hR]; exact runP_len _ _ _ _ _
  have hmo := g.modes
  have ea : (if n < 0 then -n else n) = (n.natAbs : Int) := by split <;> omega
  have go : ∀ s, s = sg n → ∀ q, μ1 q = none → d_standings.t2 Ψ { nx := fun _ μ' => Φ .non μ', rt := Φ } [some (progD P), some (.int n), some (.lst (R.rounds.map rndD)), some (.int s), some (.int (if n < 0 then -n else n)), some (.adr q), none, none, none] (μ1.put q (.lst [])) := by
    intro s es q hq
    rw [ea, es]
    refine ⟨_, rfl, _, rfl, ?_⟩
    refine loop_standings g hq R.rounds [] (sg n) n.natAbs none none none _ (sg_cases n) ((Grow.refl μ1).new hq) Mu.put_same (by show 0 + _ ≤ _; omega) fun μ' g' => ?_
    exact h μ' (g1.trans g')
  refine ⟨_, rfl, _, _, rfl, rfl, _, rfl, (fun c => ⟨_, rfl, _, rfl, _, rfl, by walk_at "sw_nn", fun q hq => ⟨_, _, _, rfl, go _ ?_ q hq⟩⟩), fun c => ⟨_, rfl, _, rfl, by walk_at "sw_nn", fun q hq => ⟨_, _, _, rfl, go _ ?_ q hq⟩⟩⟩
  · unfold sg; rw [if_pos (of_decide_eq_true c)]
  · unfold sg; rw [if_neg (of_decide_eq_false c)]

/-! ### require_rule -/
def sp_require_rule : dSp := fun ds μ Φ _ => ∃ r, ds = [.str (rname r)] ∧ Φ .non μ
theorem len_require_rule (ds : List DT) (μ : Mu) (Φ : PK) (Ψ : XKd) (h : sp_require_rule ds μ Φ Ψ) : ds.length = 1 := by obtain ⟨_, rfl, _⟩ := h; rfl
def n_require_rule : List Str := ["value"]
def t_require_rule (K : Kit) (E : XK) : TS := (tIfS (tNot (tB (tCall (lift K sp_is_rule) [] E0 (tCons (tVar 0) tNil)))) tNever tNext)
def d_require_rule (Ψ : XKd) : dS := (dIf (dNot (dTest (dCall noX sp_is_rule (dCons (dVar 0) dNil)))) dNever dNext)
theorem r_require_rule {K : Kit} (E : XK) (Ψ : XKd) : RS ⟨K, E, Ψ⟩ (t_require_rule K E) (d_require_rule Ψ) := (rs_if (rt_not (rt_b (re_call (ra_cons re_var ra_nil)))) rs_never rs_next)

theorem pure_require_rule (ds : List DT) (μ : Mu) (Φ : PK) (Ψ : XKd) (h : sp_require_rule ds μ Φ Ψ) : dRun (d_require_rule Ψ) n_require_rule ds μ Φ := by
  obtain ⟨r, rfl, h⟩ := h
  refine ⟨_, rfl, _, _, rfl, rfl, _, rfl, fun c => ?_, fun _ => h⟩
  rw [isRule_rname] at c; cases c

/-! ### carried -/
def sp_carried : dSp := fun ds μ Φ _ => ∃ (r : Rule) (sign base fig : Int), ds = [.str (rname r), .int sign, .int base, .int fig] ∧ (-(2 ^ 64) < sign ∧ sign < 2 ^ 64) ∧ Φ (.tup [.int (carried r sign base fig).1, .int (carried r sign base fig).2]) μ
theorem len_carried (ds : List DT) (μ : Mu) (Φ : PK) (Ψ : XKd) (h : sp_carried ds μ Φ Ψ) : ds.length = 4 := by obtain ⟨_, _, _, _, rfl, _⟩ := h; rfl
def d_carried.t3 (Ψ : XKd) : dS := (dRet (dTup (dCons (dC (.int 0)) (dCons (dOp dMul (dVar 1) (dVar 3)) dNil))))
def d_carried.t2 (Ψ : XKd) : dS := (dSeq (dIf (dAnd (dTest (dOp dGt (dVar 3) (dC (.int 0)))) (dTest (dCall noX sp_is_greater (dCons (dVar 0) (dCons (dVar 1) (dCons (dCall noX sp_sign_of (dCons (dVar 2) dNil)) (dCons (dVar 3) (dCons (dVar 4) dNil)))))))) (dRet (dTup (dCons (dC (.int 1)) (dCons (dOp dMul (dVar 1) (dOp dSub (dVar 3) (dVar 4))) dNil)))) dNext) (d_carried.t3 Ψ))
def d_carried.t1 (Ψ : XKd) : dS := (dSeq (dIf (dTest (dOp dEq (dVar 3) (dVar 4))) (dRet (dTup (dCons (dC (.int 1)) (dCons (dC (.int 0)) dNil)))) dNext) (d_carried.t2 Ψ))
def n_carried : List Str := ["rule", "sign", "base", "figure", "size"]
def t_carried (K : Kit) (E : XK) : TS := (tSeq (tAsg (tCB bAbs (tCons (tVar 2) tNil)) (gName 4)) (tSeq (tIfS (tTest (tOp rEq (tVar 3) (tVar 4))) (tRet (tTup (tCons (tC (.int 1)) (tCons (tC (.int 0)) tNil)))) tNext) (tSeq (tIfS (tAnd (tTest (tOp oGt (tVar 3) (tC (.int 0)))) (tB (tCall (lift K sp_is_greater) [] E0 (tCons (tVar 0) (tCons (tVar 1) (tCons (tCall (lift K sp_sign_of) [] E0 (tCons (tVar 2) tNil)) (tCons (tVar 3) (tCons (tVar 4) tNil)))))))) (tRet (tTup (tCons (tC (.int 1)) (tCons (tOp oMul (tVar 1) (tOp oSub (tVar 3) (tVar 4))) tNil)))) tNext) (tRet (tTup (tCons (tC (.int 0)) (tCons (tOp oMul (tVar 1) (tVar 3)) tNil)))))))
def d_carried (Ψ : XKd) : dS := (dSeq (dAsg (dCB dAbs (dCons (dVar 2) dNil)) (dName 4)) (d_carried.t1 Ψ))
theorem r_carried {K : Kit} (E : XK) (Ψ : XKd) : RS ⟨K, E, Ψ⟩ (t_carried K E) (d_carried Ψ) := (rs_seq (rs_asg (re_cb rc_abs (ra_cons re_var ra_nil)) (rg_name (vs := [4]) (by decide))) (rs_seq (rs_if (rt_test (re_op ro_eq re_var re_var)) (rs_ret (re_tup (ra_cons re_int (ra_cons re_int ra_nil)))) rs_next) (rs_seq (rs_if (rt_and (rt_test (re_op ro_gt re_var re_int)) (rt_b (re_call (ra_cons re_var (ra_cons re_var (ra_cons (re_call (ra_cons re_var ra_nil)) (ra_cons re_var (ra_cons re_var ra_nil)))))))) (rs_ret (re_tup (ra_cons re_int (ra_cons (re_op ro_mul re_var (re_op ro_sub re_var re_var)) ra_nil)))) rs_next) (rs_ret (re_tup (ra_cons re_int (ra_cons (re_op ro_mul re_var re_var) ra_nil)))))))

theorem pure_carried (ds : List DT) (μ : Mu) (Φ : PK) (Ψ : XKd) (h : sp_carried ds μ Φ Ψ) : dRun (d_carried Ψ) n_carried ds μ Φ := by
  obtain ⟨r, sign, base, fig, rfl, hb, h⟩ := h
  refine ⟨_, rfl, _, rfl, _, rfl, _, rfl, .inl ⟨_, _, rfl, rfl, _, rfl, fun c => ?_, fun c => ?_⟩⟩
  · have e : carried r sign base fig = (1, 0) := by unfold carried; exact if_pos (of_decide_eq_true c)
    rw [e] at h
    exact ⟨by walk_at "sw_nn", h⟩
  · have c' : ¬ fig = absI base := of_decide_eq_false c
    refine ⟨_, rfl, _, _, rfl, rfl, _, rfl, fun c1 => ?_, fun c1 => ?_⟩
    · have c1 := of_decide_eq_true c1
      refine ⟨_, rfl, _, rfl, _, rfl, _, rfl, _, rfl, _, rfl, r, _, _, _, _, rfl, hb, _, rfl, fun c2 => ?_, fun c2 => ?_⟩
      · refine ⟨_, rfl, _, rfl, _, rfl, _, _, rfl, rfl, _, _, rfl, rfl, .inl hb, by walk_at "sw_nn", ?_⟩
        have e : carried r sign base fig = (1, sign * (fig - absI base)) := by
          unfold carried
          rw [if_neg c', if_pos ⟨c1, c2⟩]
        rw [e] at h; exact h
      · refine ⟨_, rfl, _, rfl, _, _, rfl, rfl, .inl hb, by walk_at "sw_nn", ?_⟩
        have e : carried r sign base fig = (0, sign * fig) := by
          unfold carried
          rw [if_neg c', if_neg (fun z => by rw [show isGreater r sign (sgn base) fig (absI base) = false from c2] at z; cases z.2)]
        rw [e] at h; exact h
    · have c1 := of_decide_eq_false c1
      refine ⟨fun z => Bool.noConfusion z, fun _ => ?_⟩
      refine ⟨_, rfl, _, rfl, _, _, rfl, rfl, .inl hb, by walk_at "sw_nn", ?_⟩
      have e : carried r sign base fig = (0, sign * fig) := by
        unfold carried
        rw [if_neg c', if_neg (fun z => c1 z.1)]
      rw [e] at h; exact h

/-! ### carry -/
def sp_carry : dSp := fun ds μ Φ _ => ∃ (r : Rule) (sign base fig : Int), ds = [.str (rname r), .int sign, .int base, .int fig] ∧ (sign = -1 ∨ sign = 1) ∧ (2 ≤ base.natAbs ∧ base.natAbs ≤ 10) ∧ (0 ≤ fig ∧ fig ≤ absI base) ∧
  Φ (.tup [.int (carried r sign base fig).1, .int (carried r sign base fig).2]) μ
theorem len_carry (ds : List DT) (μ : Mu) (Φ : PK) (Ψ : XKd) (h : sp_carry ds μ Φ Ψ) : ds.length = 4 := by obtain ⟨_, _, _, _, rfl, _⟩ := h; rfl
def d_carry.t4 (Ψ : XKd) : dS := (dRet (dCall noX sp_carried (dCons (dVar 0) (dCons (dVar 1) (dCons (dVar 2) (dCons (dVar 3) dNil))))))
def d_carry.t3 (Ψ : XKd) : dS := (dSeq (dIf (dNot (dTest (dCall noX sp_is_between (dCons (dVar 3) (dCons (dC (.int 0)) (dCons (dCB dAbs (dCons (dVar 2) dNil)) dNil)))))) dNever dNext) (d_carry.t4 Ψ))
def d_carry.t2 (Ψ : XKd) : dS := (dSeq (dIf (dNot (dTest (dCall noX sp_is_base (dCons (dVar 2) dNil)))) dNever dNext) (d_carry.t3 Ψ))
def d_carry.t1 (Ψ : XKd) : dS := (dSeq (dIf (dNot (dTest (dCall noX sp_is_sign (dCons (dVar 1) dNil)))) dNever dNext) (d_carry.t2 Ψ))
def n_carry : List Str := ["rule", "sign", "base", "figure"]
def t_carry (K : Kit) (E : XK) : TS := (tSeq (tDrop (tCall (lift K sp_require_rule) [] E0 (tCons (tVar 0) tNil))) (tSeq (tIfS (tNot (tB (tCall (lift K sp_is_sign) [] E0 (tCons (tVar 1) tNil)))) tNever tNext) (tSeq (tIfS (tNot (tB (tCall (lift K sp_is_base) [] E0 (tCons (tVar 2) tNil)))) tNever tNext) (tSeq (tIfS (tNot (tB (tCall (lift K sp_is_between) [] E0 (tCons (tVar 3) (tCons (tC (.int 0)) (tCons (tCB bAbs (tCons (tVar 2) tNil)) tNil)))))) tNever tNext) (tRet (tCall (lift K sp_carried) [] E0 (tCons (tVar 0) (tCons (tVar 1) (tCons (tVar 2) (tCons (tVar 3) tNil))))))))))
def d_carry (Ψ : XKd) : dS := (dSeq (dDrop (dCall noX sp_require_rule (dCons (dVar 0) dNil))) (d_carry.t1 Ψ))
theorem r_carry {K : Kit} (E : XK) (Ψ : XKd) : RS ⟨K, E, Ψ⟩ (t_carry K E) (d_carry Ψ) := (rs_seq (rs_drop (re_call (ra_cons re_var ra_nil))) (rs_seq (rs_if (rt_not (rt_b (re_call (ra_cons re_var ra_nil)))) rs_never rs_next) (rs_seq (rs_if (rt_not (rt_b (re_call (ra_cons re_var ra_nil)))) rs_never rs_next) (rs_seq (rs_if (rt_not (rt_b (re_call (ra_cons re_var (ra_cons re_int (ra_cons (re_cb rc_abs (ra_cons re_var ra_nil)) ra_nil)))))) rs_never rs_next) (rs_ret (re_call (ra_cons re_var (ra_cons re_var (ra_cons re_var (ra_cons re_var ra_nil))))))))))

theorem pure_carry (ds : List DT) (μ : Mu) (Φ : PK) (Ψ : XKd) (h : sp_carry ds μ Φ Ψ) : dRun (d_carry Ψ) n_carry ds μ Φ := by
  obtain ⟨r, sign, base, fig, rfl, hs, hb, hf, h⟩ := h
  refine ⟨_, rfl, r, rfl, ?_⟩
  refine ⟨_, rfl, _, _, rfl, rfl, _, rfl, fun c => ?_, fun _ => ?_⟩
  · exfalso
    rw [isSign_int] at c
    rcases hs with rfl | rfl <;> cases c
  refine ⟨_, rfl, _, _, rfl, rfl, _, rfl, fun c => ?_, fun _ => ?_⟩
  · exfalso
    rw [isBase_int, decide_eq_true hb.1, decide_eq_true hb.2] at c; cases c
  refine ⟨_, rfl, _, rfl, _, rfl, _, _, _, _, rfl, rfl, _, rfl, fun c => ?_, fun _ => ?_⟩
  · exfalso
    have e : isBetD (.int fig) 0 (absI base) = true := by rw [isBet_int, decide_eq_true hf.1, decide_eq_true hf.2]; rfl
    have c' : (!isBetD (.int fig) 0 (absI base)) = true := c
    rw [e] at c'; cases c'
  exact ⟨_, rfl, _, rfl, _, rfl, _, rfl, r, _, _, _, rfl, by omega, h⟩

/-! ### Program.require_mode -/
def sp_Program_require_mode : dSp := fun ds μ Φ _ => ∃ (P : Prg) (m : Mode), ds = [progD P, .str m.nm] ∧ m ∈ P.modes ∧ Φ .non μ
theorem len_Program_require_mode (ds : List DT) (μ : Mu) (Φ : PK) (Ψ : XKd) (h : sp_Program_require_mode ds μ Φ Ψ) : ds.length = 2 := by obtain ⟨_, _, rfl, _⟩ := h; rfl
theorem inD_names {P : Prg} {m : Mode} (h : m ∈ P.modes) : inD (.str m.nm) (P.modes.map fun m => .str m.nm) = true := by
  unfold inD
  rw [List.any_map, List.any_eq_true]
  exact ⟨m, h, by show eqD _ _ = true; rw [eqD_str]; simp⟩
theorem flat_names (ms : List Mode) : (ms.map fun m => DT.str m.nm).all flatD = true := by
  rw [List.all_map]; exact List.all_eq_true.mpr fun _ _ => rfl
def n_Program_require_mode : List Str := ["self", "mode"]
def t_Program_require_mode (K : Kit) (E : XK) : TS := (tIfS (tOr (tNot (tB (tCB (rIsi K) (tCons (tVar 1) (tCons (tC (.ty "str")) tNil))))) (tTest (tOp (rIn K true) (tVar 1) (tFld K (tVar 0) "own_names")))) tNever tNext)
def d_Program_require_mode (Ψ : XKd) : dS := (dIf (dOr (dNot (dTest (dIsi "str" (dVar 1)))) (dTest (dOp (dIn true) (dVar 1) (dFld flds (dVar 0) "own_names")))) dNever dNext)
theorem r_Program_require_mode {K : Kit} (fl : FlOk K flds) (E : XK) (Ψ : XKd) : RS ⟨K, E, Ψ⟩ (t_Program_require_mode K E) (d_Program_require_mode Ψ) := (rs_if (rt_or (rt_not (rt_b (re_isi (by decide) re_var))) (rt_test (re_op ro_in re_var (re_fld fl re_var)))) rs_never rs_next)

theorem pure_Program_require_mode (ds : List DT) (μ : Mu) (Φ : PK) (Ψ : XKd) (h : sp_Program_require_mode ds μ Φ Ψ) : dRun (d_Program_require_mode Ψ) n_Program_require_mode ds μ Φ := by
  obtain ⟨P, m, rfl, hm, h⟩ := h
  refine ⟨_, rfl, _, rfl, _, rfl, (fun z => ?_), fun _ => ?_⟩
  · have z' : (!isTy "str" "str") = true := z
    exact absurd z' (by decide)
  · refine ⟨_, rfl, _, rfl, _, _, _, rfl, rfl, rfl, _, rfl, rfl, flat_names _, _, rfl, fun z => ?_, fun _ => h⟩
    have z' : (!inD (.str m.nm) (P.modes.map fun m => .str m.nm)) = true := z
    rw [inD_names hm] at z'; cases z'

/-! ### Program.rule_of -/
def sp_Program_rule_of : dSp := fun ds μ Φ _ => ∃ (P : Prg) (m : Mode), ds = [progD P, .str m.nm] ∧ m ∈ P.modes ∧ ksAt (P.modes.map fun m => (DT.str m.nm, DT.str (rname m.ru))) (.str m.nm) = some (.str (rname m.ru)) ∧ Φ (.str (rname m.ru)) μ
theorem len_Program_rule_of (ds : List DT) (μ : Mu) (Φ : PK) (Ψ : XKd) (h : sp_Program_rule_of ds μ Φ Ψ) : ds.length = 2 := by obtain ⟨_, _, rfl, _⟩ := h; rfl
def d_Program_rule_of.t1 (Ψ : XKd) : dS := (dRet (dGetS (dFld flds (dVar 0) "own_rules") (dVar 1)))
def n_Program_rule_of : List Str := ["self", "mode"]
def t_Program_rule_of (K : Kit) (E : XK) : TS := (tSeq (tDrop (tMeth (He.ga K "Program") "require_mode" (lift K sp_Program_require_mode) [] E0 (tVar 0) (tCons (tVar 1) tNil))) (tRet (tDGet (tFld K (tVar 0) "own_rules") (tVar 1))))
def d_Program_rule_of (Ψ : XKd) : dS := (dSeq (dDrop (dMeth noX "Program" "require_mode" sp_Program_require_mode (dVar 0) (dCons (dVar 1) dNil))) (d_Program_rule_of.t1 Ψ))
theorem r_Program_rule_of {K : Kit} (fl : FlOk K flds) (E : XK) (Ψ : XKd) : RS ⟨K, E, Ψ⟩ (t_Program_rule_of K E) (d_Program_rule_of Ψ) := (rs_seq (rs_drop (re_meth re_var (ra_cons re_var ra_nil))) (rs_ret (re_getS (re_fld fl re_var) re_var)))

theorem pure_Program_rule_of (ds : List DT) (μ : Mu) (Φ : PK) (Ψ : XKd) (h : sp_Program_rule_of ds μ Φ Ψ) : dRun (d_Program_rule_of Ψ) n_Program_rule_of ds μ Φ := by
  obtain ⟨P, m, rfl, hm, hk, h⟩ := h
  refine ⟨_, rfl, _, rfl, rfl, _, rfl, P, m, rfl, hm, ?_⟩
  exact ⟨_, rfl, _, _, _, rfl, rfl, rfl, _, rfl, _, _, rfl, rfl, hk, h⟩

/-! ### _law_right -/
def sp_law_right : dSp := fun ds μ Φ _ => ∃ (P : Prg) (n : Int) (e : Nat) (m : Mode) (ms : List Mode), ds = [progD P, partsD P, .int n] ∧ Good P ∧ P.modes = m :: ms ∧ n.natAbs ≤ 2 ^ e ∧ e ≤ 2500 ∧ ∀ μ', Grow μ μ' → Φ (.bl true) μ'
theorem len_law_right (ds : List DT) (μ : Mu) (Φ : PK) (Ψ : XKd) (h : sp_law_right ds μ Φ Ψ) : ds.length = 3 := by obtain ⟨_, _, _, _, _, rfl, _⟩ := h; rfl
theorem whole_digs {b : Nat} (hb : 2 ≤ b) (n : Nat) : wholeD (.tup ((digs b n).map .int)) b = true := by
  unfold wholeD
  rw [Bool.and_eq_true]
  constructor
  · show ((digs b n).map DT.int).all (fun x => isBetD x 0 ((b : Int) - 1)) = true
    rw [List.all_map]
    refine List.all_eq_true.mpr fun d hd => ?_
    have := digs_lt hb n d hd
    show isBetD (.int d) 0 ((b : Int) - 1) = true
    rw [isBet_int, decide_eq_true this.1, decide_eq_true (by omega)]; rfl
  · show (match ((digs b n).map DT.int).getLast? with | some (.int i) => decide (0 < i) | _ => true) = true
    rw [List.getLast?_map]
    cases q : (digs b n).getLast? with
    | none => rfl
    | some d => exact decide_eq_true (digs_last hb n d q)
theorem size_digs {b : Nat} (hb : 2 ≤ b) : ∀ n : Nat, sizeIn b (digs b n) = n := by
  intro n
  induction n using Nat.strongRecOn with
  | _ n ih =>
    by_cases hn : n = 0
    · subst hn; rw [digs_zero]; rfl
    · rw [digs_pos hb (by omega)]
      show sizeIn b (digs b (n / b)) * b + _ = _
      rw [ih (n / b) (Nat.div_lt_self (by omega) hb)]
      have := Nat.div_add_mod n b
      rw [Nat.mul_comm] at this
      rw [← Int.natCast_mul, ← Int.natCast_add, this]
theorem kinds_ints (μ : Mu) (ns : List Int) (h : ns.length ≤ 5000) : Kinds μ (.tup (ns.map .int)) := fun zs e => by
  cases e
  refine ⟨by rw [List.length_map]; exact h, fun x hx => ?_⟩
  obtain ⟨i, _, rfl⟩ := List.mem_map.mp hx
  exact ⟨_, rfl⟩
theorem eqD_told (m : Str) (s l : Int) : eqD (.tup [.str m, .int s, .int l]) (.tup [.str m, .int s, .int l]) = true := by
  simp [eqD, pyOf, pyAll, PyData.eqv, PyData.eqvAll]
theorem ok8_told {m : Str} (h : PyData.strOk m = true) (s l : Int) : ok8 (.tup [.str m, .int s, .int l]) := by
  show (PyData.strOk m && (true && (true && true))) = true
  rw [h]; rfl
/-- where the law's look at a run stands -/
structure LookAt (P : Prg) (nz : Bool) (rounds : List Rnd) (told : List (Str × Int × Nat × Int)) (figs : List Int) (i : Nat) (Rs : List Rnd) (sn : Int) (l : Nat) (c : Int) : Prop where
  r : rounds.drop i = Rs
  t : told.drop i = toldOf P nz Rs sn l
  f : figs.drop i = digs P.base.natAbs l
  s : sn = 1 ∨ sn = -1
  ca : Carr P nz Rs sn l c
def d_law_right.L1t7 (Ψ : XKd) : dS := (dAsg (dOp dMul (dVar 9) (dIfE (dTest (dOp dNe (dVar 2) (dC (.int 0)))) (dVar 7) (dC (.int 1)))) (dName 9))
def d_law_right.L1t6 (Ψ : XKd) : dS := (dSeq (dIf (dOr (dTest (dOp dNe (dOp dIx (dVar 12) (dC (.int 1))) (dVar 15))) (dAnd (dTest (dOp dLt (dOp dAdd (dVar 5) (dC (.int 1))) (dCB dLen (dCons (dVar 3) dNil)))) (dTest (dOp dNe (dOp dIx (dVar 12) (dC (.int 0))) (dOp dIx (dOp dIx (dVar 4) (dOp dAdd (dVar 5) (dC (.int 1)))) (dC (.int 3))))))) (dRet (dC (.bl false))) dNext) (d_law_right.L1t7 Ψ))
def d_law_right.L1t5 (Ψ : XKd) : dS := (dSeq (dAsg (dCall noX sp_carry (dCons (dMeth noX "Program" "rule_of" sp_Program_rule_of (dVar 0) (dCons (dVar 13) dNil)) (dCons (dVar 9) (dCons (dOp dIx (dVar 1) (dC (.int 0))) (dCons (dOp dAdd (dVar 11) (dOp dIx (dOp dIx (dVar 4) (dVar 5)) (dC (.int 3)))) dNil))))) (dName 12)) (d_law_right.L1t6 Ψ))
def d_law_right.L1t4 (Ψ : XKd) : dS := (dSeq (dAsg (dIfE (dTest (dOp dLt (dVar 5) (dCB dLen (dCons (dVar 8) dNil)))) (dOp dIx (dVar 8) (dVar 5)) (dC (.int 0))) (dName 11)) (d_law_right.L1t5 Ψ))
def d_law_right.L1t3 (Ψ : XKd) : dS := (dSeq (dIf (dTest (dIsi "bool" (dOp dIx (dOp dIx (dVar 4) (dVar 5)) (dC (.int 3))))) (dRet (dC (.bl false))) dNext) (d_law_right.L1t4 Ψ))
def d_law_right.L1t2 (Ψ : XKd) : dS := (dSeq (dIf (dOr (dTest (dOp dNeD (dSl dSlT (dOp dIx (dVar 4) (dVar 5)) dNoPart (dPart (dC (.int 3)))) (dTup (dCons (dVar 13) (dCons (dVar 9) (dCons (dVar 10) dNil)))))) (dOr (dTest (dOp (dIn true) (dOp dIx (dOp dIx (dVar 4) (dVar 5)) (dC (.int 3))) (dLst (dCons (dC (.int 0)) (dCons (dC (.int 1)) dNil))))) (dTest (dOp dNe (dVar 14) (dOp dMul (dVar 9) (dOp dAdd (dVar 10) (dOp dIx (dOp dIx (dVar 4) (dVar 5)) (dC (.int 3))))))))) (dRet (dC (.bl false))) dNext) (d_law_right.L1t3 Ψ))
def d_law_right.L1t1 (Ψ : XKd) : dS := (dSeq (dAsg (dCall noX sp_number_of (dCons (dC (.int 1)) (dCons (dSl dSlT (dVar 8) (dPart (dVar 5)) dNoPart) (dCons (dVar 6) dNil)))) (dName 10)) (d_law_right.L1t2 Ψ))
def d_law_right.L1 (Ψ : XKd) : dS := (dSeq (dAsg (dOp dIx (dVar 3) (dVar 5)) (dGTup 4 (dGCons (dName 13) (dGCons (dName 14) (dGCons (dName 15) (dGCons (dName 16) dGNil)))))) (d_law_right.L1t1 Ψ))
def d_law_right.t6 (Ψ : XKd) : dS := (dRet (dC (.bl true)))
def d_law_right.t5 (Ψ : XKd) : dS := (dSeq (dFor (dIRng1 (dCons (dCB dLen (dCons (dVar 3) dNil)) dNil)) (dName 5) (d_law_right.L1 Ψ)) (d_law_right.t6 Ψ))
def d_law_right.t4 (Ψ : XKd) : dS := (dSeq (dPar 8 9 (dCons (dCall noX sp_law_figures (dCons (dVar 2) (dCons (dVar 6) dNil))) (dCons (dOp dSub (dC (.int 1)) (dOp dMul (dC (.int 2)) (dCB dInt (dCons (dOp dLt (dVar 2) (dC (.int 0))) dNil)))) dNil))) (d_law_right.t5 Ψ))
def d_law_right.t3 (Ψ : XKd) : dS := (dSeq (dIf (dTest (dOp dNe (dCB dLen (dCons (dVar 4) dNil)) (dCB dLen (dCons (dVar 3) dNil)))) (dRet (dC (.bl false))) dNext) (d_law_right.t4 Ψ))
def d_law_right.t2 (Ψ : XKd) : dS := (dSeq (dAsg (dCall noX sp_standings (dCons (dVar 0) (dCons (dVar 2) dNil))) (dName 4)) (d_law_right.t3 Ψ))
def d_law_right.t1 (Ψ : XKd) : dS := (dSeq (dAsg (dOp dIx (dCall noX sp_law_run (dCons (dVar 1) (dCons (dVar 2) dNil))) (dC (.int 3))) (dName 3)) (d_law_right.t2 Ψ))
def n_law_right : List Str := ["one", "parts", "number", "rounds", "told", "at", "size", "spun", "figures", "sign", "high", "figure", "found", "mode", "x", "part", "values"]
def t_law_right (K : Kit) (E : XK) : TS := (tSeq (tPar 6 7 (tCons (tCB bAbs (tCons (tOp (rIx K) (tVar 1) (tC (.int 0))) tNil)) (tCons (tOp oSub (tC (.int 1)) (tOp oMul (tC (.int 2)) (tCB bInt (tCons (tOp oLt (tOp (rIx K) (tVar 1) (tC (.int 0))) (tC (.int 0))) tNil)))) tNil))) (tSeq (tAsg (tOp (rIx K) (tCall (lift K sp_law_run) [] E0 (tCons (tVar 1) (tCons (tVar 2) tNil))) (tC (.int 3))) (gName 3)) (tSeq (tAsg (tCall (lift K sp_standings) [] E0 (tCons (tVar 0) (tCons (tVar 2) tNil))) (gName 4)) (tSeq (tIfS (tTest (tOp rNe (tCB (bLen K) (tCons (tVar 4) tNil)) (tCB (bLen K) (tCons (tVar 3) tNil)))) (tRet (tC (.bl false))) tNext) (tSeq (tPar 8 9 (tCons (tCall (lift K sp_law_figures) [] E0 (tCons (tVar 2) (tCons (tVar 6) tNil))) (tCons (tOp oSub (tC (.int 1)) (tOp oMul (tC (.int 2)) (tCB bInt (tCons (tOp oLt (tVar 2) (tC (.int 0))) tNil)))) tNil))) (tSeq (tFor (iRng1 (tCons (tCB (bLen K) (tCons (tVar 3) tNil)) tNil)) (gName 5) (tSeq (tAsg (tOp (rIx K) (tVar 3) (tVar 5)) (gTup K 4 (gCons (gName 13) (gCons (gName 14) (gCons (gName 15) (gCons (gName 16) gNil)))))) (tSeq (tAsg (tCall (lift K sp_number_of) [] E0 (tCons (tC (.int 1)) (tCons (tSl (rSlA K) (tVar 8) (tPart (tVar 5)) tNoPart) (tCons (tVar 6) tNil)))) (gName 10)) (tSeq (tIfS (tOr (tTest (tOp (rNeD K) (tSl (rSlA K) (tOp (rIx K) (tVar 4) (tVar 5)) tNoPart (tPart (tC (.int 3)))) (tTup (tCons (tVar 13) (tCons (tVar 9) (tCons (tVar 10) tNil)))))) (tOr (tTest (tOp (rIn K true) (tOp (rIx K) (tOp (rIx K) (tVar 4) (tVar 5)) (tC (.int 3))) (tLst (tCons (tC (.int 0)) (tCons (tC (.int 1)) tNil))))) (tTest (tOp rNe (tVar 14) (tOp oMul (tVar 9) (tOp oAdd (tVar 10) (tOp (rIx K) (tOp (rIx K) (tVar 4) (tVar 5)) (tC (.int 3))))))))) (tRet (tC (.bl false))) tNext) (tSeq (tIfS (tB (tCB (rIsi K) (tCons (tOp (rIx K) (tOp (rIx K) (tVar 4) (tVar 5)) (tC (.int 3))) (tCons (tC (.ty "bool")) tNil)))) (tRet (tC (.bl false))) tNext) (tSeq (tAsg (tIf (tTest (tOp oLt (tVar 5) (tCB (bLen K) (tCons (tVar 8) tNil)))) (tOp (rIx K) (tVar 8) (tVar 5)) (tC (.int 0))) (gName 11)) (tSeq (tAsg (tCall (lift K sp_carry) [] E0 (tCons (tMeth (He.ga K "Program") "rule_of" (lift K sp_Program_rule_of) [] E0 (tVar 0) (tCons (tVar 13) tNil)) (tCons (tVar 9) (tCons (tOp (rIx K) (tVar 1) (tC (.int 0))) (tCons (tOp oAdd (tVar 11) (tOp (rIx K) (tOp (rIx K) (tVar 4) (tVar 5)) (tC (.int 3)))) tNil))))) (gName 12)) (tSeq (tIfS (tOr (tTest (tOp rNe (tOp (rIx K) (tVar 12) (tC (.int 1))) (tVar 15))) (tAnd (tTest (tOp oLt (tOp oAdd (tVar 5) (tC (.int 1))) (tCB (bLen K) (tCons (tVar 3) tNil)))) (tTest (tOp rNe (tOp (rIx K) (tVar 12) (tC (.int 0))) (tOp (rIx K) (tOp (rIx K) (tVar 4) (tOp oAdd (tVar 5) (tC (.int 1)))) (tC (.int 3))))))) (tRet (tC (.bl false))) tNext) (tAsg (tOp oMul (tVar 9) (tIf (tTest (tOp rNe (tVar 2) (tC (.int 0)))) (tVar 7) (tC (.int 1)))) (gName 9)))))))))) (tRet (tC (.bl true)))))))))
def d_law_right (Ψ : XKd) : dS := (dSeq (dPar 6 7 (dCons (dCB dAbs (dCons (dOp dIx (dVar 1) (dC (.int 0))) dNil)) (dCons (dOp dSub (dC (.int 1)) (dOp dMul (dC (.int 2)) (dCB dInt (dCons (dOp dLt (dOp dIx (dVar 1) (dC (.int 0))) (dC (.int 0))) dNil)))) dNil))) (d_law_right.t1 Ψ))
theorem r_law_right {K : Kit} (E : XK) (Ψ : XKd) : RS ⟨K, E, Ψ⟩ (t_law_right K E) (d_law_right Ψ) := (rs_seq (rs_par (ra_cons (re_cb rc_abs (ra_cons (re_op ro_ix re_var re_int) ra_nil)) (ra_cons (re_op ro_sub re_int (re_op ro_mul re_int (re_cb rc_int (ra_cons (re_op ro_lt (re_op ro_ix re_var re_int) re_int) ra_nil)))) ra_nil))) (rs_seq (rs_asg (re_op ro_ix (re_call (ra_cons re_var (ra_cons re_var ra_nil))) re_int) (rg_name (vs := [3]) (by decide))) (rs_seq (rs_asg (re_call (ra_cons re_var (ra_cons re_var ra_nil))) (rg_name (vs := [4]) (by decide))) (rs_seq (rs_if (rt_test (re_op ro_ne (re_cb rc_len (ra_cons re_var ra_nil)) (re_cb rc_len (ra_cons re_var ra_nil)))) (rs_ret re_bl) rs_next) (rs_seq (rs_par (ra_cons (re_call (ra_cons re_var (ra_cons re_var ra_nil))) (ra_cons (re_op ro_sub re_int (re_op ro_mul re_int (re_cb rc_int (ra_cons (re_op ro_lt re_var re_int) ra_nil)))) ra_nil))) (rs_seq (rs_for (ri_rng1 (ra_cons (re_cb rc_len (ra_cons re_var ra_nil)) ra_nil)) (rg_name (vs := [5]) (by decide)) (rs_seq (rs_asg (re_op ro_ix re_var re_var) (rg_tup (vs := [13, 14, 15, 16]) (rgs_cons (rg_name (by decide)) (rgs_cons (rg_name (by decide)) (rgs_cons (rg_name (by decide)) (rgs_cons (rg_name (by decide)) rgs_nil)))))) (rs_seq (rs_asg (re_call (ra_cons re_int (ra_cons (re_sl rsl_t re_var (rp_part re_var) rp_no) (ra_cons re_var ra_nil)))) (rg_name (vs := [10]) (by decide))) (rs_seq (rs_if (rt_or (rt_test (re_op ro_neD (re_sl rsl_t (re_op ro_ix re_var re_var) rp_no (rp_part re_int)) (re_tup (ra_cons re_var (ra_cons re_var (ra_cons re_var ra_nil)))))) (rt_or (rt_test (re_op ro_in (re_op ro_ix (re_op ro_ix re_var re_var) re_int) (re_lst (ra_cons re_int (ra_cons re_int ra_nil))))) (rt_test (re_op ro_ne re_var (re_op ro_mul re_var (re_op ro_add re_var (re_op ro_ix (re_op ro_ix re_var re_var) re_int))))))) (rs_ret re_bl) rs_next) (rs_seq (rs_if (rt_b (re_isi (by decide) (re_op ro_ix (re_op ro_ix re_var re_var) re_int))) (rs_ret re_bl) rs_next) (rs_seq (rs_asg (re_ifE (rt_test (re_op ro_lt re_var (re_cb rc_len (ra_cons re_var ra_nil)))) (re_op ro_ix re_var re_var) re_int) (rg_name (vs := [11]) (by decide))) (rs_seq (rs_asg (re_call (ra_cons (re_meth re_var (ra_cons re_var ra_nil)) (ra_cons re_var (ra_cons (re_op ro_ix re_var re_int) (ra_cons (re_op ro_add re_var (re_op ro_ix (re_op ro_ix re_var re_var) re_int)) ra_nil))))) (rg_name (vs := [12]) (by decide))) (rs_seq (rs_if (rt_or (rt_test (re_op ro_ne (re_op ro_ix re_var re_int) re_var)) (rt_and (rt_test (re_op ro_lt (re_op ro_add re_var re_int) (re_cb rc_len (ra_cons re_var ra_nil)))) (rt_test (re_op ro_ne (re_op ro_ix re_var re_int) (re_op ro_ix (re_op ro_ix re_var (re_op ro_add re_var re_int)) re_int))))) (rs_ret re_bl) rs_next) (rs_asg (re_op ro_mul re_var (re_ifE (rt_test (re_op ro_ne re_var re_int)) re_var re_int)) (rg_name (vs := [9]) (by decide))))))))))) (rs_ret re_bl)))))))

theorem loop_law_right {Ψ : XKd} {P : Prg} (g : Good P) {n : Int} {rounds : List Rnd} {told : List (Str × Int × Nat × Int)} {figs : List Int} (hf : figs.length ≤ 3000) (hr : rounds.length ≤ 3000) (htl : told.length = rounds.length) {Φ : PK} {μ : Mu} (k : Φ (.bl true) μ) : ∀ (j i : Nat) (Rs : List Rnd) (s : Int) (l : Nat) (c : Int) (x5 x10 x11 x12 x13 x14 x15 x16 : Option DT), i + j = rounds.length → LookAt P (decide (n ≠ 0)) rounds told figs i Rs s l c →
    dLoop (dName 5) (d_law_right.L1 Ψ) { nx := d_law_right.t6 Ψ { nx := fun _ μ' => Φ .non μ', rt := Φ }, rt := Φ } ((List.range' i j).map fun i : Nat => DT.int (i : Int)) [some (progD P), some (partsD P), some (.int n), some (.lst (rounds.map rndL)), some (.lst (told.map toldD)), x5, some (.int P.base.natAbs), some (.int (spun P.base)), some (.tup (figs.map .int)), some (.int s), x10, x11, x12, x13, x14, x15, x16] μ
  | 0, i, Rs, s, l, c, x5, x10, x11, x12, x13, x14, x15, x16, hij, L => k
  | j + 1, i, [], s, l, c, x5, x10, x11, x12, x13, x14, x15, x16, hij, L => absurd (show i < rounds.length by omega) (drop_nil L.r)
  | j + 1, i, Rn :: Rs, s, l, c, x5, x10, x11, x12, x13, x14, x15, x16, hij, L => by
    have hb := g.base
    rw [List.range'_succ, List.map_cons]
    obtain ⟨ri, rg, rd⟩ := drop_head L.r
    have tt := L.t
    rw [toldOf] at tt
    obtain ⟨ti, tg, td⟩ := drop_head tt
    obtain ⟨hx, hc, m, hm, hmn, c', hcar, hc', hcr⟩ := L.ca
    have ec : s * Rn.x - l = c := told_c L.s hx
    rw [ec] at tg
    have sok : PyData.strOk Rn.m = true := hmn ▸ name_ok (g.mnm m hm).1
    have sb : -(2 ^ 64) < s ∧ s < 2 ^ 64 := by rcases L.s with h | h <;> rw [h] <;> decide
    have a3 : atI (rounds.map rndL) (i : Int) = some (rndL Rn) := atI_nat (by rw [List.getElem?_map, rg]; rfl)
    have a4 : atI (told.map toldD) (i : Int) = some (toldD (Rn.m, s, l, c)) := atI_nat (by rw [List.getElem?_map, tg]; rfl)
    have ecut : cutD (figs.map DT.int) (some (i : Int)) none = (digs P.base.natAbs l).map .int := by rw [cut_from, ← List.map_drop, L.f]
    have dl : (digs P.base.natAbs l).length ≤ 5000 := by rw [← L.f, List.length_drop]; omega
    have hi1 : eqD (.tup [.str Rn.m, .int s, .int l]) (.tup [.str Rn.m, .int s, .int (1 * sizeIn P.base.natAbs (digs P.base.natAbs l))]) = true := by
      rw [size_digs hb.1, Int.one_mul]; exact eqD_told _ _ _
    have kin : inD (.int c) [.int 0, .int 1] = true := by
      have := inD_ints c [0, 1]
      refine Eq.trans this (decide_eq_true ?_)
      rcases hc with h | h <;> rw [h] <;> decide
    have fin : ∀ (y5 y10 y11 y12 y13 y14 y15 y16 : Option DT) (s2 : Int), s2 = nextSign P (decide (n ≠ 0)) s → dLoop (dName 5) (d_law_right.L1 Ψ) { nx := d_law_right.t6 Ψ { nx := fun _ μ' => Φ .non μ', rt := Φ }, rt := Φ } ((List.range' (i + 1) j).map fun i : Nat => DT.int (i : Int)) [some (progD P), some (partsD P), some (.int n), some (.lst (rounds.map rndL)), some (.lst (told.map toldD)), y5, some (.int P.base.natAbs), some (.int (spun P.base)), some (.tup (figs.map .int)), some (.int s2), y10, y11, y12, y13, y14, y15, y16] μ := by
      intro y5 y10 y11 y12 y13 y14 y15 y16 s2 e2
      rw [e2]
      refine loop_law_right g hf hr htl k j (i + 1) Rs _ (l / P.base.natAbs) c' _ _ _ _ _ _ _ _ (by omega) ⟨rd, td, ?_, nextSign_cases P _ L.s, hcr⟩
      by_cases hl : l = 0
      · have := L.f
        rw [hl] at this ⊢
        rw [Nat.zero_div]
        exact (z_digs figs i this).2
      · exact (nz_digs hb.1 (by omega) figs i L.f).2.2
    have nextC : ∀ (h : i + 1 < rounds.length), ∃ R2 : Rnd, atI (told.map toldD) ((i : Int) + 1) = some (.tup [.str R2.m, .int (nextSign P (decide (n ≠ 0)) s), .int (l / P.base.natAbs : Nat), .int c']) := by
      intro h
      cases Rs with
      | nil => exact absurd h (drop_nil rd)
      | cons R2 Rs2 =>
        obtain ⟨hx2, hc2, _⟩ := hcr
        rw [toldOf] at td
        obtain ⟨_, tg2, _⟩ := drop_head td
        have ec2 : nextSign P (decide (n ≠ 0)) s * R2.x - (l / P.base.natAbs : Nat) = c' := told_c (nextSign_cases P _ L.s) hx2
        rw [ec2] at tg2
        exact ⟨R2, show atI (told.map toldD) ((i + 1 : Nat) : Int) = _ from atI_nat (by rw [List.getElem?_map, tg2]; rfl)⟩
    refine ⟨_, rfl, _, rfl, _, _, rndL Rn, rfl, rfl, a3, ?_⟩
    refine ⟨_, rfl, rfl, _, _, rfl, _, _, rfl, _, _, rfl, _, _, rfl, rfl, ?_⟩
    refine ⟨_, rfl, _, rfl, _, rfl, _, rfl, _, rfl, .int 1, .tup (cutD (figs.map DT.int) (some (i : Int)) none), .int P.base.natAbs, "tuple", "int", "int", rfl, rfl, rfl, rfl, by rw [ecut]; exact kinds_ints _ _ dl, (fun z => ?_), (fun _ z => ?_), (fun b _ eb _ _ z => ?_), fun ii fs b e1 e2 e3 _ _ _ => ?_⟩
    · cases z
    · have z' : (decide ((2 : Int) ≤ P.base.natAbs) && decide ((P.base.natAbs : Int) ≤ 10)) = false := z
      rw [decide_eq_true (by omega), decide_eq_true (by omega)] at z'; cases z'
    · rw [ecut] at z
      cases eb
      rw [whole_digs hb.1] at z; cases z
    cases e1
    cases e3
    rw [ecut] at e2
    have e2' : digs P.base.natAbs l = fs := by
      injection e2 with e2
      exact (List.map_inj_right (fun a b h => by injection h)).mp e2
    subst e2'
    refine ⟨_, rfl, _, rfl, _, _, _, rfl, rfl, a4, _, rfl, _, rfl, _, rfl, _, rfl, _, rfl, by walk_at "sw_nn", ok8_told sok _ _, ok8_told sok _ _, _, rfl, (fun z => ?_), fun _ => ?_⟩
    · have z' : (!eqD (.tup [.str Rn.m, .int s, .int l]) (.tup [.str Rn.m, .int s, .int (1 * sizeIn P.base.natAbs (digs P.base.natAbs l))])) = true := z
      rw [hi1] at z'; cases z'
    refine ⟨_, rfl, _, rfl, _, _, _, rfl, rfl, a4, _, 3, .int c, rfl, rfl, rfl, by walk_at "sw_nn", _, rfl, rfl, rfl, _, rfl, (fun z => ?_), fun _ => ?_⟩
    · have z' : (!inD (.int c) [.int 0, .int 1]) = true := z
      rw [kin] at z'; cases z'
    refine ⟨_, rfl, _, rfl, _, rfl, _, rfl, _, rfl, _, _, _, rfl, rfl, a4, _, 3, .int c, rfl, rfl, rfl, _, _, rfl, rfl, _, _, rfl, rfl, .inl sb, .inl ⟨_, _, rfl, rfl, _, rfl, (fun z => ?_), fun _ => ?_⟩⟩
    · have z' : (!decide (Rn.x = s * (1 * sizeIn P.base.natAbs (digs P.base.natAbs l) + c))) = true := z
      rw [size_digs hb.1, Int.one_mul, decide_eq_true hx] at z'; cases z'
    refine ⟨_, rfl, _, rfl, _, _, _, rfl, rfl, a4, _, 3, .int c, rfl, rfl, rfl, "int", rfl, _, rfl, (fun z => absurd z (by decide)), fun _ => ?_⟩
    have t5 : ∀ (figure : Int) y5 y10, figure = ((l % P.base.natAbs : Nat) : Int) → d_law_right.L1t5 Ψ { nx := dLoop (dName 5) (d_law_right.L1 Ψ) { nx := d_law_right.t6 Ψ { nx := fun _ μ' => Φ .non μ', rt := Φ }, rt := Φ } ((List.range' (i + 1) j).map fun i : Nat => DT.int (i : Int)), rt := Φ, bk := d_law_right.t6 Ψ { nx := fun _ μ' => Φ .non μ', rt := Φ }, ct := dLoop (dName 5) (d_law_right.L1 Ψ) { nx := d_law_right.t6 Ψ { nx := fun _ μ' => Φ .non μ', rt := Φ }, rt := Φ } ((List.range' (i + 1) j).map fun i : Nat => DT.int (i : Int)) }
        [some (progD P), some (partsD P), some (.int n), some (.lst (rounds.map rndL)), some (.lst (told.map toldD)), some (.int i), some (.int P.base.natAbs), some (.int (spun P.base)), some (.tup (figs.map .int)), some (.int s), y10, some (.int figure), x12, some (.str Rn.m), some (.int Rn.x), some (.int Rn.r), y5] μ := by
      intro figure y5 y10 ef
      subst ef
      have lt : l % P.base.natAbs < P.base.natAbs := Nat.mod_lt _ (by omega)
      have lt' : ((l % P.base.natAbs : Nat) : Int) < (P.base.natAbs : Int) := Int.ofNat_lt.mpr lt
      have lt0 : 0 ≤ ((l % P.base.natAbs : Nat) : Int) := Int.natCast_nonneg _
      have hs := L.s
      refine ⟨_, rfl, _, rfl, rfl, _, rfl, P, m, by rw [hmn], hm, (stands_of g.nd hm).ru, _, rfl, _, rfl, _, 0, .int P.base, rfl, rfl, rfl, _, rfl, _, rfl, _, rfl, _, _, _, rfl, rfl, a4, _, 3, .int c, rfl, rfl, rfl, _, _, rfl, rfl, m.ru, s, P.base, ((l % P.base.natAbs : Nat) : Int) + c, rfl, by omega, hb, ⟨by omega, by rw [g.abs]; omega⟩, ?_⟩
      rw [hcar]
      have go7 : d_law_right.L1t7 Ψ { nx := dLoop (dName 5) (d_law_right.L1 Ψ) { nx := d_law_right.t6 Ψ { nx := fun _ μ' => Φ .non μ', rt := Φ }, rt := Φ } ((List.range' (i + 1) j).map fun i : Nat => DT.int (i : Int)), rt := Φ, bk := d_law_right.t6 Ψ { nx := fun _ μ' => Φ .non μ', rt := Φ }, ct := dLoop (dName 5) (d_law_right.L1 Ψ) { nx := d_law_right.t6 Ψ { nx := fun _ μ' => Φ .non μ', rt := Φ }, rt := Φ } ((List.range' (i + 1) j).map fun i : Nat => DT.int (i : Int)) }
          [some (progD P), some (partsD P), some (.int n), some (.lst (rounds.map rndL)), some (.lst (told.map toldD)), some (.int i), some (.int P.base.natAbs), some (.int (spun P.base)), some (.tup (figs.map .int)), some (.int s), y10, some (.int ((l % P.base.natAbs : Nat) : Int)), some (.tup [.int c', .int Rn.r]), some (.str Rn.m), some (.int Rn.x), some (.int Rn.r), y5] μ := by
        refine ⟨_, rfl, _, rfl, .inl ⟨_, _, rfl, rfl, _, rfl, (fun z => ?_), fun z => ?_⟩⟩
        · have hz : ¬ n = 0 := by
            have z' : (!decide (n = 0)) = true := z
            intro h0; rw [decide_eq_true h0] at z'; cases z'
          refine ⟨_, rfl, _, _, rfl, rfl, .inl sb, ?_⟩
          refine fin _ _ _ _ _ _ _ _ _ ?_
          unfold nextSign; rw [if_pos (decide_eq_true hz)]
        · have hz : n = 0 := by
            have z' : (!decide (n = 0)) = false := z
            by_cases h0 : n = 0
            · exact h0
            · rw [decide_eq_false h0] at z'; cases z'
          refine ⟨_, _, rfl, rfl, .inl sb, ?_⟩
          refine fin _ _ _ _ _ _ _ _ _ ?_
          unfold nextSign; rw [if_neg (by simp [hz])]; omega
      refine ⟨_, rfl, _, 1, .int Rn.r, rfl, rfl, rfl, _, rfl, .inl ⟨_, _, rfl, rfl, _, rfl, (fun z => ?_), fun _ => ?_⟩⟩
      · have z' : (!decide (Rn.r = Rn.r)) = true := z
        rw [decide_eq_true rfl] at z'; cases z'
      refine ⟨_, rfl, _, _, rfl, rfl, _, rfl, _, _, rfl, rfl, _, _, rfl, rfl, _, rfl, (fun z => ?_), fun z => ⟨fun z => Bool.noConfusion z, fun _ => go7⟩⟩
      have hlt : i + 1 < rounds.length := by
        have z' := of_decide_eq_true z
        rw [List.length_map] at z'; omega
      obtain ⟨R2, a5⟩ := nextC hlt
      refine ⟨_, rfl, _, 0, .int c', rfl, rfl, rfl, _, rfl, _, rfl, _, _, rfl, rfl, _, _, _, rfl, rfl, a5, _, 3, .int c', rfl, rfl, rfl, .inl ⟨_, _, rfl, rfl, _, rfl, (fun z => ?_), fun _ => go7⟩⟩
      have z' : (!decide (c' = c')) = true := z
      rw [decide_eq_true rfl] at z'; cases z'
    refine ⟨_, rfl, _, rfl, _, _, rfl, rfl, _, _, rfl, rfl, _, rfl, (fun z => ?_), fun z => ?_⟩
    · have hlt : i < figs.length := by
        have z' := of_decide_eq_true z
        rw [List.length_map] at z'; omega
      have hl : 0 < l := by
        rcases Nat.eq_zero_or_pos l with h | h
        · have := L.f
          rw [h] at this
          exact absurd hlt (z_digs figs i this).1
        · exact h
      have := (nz_digs hb.1 hl figs i L.f).2.1
      refine ⟨_, rfl, _, rfl, _, _, .int ((l % P.base.natAbs : Nat) : Int), rfl, rfl, atI_nat (by rw [List.getElem?_map, this]; rfl), ?_⟩
      exact t5 _ _ _ rfl
    · have hlt : ¬ i < figs.length := by
        have z' := of_decide_eq_false z
        rw [List.length_map] at z'; omega
      have hl : l = 0 := by
        rcases Nat.eq_zero_or_pos l with h | h
        · exact h
        · exact absurd (nz_digs hb.1 h figs i L.f).1 hlt
      exact t5 _ _ _ (by rw [hl, Nat.zero_mod]; rfl)
theorem pure_law_right (ds : List DT) (μ : Mu) (Φ : PK) (Ψ : XKd) (h : sp_law_right ds μ Φ Ψ) : dRun (d_law_right Ψ) n_law_right ds μ Φ := by
  obtain ⟨P, n, e, m, ms, rfl, g, hms, hn, he, h⟩ := h
  have hb := g.base
  have hmo := g.modes
  have hn2 : n.natAbs < 2 ^ 2900 := Nat.lt_of_le_of_lt hn (Nat.lt_of_le_of_lt (Nat.pow_le_pow_right (by decide) he) (Nat.pow_lt_pow_right (by decide) (by decide)))
  have eb : (if P.base < 0 then -P.base else P.base) = (P.base.natAbs : Int) := by split <;> omega
  have esp : (1 : Int) - 2 * (if decide (P.base < 0) = true then 1 else 0) = spun P.base := rfl
  refine ⟨_, rfl, _, 0, .int P.base, rfl, rfl, rfl, _, rfl, _, rfl, _, 0, .int P.base, rfl, rfl, rfl, _, _, rfl, rfl, .inr ⟨_, rfl, _, _, rfl, rfl, .inl ⟨by decide, by decide⟩, _, _, rfl, rfl, _, _, rfl, ?_⟩⟩
  have t1 : ∀ z6 z7, z6 = (P.base.natAbs : Int) → z7 = spun P.base → d_law_right.t1 Ψ { nx := fun _ μ' => Φ .non μ', rt := Φ } [some (progD P), some (partsD P), some (.int n), none, none, none, some (.int z6), some (.int z7), none, none, none, none, none, none, none, none, none] μ := by
    intro z6 z7 e6 e7
    subst e6; subst e7
    refine ⟨_, rfl, _, rfl, P, n, e, m, ms, rfl, g, hms, hn, he, fun μ1 g1 => ?_⟩
    generalize hR : runP P (3 * P.modes.length + e) [] m n (firstVals P) = R
    have hrl : R.rounds.length ≤ 3000 := by
      rw [← hR]; exact Nat.le_trans (runP_len _ _ _ _ _) (by omega)
    have o3 : ∃ ds0, seqOf μ1 (outD R) = some ds0 ∧ atI ds0 3 = some (.lst (R.rounds.map rndL)) := by
      unfold outD
      cases R.how with
      | none => exact ⟨_, rfl, rfl⟩
      | some s => exact ⟨_, rfl, rfl⟩
    obtain ⟨ds0, o4, o5⟩ := o3
    refine ⟨ds0, 3, _, o4, rfl, o5, ?_⟩
    refine ⟨_, rfl, _, rfl, P, n, e, m, ms, rfl, g, hms, hn, he, fun μ2 g2 => ?_⟩
    rw [hR]
    have tl := toldOf_len P (decide (n ≠ 0)) R.rounds (sg n) n.natAbs
    refine ⟨_, rfl, _, _, rfl, rfl, _, rfl, _, _, rfl, rfl, .inl ⟨_, _, rfl, rfl, _, rfl, (fun z => ?_), fun _ => ?_⟩⟩
    · have z' : (!decide (((List.map toldD (toldOf P (decide (n ≠ 0)) R.rounds (sg n) n.natAbs)).length : Int) = ((R.rounds.map rndL).length : Int))) = true := z
      rw [decide_eq_true (by rw [List.length_map, List.length_map, tl])] at z'; cases z'
    refine ⟨_, rfl, _, rfl, n, P.base.natAbs, rfl, hb.1, hb.2, hn2, fun μ3 g3 => ⟨_, rfl, _, _, rfl, rfl, .inr ⟨_, rfl, _, _, rfl, rfl, .inl ⟨by decide, by decide⟩, _, _, rfl, rfl, _, _, rfl, ?_⟩⟩⟩
    have esg : (1 : Int) - 2 * (if decide (n < 0) = true then 1 else 0) = sg n := by
      unfold sg
      by_cases hz : n < 0
      · rw [decide_eq_true hz, if_pos hz]; rfl
      · rw [decide_eq_false hz, if_neg hz]; rfl
    have t5 : ∀ z9, z9 = sg n → d_law_right.t5 Ψ { nx := fun _ μ' => Φ .non μ', rt := Φ } [some (progD P), some (partsD P), some (.int n), some (.lst (R.rounds.map rndL)), some (.lst ((toldOf P (decide (n ≠ 0)) R.rounds (sg n) n.natAbs).map toldD)), none, some (.int P.base.natAbs), some (.int (spun P.base)), some (.tup ((digs P.base.natAbs n.natAbs).map .int)), some (.int z9), none, none, none, none, none, none, none] μ3 := by
      intro z9 e9
      subst e9
      refine ⟨_, rfl, _, _, rfl, rfl, _, rfl, by rw [List.length_map]; omega, by rw [List.length_map]; omega, ?_⟩
      rw [List.length_map, Int.toNat_natCast, rngD_zero]
      refine loop_law_right g (Nat.le_trans (digs_len hb.1 2900 _ hn2) (by decide)) hrl tl (h μ3 ((g1.trans g2).trans g3)) R.rounds.length 0 R.rounds (sg n) n.natAbs 0 _ _ _ _ _ _ _ _ (by omega) ⟨rfl, rfl, rfl, sg_cases n, ?_⟩
      rw [← hR]
      exact runP_carr g _ _ _ _ _ _ _ _ _ (by rw [hms]; exact .head _) (sg_cases n) (.inl rfl) (start_x n) fun hz => by
        have : n = 0 := by
          have hz' := of_decide_eq_false hz
          exact Classical.not_not.mp hz'
        subst this; exact ⟨rfl, rfl, rfl⟩
    exact t5 _ esg
  exact t1 _ _ eb esp

/-! ### _law_error -/
/-! ### _law_refused_right -/
def sp_law_refused_right : dSp := fun ds μ Φ _ => ∃ size : Int, ds = [.int size] ∧ (size = 2 ∨ size = 3 ∨ size = 4 ∨ size = 10) ∧ Φ (.bl true) μ
theorem len_law_refused_right (ds : List DT) (μ : Mu) (Φ : PK) (Ψ : XKd) (h : sp_law_refused_right ds μ Φ Ψ) : ds.length = 1 := by obtain ⟨_, rfl, _⟩ := h; rfl
theorem eqD_pair (a b : Str) : eqD (.lst [.str a, .str b]) (.lst [.str a, .str b]) = true := by
  simp [eqD, pyOf, pyAll, PyData.eqv, PyData.eqvAll]
/-- an error that is told as it should be -/
theorem refuse {cl : Told} {C f tag : Str} {v : DT} {env : DEnv} {μ : Mu} {De : dEnds} (hl : cl.lookup C = some (f, tag)) (pl : plainS v) (s1 : PyData.strOk tag = true) (s2 : PyData.strOk (pyOf v).shown = true) (hv : env[1]? = some (some v)) (hn : De.nx env μ) :
    errΨ cl (fun x μ1 => (dLst (dCons (dC (.str tag)) (dCons (dCB dRepr (dCons (dVar 1) dNil)) dNil))) env μ1 fun y μ2 => dNeD x y μ2 fun d μ3 => ∃ b, d = .bl b ∧ (b = true → (dRet (dC (.bl false))) De env μ3) ∧ (b = false → dNext De env μ3)) C [(f, v)] μ := by
  have o8 : ok8 (.lst [.str tag, .str (pyOf v).shown]) := by
    show (PyData.strOk tag && (PyData.strOk (pyOf v).shown && true)) = true
    rw [s1, s2]; rfl
  refine ⟨f, tag, v, hl, rfl, pl, v, hv, v, rfl, pl, by walk_at "sw_nn", o8, o8, _, rfl, fun c => ?_, fun _ => hn⟩
  have c' : (!eqD (.lst [.str tag, .str (pyOf v).shown]) (.lst [.str tag, .str (pyOf v).shown])) = true := c
  rw [eqD_pair] at c'; cases c'
/-- a walk over written values -/
theorem loop_vals {db : dS} {De : dEnds} {S : DT} {μ : Mu} : ∀ (vs : List DT) (x : Option DT), (∀ v ∈ vs, ∀ De' : dEnds, De'.nx [some S, some v] μ → db De' [some S, some v] μ) → (∀ x, De.nx [some S, x] μ) → dLoop (dName 1) db De vs [some S, x] μ
  | [], x, _, k => k x
  | v :: vs, x, h, k => h v (.head _) _ (loop_vals vs (some v) (fun u hu => h u (.tail _ hu)) k)
theorem kinds_non {μ : Mu} {d : DT} (h : ∀ zs, d ≠ .tup zs) : Kinds μ d := fun zs e => absurd e (h zs)
def d_law_refused_right.L1 (Ψ : XKd) : dS := (dIf (dTest (dOp dNeD (dLamErr cl_law_error fun Ψ => (dCall Ψ sp_figures_of (dCons (dVar 1) (dCons (dC .non) dNil)))) (dLst (dCons (dC (.str "number")) (dCons (dCB dRepr (dCons (dVar 1) dNil)) dNil))))) (dRet (dC (.bl false))) dNext)
def d_law_refused_right.L2t1 (Ψ : XKd) : dS := (dIf (dTest (dOp dNeD (dLamErr cl_law_error fun Ψ => (dCall Ψ sp_number_of (dCons (dC (.int 1)) (dCons (dC .non) (dCons (dVar 1) dNil))))) (dLst (dCons (dC (.str "base")) (dCons (dCB dRepr (dCons (dVar 1) dNil)) dNil))))) (dRet (dC (.bl false))) dNext)
def d_law_refused_right.L2 (Ψ : XKd) : dS := (dSeq (dIf (dTest (dOp dNeD (dLamErr cl_law_error fun Ψ => (dCall Ψ sp_figures_of (dCons (dC (.int 5)) (dCons (dVar 1) dNil)))) (dLst (dCons (dC (.str "base")) (dCons (dCB dRepr (dCons (dVar 1) dNil)) dNil))))) (dRet (dC (.bl false))) dNext) (d_law_refused_right.L2t1 Ψ))
def d_law_refused_right.L3 (Ψ : XKd) : dS := (dIf (dTest (dOp dNeD (dLamErr cl_law_error fun Ψ => (dCall Ψ sp_number_of (dCons (dVar 1) (dCons (dC .non) (dCons (dC .non) dNil))))) (dLst (dCons (dC (.str "sign")) (dCons (dCB dRepr (dCons (dVar 1) dNil)) dNil))))) (dRet (dC (.bl false))) dNext)
def d_law_refused_right.L4 (Ψ : XKd) : dS := (dIf (dTest (dOp dNeD (dLamErr cl_law_error fun Ψ => (dCall Ψ sp_number_of (dCons (dUn dNeg (dC (.int 1))) (dCons (dVar 1) (dCons (dVar 0) dNil))))) (dLst (dCons (dC (.str "figures")) (dCons (dCB dRepr (dCons (dVar 1) dNil)) dNil))))) (dRet (dC (.bl false))) dNext)
def d_law_refused_right.t4 (Ψ : XKd) : dS := (dRet (dOp dEq (dCall noX sp_number_of (dCons (dUn dNeg (dC (.int 1))) (dCons (dTup dNil) (dCons (dVar 0) dNil)))) (dC (.int 0))))
def d_law_refused_right.t3 (Ψ : XKd) : dS := (dSeq (dFor (dIList (dLst (dCons (dC .non) (dCons (dC (.int 5)) (dCons (dLst (dCons (dC (.int 1)) dNil)) (dCons (dTup (dCons (dC (.int 0)) dNil)) (dCons (dTup (dCons (dC (.int 1)) (dCons (dC (.int 0)) dNil))) (dCons (dTup (dCons (dVar 0) dNil)) (dCons (dTup (dCons (dUn dNeg (dC (.int 1))) dNil)) (dCons (dTup (dCons (dC (.bl true)) dNil)) (dCons (dTup (dCons (dC (.int 1)) (dCons (dC (.str "1")) dNil))) (dCons (dTup (dCons (dTup (dCons (dC (.int 1)) dNil)) dNil)) dNil)))))))))))) (dName 1) (d_law_refused_right.L4 Ψ)) (d_law_refused_right.t4 Ψ))
def d_law_refused_right.t2 (Ψ : XKd) : dS := (dSeq (dFor (dIList (dLst (dCons (dC .non) (dCons (dC (.int 0)) (dCons (dC (.int 2)) (dCons (dC (.bl true)) (dCons (dC (.str "1")) dNil))))))) (dName 1) (d_law_refused_right.L3 Ψ)) (d_law_refused_right.t3 Ψ))
def d_law_refused_right.t1 (Ψ : XKd) : dS := (dSeq (dFor (dIList (dLst (dCons (dC .non) (dCons (dC (.int 1)) (dCons (dC (.int 11)) (dCons (dC (.bl true)) (dCons (dUn dNeg (dC (.int 2))) (dCons (dC (.str "2")) dNil)))))))) (dName 1) (d_law_refused_right.L2 Ψ)) (d_law_refused_right.t2 Ψ))
def n_law_refused_right : List Str := ["size", "value"]
def t_law_refused_right (K : Kit) (E : XK) : TS := (tSeq (tFor (iList K (tLst (tCons (tC .non) (tCons (tC (.bl true)) (tCons (tC (.str "5")) (tCons (tLst (tCons (tC (.int 5)) tNil)) tNil)))))) (gName 1) (tIfS (tTest (tOp (rNeD K) (LamX.tLam K.T (TErr K cl_law_error) fun E => (tCall (lift K sp_figures_of) [] E (tCons (tVar 1) (tCons (tC .non) tNil)))) (tLst (tCons (tC (.str "number")) (tCons (tCB (rRepr K) (tCons (tVar 1) tNil)) tNil))))) (tRet (tC (.bl false))) tNext)) (tSeq (tFor (iList K (tLst (tCons (tC .non) (tCons (tC (.int 1)) (tCons (tC (.int 11)) (tCons (tC (.bl true)) (tCons (tUn oNeg (tC (.int 2))) (tCons (tC (.str "2")) tNil)))))))) (gName 1) (tSeq (tIfS (tTest (tOp (rNeD K) (LamX.tLam K.T (TErr K cl_law_error) fun E => (tCall (lift K sp_figures_of) [] E (tCons (tC (.int 5)) (tCons (tVar 1) tNil)))) (tLst (tCons (tC (.str "base")) (tCons (tCB (rRepr K) (tCons (tVar 1) tNil)) tNil))))) (tRet (tC (.bl false))) tNext) (tIfS (tTest (tOp (rNeD K) (LamX.tLam K.T (TErr K cl_law_error) fun E => (tCall (lift K sp_number_of) [] E (tCons (tC (.int 1)) (tCons (tC .non) (tCons (tVar 1) tNil))))) (tLst (tCons (tC (.str "base")) (tCons (tCB (rRepr K) (tCons (tVar 1) tNil)) tNil))))) (tRet (tC (.bl false))) tNext))) (tSeq (tFor (iList K (tLst (tCons (tC .non) (tCons (tC (.int 0)) (tCons (tC (.int 2)) (tCons (tC (.bl true)) (tCons (tC (.str "1")) tNil))))))) (gName 1) (tIfS (tTest (tOp (rNeD K) (LamX.tLam K.T (TErr K cl_law_error) fun E => (tCall (lift K sp_number_of) [] E (tCons (tVar 1) (tCons (tC .non) (tCons (tC .non) tNil))))) (tLst (tCons (tC (.str "sign")) (tCons (tCB (rRepr K) (tCons (tVar 1) tNil)) tNil))))) (tRet (tC (.bl false))) tNext)) (tSeq (tFor (iList K (tLst (tCons (tC .non) (tCons (tC (.int 5)) (tCons (tLst (tCons (tC (.int 1)) tNil)) (tCons (tTup (tCons (tC (.int 0)) tNil)) (tCons (tTup (tCons (tC (.int 1)) (tCons (tC (.int 0)) tNil))) (tCons (tTup (tCons (tVar 0) tNil)) (tCons (tTup (tCons (tUn oNeg (tC (.int 1))) tNil)) (tCons (tTup (tCons (tC (.bl true)) tNil)) (tCons (tTup (tCons (tC (.int 1)) (tCons (tC (.str "1")) tNil))) (tCons (tTup (tCons (tTup (tCons (tC (.int 1)) tNil)) tNil)) tNil)))))))))))) (gName 1) (tIfS (tTest (tOp (rNeD K) (LamX.tLam K.T (TErr K cl_law_error) fun E => (tCall (lift K sp_number_of) [] E (tCons (tUn oNeg (tC (.int 1))) (tCons (tVar 1) (tCons (tVar 0) tNil))))) (tLst (tCons (tC (.str "figures")) (tCons (tCB (rRepr K) (tCons (tVar 1) tNil)) tNil))))) (tRet (tC (.bl false))) tNext)) (tRet (tOp rEq (tCall (lift K sp_number_of) [] E0 (tCons (tUn oNeg (tC (.int 1))) (tCons (tTup tNil) (tCons (tVar 0) tNil)))) (tC (.int 0))))))))
def d_law_refused_right (Ψ : XKd) : dS := (dSeq (dFor (dIList (dLst (dCons (dC .non) (dCons (dC (.bl true)) (dCons (dC (.str "5")) (dCons (dLst (dCons (dC (.int 5)) dNil)) dNil)))))) (dName 1) (d_law_refused_right.L1 Ψ)) (d_law_refused_right.t1 Ψ))
theorem r_law_refused_right {K : Kit} (tx_law_error : ToldOk K cl_law_error) (E : XK) (Ψ : XKd) : RS ⟨K, E, Ψ⟩ (t_law_refused_right K E) (d_law_refused_right Ψ) := (rs_seq (rs_for (ri_list (re_lst (ra_cons re_non (ra_cons re_bl (ra_cons re_str (ra_cons (re_lst (ra_cons re_int ra_nil)) ra_nil)))))) (rg_name (vs := [1]) (by decide)) (rs_if (rt_test (re_op ro_neD (re_lamErr tx_law_error fun E Ψ => (re_callX (ra_cons re_var (ra_cons re_non ra_nil)))) (re_lst (ra_cons re_str (ra_cons (re_cb rc_repr (ra_cons re_var ra_nil)) ra_nil))))) (rs_ret re_bl) rs_next)) (rs_seq (rs_for (ri_list (re_lst (ra_cons re_non (ra_cons re_int (ra_cons re_int (ra_cons re_bl (ra_cons (re_un ru_neg re_int) (ra_cons re_str ra_nil)))))))) (rg_name (vs := [1]) (by decide)) (rs_seq (rs_if (rt_test (re_op ro_neD (re_lamErr tx_law_error fun E Ψ => (re_callX (ra_cons re_int (ra_cons re_var ra_nil)))) (re_lst (ra_cons re_str (ra_cons (re_cb rc_repr (ra_cons re_var ra_nil)) ra_nil))))) (rs_ret re_bl) rs_next) (rs_if (rt_test (re_op ro_neD (re_lamErr tx_law_error fun E Ψ => (re_callX (ra_cons re_int (ra_cons re_non (ra_cons re_var ra_nil))))) (re_lst (ra_cons re_str (ra_cons (re_cb rc_repr (ra_cons re_var ra_nil)) ra_nil))))) (rs_ret re_bl) rs_next))) (rs_seq (rs_for (ri_list (re_lst (ra_cons re_non (ra_cons re_int (ra_cons re_int (ra_cons re_bl (ra_cons re_str ra_nil))))))) (rg_name (vs := [1]) (by decide)) (rs_if (rt_test (re_op ro_neD (re_lamErr tx_law_error fun E Ψ => (re_callX (ra_cons re_var (ra_cons re_non (ra_cons re_non ra_nil))))) (re_lst (ra_cons re_str (ra_cons (re_cb rc_repr (ra_cons re_var ra_nil)) ra_nil))))) (rs_ret re_bl) rs_next)) (rs_seq (rs_for (ri_list (re_lst (ra_cons re_non (ra_cons re_int (ra_cons (re_lst (ra_cons re_int ra_nil)) (ra_cons (re_tup (ra_cons re_int ra_nil)) (ra_cons (re_tup (ra_cons re_int (ra_cons re_int ra_nil))) (ra_cons (re_tup (ra_cons re_var ra_nil)) (ra_cons (re_tup (ra_cons (re_un ru_neg re_int) ra_nil)) (ra_cons (re_tup (ra_cons re_bl ra_nil)) (ra_cons (re_tup (ra_cons re_int (ra_cons re_str ra_nil))) (ra_cons (re_tup (ra_cons (re_tup (ra_cons re_int ra_nil)) ra_nil)) ra_nil)))))))))))) (rg_name (vs := [1]) (by decide)) (rs_if (rt_test (re_op ro_neD (re_lamErr tx_law_error fun E Ψ => (re_callX (ra_cons (re_un ru_neg re_int) (ra_cons re_var (ra_cons re_var ra_nil))))) (re_lst (ra_cons re_str (ra_cons (re_cb rc_repr (ra_cons re_var ra_nil)) ra_nil))))) (rs_ret re_bl) rs_next)) (rs_ret (re_op ro_eq (re_call (ra_cons (re_un ru_neg re_int) (ra_cons (re_tup ra_nil) (ra_cons re_var ra_nil)))) re_int))))))

theorem step1 {Ψ : XKd} {S v : DT} {μ : Mu} {De : dEnds} {t : String} (hv : tyOf μ v = some t) (hi : isIntD v = false) (pl : plainS v) (ss : PyData.strOk (pyOf v).shown = true) (k : De.nx [some S, some v] μ) : d_law_refused_right.L1 Ψ De [some S, some v] μ := by
  refine ⟨_, rfl, v, .non, t, "NoneType", rfl, hv, rfl, fun _ => ?_, fun c => ?_, fun n b e => ?_⟩
  · exact refuse rfl pl (by decide +kernel) ss rfl k
  · rw [hi] at c; cases c
  · subst e; cases hi
theorem step2 {Ψ : XKd} {S v : DT} {μ : Mu} {De : dEnds} {t : String} (hv : tyOf μ v = some t) (hi : isBetD v 2 10 = false) (hi2 : ∀ b : Int, v = .int b → 2 ≤ b → b ≤ 10 → False) (pl : plainS v) (ss : PyData.strOk (pyOf v).shown = true) (k : De.nx [some S, some v] μ) : d_law_refused_right.L2 Ψ De [some S, some v] μ := by
  refine ⟨_, rfl, .int 5, v, "int", t, rfl, rfl, hv, fun c => ?_, fun _ _ => ?_, fun n b _ e2 b1 b2 => ?_⟩
  · cases c
  · refine refuse rfl pl (by decide +kernel) ss rfl ?_
    refine ⟨_, rfl, .int 1, .non, v, "NoneType", t, "int", rfl, rfl, rfl, hv, kinds_non (fun zs e => by cases e), fun c => ?_, fun _ _ => ?_, fun b _ e b1 b2 _ => ?_, fun i fs b _ e => ?_⟩
    · cases c
    · exact refuse rfl pl (by decide +kernel) ss rfl k
    · exact (hi2 b e b1 b2).elim
    · cases e
  · exact (hi2 b e2 (by omega) (by omega)).elim
theorem step3 {Ψ : XKd} {S v : DT} {μ : Mu} {De : dEnds} {t : String} (hv : tyOf μ v = some t) (hi : isSignD v = false) (pl : plainS v) (ss : PyData.strOk (pyOf v).shown = true) (k : De.nx [some S, some v] μ) : d_law_refused_right.L3 Ψ De [some S, some v] μ := by
  refine ⟨_, rfl, v, .non, .non, "NoneType", "NoneType", t, rfl, hv, rfl, rfl, kinds_non (fun zs e => by cases e), fun _ => ?_, fun c => ?_, fun b c => ?_, fun i fs b _ e => ?_⟩
  · exact refuse rfl pl (by decide +kernel) ss rfl k
  · rw [hi] at c; cases c
  · rw [hi] at c; cases c
  · cases e
theorem step4 {Ψ : XKd} {v : DT} {s : Int} {μ : Mu} {De : dEnds} {t : String} (hs : 2 ≤ s ∧ s ≤ 10) (hv : tyOf μ v = some t) (hk : Kinds μ v) (hi : wholeD v s = false) (pl : plainS v) (ss : PyData.strOk (pyOf v).shown = true) (k : De.nx [some (.int s), some v] μ) : d_law_refused_right.L4 Ψ De [some (.int s), some v] μ := by
  refine ⟨_, rfl, _, rfl, _, rfl, .int (-1), v, .int s, t, "int", "int", rfl, rfl, hv, rfl, hk, fun c => ?_, fun _ c => ?_, fun b _ e b1 b2 _ => ?_, fun i fs b _ _ e b1 b2 c => ?_⟩
  · cases c
  · have c' : (decide ((2 : Int) ≤ s) && decide (s ≤ 10)) = false := c
    rw [decide_eq_true hs.1, decide_eq_true hs.2] at c'; cases c'
  · exact refuse rfl pl (by decide +kernel) ss rfl k
  · cases e
    rw [hi] at c; cases c
theorem kinds_tup {μ : Mu} {ds : List DT} (h : ds.length ≤ 5000) (hs : ∀ x ∈ ds, ∃ t, tyOf μ x = some t) : Kinds μ (.tup ds) := fun zs e => by cases e; exact ⟨h, hs⟩
theorem vals4 {Ψ : XKd} {s : Int} {μ : Mu} {De : dEnds} (hs : s = 2 ∨ s = 3 ∨ s = 4 ∨ s = 10) (v : DT) (hv : v ∈ [DT.non, .int 5, .lst [.int 1], .tup [.int 0], .tup [.int 1, .int 0], .tup [.int s], .tup [.int (-1)], .tup [.bl true], .tup [.int 1, .str "1"], .tup [.tup [.int 1]]]) (k : De.nx [some (.int s), some v] μ) : d_law_refused_right.L4 Ψ De [some (.int s), some v] μ := by
  have h2 : 2 ≤ s ∧ s ≤ 10 := by omega
  have one : ∀ x : DT, (∃ t, tyOf μ x = some t) → Kinds μ (.tup [x]) := fun x hx => kinds_tup (by simp) fun y hy => by rw [List.mem_singleton.mp hy]; exact hx
  have two : ∀ x y : DT, (∃ t, tyOf μ x = some t) → (∃ t, tyOf μ y = some t) → Kinds μ (.tup [x, y]) := fun x y hx hy => kinds_tup (by simp) fun z hz => by
    rcases List.mem_cons.mp hz with rfl | hz
    · exact hx
    · rw [List.mem_singleton.mp hz]; exact hy
  simp only [List.mem_cons, List.not_mem_nil, or_false] at hv
  rcases hv with rfl | rfl | rfl | rfl | rfl | rfl | rfl | rfl | rfl | rfl
  · exact step4 h2 rfl (kinds_non fun zs e => by cases e) rfl ⟨by decide +kernel, by decide +kernel, by decide +kernel⟩ (by decide +kernel) k
  · exact step4 h2 rfl (kinds_non fun zs e => by cases e) rfl ⟨by decide +kernel, by decide +kernel, by decide +kernel⟩ (by decide +kernel) k
  · exact step4 h2 rfl (kinds_non fun zs e => by cases e) rfl ⟨by decide +kernel, by decide +kernel, by decide +kernel⟩ (by decide +kernel) k
  · exact step4 h2 rfl (one _ ⟨_, rfl⟩) (by rcases hs with rfl | rfl | rfl | rfl <;> decide) ⟨by decide +kernel, by decide +kernel, by decide +kernel⟩ (by decide +kernel) k
  · exact step4 h2 rfl (two _ _ ⟨_, rfl⟩ ⟨_, rfl⟩) (by rcases hs with rfl | rfl | rfl | rfl <;> decide) ⟨by decide +kernel, by decide +kernel, by decide +kernel⟩ (by decide +kernel) k
  · refine step4 h2 rfl (one _ ⟨_, rfl⟩) (by rcases hs with rfl | rfl | rfl | rfl <;> decide) ⟨by rcases hs with rfl | rfl | rfl | rfl <;> decide +kernel, by rcases hs with rfl | rfl | rfl | rfl <;> decide +kernel, by rcases hs with rfl | rfl | rfl | rfl <;> decide +kernel⟩ (by rcases hs with rfl | rfl | rfl | rfl <;> decide +kernel) k
  · exact step4 h2 rfl (one _ ⟨_, rfl⟩) (by rcases hs with rfl | rfl | rfl | rfl <;> decide) ⟨by decide +kernel, by decide +kernel, by decide +kernel⟩ (by decide +kernel) k
  · exact step4 h2 rfl (one _ ⟨_, rfl⟩) (by rcases hs with rfl | rfl | rfl | rfl <;> decide) ⟨by decide +kernel, by decide +kernel, by decide +kernel⟩ (by decide +kernel) k
  · exact step4 h2 rfl (two _ _ ⟨_, rfl⟩ ⟨_, rfl⟩) (by rcases hs with rfl | rfl | rfl | rfl <;> decide) ⟨by decide +kernel, by decide +kernel, by decide +kernel⟩ (by decide +kernel) k
  · exact step4 h2 rfl (one _ ⟨_, rfl⟩) (by rcases hs with rfl | rfl | rfl | rfl <;> decide) ⟨by decide +kernel, by decide +kernel, by decide +kernel⟩ (by decide +kernel) k
theorem pure_law_refused_right (ds : List DT) (μ : Mu) (Φ : PK) (Ψ : XKd) (h : sp_law_refused_right ds μ Φ Ψ) : dRun (d_law_refused_right Ψ) n_law_refused_right ds μ Φ := by
  obtain ⟨s, rfl, hs, h⟩ := h
  have h2 : 2 ≤ s ∧ s ≤ 10 := by omega
  refine ⟨by walk_at "sw_nn", by walk_at "sw_nn", _, rfl, ?_⟩
  refine loop_vals _ none (fun v hv De' k => ?_) fun x1 => ?_
  · simp only [List.mem_cons, List.not_mem_nil, or_false] at hv
    rcases hv with rfl | rfl | rfl | rfl
    · exact step1 rfl rfl ⟨by decide +kernel, by decide +kernel, by decide +kernel⟩ (by decide +kernel) k
    · exact step1 rfl rfl ⟨by decide +kernel, by decide +kernel, by decide +kernel⟩ (by decide +kernel) k
    · exact step1 rfl rfl ⟨by decide +kernel, by decide +kernel, by decide +kernel⟩ (by decide +kernel) k
    · exact step1 rfl rfl ⟨by decide +kernel, by decide +kernel, by decide +kernel⟩ (by decide +kernel) k
  refine ⟨_, rfl, by walk_at "sw_nn", _, rfl, ?_⟩
  refine loop_vals _ x1 (fun v hv De' k => ?_) fun x2 => ?_
  · simp only [List.mem_cons, List.not_mem_nil, or_false] at hv
    rcases hv with rfl | rfl | rfl | rfl | rfl | rfl
    · exact step2 rfl rfl (fun b e => by cases e) ⟨by decide +kernel, by decide +kernel, by decide +kernel⟩ (by decide +kernel) k
    · exact step2 rfl (by decide) (fun b e b1 b2 => by cases e; omega) ⟨by decide +kernel, by decide +kernel, by decide +kernel⟩ (by decide +kernel) k
    · exact step2 rfl (by decide) (fun b e b1 b2 => by cases e; omega) ⟨by decide +kernel, by decide +kernel, by decide +kernel⟩ (by decide +kernel) k
    · exact step2 rfl rfl (fun b e => by cases e) ⟨by decide +kernel, by decide +kernel, by decide +kernel⟩ (by decide +kernel) k
    · exact step2 rfl (by decide) (fun b e b1 b2 => by cases e; omega) ⟨by decide +kernel, by decide +kernel, by decide +kernel⟩ (by decide +kernel) k
    · exact step2 rfl rfl (fun b e => by cases e) ⟨by decide +kernel, by decide +kernel, by decide +kernel⟩ (by decide +kernel) k
  refine ⟨by walk_at "sw_nn", _, rfl, ?_⟩
  refine loop_vals _ x2 (fun v hv De' k => ?_) fun x3 => ?_
  · simp only [List.mem_cons, List.not_mem_nil, or_false] at hv
    rcases hv with rfl | rfl | rfl | rfl | rfl
    · exact step3 rfl rfl ⟨by decide +kernel, by decide +kernel, by decide +kernel⟩ (by decide +kernel) k
    · exact step3 rfl (by decide) ⟨by decide +kernel, by decide +kernel, by decide +kernel⟩ (by decide +kernel) k
    · exact step3 rfl (by decide) ⟨by decide +kernel, by decide +kernel, by decide +kernel⟩ (by decide +kernel) k
    · exact step3 rfl rfl ⟨by decide +kernel, by decide +kernel, by decide +kernel⟩ (by decide +kernel) k
    · exact step3 rfl rfl ⟨by decide +kernel, by decide +kernel, by decide +kernel⟩ (by decide +kernel) k
  refine ⟨by walk_at "sw_nn", by walk_at "sw_nn", by walk_at "sw_nn", _, rfl, by walk_at "sw_nn", _, rfl, by walk_at "sw_nn", by walk_at "sw_nn", by walk_at "sw_nn", by walk_at "sw_nn", by walk_at "sw_nn", by walk_at "sw_nn", _, rfl, ?_⟩
  refine loop_vals _ x3 (fun v hv De' k => vals4 hs v hv k) fun x4 => ?_
  refine ⟨_, rfl, by walk_at "sw_nn", _, rfl, .int (-1), .tup [], .int s, "tuple", "int", "int", rfl, rfl, rfl, rfl, kinds_tup (by decide) (fun x hx => by cases hx), fun c => ?_, fun _ c => ?_, fun b _ e b1 b2 c => ?_, fun i fs b e1 e2 e3 b1 b2 _ => ?_⟩
  · cases c
  · have c' : (decide ((2 : Int) ≤ s) && decide (s ≤ 10)) = false := c
    rw [decide_eq_true h2.1, decide_eq_true h2.2] at c'; cases c'
  · cases c
  · cases e1
    have e4 : fs = [] := by
      injection e2 with e2
      cases fs with
      | nil => rfl
      | cons a l => cases e2
    subst e4
    refine .inl ⟨_, _, rfl, rfl, ?_⟩
    exact h

/-! ### law -/
def sp_law : dSp := fun ds μ Φ _ => ∃ ns : List Int, ds = [.scr ns] ∧ ns.length ≤ 63 ∧ ∀ μ', Φ (.bl true) μ'
theorem len_law (ds : List DT) (μ : Mu) (Φ : PK) (Ψ : XKd) (h : sp_law ds μ Φ Ψ) : ds.length = 1 := by obtain ⟨_, rfl, _⟩ := h; rfl
theorem eqAll_ints : ∀ ns : List Int, PyData.eqvAll (pyAll (ns.map .int)) (pyAll (ns.map .int)) = true
  | [] => rfl
  | n :: ns => by
    show (PyData.eqv (.int n) (.int n) && PyData.eqvAll (pyAll (ns.map .int)) (pyAll (ns.map .int))) = true
    rw [eqAll_ints ns]; simp [PyData.eqv]
theorem eqD_ints (ns : List Int) : eqD (.tup (ns.map .int)) (.tup (ns.map .int)) = true := eqAll_ints ns
theorem Grow.pool {p : Addr} {μ μ' : Mu} (g : Grow μ μ') (h : Pool μ p) : Pool μ' p := by
  obtain ⟨c, s, e, r⟩ := h
  exact ⟨c, s, g p _ e, r⟩
def d_law.c1 (Ψ : XKd) : dE := (dCall noX sp_law_number (dCons (dVar 2) dNil))
def d_law.L2t4 (Ψ : XKd) : dS := (dIf (dNot (dTest (dCall noX sp_law_right (dCons (dVar 6) (dCons (dVar 3) (dCons (dVar 5) dNil)))))) (dRet (dC (.bl false))) dNext)
def d_law.L2t3 (Ψ : XKd) : dS := (dSeq (dIf (dTest (dOp dNe (dCall noX sp_number_of (dCons (dVar 9) (dCons (dVar 8) (dCons (dVar 7) dNil)))) (dVar 5))) (dRet (dC (.bl false))) dNext) (d_law.L2t4 Ψ))
def d_law.L2t2 (Ψ : XKd) : dS := (dSeq (dAsg (dOp dSub (dC (.int 1)) (dOp dMul (dC (.int 2)) (dCB dInt (dCons (dOp dLt (dVar 5) (dC (.int 0))) dNil)))) (dName 9)) (d_law.L2t3 Ψ))
def d_law.L2t1 (Ψ : XKd) : dS := (dSeq (dIf (dTest (dOp dNeD (dCall noX sp_figures_of (dCons (dVar 5) (dCons (dVar 7) dNil))) (dVar 8))) (dRet (dC (.bl false))) dNext) (d_law.L2t2 Ψ))
def d_law.L2 (Ψ : XKd) : dS := (dSeq (dAsg (dCall noX sp_law_figures (dCons (dVar 5) (dCons (dVar 7) dNil))) (dName 8)) (d_law.L2t1 Ψ))
def d_law.L1t5 (Ψ : XKd) : dS := (dIf (dNot (dTest (dCall noX sp_law_refused_right (dCons (dVar 7) dNil)))) (dRet (dC (.bl false))) dNext)
def d_law.L1t4 (Ψ : XKd) : dS := (dSeq (dFor (dIList (dVar 4)) (dName 5) (d_law.L2 Ψ)) (d_law.L1t5 Ψ))
def d_law.L1t3 (Ψ : XKd) : dS := (dSeq (dAsg (dOp dCatL (dLst (dCons (dC (.int 0)) (dCons (dC (.int 1)) (dCons (dUn dNeg (dC (.int 1))) (dCons (dVar 7) (dCons (dOp dSub (dC (.int 0)) (dVar 7)) (dCons (dOp dSub (dOp dMul (dVar 7) (dVar 7)) (dC (.int 1))) dNil))))))) (dLc (dIRng1 (dCons (dC (.int 10)) dNil)) (dName 10) dYes (d_law.c1 Ψ) [10])) (dName 4)) (d_law.L1t4 Ψ))
def d_law.L1t2 (Ψ : XKd) : dS := (dSeq (dPar 6 7 (dCons (dCall noX sp_law_made (dCons (dVar 3) dNil)) (dCons (dCB dAbs (dCons (dOp dIx (dVar 3) (dC (.int 0))) dNil)) dNil))) (d_law.L1t3 Ψ))
def d_law.L1t1 (Ψ : XKd) : dS := (dSeq (dAsg (dCall noX sp_law_parts (dCons (dVar 2) (dCons (dLst (dCons (dC (.int 2)) (dCons (dC (.int 3)) (dCons (dC (.int 4)) (dCons (dC (.int 10)) dNil))))) (dCons (dC (.int 3)) dNil)))) (dName 3)) (d_law.L1t2 Ψ))
def d_law.L1 (Ψ : XKd) : dS := (dSeq (dAsg (dCall noX sp_law_pool (dCons (dVar 0) (dCons (dVar 1) dNil))) (dName 2)) (d_law.L1t1 Ψ))
def d_law.t1 (Ψ : XKd) : dS := (dRet (dC (.bl true)))
def n_law : List Str := ["script", "k", "pool", "parts", "numbers", "number", "one", "size", "figures", "sign", "turn"]
def t_law (K : Kit) (E : XK) : TS := (tSeq (tFor (iRng1 (tCons (tCB bMax2 (tCons (tC (.int 1)) (tCons (tCB bMin2 (tCons (tCB (bLen K) (tCons (tVar 0) tNil)) (tCons (tC (.int 6)) tNil))) tNil))) tNil)) (gName 1) (tSeq (tAsg (tCall (lift K sp_law_pool) [] E0 (tCons (tVar 0) (tCons (tVar 1) tNil))) (gName 2)) (tSeq (tAsg (tCall (lift K sp_law_parts) [] E0 (tCons (tVar 2) (tCons (tLst (tCons (tC (.int 2)) (tCons (tC (.int 3)) (tCons (tC (.int 4)) (tCons (tC (.int 10)) tNil))))) (tCons (tC (.int 3)) tNil)))) (gName 3)) (tSeq (tPar 6 7 (tCons (tCall (lift K sp_law_made) [] E0 (tCons (tVar 3) tNil)) (tCons (tCB bAbs (tCons (tOp (rIx K) (tVar 3) (tC (.int 0))) tNil)) tNil))) (tSeq (tAsg (tOp rCat (tLst (tCons (tC (.int 0)) (tCons (tC (.int 1)) (tCons (tUn oNeg (tC (.int 1))) (tCons (tVar 7) (tCons (tOp oSub (tC (.int 0)) (tVar 7)) (tCons (tOp oSub (tOp oMul (tVar 7) (tVar 7)) (tC (.int 1))) tNil))))))) (tLc (iRng1 (tCons (tC (.int 10)) tNil)) (gName 10) tYes (tCall (lift K sp_law_number) [] E0 (tCons (tVar 2) tNil)) [10])) (gName 4)) (tSeq (tFor (iList K (tVar 4)) (gName 5) (tSeq (tAsg (tCall (lift K sp_law_figures) [] E0 (tCons (tVar 5) (tCons (tVar 7) tNil))) (gName 8)) (tSeq (tIfS (tTest (tOp (rNeD K) (tCall (lift K sp_figures_of) [] E0 (tCons (tVar 5) (tCons (tVar 7) tNil))) (tVar 8))) (tRet (tC (.bl false))) tNext) (tSeq (tAsg (tOp oSub (tC (.int 1)) (tOp oMul (tC (.int 2)) (tCB bInt (tCons (tOp oLt (tVar 5) (tC (.int 0))) tNil)))) (gName 9)) (tSeq (tIfS (tTest (tOp rNe (tCall (lift K sp_number_of) [] E0 (tCons (tVar 9) (tCons (tVar 8) (tCons (tVar 7) tNil)))) (tVar 5))) (tRet (tC (.bl false))) tNext) (tIfS (tNot (tB (tCall (lift K sp_law_right) [] E0 (tCons (tVar 6) (tCons (tVar 3) (tCons (tVar 5) tNil)))))) (tRet (tC (.bl false))) tNext)))))) (tIfS (tNot (tB (tCall (lift K sp_law_refused_right) [] E0 (tCons (tVar 7) tNil)))) (tRet (tC (.bl false))) tNext))))))) (tRet (tC (.bl true))))
def d_law (Ψ : XKd) : dS := (dSeq (dFor (dIRng1 (dCons (dCB dMax2 (dCons (dC (.int 1)) (dCons (dCB dMin2 (dCons (dCB dLen (dCons (dVar 0) dNil)) (dCons (dC (.int 6)) dNil))) dNil))) dNil)) (dName 1) (d_law.L1 Ψ)) (d_law.t1 Ψ))
theorem r_law {K : Kit} (E : XK) (Ψ : XKd) : RS ⟨K, E, Ψ⟩ (t_law K E) (d_law Ψ) := (rs_seq (rs_for (ri_rng1 (ra_cons (re_cb rc_max2 (ra_cons re_int (ra_cons (re_cb rc_min2 (ra_cons (re_cb rc_len (ra_cons re_var ra_nil)) (ra_cons re_int ra_nil))) ra_nil))) ra_nil)) (rg_name (vs := [1]) (by decide)) (rs_seq (rs_asg (re_call (ra_cons re_var (ra_cons re_var ra_nil))) (rg_name (vs := [2]) (by decide))) (rs_seq (rs_asg (re_call (ra_cons re_var (ra_cons (re_lst (ra_cons re_int (ra_cons re_int (ra_cons re_int (ra_cons re_int ra_nil))))) (ra_cons re_int ra_nil)))) (rg_name (vs := [3]) (by decide))) (rs_seq (rs_par (ra_cons (re_call (ra_cons re_var ra_nil)) (ra_cons (re_cb rc_abs (ra_cons (re_op ro_ix re_var re_int) ra_nil)) ra_nil))) (rs_seq (rs_asg (re_op ro_catL (re_lst (ra_cons re_int (ra_cons re_int (ra_cons (re_un ru_neg re_int) (ra_cons re_var (ra_cons (re_op ro_sub re_int re_var) (ra_cons (re_op ro_sub (re_op ro_mul re_var re_var) re_int) ra_nil))))))) (re_lc (vs := [10]) (ri_rng1 (ra_cons re_int ra_nil)) (rg_name (by decide)) rt_yes (re_call (ra_cons re_var ra_nil)))) (rg_name (vs := [4]) (by decide))) (rs_seq (rs_for (ri_list re_var) (rg_name (vs := [5]) (by decide)) (rs_seq (rs_asg (re_call (ra_cons re_var (ra_cons re_var ra_nil))) (rg_name (vs := [8]) (by decide))) (rs_seq (rs_if (rt_test (re_op ro_neD (re_call (ra_cons re_var (ra_cons re_var ra_nil))) re_var)) (rs_ret re_bl) rs_next) (rs_seq (rs_asg (re_op ro_sub re_int (re_op ro_mul re_int (re_cb rc_int (ra_cons (re_op ro_lt re_var re_int) ra_nil)))) (rg_name (vs := [9]) (by decide))) (rs_seq (rs_if (rt_test (re_op ro_ne (re_call (ra_cons re_var (ra_cons re_var (ra_cons re_var ra_nil)))) re_var)) (rs_ret re_bl) rs_next) (rs_if (rt_not (rt_b (re_call (ra_cons re_var (ra_cons re_var (ra_cons re_var ra_nil)))))) (rs_ret re_bl) rs_next)))))) (rs_if (rt_not (rt_b (re_call (ra_cons re_var ra_nil)))) (rs_ret re_bl) rs_next))))))) (rs_ret re_bl))

theorem nums_law {Ψ : XKd} {p : Addr} {A0 A1 A3 A4 A5 A6 A7 A8 A9 x10 : Option DT} : ∀ (items acc : List DT) (μ : Mu) (K : List DT → Mu → Prop), Pool μ p → acc.length + items.length ≤ 1000 → (∀ (u : List Int) μ', (∀ c ∈ u, c.natAbs ≤ 10 ^ 20) → u.length = items.length → Drawn p μ μ' → K (acc ++ u.map .int) μ') →
    dLcGo (dName 10) dYes (d_law.c1 Ψ) [A0, A1, some (.adr p), A3, A4, A5, A6, A7, A8, A9, x10] items acc μ K
  | [], acc, μ, K, hp, hl, k => by
    have := k [] μ (fun c hc => by cases hc) rfl hp.drawn
    rwa [List.map_nil, List.append_nil] at this
  | x :: items, acc, μ, K, hp, hl, k => by
    refine ⟨fun _ => ?_, fun z => Bool.noConfusion z⟩
    refine ⟨_, rfl, p, rfl, hp, fun n μ1 hn r1 => ⟨?_, ?_⟩⟩
    · show acc.length ≤ 1000000
      simp only [List.length_cons] at hl; omega
    · refine nums_law items _ μ1 K r1.pool (by simp only [List.length_append, List.length_cons, List.length_nil] at hl ⊢; omega) fun u μ2 hu hl2 r2 => ?_
      have := k (n :: u) μ2 (fun c hc => by
        rcases List.mem_cons.mp hc with rfl | hc
        · exact hn
        · exact hu c hc) (by simp [hl2]) (r1.trans r2)
      rw [List.append_assoc]
      exact this
theorem each_law {Ψ : XKd} {P : Prg} (g : Good P) {m : Mode} {ms : List Mode} (hms : P.modes = m :: ms) {De : dEnds} {A0 A1 A2 A4 A10 : Option DT} {μ0 : Mu} (fin : ∀ x5 x8 x9 μ', Grow μ0 μ' → De.nx [A0, A1, A2, some (partsD P), A4, x5, some (progD P), some (.int P.base.natAbs), x8, x9, A10] μ') : ∀ (ns : List Int) (x5 x8 x9 : Option DT) (μ : Mu), (∀ n ∈ ns, n.natAbs ≤ 2 ^ 70) → Grow μ0 μ →
    dLoop (dName 5) (d_law.L2 Ψ) De (ns.map .int) [A0, A1, A2, some (partsD P), A4, x5, some (progD P), some (.int P.base.natAbs), x8, x9, A10] μ
  | [], x5, x8, x9, μ, hn, gr => fin _ _ _ μ gr
  | n :: ns, x5, x8, x9, μ, hn, gr => by
    have hb := g.base
    have hn1 := hn n (.head _)
    have hn2 : n.natAbs < 2 ^ 2900 := Nat.lt_of_le_of_lt hn1 (Nat.pow_lt_pow_right (by decide) (by decide))
    have dl : (digs P.base.natAbs n.natAbs).length ≤ 2900 := digs_len hb.1 2900 _ hn2
    have o8 : ok8 (.tup ((digs P.base.natAbs n.natAbs).map .int)) := okAll_ints 7 _
    refine ⟨_, rfl, _, rfl, n, P.base.natAbs, rfl, hb.1, hb.2, hn2, fun μ1 g1 => ?_⟩
    refine ⟨_, rfl, _, rfl, .int n, .int P.base.natAbs, "int", "int", rfl, rfl, rfl, (fun c => by cases c), (fun _ c => ?_), fun n' b e1 e2 _ _ => ⟨?_, fun μ2 g2 => ?_⟩⟩
    · have c' : (decide ((2 : Int) ≤ P.base.natAbs) && decide ((P.base.natAbs : Int) ≤ 10)) = false := c
      rw [decide_eq_true (by omega), decide_eq_true (by omega)] at c'; cases c'
    · cases e1; exact hn2
    cases e1
    have e2 : b = P.base.natAbs := by injection e2 with e2; omega
    subst e2
    refine ⟨_, rfl, o8, o8, _, rfl, (fun c => ?_), fun _ => ?_⟩
    · have c' : (!eqD (.tup ((digs P.base.natAbs n.natAbs).map .int)) (.tup ((digs P.base.natAbs n.natAbs).map .int))) = true := c
      rw [eqD_ints] at c'; cases c'
    refine ⟨_, rfl, _, _, rfl, rfl, .inr ⟨_, rfl, _, _, rfl, rfl, .inl ⟨by decide, by decide⟩, _, _, rfl, rfl, ?_⟩⟩
    have esg : (1 : Int) - 2 * (if decide (n < 0) = true then 1 else 0) = sg n := by
      unfold sg
      by_cases hz : n < 0
      · rw [decide_eq_true hz, if_pos hz]; rfl
      · rw [decide_eq_false hz, if_neg hz]; rfl
    have rest : ∀ z9, z9 = sg n → d_law.L2t3 Ψ { nx := dLoop (dName 5) (d_law.L2 Ψ) De (ns.map .int), rt := De.rt, bk := De.nx, ct := dLoop (dName 5) (d_law.L2 Ψ) De (ns.map .int) } [A0, A1, A2, some (partsD P), A4, some (.int n), some (progD P), some (.int P.base.natAbs), some (.tup ((digs P.base.natAbs n.natAbs).map .int)), some (.int z9), A10] μ2 := by
      intro z9 e9
      subst e9
      have hsg := sg_cases n
      have hsd : isSignD (.int (sg n)) = true := by
        rw [isSign_int]
        rcases hsg with h | h <;> rw [h] <;> rfl
      refine ⟨_, rfl, _, rfl, _, rfl, .int (sg n), .tup ((digs P.base.natAbs n.natAbs).map .int), .int P.base.natAbs, "tuple", "int", "int", rfl, rfl, rfl, rfl, kinds_ints _ _ (by omega), (fun c => ?_), (fun _ c => ?_), (fun b _ e b1 b2 c => ?_), fun i fs b e1 e2 e3 _ _ _ => ?_⟩
      · rw [hsd] at c; cases c
      · have c' : (decide ((2 : Int) ≤ P.base.natAbs) && decide ((P.base.natAbs : Int) ≤ 10)) = false := c
        rw [decide_eq_true (by omega), decide_eq_true (by omega)] at c'; cases c'
      · cases e
        rw [whole_digs hb.1] at c; cases c
      cases e1
      cases e3
      have e2' : digs P.base.natAbs n.natAbs = fs := by
        injection e2 with e2
        exact (List.map_inj_right (fun a b h => by injection h)).mp e2
      subst e2'
      have en : sg n * sizeIn (P.base.natAbs : Int) (digs P.base.natAbs n.natAbs) = n := by
        rw [size_digs hb.1]
        have := start_x n
        rw [Int.add_zero] at this
        exact this.symm
      refine ⟨_, rfl, .inl ⟨_, _, rfl, rfl, _, rfl, (fun c => ?_), fun _ => ?_⟩⟩
      · have c' : (!decide (sg n * sizeIn (P.base.natAbs : Int) (digs P.base.natAbs n.natAbs) = n)) = true := c
        rw [decide_eq_true en] at c'; cases c'
      refine ⟨_, rfl, _, rfl, _, rfl, P, n, 70, m, ms, rfl, g, hms, hn1, by decide, fun μ3 g3 => ⟨_, rfl, (fun c => by cases c), fun _ => ?_⟩⟩
      exact each_law g hms fin ns _ _ _ μ3 (fun k hk => hn k (.tail _ hk)) (((gr.trans g1).trans g2).trans g3)
    exact rest _ esg
theorem loop_law {Ψ : XKd} {ns : List Int} {Φ : PK} (fin : ∀ μ', Φ (.bl true) μ') : ∀ (j i : Nat) (x1 x2 x3 x4 x5 x6 x7 x8 x9 x10 : Option DT) (μ : Mu), i + j ≤ 100 →
    dLoop (dName 1) (d_law.L1 Ψ) { nx := d_law.t1 Ψ { nx := fun _ μ' => Φ .non μ', rt := Φ }, rt := Φ } ((List.range' i j).map fun i : Nat => DT.int (i : Int)) [some (.scr ns), x1, x2, x3, x4, x5, x6, x7, x8, x9, none] μ
  | 0, i, x1, x2, x3, x4, x5, x6, x7, x8, x9, x10, μ, hi => fin μ
  | j + 1, i, x1, x2, x3, x4, x5, x6, x7, x8, x9, x10, μ, hi => by
    rw [List.range'_succ, List.map_cons]
    refine ⟨_, rfl, _, rfl, ns, i, rfl, by omega, fun p c s hp c0 s0 s1 => ?_⟩
    have r0 := Drawn.put (p := p) (μ := μ) c0 s0 s1
    refine ⟨_, rfl, by walk_at "sw_nn", p, [2, 3, 4, 10], 3, rfl, r0.pool, by decide, by decide, (fun s hs => by
      simp only [List.mem_cons, List.not_mem_nil, or_false] at hs
      omega), by decide, by decide, fun P μ1 g hsz0 r1 => ?_⟩
    have hb := g.base
    have hmo := g.modes
    obtain ⟨m, ms, hms⟩ : ∃ m ms, P.modes = m :: ms := by
      cases e : P.modes with
      | nil => rw [e] at hmo; simp at hmo
      | cons m ms => exact ⟨m, ms, rfl⟩
    refine ⟨_, rfl, P, rfl, g.ok, fun μ2 g2 => ?_⟩
    refine ⟨_, rfl, _, 0, .int P.base, rfl, rfl, rfl, _, rfl, _, _, rfl, ?_⟩
    have eb : (if P.base < 0 then -P.base else P.base) = (P.base.natAbs : Int) := by split <;> omega
    have t3 : ∀ z7, z7 = (P.base.natAbs : Int) → d_law.L1t3 Ψ { nx := dLoop (dName 1) (d_law.L1 Ψ) { nx := d_law.t1 Ψ { nx := fun _ μ' => Φ .non μ', rt := Φ }, rt := Φ } ((List.range' (i + 1) j).map fun i : Nat => DT.int (i : Int)), rt := Φ, bk := d_law.t1 Ψ { nx := fun _ μ' => Φ .non μ', rt := Φ }, ct := dLoop (dName 1) (d_law.L1 Ψ) { nx := d_law.t1 Ψ { nx := fun _ μ' => Φ .non μ', rt := Φ }, rt := Φ } ((List.range' (i + 1) j).map fun i : Nat => DT.int (i : Int)) }
        [some (.scr ns), some (.int i), some (.adr p), some (partsD P), x4, x5, some (progD P), some (.int z7), x8, x9, none] μ2 := by
      intro z7 e7
      subst e7
      refine ⟨_, rfl, _, rfl, _, rfl, _, _, rfl, rfl, _, rfl, _, rfl, _, _, rfl, rfl, .inl ⟨by omega, by omega⟩, _, _, rfl, rfl, by walk_at "sw_nn", ?_⟩
      refine ⟨_, rfl, by decide, by decide, ?_⟩
      refine nums_law _ [] μ2 _ (g2.pool r1.pool) (by decide) fun u μ3 hu hul r3 => ?_
      refine ⟨_, _, rfl, rfl, rfl, rfl, ?_, ?_⟩
      · show List.length _ ≤ 1000000
        rw [List.length_append, List.nil_append, List.length_map, hul, rngD_len]; show 6 + 10 ≤ 1000000; decide
      refine ⟨_, rfl, _, rfl, ?_⟩
      have en : [DT.int 0, .int 1, .int (-1), .int P.base.natAbs, .int (0 - P.base.natAbs), .int (P.base.natAbs * P.base.natAbs - 1)] ++ ([] ++ u.map .int) = ([0, 1, -1, (P.base.natAbs : Int), 0 - P.base.natAbs, (P.base.natAbs : Int) * P.base.natAbs - 1] ++ u).map .int := by
        rw [List.nil_append, List.map_append]; rfl
      have small : ∀ n ∈ [0, 1, -1, (P.base.natAbs : Int), 0 - P.base.natAbs, (P.base.natAbs : Int) * P.base.natAbs - 1] ++ u, n.natAbs ≤ 2 ^ 70 := by
        intro n hn
        rcases List.mem_append.mp hn with hn | hn
        · have q1 : (P.base.natAbs : Int) * P.base.natAbs ≤ 10 * 10 := Int.mul_le_mul (by omega) (by omega) (by omega) (by omega)
          have q2 : (0 : Int) ≤ (P.base.natAbs : Int) * P.base.natAbs := Int.mul_nonneg (by omega) (by omega)
          generalize (P.base.natAbs : Int) * P.base.natAbs = sq at *
          simp only [List.mem_cons, List.not_mem_nil, or_false] at hn
          rcases hn with rfl | rfl | rfl | rfl | rfl | rfl <;> omega
        · exact Nat.le_trans (hu n hn) (by decide)
      rw [en]
      refine each_law g hms (fun y5 y8 y9 μ4 g4 => ?_) _ _ _ _ μ3 small (Grow.refl μ3)
      have hsz : (P.base.natAbs : Int) = 2 ∨ (P.base.natAbs : Int) = 3 ∨ (P.base.natAbs : Int) = 4 ∨ (P.base.natAbs : Int) = 10 := by
        simpa using hsz0
      refine ⟨_, rfl, _, rfl, hsz, _, rfl, (fun c => by cases c), fun _ => ?_⟩
      exact loop_law fin j (i + 1) _ _ _ _ _ _ _ _ _ none μ4 (by omega)
    exact t3 _ eb
theorem pure_law (ds : List DT) (μ : Mu) (Φ : PK) (Ψ : XKd) (h : sp_law ds μ Φ Ψ) : dRun (d_law Ψ) n_law ds μ Φ := by
  obtain ⟨ns, rfl, hl, h⟩ := h
  refine ⟨_, rfl, _, _, rfl, rfl, _, _, rfl, _, _, rfl, _, rfl, ?_, ?_, ?_⟩
  · split <;> split <;> omega
  · rw [List.length_map]; split <;> split <;> omega
  rw [rngD_zero]
  refine loop_law h _ 0 _ _ _ _ _ _ _ _ _ none μ ?_
  rw [List.length_map]
  split <;> split <;> omega

structure Bt (mg : Str → Option Value) : Prop where
  abs_ : mg "abs" = none
  all_ : mg "all" = none
  bool_ : mg "bool" = none
  dict_ : mg "dict" = none
  divmod_ : mg "divmod" = none
  enumerate_ : mg "enumerate" = none
  int_ : mg "int" = none
  isinstance_ : mg "isinstance" = none
  len_ : mg "len" = none
  list_ : mg "list" = none
  max_ : mg "max" = none
  min_ : mg "min" = none
  range_ : mg "range" = none
  repr_ : mg "repr" = none
  str_ : mg "str" = none
  sum_ : mg "sum" = none
  tuple_ : mg "tuple" = none
  zip_ : mg "zip" = none

theorem sc_law_pool : FnScope n_law_pool ["script", "k"] (defScope s_law_pool) := ⟨rfl, rfl, rfl, by decide +kernel, rfl, by decide +kernel, by decide +kernel⟩
theorem der_law_pool {P : Program} {w : World} {K : Frag} {T : List (Addr × Str)} {mg : Str → Option Value} {base : Heap} {f : Addr} (B : Bt mg) (cdv : Value) (A : Around) (outer : List Env) (s : Shared) (H : Hp) (E : XK) 
    (hr : Room 0 (A.deeper (PyProof.Rows.envOfC "_law_pool" (defScope s_law_pool) s.heap.objs.size f cdv))) : PSs (cxOf (L2.CX P w) P w K mg base n_law_pool "_law_pool" (defScope s_law_pool) f cdv A outer s H E) (defBody s_law_pool) (t_law_pool ⟨K, P, w, T⟩ E) := by
  exact (pss_cons (ps_set (i := 2) sc_law_pool.nd rfl (by walk_at "sw_loc") pe_int) (pss_cons (ps_if (pt_cmpR op_lt (pv 1) (pe_callB call_len_seq rfl B.len_ (by decide +kernel) (pa_cons (pv 0) pa_nil)) (nomark _)) (pss_one (ps_set (i := 2) sc_law_pool.nd rfl (by walk_at "sw_loc") (pe_ix ix_seq (pv 0) (pv 1) (fun _ _ => rfl)))) pss_nil) (pss_cons (ps_set (i := 3) sc_law_pool.nd rfl (by walk_at "sw_loc") (pe_op op_mod (pe_op op_pow (pe_op op_add (pe_op op_add (pe_op op_mod (pe_callTy call_int1 rfl B.int_ (by decide +kernel) (pa_cons (pv 2) pa_nil)) pe_int) (pe_op op_mul (pe_op op_mul pe_int (pv 1)) (pv 1))) pe_int) pe_int) pe_int)) (pss_cons (ps_if (pt_cmpR op_lt (pv 2) (pe_op op_pow pe_int pe_int) (nomark _)) (pss_one (ps_set (i := 2) sc_law_pool.nd rfl (by walk_at "sw_loc") pe_int)) pss_nil) (pss_one (ps_ret (pe_lst (pa_cons (pv 2) (pa_cons (pv 3) pa_nil)))))))))
theorem b_law_pool {K : Frag} {a : Addr} {fd : FuncData} (F : FunD K "_law_pool" "_law_pool" (defArgs s_law_pool) (defBody s_law_pool) (defScope s_law_pool) [] [] a fd) : L2.Binds K fd ["script", "k"] [] := F.bindsN fun _ _ _ _ _ _ us hl => match us, hl with | [_, _], _ => rfl
theorem f_law_pool {P : Program} {w : World} {K : Frag} {T : List (Addr × Str)} {mg : Str → Option Value} {base : Heap} {a : Addr} {fd : FuncData} (B : Bt mg) (F : FunD K "_law_pool" "_law_pool" (defArgs s_law_pool) (defBody s_law_pool) (defScope s_law_pool) [] [] a fd) : FnOk P w K mg base (L2.CX P w) 1 a fd ["script", "k"] (lift ⟨K, P, w, T⟩ sp_law_pool) :=
  okD F sc_law_pool len_law_pool (fun E Ψ => r_law_pool  E Ψ) pure_law_pool fun cdv A outer s H E hr => der_law_pool B cdv A outer s H E hr
theorem sc_law_draw : FnScope n_law_draw ["pool", "many"] (defScope s_law_draw) := ⟨rfl, rfl, rfl, by decide +kernel, rfl, by decide +kernel, by decide +kernel⟩
theorem der_law_draw {P : Program} {w : World} {K : Frag} {T : List (Addr × Str)} {mg : Str → Option Value} {base : Heap} {f : Addr} (B : Bt mg) (cdv : Value) (A : Around) (outer : List Env) (s : Shared) (H : Hp) (E : XK) 
    (hr : Room 0 (A.deeper (PyProof.Rows.envOfC "_law_draw" (defScope s_law_draw) s.heap.objs.size f cdv))) : PSs (cxOf (L2.CX P w) P w K mg base n_law_draw "_law_draw" (defScope s_law_draw) f cdv A outer s H E) (defBody s_law_draw) (t_law_draw ⟨K, P, w, T⟩ E) := by
  exact (pss_cons (ps_if (pt_cmpR op_gt (pe_ix ix_seq (pv 0) pe_int (fun _ _ => rfl)) pe_int (nomark _)) (pss_cons (ps_set (i := 2) sc_law_draw.nd rfl (by walk_at "sw_loc") (pe_op op_mod (pe_callTy call_int1 rfl B.int_ (by decide +kernel) (pa_cons (pe_ix ix_seq (pv 0) pe_int (fun _ _ => rfl)) pa_nil)) (pv 1))) (pss_cons (ps_asg (pe_op op_fdivW (pe_ix ix_seq (pv 0) pe_int (fun _ _ => rfl)) (pv 1)) (pg_sub (pv 0) pe_int set_list)) (pss_one (ps_ret (pv 2))))) pss_nil) (pss_cons (ps_asg (pe_op op_mod (pe_callTy call_int1 rfl B.int_ (by decide +kernel) (pa_cons (pe_op op_add (pe_op op_mul (pe_ix ix_seq (pv 0) pe_int (fun _ _ => rfl)) pe_int) pe_int) pa_nil)) pe_int) (pg_sub (pv 0) pe_int set_list)) (pss_one (ps_ret (pe_op op_mod (pe_op op_fdivW (pe_op op_mod (pe_callTy call_int1 rfl B.int_ (by decide +kernel) (pa_cons (pe_op op_mul (pe_ix ix_seq (pv 0) pe_int (fun _ _ => rfl)) (pe_ix ix_seq (pv 0) pe_int (fun _ _ => rfl))) pa_nil)) pe_int) pe_int) (pv 1))))))
theorem b_law_draw {K : Frag} {a : Addr} {fd : FuncData} (F : FunD K "_law_draw" "_law_draw" (defArgs s_law_draw) (defBody s_law_draw) (defScope s_law_draw) [] [] a fd) : L2.Binds K fd ["pool", "many"] [] := F.bindsN fun _ _ _ _ _ _ us hl => match us, hl with | [_, _], _ => rfl
theorem f_law_draw {P : Program} {w : World} {K : Frag} {T : List (Addr × Str)} {mg : Str → Option Value} {base : Heap} {a : Addr} {fd : FuncData} (B : Bt mg) (F : FunD K "_law_draw" "_law_draw" (defArgs s_law_draw) (defBody s_law_draw) (defScope s_law_draw) [] [] a fd) : FnOk P w K mg base (L2.CX P w) 1 a fd ["pool", "many"] (lift ⟨K, P, w, T⟩ sp_law_draw) :=
  okD F sc_law_draw len_law_draw (fun E Ψ => r_law_draw  E Ψ) pure_law_draw fun cdv A outer s H E hr => der_law_draw B cdv A outer s H E hr
theorem sc_law_choose : FnScope n_law_choose ["pool", "items"] (defScope s_law_choose) := ⟨rfl, rfl, rfl, by decide +kernel, rfl, by decide +kernel, by decide +kernel⟩
theorem der_law_choose {P : Program} {w : World} {K : Frag} {T : List (Addr × Str)} {mg : Str → Option Value} {base : Heap} {f : Addr} (B : Bt mg) (c_law_draw : CalX P w K mg base 1 "_law_draw" (lift ⟨K, P, w, T⟩ sp_law_draw)) (cdv : Value) (A : Around) (outer : List Env) (s : Shared) (H : Hp) (E : XK) 
    (hr : Room 1 (A.deeper (PyProof.Rows.envOfC "_law_choose" (defScope s_law_choose) s.heap.objs.size f cdv))) : PSs (cxOf (L2.CX P w) P w K mg base n_law_choose "_law_choose" (defScope s_law_choose) f cdv A outer s H E) (defBody s_law_choose) (t_law_choose ⟨K, P, w, T⟩ E) := by
  exact (pss_one (ps_ret (pe_ix ix_seq (pv 1) (pe_cn c_law_draw hr (by decide) rfl (pa_cons (pv 0) (pa_cons (pe_callB call_len_seq rfl B.len_ (by decide +kernel) (pa_cons (pv 1) pa_nil)) pa_nil))) (fun _ _ => rfl))))
theorem b_law_choose {K : Frag} {a : Addr} {fd : FuncData} (F : FunD K "_law_choose" "_law_choose" (defArgs s_law_choose) (defBody s_law_choose) (defScope s_law_choose) [] [] a fd) : L2.Binds K fd ["pool", "items"] [] := F.bindsN fun _ _ _ _ _ _ us hl => match us, hl with | [_, _], _ => rfl
theorem f_law_choose {P : Program} {w : World} {K : Frag} {T : List (Addr × Str)} {mg : Str → Option Value} {base : Heap} {a : Addr} {fd : FuncData} (B : Bt mg) (c_law_draw : CalX P w K mg base 1 "_law_draw" (lift ⟨K, P, w, T⟩ sp_law_draw)) (F : FunD K "_law_choose" "_law_choose" (defArgs s_law_choose) (defBody s_law_choose) (defScope s_law_choose) [] [] a fd) : FnOk P w K mg base (L2.CX P w) 2 a fd ["pool", "items"] (lift ⟨K, P, w, T⟩ sp_law_choose) :=
  okD F sc_law_choose len_law_choose (fun E Ψ => r_law_choose  E Ψ) pure_law_choose fun cdv A outer s H E hr => der_law_choose B c_law_draw cdv A outer s H E hr
theorem sc_law_then : FnScope n_law_then ["pool", "names"] (defScope s_law_then) := ⟨rfl, rfl, rfl, by decide +kernel, rfl, by decide +kernel, by decide +kernel⟩
theorem der_law_then {P : Program} {w : World} {K : Frag} {T : List (Addr × Str)} {mg : Str → Option Value} {base : Heap} {f : Addr} (c_law_draw : CalX P w K mg base 1 "_law_draw" (lift ⟨K, P, w, T⟩ sp_law_draw)) (c_law_choose : CalX P w K mg base 2 "_law_choose" (lift ⟨K, P, w, T⟩ sp_law_choose)) (cdv : Value) (A : Around) (outer : List Env) (s : Shared) (H : Hp) (E : XK) 
    (hr : Room 2 (A.deeper (PyProof.Rows.envOfC "_law_then" (defScope s_law_then) s.heap.objs.size f cdv))) : PSs (cxOf (L2.CX P w) P w K mg base n_law_then "_law_then" (defScope s_law_then) f cdv A outer s H E) (defBody s_law_then) (t_law_then ⟨K, P, w, T⟩ E) := by
  exact (pss_one (ps_ret (pe_ifExp (pt_cmpR op_eq (pe_cn c_law_draw hr (by decide) rfl (pa_cons (pv 0) (pa_cons pe_int pa_nil))) pe_int (nomark _)) pe_non (pe_cn c_law_choose hr (by decide) rfl (pa_cons (pv 0) (pa_cons (pv 1) pa_nil))))))
theorem b_law_then {K : Frag} {a : Addr} {fd : FuncData} (F : FunD K "_law_then" "_law_then" (defArgs s_law_then) (defBody s_law_then) (defScope s_law_then) [] [] a fd) : L2.Binds K fd ["pool", "names"] [] := F.bindsN fun _ _ _ _ _ _ us hl => match us, hl with | [_, _], _ => rfl
theorem f_law_then {P : Program} {w : World} {K : Frag} {T : List (Addr × Str)} {mg : Str → Option Value} {base : Heap} {a : Addr} {fd : FuncData} (c_law_draw : CalX P w K mg base 1 "_law_draw" (lift ⟨K, P, w, T⟩ sp_law_draw)) (c_law_choose : CalX P w K mg base 2 "_law_choose" (lift ⟨K, P, w, T⟩ sp_law_choose)) (F : FunD K "_law_then" "_law_then" (defArgs s_law_then) (defBody s_law_then) (defScope s_law_then) [] [] a fd) : FnOk P w K mg base (L2.CX P w) 3 a fd ["pool", "names"] (lift ⟨K, P, w, T⟩ sp_law_then) :=
  okD F sc_law_then len_law_then (fun E Ψ => r_law_then  E Ψ) pure_law_then fun cdv A outer s H E hr => der_law_then c_law_draw c_law_choose cdv A outer s H E hr
theorem sc_law_updates : FnScope n_law_updates ["pool", "many", "greatest"] (defScope s_law_updates) := ⟨rfl, rfl, rfl, by decide +kernel, rfl, by decide +kernel, by decide +kernel⟩
theorem der_law_updates {P : Program} {w : World} {K : Frag} {T : List (Addr × Str)} {mg : Str → Option Value} {base : Heap} {f : Addr} (B : Bt mg) (c_law_draw : CalX P w K mg base 1 "_law_draw" (lift ⟨K, P, w, T⟩ sp_law_draw)) (cdv : Value) (A : Around) (outer : List Env) (s : Shared) (H : Hp) (E : XK) 
    (hr : Room 1 (A.deeper (PyProof.Rows.envOfC "_law_updates" (defScope s_law_updates) s.heap.objs.size f cdv))) : PSs (cxOf (L2.CX P w) P w K mg base n_law_updates "_law_updates" (defScope s_law_updates) f cdv A outer s H E) (defBody s_law_updates) (t_law_updates ⟨K, P, w, T⟩ E) := by
  exact (pss_cons (ps_set (i := 3) sc_law_updates.nd rfl (by walk_at "sw_loc") (pe_lst pa_nil)) (pss_cons (ps_for (passes_of rfl) rfl (pi_range1 rfl B.range_ (pa_cons (pv 1) pa_nil)) (pg_name (i := 4) sc_law_updates.nd rfl (by walk_at "sw_loc")) (pss_one (ps_expr (pe_bm PySem.F.plainAttrs_list PySem.F.slot_list_append PySem.F.type_list_append mt_append (pv 3) (pa_cons (pe_callTy call_tuple_of rfl B.tuple_ (by decide +kernel) (pa_cons (pe_lcn (own := [("turn", 5)]) rfl sc_law_updates.nd (pi_range1 rfl B.range_ (pa_cons (pe_op op_add (pv 1) pe_int) pa_nil)) (by walk_at "sw_blk") (fun _ _ _ _ _ => (pg_name (i := 5) sc_law_updates.nd rfl (by walk_at "sw_loc"))) (fun _ _ _ _ _ => pts_nil) (fun _ _ _ _ _ => (pe_op op_sub (pe_cn c_law_draw hr (by decide) rfl (pa_cons (pv 0) (pa_cons (pe_op op_add (pe_op op_mul pe_int (pv 2)) pe_int) pa_nil))) (pv 2)))) pa_nil)) pa_nil))))) (pss_one (ps_ret (pe_callTy call_tuple_of rfl B.tuple_ (by decide +kernel) (pa_cons (pv 3) pa_nil))))))
theorem b_law_updates {K : Frag} {a : Addr} {fd : FuncData} (F : FunD K "_law_updates" "_law_updates" (defArgs s_law_updates) (defBody s_law_updates) (defScope s_law_updates) [] [] a fd) : L2.Binds K fd ["pool", "many", "greatest"] [] := F.bindsN fun _ _ _ _ _ _ us hl => match us, hl with | [_, _, _], _ => rfl
theorem f_law_updates {P : Program} {w : World} {K : Frag} {T : List (Addr × Str)} {mg : Str → Option Value} {base : Heap} {a : Addr} {fd : FuncData} (B : Bt mg) (c_law_draw : CalX P w K mg base 1 "_law_draw" (lift ⟨K, P, w, T⟩ sp_law_draw)) (F : FunD K "_law_updates" "_law_updates" (defArgs s_law_updates) (defBody s_law_updates) (defScope s_law_updates) [] [] a fd) : FnOk P w K mg base (L2.CX P w) 2 a fd ["pool", "many", "greatest"] (lift ⟨K, P, w, T⟩ sp_law_updates) :=
  okD F sc_law_updates len_law_updates (fun E Ψ => r_law_updates  E Ψ) pure_law_updates fun cdv A outer s H E hr => der_law_updates B c_law_draw cdv A outer s H E hr
theorem sc_law_rows : FnScope n_law_rows ["pool", "size", "many", "names"] (defScope s_law_rows) := ⟨rfl, rfl, rfl, by decide +kernel, rfl, by decide +kernel, by decide +kernel⟩
theorem der_law_rows {P : Program} {w : World} {K : Frag} {T : List (Addr × Str)} {mg : Str → Option Value} {base : Heap} {f : Addr} (B : Bt mg) (c_law_draw : CalX P w K mg base 1 "_law_draw" (lift ⟨K, P, w, T⟩ sp_law_draw)) (c_law_choose : CalX P w K mg base 2 "_law_choose" (lift ⟨K, P, w, T⟩ sp_law_choose)) (c_law_then : CalX P w K mg base 3 "_law_then" (lift ⟨K, P, w, T⟩ sp_law_then)) (c_law_updates : CalX P w K mg base 2 "_law_updates" (lift ⟨K, P, w, T⟩ sp_law_updates)) (cdv : Value) (A : Around) (outer : List Env) (s : Shared) (H : Hp) (E : XK) 
    (hr : Room 3 (A.deeper (PyProof.Rows.envOfC "_law_rows" (defScope s_law_rows) s.heap.objs.size f cdv))) : PSs (cxOf (L2.CX P w) P w K mg base n_law_rows "_law_rows" (defScope s_law_rows) f cdv A outer s H E) (defBody s_law_rows) (t_law_rows ⟨K, P, w, T⟩ E) := by
  exact (pss_cons (ps_par (by rfl) sc_law_rows.nd (i := 5) (j := 6) rfl rfl (by decide) rfl rfl (pa_cons (pe_lst pa_nil) (pa_cons (pe_lst (pa_cons (pe_tup (pa_cons pe_non (pa_cons pe_non pa_nil))) pa_nil)) pa_nil)) (by rfl)) (pss_cons (ps_for (passes_of rfl) rfl (pi_range1 rfl B.range_ (pa_cons (pe_cn c_law_draw hr (by decide) rfl (pa_cons (pv 0) (pa_cons pe_int pa_nil))) pa_nil)) (pg_name (i := 4) sc_law_rows.nd rfl (by walk_at "sw_loc")) (pss_cons (ps_set (i := 7) sc_law_rows.nd rfl (by walk_at "sw_loc") (pe_tup (pa_cons (pe_cn c_law_choose hr (by decide) rfl (pa_cons (pv 0) (pa_cons (pe_lst (pa_cons pe_non (pa_cons (pe_un un_neg pe_int) (pa_cons pe_int (pa_cons pe_int pa_nil))))) pa_nil))) (pa_cons (pe_cn c_law_choose hr (by decide) rfl (pa_cons (pv 0) (pa_cons (pe_lst (pa_cons pe_non (pa_cons pe_int (pa_cons pe_int (pa_cons (pe_un un_neg pe_int) (pa_cons (pe_op op_sub (pv 1) pe_int) (pa_cons (pe_op op_sub pe_int (pv 1)) pa_nil))))))) pa_nil))) pa_nil)))) (pss_one (ps_if (pt_cmpR (op_notInD (units65 hr)) (pv 7) (pv 6) rfl) (pss_cons (ps_expr (pe_bm PySem.F.plainAttrs_list PySem.F.slot_list_append PySem.F.type_list_append mt_append (pv 6) (pa_cons (pv 7) pa_nil))) (pss_one (ps_expr (pe_bm PySem.F.plainAttrs_list PySem.F.slot_list_append PySem.F.type_list_append mt_append (pv 5) (pa_cons (pe_op op_catA (pv 7) (pe_tup (pa_cons (pe_cn c_law_updates hr (by decide) rfl (pa_cons (pv 0) (pa_cons (pv 2) (pa_cons pe_int pa_nil)))) (pa_cons (pe_cn c_law_then hr (by decide) rfl (pa_cons (pv 0) (pa_cons (pv 3) pa_nil))) pa_nil)))) pa_nil))))) pss_nil)))) (pss_cons (ps_expr (pe_bm PySem.F.plainAttrs_list PySem.F.slot_list_append PySem.F.type_list_append mt_append (pv 5) (pa_cons (pe_tup (pa_cons pe_non (pa_cons pe_non (pa_cons (pe_cn c_law_updates hr (by decide) rfl (pa_cons (pv 0) (pa_cons (pv 2) (pa_cons pe_int pa_nil)))) (pa_cons (pe_cn c_law_choose hr (by decide) rfl (pa_cons (pv 0) (pa_cons (pv 3) pa_nil))) pa_nil))))) pa_nil))) (pss_one (ps_ret (pv 5))))))
theorem b_law_rows {K : Frag} {a : Addr} {fd : FuncData} (F : FunD K "_law_rows" "_law_rows" (defArgs s_law_rows) (defBody s_law_rows) (defScope s_law_rows) [] [] a fd) : L2.Binds K fd ["pool", "size", "many", "names"] [] := F.bindsN fun _ _ _ _ _ _ us hl => match us, hl with | [_, _, _, _], _ => rfl
theorem f_law_rows {P : Program} {w : World} {K : Frag} {T : List (Addr × Str)} {mg : Str → Option Value} {base : Heap} {a : Addr} {fd : FuncData} (B : Bt mg) (c_law_draw : CalX P w K mg base 1 "_law_draw" (lift ⟨K, P, w, T⟩ sp_law_draw)) (c_law_choose : CalX P w K mg base 2 "_law_choose" (lift ⟨K, P, w, T⟩ sp_law_choose)) (c_law_then : CalX P w K mg base 3 "_law_then" (lift ⟨K, P, w, T⟩ sp_law_then)) (c_law_updates : CalX P w K mg base 2 "_law_updates" (lift ⟨K, P, w, T⟩ sp_law_updates)) (F : FunD K "_law_rows" "_law_rows" (defArgs s_law_rows) (defBody s_law_rows) (defScope s_law_rows) [] [] a fd) : FnOk P w K mg base (L2.CX P w) 4 a fd ["pool", "size", "many", "names"] (lift ⟨K, P, w, T⟩ sp_law_rows) :=
  okD F sc_law_rows len_law_rows (fun E Ψ => r_law_rows  E Ψ) pure_law_rows fun cdv A outer s H E hr => der_law_rows B c_law_draw c_law_choose c_law_then c_law_updates cdv A outer s H E hr
theorem sc_law_parts : FnScope n_law_parts ["pool", "sizes", "most"] (defScope s_law_parts) := ⟨rfl, rfl, rfl, by decide +kernel, rfl, by decide +kernel, by decide +kernel⟩
theorem der_law_parts {P : Program} {w : World} {K : Frag} {T : List (Addr × Str)} {mg : Str → Option Value} {base : Heap} {f : Addr} (B : Bt mg) (c_law_choose : CalX P w K mg base 2 "_law_choose" (lift ⟨K, P, w, T⟩ sp_law_choose)) (c_law_draw : CalX P w K mg base 1 "_law_draw" (lift ⟨K, P, w, T⟩ sp_law_draw)) (c_law_rows : CalX P w K mg base 4 "_law_rows" (lift ⟨K, P, w, T⟩ sp_law_rows)) (cdv : Value) (A : Around) (outer : List Env) (s : Shared) (H : Hp) (E : XK) 
    (hr : Room 4 (A.deeper (PyProof.Rows.envOfC "_law_parts" (defScope s_law_parts) s.heap.objs.size f cdv))) : PSs (cxOf (L2.CX P w) P w K mg base n_law_parts "_law_parts" (defScope s_law_parts) f cdv A outer s H E) (defBody s_law_parts) (t_law_parts ⟨K, P, w, T⟩ E) := by
  exact (pss_cons (ps_set (i := 3) sc_law_parts.nd rfl (by walk_at "sw_loc") (pe_cn c_law_choose hr (by decide) rfl (pa_cons (pv 0) (pa_cons (pv 1) pa_nil)))) (pss_cons (ps_set (i := 4) sc_law_parts.nd rfl (by walk_at "sw_loc") (pe_op op_add pe_int (pe_cn c_law_draw hr (by decide) rfl (pa_cons (pv 0) (pa_cons pe_int pa_nil))))) (pss_cons (ps_set (i := 5) sc_law_parts.nd rfl (by walk_at "sw_loc") (pe_slice sl_list (pe_lst (pa_cons pe_str (pa_cons pe_str (pa_cons pe_str pa_nil)))) po_none (po_some (pe_op op_add pe_int (pe_cn c_law_draw hr (by decide) rfl (pa_cons (pv 0) (pa_cons (pv 2) pa_nil))))))) (pss_cons (ps_setC (i := 6) (own := [("at", 11)]) rfl sc_law_parts.nd rfl rfl (sw_true rfl rfl rfl (by decide +kernel)) (pi_range1 rfl B.range_ (pa_cons (pv 4) pa_nil)) (by walk_at "sw_blk") (fun _ _ _ _ _ => (pg_name (i := 11) sc_law_parts.nd rfl (by walk_at "sw_loc"))) (fun _ _ _ _ _ => pts_nil) (fun _ _ _ _ _ => (pe_tup (pa_cons (pe_ix ix_seq (pe_lst (pa_cons pe_str (pa_cons pe_str pa_nil))) (pv 11) (fun _ _ => rfl)) (pa_cons (pe_op op_sub (pe_cn c_law_draw hr (by decide) rfl (pa_cons (pv 0) (pa_cons pe_int pa_nil))) pe_int) pa_nil))))) (pss_cons (ps_set (i := 7) sc_law_parts.nd rfl (by walk_at "sw_loc") (pe_lst (pa_cons pe_str (pa_cons pe_str (pa_cons pe_str (pa_cons pe_str (pa_cons pe_str pa_nil))))))) (pss_cons (ps_setC (i := 8) (own := [("name", 12)]) rfl sc_law_parts.nd rfl rfl (sw_true rfl rfl rfl (by decide +kernel)) (pi_list (pv 5)) (by walk_at "sw_blk") (fun _ _ _ _ _ => (pg_name (i := 12) sc_law_parts.nd rfl (by walk_at "sw_loc"))) (fun _ _ _ _ _ => pts_nil) (fun _ _ _ _ _ => (pe_tup (pa_cons (pv 12) (pa_cons (pe_cn c_law_choose hr (by decide) rfl (pa_cons (pv 0) (pa_cons (pv 7) pa_nil))) (pa_cons (pe_cn c_law_rows hr (by decide) rfl (pa_cons (pv 0) (pa_cons (pv 3) (pa_cons (pv 4) (pa_cons (pv 5) pa_nil))))) pa_nil)))))) (pss_cons (ps_setC (i := 9) (own := [("x", 13)]) rfl sc_law_parts.nd rfl rfl (sw_true rfl rfl rfl (by decide +kernel)) (pi_range2 rfl B.range_ (pa_cons (pe_op op_sub pe_int (pv 3)) (pa_cons (pv 3) pa_nil))) (by walk_at "sw_blk") (fun _ _ _ _ _ => (pg_name (i := 13) sc_law_parts.nd rfl (by walk_at "sw_loc"))) (fun _ _ _ _ _ => pts_one (PW.pt (pw_or (pt_cmpR op_eq (pv 13) pe_int (nomark _)) (pw_or1 (pt_cmpR op_eq (pe_cn c_law_draw hr (by decide) rfl (pa_cons (pv 0) (pa_cons pe_int pa_nil))) pe_int (nomark _)))))) (fun _ _ _ _ _ => (pv 13))) (pss_cons (ps_set (i := 10) sc_law_parts.nd rfl (by walk_at "sw_loc") (pe_callTy call_tuple_of rfl B.tuple_ (by decide +kernel) (pa_cons (pe_lcn (own := [("turn", 14)]) rfl sc_law_parts.nd (pi_range1 rfl B.range_ (pa_cons (pe_op op_add (pv 4) pe_int) pa_nil)) (by walk_at "sw_blk") (fun _ _ _ _ _ => (pg_name (i := 14) sc_law_parts.nd rfl (by walk_at "sw_loc"))) (fun _ _ _ _ _ => pts_nil) (fun _ _ _ _ _ => (pe_op op_sub (pe_cn c_law_draw hr (by decide) rfl (pa_cons (pv 0) (pa_cons pe_int pa_nil))) pe_int))) pa_nil))) (pss_one (ps_ret (pe_lst (pa_cons (pe_cn c_law_choose hr (by decide) rfl (pa_cons (pv 0) (pa_cons (pe_lst (pa_cons (pv 3) (pa_cons (pv 3) (pa_cons (pe_op op_sub pe_int (pv 3)) pa_nil)))) pa_nil))) (pa_cons (pv 6) (pa_cons (pv 8) (pa_cons (pv 9) (pa_cons (pv 10) pa_nil))))))))))))))))
theorem b_law_parts {K : Frag} {a : Addr} {fd : FuncData} (F : FunD K "_law_parts" "_law_parts" (defArgs s_law_parts) (defBody s_law_parts) (defScope s_law_parts) [] [] a fd) : L2.Binds K fd ["pool", "sizes", "most"] [] := F.bindsN fun _ _ _ _ _ _ us hl => match us, hl with | [_, _, _], _ => rfl
theorem f_law_parts {P : Program} {w : World} {K : Frag} {T : List (Addr × Str)} {mg : Str → Option Value} {base : Heap} {a : Addr} {fd : FuncData} (B : Bt mg) (c_law_choose : CalX P w K mg base 2 "_law_choose" (lift ⟨K, P, w, T⟩ sp_law_choose)) (c_law_draw : CalX P w K mg base 1 "_law_draw" (lift ⟨K, P, w, T⟩ sp_law_draw)) (c_law_rows : CalX P w K mg base 4 "_law_rows" (lift ⟨K, P, w, T⟩ sp_law_rows)) (F : FunD K "_law_parts" "_law_parts" (defArgs s_law_parts) (defBody s_law_parts) (defScope s_law_parts) [] [] a fd) : FnOk P w K mg base (L2.CX P w) 5 a fd ["pool", "sizes", "most"] (lift ⟨K, P, w, T⟩ sp_law_parts) :=
  okD F sc_law_parts len_law_parts (fun E Ψ => r_law_parts  E Ψ) pure_law_parts fun cdv A outer s H E hr => der_law_parts B c_law_choose c_law_draw c_law_rows cdv A outer s H E hr
theorem sc_is_integer : FnScope n_is_integer ["value"] (defScope s_is_integer) := ⟨rfl, rfl, rfl, by decide +kernel, rfl, by decide +kernel, by decide +kernel⟩
theorem der_is_integer {P : Program} {w : World} {K : Frag} {T : List (Addr × Str)} {mg : Str → Option Value} {base : Heap} {f : Addr} (B : Bt mg) (cdv : Value) (A : Around) (outer : List Env) (s : Shared) (H : Hp) (E : XK) 
    (hr : Room 0 (A.deeper (PyProof.Rows.envOfC "is_integer" (defScope s_is_integer) s.heap.objs.size f cdv))) : PSs (cxOf (L2.CX P w) P w K mg base n_is_integer "is_integer" (defScope s_is_integer) f cdv A outer s H E) (defBody s_is_integer) (t_is_integer ⟨K, P, w, T⟩ E) := by
  exact (pss_one (ps_ret (pe_and (pe_callB call_isi rfl B.isinstance_ (by decide +kernel) (pa_cons (pv 0) (pa_cons (pe_bltn rfl B.int_ (by decide +kernel) rfl) pa_nil))) (pe_one (pe_not (pe_callB call_isi rfl B.isinstance_ (by decide +kernel) (pa_cons (pv 0) (pa_cons (pe_bltn rfl B.bool_ (by decide +kernel) rfl) pa_nil))))))))
theorem b_is_integer {K : Frag} {a : Addr} {fd : FuncData} (F : FunD K "is_integer" "is_integer" (defArgs s_is_integer) (defBody s_is_integer) (defScope s_is_integer) [] [] a fd) : L2.Binds K fd ["value"] [] := F.bindsN fun _ _ _ _ _ _ us hl => match us, hl with | [_], _ => rfl
theorem f_is_integer {P : Program} {w : World} {K : Frag} {T : List (Addr × Str)} {mg : Str → Option Value} {base : Heap} {a : Addr} {fd : FuncData} (B : Bt mg) (F : FunD K "is_integer" "is_integer" (defArgs s_is_integer) (defBody s_is_integer) (defScope s_is_integer) [] [] a fd) : FnOk P w K mg base (L2.CX P w) 1 a fd ["value"] (lift ⟨K, P, w, T⟩ sp_is_integer) :=
  okD F sc_is_integer len_is_integer (fun E Ψ => r_is_integer  E Ψ) pure_is_integer fun cdv A outer s H E hr => der_is_integer B cdv A outer s H E hr
theorem sc_is_base : FnScope n_is_base ["value"] (defScope s_is_base) := ⟨rfl, rfl, rfl, by decide +kernel, rfl, by decide +kernel, by decide +kernel⟩
theorem der_is_base {P : Program} {w : World} {K : Frag} {T : List (Addr × Str)} {mg : Str → Option Value} {base : Heap} {f : Addr} (B : Bt mg) (c_is_integer : CalX P w K mg base 1 "is_integer" (lift ⟨K, P, w, T⟩ sp_is_integer)) (cdv : Value) (A : Around) (outer : List Env) (s : Shared) (H : Hp) (E : XK) 
    (hr : Room 1 (A.deeper (PyProof.Rows.envOfC "is_base" (defScope s_is_base) s.heap.objs.size f cdv))) : PSs (cxOf (L2.CX P w) P w K mg base n_is_base "is_base" (defScope s_is_base) f cdv A outer s H E) (defBody s_is_base) (t_is_base ⟨K, P, w, T⟩ E) := by
  exact (pss_one (ps_ret (pe_and (pe_cn c_is_integer hr (by decide) rfl (pa_cons (pv 0) pa_nil)) (pe_one (pe_chain op_le op_le pe_int (pe_callB call_abs rfl B.abs_ (by decide +kernel) (pa_cons (pv 0) pa_nil)) pe_int)))))
theorem b_is_base {K : Frag} {a : Addr} {fd : FuncData} (F : FunD K "is_base" "is_base" (defArgs s_is_base) (defBody s_is_base) (defScope s_is_base) [] [] a fd) : L2.Binds K fd ["value"] [] := F.bindsN fun _ _ _ _ _ _ us hl => match us, hl with | [_], _ => rfl
theorem f_is_base {P : Program} {w : World} {K : Frag} {T : List (Addr × Str)} {mg : Str → Option Value} {base : Heap} {a : Addr} {fd : FuncData} (B : Bt mg) (c_is_integer : CalX P w K mg base 1 "is_integer" (lift ⟨K, P, w, T⟩ sp_is_integer)) (F : FunD K "is_base" "is_base" (defArgs s_is_base) (defBody s_is_base) (defScope s_is_base) [] [] a fd) : FnOk P w K mg base (L2.CX P w) 2 a fd ["value"] (lift ⟨K, P, w, T⟩ sp_is_base) :=
  okD F sc_is_base len_is_base (fun E Ψ => r_is_base  E Ψ) pure_is_base fun cdv A outer s H E hr => der_is_base B c_is_integer cdv A outer s H E hr
theorem sc_is_row_like : FnScope n_is_row_like ["value"] (defScope s_is_row_like) := ⟨rfl, rfl, rfl, by decide +kernel, rfl, by decide +kernel, by decide +kernel⟩
theorem der_is_row_like {P : Program} {w : World} {K : Frag} {T : List (Addr × Str)} {mg : Str → Option Value} {base : Heap} {f : Addr} (B : Bt mg) (cdv : Value) (A : Around) (outer : List Env) (s : Shared) (H : Hp) (E : XK) 
    (hr : Room 0 (A.deeper (PyProof.Rows.envOfC "is_row_like" (defScope s_is_row_like) s.heap.objs.size f cdv))) : PSs (cxOf (L2.CX P w) P w K mg base n_is_row_like "is_row_like" (defScope s_is_row_like) f cdv A outer s H E) (defBody s_is_row_like) (t_is_row_like ⟨K, P, w, T⟩ E) := by
  exact (pss_one (ps_ret (pe_callB call_isiT rfl B.isinstance_ (by decide +kernel) (pa_cons (pv 0) (pa_cons (pe_tup (pa_cons (pe_bltn rfl B.list_ (by decide +kernel) rfl) (pa_cons (pe_bltn rfl B.tuple_ (by decide +kernel) rfl) pa_nil))) pa_nil)))))
theorem b_is_row_like {K : Frag} {a : Addr} {fd : FuncData} (F : FunD K "is_row_like" "is_row_like" (defArgs s_is_row_like) (defBody s_is_row_like) (defScope s_is_row_like) [] [] a fd) : L2.Binds K fd ["value"] [] := F.bindsN fun _ _ _ _ _ _ us hl => match us, hl with | [_], _ => rfl
theorem f_is_row_like {P : Program} {w : World} {K : Frag} {T : List (Addr × Str)} {mg : Str → Option Value} {base : Heap} {a : Addr} {fd : FuncData} (B : Bt mg) (F : FunD K "is_row_like" "is_row_like" (defArgs s_is_row_like) (defBody s_is_row_like) (defScope s_is_row_like) [] [] a fd) : FnOk P w K mg base (L2.CX P w) 1 a fd ["value"] (lift ⟨K, P, w, T⟩ sp_is_row_like) :=
  okD F sc_is_row_like len_is_row_like (fun E Ψ => r_is_row_like  E Ψ) pure_is_row_like fun cdv A outer s H E hr => der_is_row_like B cdv A outer s H E hr
theorem sc_is_name : FnScope n_is_name ["value"] (defScope s_is_name) := ⟨rfl, rfl, rfl, by decide +kernel, rfl, by decide +kernel, by decide +kernel⟩
theorem der_is_name {P : Program} {w : World} {K : Frag} {T : List (Addr × Str)} {mg : Str → Option Value} {base : Heap} {f : Addr} (B : Bt mg) (g_LETTERS : ∃ t, mg "LETTERS" = some (.str "abcdefghijklmnopqrstuvwxyz" t)) (cdv : Value) (A : Around) (outer : List Env) (s : Shared) (H : Hp) (E : XK) 
    (hr : Room 0 (A.deeper (PyProof.Rows.envOfC "is_name" (defScope s_is_name) s.heap.objs.size f cdv))) : PSs (cxOf (L2.CX P w) P w K mg base n_is_name "is_name" (defScope s_is_name) f cdv A outer s H E) (defBody s_is_name) (t_is_name ⟨K, P, w, T⟩ E) := by
  obtain ⟨tk_LETTERS, g_LETTERS⟩ := g_LETTERS
  exact (pss_one (ps_ret (pe_and (pe_callB call_isi rfl B.isinstance_ (by decide +kernel) (pa_cons (pv 0) (pa_cons (pe_bltn rfl B.str_ (by decide +kernel) rfl) pa_nil))) (pe_and (pe_chain op_le op_le pe_int (pe_callB call_len_str rfl B.len_ (by decide +kernel) (pa_cons (pv 0) pa_nil)) pe_int) (pe_one (pe_callB (cr_all rfl) rfl B.all_ (by decide +kernel) (pa_cons (pe_lcn (own := [("sign", 1)]) rfl sc_is_name.nd (pi_str (pv 0)) (by walk_at "sw_blk") (fun _ _ _ _ _ => (pg_name (i := 1) sc_is_name.nd rfl (by walk_at "sw_loc"))) (fun _ _ _ _ _ => pts_nil) (fun _ _ _ _ _ => (pe_cmpR op_in_sign (pv 1) (pe_glob rfl g_LETTERS ⟨_, rfl⟩) rfl))) pa_nil)))))))
theorem b_is_name {K : Frag} {a : Addr} {fd : FuncData} (F : FunD K "is_name" "is_name" (defArgs s_is_name) (defBody s_is_name) (defScope s_is_name) [] [] a fd) : L2.Binds K fd ["value"] [] := F.bindsN fun _ _ _ _ _ _ us hl => match us, hl with | [_], _ => rfl
theorem f_is_name {P : Program} {w : World} {K : Frag} {T : List (Addr × Str)} {mg : Str → Option Value} {base : Heap} {a : Addr} {fd : FuncData} (B : Bt mg) (g_LETTERS : ∃ t, mg "LETTERS" = some (.str "abcdefghijklmnopqrstuvwxyz" t)) (F : FunD K "is_name" "is_name" (defArgs s_is_name) (defBody s_is_name) (defScope s_is_name) [] [] a fd) : FnOk P w K mg base (L2.CX P w) 1 a fd ["value"] (lift ⟨K, P, w, T⟩ sp_is_name) :=
  okD F sc_is_name len_is_name (fun E Ψ => r_is_name  E Ψ) pure_is_name fun cdv A outer s H E hr => der_is_name B g_LETTERS cdv A outer s H E hr
theorem sc_is_between : FnScope n_is_between ["value", "least", "greatest"] (defScope s_is_between) := ⟨rfl, rfl, rfl, by decide +kernel, rfl, by decide +kernel, by decide +kernel⟩
theorem der_is_between {P : Program} {w : World} {K : Frag} {T : List (Addr × Str)} {mg : Str → Option Value} {base : Heap} {f : Addr} (c_is_integer : CalX P w K mg base 1 "is_integer" (lift ⟨K, P, w, T⟩ sp_is_integer)) (cdv : Value) (A : Around) (outer : List Env) (s : Shared) (H : Hp) (E : XK) 
    (hr : Room 1 (A.deeper (PyProof.Rows.envOfC "is_between" (defScope s_is_between) s.heap.objs.size f cdv))) : PSs (cxOf (L2.CX P w) P w K mg base n_is_between "is_between" (defScope s_is_between) f cdv A outer s H E) (defBody s_is_between) (t_is_between ⟨K, P, w, T⟩ E) := by
  exact (pss_one (ps_ret (pe_and (pe_cn c_is_integer hr (by decide) rfl (pa_cons (pv 0) pa_nil)) (pe_one (pe_chain op_le op_le (pv 1) (pv 0) (pv 2))))))
theorem b_is_between {K : Frag} {a : Addr} {fd : FuncData} (F : FunD K "is_between" "is_between" (defArgs s_is_between) (defBody s_is_between) (defScope s_is_between) [] [] a fd) : L2.Binds K fd ["value", "least", "greatest"] [] := F.bindsN fun _ _ _ _ _ _ us hl => match us, hl with | [_, _, _], _ => rfl
theorem f_is_between {P : Program} {w : World} {K : Frag} {T : List (Addr × Str)} {mg : Str → Option Value} {base : Heap} {a : Addr} {fd : FuncData} (c_is_integer : CalX P w K mg base 1 "is_integer" (lift ⟨K, P, w, T⟩ sp_is_integer)) (F : FunD K "is_between" "is_between" (defArgs s_is_between) (defBody s_is_between) (defScope s_is_between) [] [] a fd) : FnOk P w K mg base (L2.CX P w) 2 a fd ["value", "least", "greatest"] (lift ⟨K, P, w, T⟩ sp_is_between) :=
  okD F sc_is_between len_is_between (fun E Ψ => r_is_between  E Ψ) pure_is_between fun cdv A outer s H E hr => der_is_between c_is_integer cdv A outer s H E hr
theorem sc_is_term : FnScope n_is_term ["value"] (defScope s_is_term) := ⟨rfl, rfl, rfl, by decide +kernel, rfl, by decide +kernel, by decide +kernel⟩
theorem der_is_term {P : Program} {w : World} {K : Frag} {T : List (Addr × Str)} {mg : Str → Option Value} {base : Heap} {f : Addr} (c_is_between : CalX P w K mg base 2 "is_between" (lift ⟨K, P, w, T⟩ sp_is_between)) (g_GREATEST : ∃ t, mg "GREATEST" = some (.int 1000000 t)) (cdv : Value) (A : Around) (outer : List Env) (s : Shared) (H : Hp) (E : XK) 
    (hr : Room 2 (A.deeper (PyProof.Rows.envOfC "is_term" (defScope s_is_term) s.heap.objs.size f cdv))) : PSs (cxOf (L2.CX P w) P w K mg base n_is_term "is_term" (defScope s_is_term) f cdv A outer s H E) (defBody s_is_term) (t_is_term ⟨K, P, w, T⟩ E) := by
  obtain ⟨tk_GREATEST, g_GREATEST⟩ := g_GREATEST
  exact (pss_one (ps_ret (pe_cn c_is_between hr (by decide) rfl (pa_cons (pv 0) (pa_cons (pe_un un_neg (pe_glob rfl g_GREATEST ⟨_, rfl⟩)) (pa_cons (pe_glob rfl g_GREATEST ⟨_, rfl⟩) pa_nil))))))
theorem b_is_term {K : Frag} {a : Addr} {fd : FuncData} (F : FunD K "is_term" "is_term" (defArgs s_is_term) (defBody s_is_term) (defScope s_is_term) [] [] a fd) : L2.Binds K fd ["value"] [] := F.bindsN fun _ _ _ _ _ _ us hl => match us, hl with | [_], _ => rfl
theorem f_is_term {P : Program} {w : World} {K : Frag} {T : List (Addr × Str)} {mg : Str → Option Value} {base : Heap} {a : Addr} {fd : FuncData} (c_is_between : CalX P w K mg base 2 "is_between" (lift ⟨K, P, w, T⟩ sp_is_between)) (g_GREATEST : ∃ t, mg "GREATEST" = some (.int 1000000 t)) (F : FunD K "is_term" "is_term" (defArgs s_is_term) (defBody s_is_term) (defScope s_is_term) [] [] a fd) : FnOk P w K mg base (L2.CX P w) 3 a fd ["value"] (lift ⟨K, P, w, T⟩ sp_is_term) :=
  okD F sc_is_term len_is_term (fun E Ψ => r_is_term  E Ψ) pure_is_term fun cdv A outer s H E hr => der_is_term c_is_between g_GREATEST cdv A outer s H E hr
theorem sc_is_register : FnScope n_is_register ["value", "names"] (defScope s_is_register) := ⟨rfl, rfl, rfl, by decide +kernel, rfl, by decide +kernel, by decide +kernel⟩
theorem der_is_register {P : Program} {w : World} {K : Frag} {T : List (Addr × Str)} {mg : Str → Option Value} {base : Heap} {f : Addr} (B : Bt mg) (c_is_name : CalX P w K mg base 1 "is_name" (lift ⟨K, P, w, T⟩ sp_is_name)) (c_is_term : CalX P w K mg base 3 "is_term" (lift ⟨K, P, w, T⟩ sp_is_term)) (cdv : Value) (A : Around) (outer : List Env) (s : Shared) (H : Hp) (E : XK) 
    (hr : Room 3 (A.deeper (PyProof.Rows.envOfC "is_register" (defScope s_is_register) s.heap.objs.size f cdv))) : PSs (cxOf (L2.CX P w) P w K mg base n_is_register "is_register" (defScope s_is_register) f cdv A outer s H E) (defBody s_is_register) (t_is_register ⟨K, P, w, T⟩ E) := by
  exact (pss_cons (ps_if (PW.pt (pw_or (pt_not (pt_val (pe_callB call_isi rfl B.isinstance_ (by decide +kernel) (pa_cons (pv 0) (pa_cons (pe_bltn rfl B.tuple_ (by decide +kernel) rfl) pa_nil))))) (pw_or1 (pt_cmpR op_ne (pe_callB call_len_seq rfl B.len_ (by decide +kernel) (pa_cons (pv 0) pa_nil)) pe_int (nomark _))))) (pss_one (ps_ret pe_bl)) pss_nil) (pss_one (ps_ret (pe_and (pe_cn c_is_name hr (by decide) rfl (pa_cons (pe_ix ix_seq (pv 0) pe_int (fun _ _ => rfl)) pa_nil)) (pe_and (pe_cmpR op_notIn_seq (pe_ix ix_seq (pv 0) pe_int (fun _ _ => rfl)) (pv 1) rfl) (pe_one (pe_cn c_is_term hr (by decide) rfl (pa_cons (pe_ix ix_seq (pv 0) pe_int (fun _ _ => rfl)) pa_nil))))))))
theorem b_is_register {K : Frag} {a : Addr} {fd : FuncData} (F : FunD K "is_register" "is_register" (defArgs s_is_register) (defBody s_is_register) (defScope s_is_register) [] [] a fd) : L2.Binds K fd ["value", "names"] [] := F.bindsN fun _ _ _ _ _ _ us hl => match us, hl with | [_, _], _ => rfl
theorem f_is_register {P : Program} {w : World} {K : Frag} {T : List (Addr × Str)} {mg : Str → Option Value} {base : Heap} {a : Addr} {fd : FuncData} (B : Bt mg) (c_is_name : CalX P w K mg base 1 "is_name" (lift ⟨K, P, w, T⟩ sp_is_name)) (c_is_term : CalX P w K mg base 3 "is_term" (lift ⟨K, P, w, T⟩ sp_is_term)) (F : FunD K "is_register" "is_register" (defArgs s_is_register) (defBody s_is_register) (defScope s_is_register) [] [] a fd) : FnOk P w K mg base (L2.CX P w) 4 a fd ["value", "names"] (lift ⟨K, P, w, T⟩ sp_is_register) :=
  okD F sc_is_register len_is_register (fun E Ψ => r_is_register  E Ψ) pure_is_register fun cdv A outer s H E hr => der_is_register B c_is_name c_is_term cdv A outer s H E hr
theorem sc_require_registers : FnScope n_require_registers ["registers"] (defScope s_require_registers) := ⟨rfl, rfl, rfl, by decide +kernel, rfl, by decide +kernel, by decide +kernel⟩
theorem der_require_registers {P : Program} {w : World} {K : Frag} {T : List (Addr × Str)} {mg : Str → Option Value} {base : Heap} {f : Addr} (B : Bt mg) (c_is_row_like : CalX P w K mg base 1 "is_row_like" (lift ⟨K, P, w, T⟩ sp_is_row_like)) (c_is_register : CalX P w K mg base 4 "is_register" (lift ⟨K, P, w, T⟩ sp_is_register)) (cdv : Value) (A : Around) (outer : List Env) (s : Shared) (H : Hp) (E : XK) 
    (hr : Room 4 (A.deeper (PyProof.Rows.envOfC "require_registers" (defScope s_require_registers) s.heap.objs.size f cdv))) : PSs (cxOf (L2.CX P w) P w K mg base n_require_registers "require_registers" (defScope s_require_registers) f cdv A outer s H E) (defBody s_require_registers) (t_require_registers ⟨K, P, w, T⟩ E) := by
  exact (pss_cons (ps_if (PW.pt (pw_or (pt_not (pt_val (pe_cn c_is_row_like hr (by decide) rfl (pa_cons (pv 0) pa_nil)))) (pw_or1 (pt_not (pt_chain op_le op_le pe_int (pe_callB call_len_seq rfl B.len_ (by decide +kernel) (pa_cons (pv 0) pa_nil)) pe_int))))) (pss_one ps_never) pss_nil) (pss_cons (ps_set (i := 1) sc_require_registers.nd rfl (by walk_at "sw_loc") (pe_lst pa_nil)) (pss_one (ps_for (passes_of rfl) rfl (pi_enum rfl B.enumerate_ (pa_cons (pv 0) pa_nil)) (pg_tup (by rfl) (pgs_cons (pg_name (i := 2) sc_require_registers.nd rfl (by walk_at "sw_loc")) (pgs_cons (pg_name (i := 3) sc_require_registers.nd rfl (by walk_at "sw_loc")) pgs_nil))) (pss_cons (ps_if (pt_not (pt_val (pe_cn c_is_register hr (by decide) rfl (pa_cons (pv 3) (pa_cons (pv 1) pa_nil))))) (pss_one ps_never) pss_nil) (pss_one (ps_expr (pe_bm PySem.F.plainAttrs_list PySem.F.slot_list_append PySem.F.type_list_append mt_append (pv 1) (pa_cons (pe_ix ix_seq (pv 3) pe_int (fun _ _ => rfl)) pa_nil)))))))))
theorem b_require_registers {K : Frag} {a : Addr} {fd : FuncData} (F : FunD K "require_registers" "require_registers" (defArgs s_require_registers) (defBody s_require_registers) (defScope s_require_registers) [] [] a fd) : L2.Binds K fd ["registers"] [] := F.bindsN fun _ _ _ _ _ _ us hl => match us, hl with | [_], _ => rfl
theorem f_require_registers {P : Program} {w : World} {K : Frag} {T : List (Addr × Str)} {mg : Str → Option Value} {base : Heap} {a : Addr} {fd : FuncData} (B : Bt mg) (c_is_row_like : CalX P w K mg base 1 "is_row_like" (lift ⟨K, P, w, T⟩ sp_is_row_like)) (c_is_register : CalX P w K mg base 4 "is_register" (lift ⟨K, P, w, T⟩ sp_is_register)) (F : FunD K "require_registers" "require_registers" (defArgs s_require_registers) (defBody s_require_registers) (defScope s_require_registers) [] [] a fd) : FnOk P w K mg base (L2.CX P w) 5 a fd ["registers"] (lift ⟨K, P, w, T⟩ sp_require_registers) :=
  okD F sc_require_registers len_require_registers (fun E Ψ => r_require_registers  E Ψ) pure_require_registers fun cdv A outer s H E hr => der_require_registers B c_is_row_like c_is_register cdv A outer s H E hr
theorem sc_is_rule : FnScope n_is_rule ["value"] (defScope s_is_rule) := ⟨rfl, rfl, rfl, by decide +kernel, rfl, by decide +kernel, by decide +kernel⟩
theorem der_is_rule {P : Program} {w : World} {K : Frag} {T : List (Addr × Str)} {mg : Str → Option Value} {base : Heap} {f : Addr} (B : Bt mg) (g_RULES : mg "RULES" = some (.ref (He.ga K "RULES"))) (cdv : Value) (A : Around) (outer : List Env) (s : Shared) (H : Hp) (E : XK) 
    (hr : Room 0 (A.deeper (PyProof.Rows.envOfC "is_rule" (defScope s_is_rule) s.heap.objs.size f cdv))) : PSs (cxOf (L2.CX P w) P w K mg base n_is_rule "is_rule" (defScope s_is_rule) f cdv A outer s H E) (defBody s_is_rule) (t_is_rule ⟨K, P, w, T⟩ E) := by
  exact (pss_one (ps_ret (pe_and (pe_callB call_isi rfl B.isinstance_ (by decide +kernel) (pa_cons (pv 0) (pa_cons (pe_bltn rfl B.str_ (by decide +kernel) rfl) pa_nil))) (pe_one (pe_cmpR op_in_seq (pv 0) (pe_glob rfl g_RULES rfl) rfl)))))
theorem b_is_rule {K : Frag} {a : Addr} {fd : FuncData} (F : FunD K "is_rule" "is_rule" (defArgs s_is_rule) (defBody s_is_rule) (defScope s_is_rule) [] [] a fd) : L2.Binds K fd ["value"] [] := F.bindsN fun _ _ _ _ _ _ us hl => match us, hl with | [_], _ => rfl
theorem f_is_rule {P : Program} {w : World} {K : Frag} {T : List (Addr × Str)} {mg : Str → Option Value} {base : Heap} {a : Addr} {fd : FuncData} (B : Bt mg) (g_RULES : mg "RULES" = some (.ref (He.ga K "RULES"))) (tb_RULES : TabRULES K) (F : FunD K "is_rule" "is_rule" (defArgs s_is_rule) (defBody s_is_rule) (defScope s_is_rule) [] [] a fd) : FnOk P w K mg base (L2.CX P w) 1 a fd ["value"] (lift ⟨K, P, w, T⟩ sp_is_rule) :=
  okD F sc_is_rule len_is_rule (fun E Ψ => r_is_rule tb_RULES E Ψ) pure_is_rule fun cdv A outer s H E hr => der_is_rule B g_RULES cdv A outer s H E hr
theorem sc_is_mode : FnScope n_is_mode ["value", "names"] (defScope s_is_mode) := ⟨rfl, rfl, rfl, by decide +kernel, rfl, by decide +kernel, by decide +kernel⟩
theorem der_is_mode {P : Program} {w : World} {K : Frag} {T : List (Addr × Str)} {mg : Str → Option Value} {base : Heap} {f : Addr} (B : Bt mg) (c_is_name : CalX P w K mg base 1 "is_name" (lift ⟨K, P, w, T⟩ sp_is_name)) (c_is_rule : CalX P w K mg base 1 "is_rule" (lift ⟨K, P, w, T⟩ sp_is_rule)) (c_is_row_like : CalX P w K mg base 1 "is_row_like" (lift ⟨K, P, w, T⟩ sp_is_row_like)) (cdv : Value) (A : Around) (outer : List Env) (s : Shared) (H : Hp) (E : XK) 
    (hr : Room 1 (A.deeper (PyProof.Rows.envOfC "is_mode" (defScope s_is_mode) s.heap.objs.size f cdv))) : PSs (cxOf (L2.CX P w) P w K mg base n_is_mode "is_mode" (defScope s_is_mode) f cdv A outer s H E) (defBody s_is_mode) (t_is_mode ⟨K, P, w, T⟩ E) := by
  exact (pss_cons (ps_if (PW.pt (pw_or (pt_not (pt_val (pe_callB call_isi rfl B.isinstance_ (by decide +kernel) (pa_cons (pv 0) (pa_cons (pe_bltn rfl B.tuple_ (by decide +kernel) rfl) pa_nil))))) (pw_or1 (pt_cmpR op_ne (pe_callB call_len_seq rfl B.len_ (by decide +kernel) (pa_cons (pv 0) pa_nil)) pe_int (nomark _))))) (pss_one (ps_ret pe_bl)) pss_nil) (pss_one (ps_ret (pe_and (pe_cn c_is_name hr (by decide) rfl (pa_cons (pe_ix ix_seq (pv 0) pe_int (fun _ _ => rfl)) pa_nil)) (pe_and (pe_cmpR op_notIn_seq (pe_ix ix_seq (pv 0) pe_int (fun _ _ => rfl)) (pv 1) rfl) (pe_and (pe_cn c_is_rule hr (by decide) rfl (pa_cons (pe_ix ix_seq (pv 0) pe_int (fun _ _ => rfl)) pa_nil)) (pe_one (pe_cn c_is_row_like hr (by decide) rfl (pa_cons (pe_ix ix_seq (pv 0) pe_int (fun _ _ => rfl)) pa_nil)))))))))
theorem b_is_mode {K : Frag} {a : Addr} {fd : FuncData} (F : FunD K "is_mode" "is_mode" (defArgs s_is_mode) (defBody s_is_mode) (defScope s_is_mode) [] [] a fd) : L2.Binds K fd ["value", "names"] [] := F.bindsN fun _ _ _ _ _ _ us hl => match us, hl with | [_, _], _ => rfl
theorem f_is_mode {P : Program} {w : World} {K : Frag} {T : List (Addr × Str)} {mg : Str → Option Value} {base : Heap} {a : Addr} {fd : FuncData} (B : Bt mg) (c_is_name : CalX P w K mg base 1 "is_name" (lift ⟨K, P, w, T⟩ sp_is_name)) (c_is_rule : CalX P w K mg base 1 "is_rule" (lift ⟨K, P, w, T⟩ sp_is_rule)) (c_is_row_like : CalX P w K mg base 1 "is_row_like" (lift ⟨K, P, w, T⟩ sp_is_row_like)) (F : FunD K "is_mode" "is_mode" (defArgs s_is_mode) (defBody s_is_mode) (defScope s_is_mode) [] [] a fd) : FnOk P w K mg base (L2.CX P w) 2 a fd ["value", "names"] (lift ⟨K, P, w, T⟩ sp_is_mode) :=
  okD F sc_is_mode len_is_mode (fun E Ψ => r_is_mode  E Ψ) pure_is_mode fun cdv A outer s H E hr => der_is_mode B c_is_name c_is_rule c_is_row_like cdv A outer s H E hr
theorem sc_require_modes : FnScope n_require_modes ["modes"] (defScope s_require_modes) := ⟨rfl, rfl, rfl, by decide +kernel, rfl, by decide +kernel, by decide +kernel⟩
theorem der_require_modes {P : Program} {w : World} {K : Frag} {T : List (Addr × Str)} {mg : Str → Option Value} {base : Heap} {f : Addr} (B : Bt mg) (c_is_row_like : CalX P w K mg base 1 "is_row_like" (lift ⟨K, P, w, T⟩ sp_is_row_like)) (c_is_mode : CalX P w K mg base 2 "is_mode" (lift ⟨K, P, w, T⟩ sp_is_mode)) (cdv : Value) (A : Around) (outer : List Env) (s : Shared) (H : Hp) (E : XK) 
    (hr : Room 2 (A.deeper (PyProof.Rows.envOfC "require_modes" (defScope s_require_modes) s.heap.objs.size f cdv))) : PSs (cxOf (L2.CX P w) P w K mg base n_require_modes "require_modes" (defScope s_require_modes) f cdv A outer s H E) (defBody s_require_modes) (t_require_modes ⟨K, P, w, T⟩ E) := by
  exact (pss_cons (ps_if (PW.pt (pw_or (pt_not (pt_val (pe_cn c_is_row_like hr (by decide) rfl (pa_cons (pv 0) pa_nil)))) (pw_or1 (pt_not (pt_chain op_le op_le pe_int (pe_callB call_len_seq rfl B.len_ (by decide +kernel) (pa_cons (pv 0) pa_nil)) pe_int))))) (pss_one ps_never) pss_nil) (pss_cons (ps_set (i := 1) sc_require_modes.nd rfl (by walk_at "sw_loc") (pe_lst pa_nil)) (pss_one (ps_for (passes_of rfl) rfl (pi_enum rfl B.enumerate_ (pa_cons (pv 0) pa_nil)) (pg_tup (by rfl) (pgs_cons (pg_name (i := 2) sc_require_modes.nd rfl (by walk_at "sw_loc")) (pgs_cons (pg_name (i := 3) sc_require_modes.nd rfl (by walk_at "sw_loc")) pgs_nil))) (pss_cons (ps_if (pt_not (pt_val (pe_cn c_is_mode hr (by decide) rfl (pa_cons (pv 3) (pa_cons (pv 1) pa_nil))))) (pss_one ps_never) pss_nil) (pss_one (ps_expr (pe_bm PySem.F.plainAttrs_list PySem.F.slot_list_append PySem.F.type_list_append mt_append (pv 1) (pa_cons (pe_ix ix_seq (pv 3) pe_int (fun _ _ => rfl)) pa_nil)))))))))
theorem b_require_modes {K : Frag} {a : Addr} {fd : FuncData} (F : FunD K "require_modes" "require_modes" (defArgs s_require_modes) (defBody s_require_modes) (defScope s_require_modes) [] [] a fd) : L2.Binds K fd ["modes"] [] := F.bindsN fun _ _ _ _ _ _ us hl => match us, hl with | [_], _ => rfl
theorem f_require_modes {P : Program} {w : World} {K : Frag} {T : List (Addr × Str)} {mg : Str → Option Value} {base : Heap} {a : Addr} {fd : FuncData} (B : Bt mg) (c_is_row_like : CalX P w K mg base 1 "is_row_like" (lift ⟨K, P, w, T⟩ sp_is_row_like)) (c_is_mode : CalX P w K mg base 2 "is_mode" (lift ⟨K, P, w, T⟩ sp_is_mode)) (F : FunD K "require_modes" "require_modes" (defArgs s_require_modes) (defBody s_require_modes) (defScope s_require_modes) [] [] a fd) : FnOk P w K mg base (L2.CX P w) 3 a fd ["modes"] (lift ⟨K, P, w, T⟩ sp_require_modes) :=
  okD F sc_require_modes len_require_modes (fun E Ψ => r_require_modes  E Ψ) pure_require_modes fun cdv A outer s H E hr => der_require_modes B c_is_row_like c_is_mode cdv A outer s H E hr
theorem sc_are_terms : FnScope n_are_terms ["value", "many"] (defScope s_are_terms) := ⟨rfl, rfl, rfl, by decide +kernel, rfl, by decide +kernel, by decide +kernel⟩
theorem der_are_terms {P : Program} {w : World} {K : Frag} {T : List (Addr × Str)} {mg : Str → Option Value} {base : Heap} {f : Addr} (B : Bt mg) (c_is_term : CalX P w K mg base 3 "is_term" (lift ⟨K, P, w, T⟩ sp_is_term)) (cdv : Value) (A : Around) (outer : List Env) (s : Shared) (H : Hp) (E : XK) 
    (hr : Room 3 (A.deeper (PyProof.Rows.envOfC "are_terms" (defScope s_are_terms) s.heap.objs.size f cdv))) : PSs (cxOf (L2.CX P w) P w K mg base n_are_terms "are_terms" (defScope s_are_terms) f cdv A outer s H E) (defBody s_are_terms) (t_are_terms ⟨K, P, w, T⟩ E) := by
  exact (pss_one (ps_ret (pe_and (pe_callB call_isi rfl B.isinstance_ (by decide +kernel) (pa_cons (pv 0) (pa_cons (pe_bltn rfl B.tuple_ (by decide +kernel) rfl) pa_nil))) (pe_and (pe_cmpR op_eq (pe_callB call_len_seq rfl B.len_ (by decide +kernel) (pa_cons (pv 0) pa_nil)) (pv 1) (nomark _)) (pe_one (pe_callB (cr_all rfl) rfl B.all_ (by decide +kernel) (pa_cons (pe_lcn (own := [("one", 2)]) rfl sc_are_terms.nd (pi_tup (pv 0)) (by walk_at "sw_blk") (fun _ _ _ _ _ => (pg_name (i := 2) sc_are_terms.nd rfl (by walk_at "sw_loc"))) (fun _ _ _ _ _ => pts_nil) (fun _ _ _ _ _ => (pe_cn c_is_term hr (by decide) rfl (pa_cons (pv 2) pa_nil)))) pa_nil)))))))
theorem b_are_terms {K : Frag} {a : Addr} {fd : FuncData} (F : FunD K "are_terms" "are_terms" (defArgs s_are_terms) (defBody s_are_terms) (defScope s_are_terms) [] [] a fd) : L2.Binds K fd ["value", "many"] [] := F.bindsN fun _ _ _ _ _ _ us hl => match us, hl with | [_, _], _ => rfl
theorem f_are_terms {P : Program} {w : World} {K : Frag} {T : List (Addr × Str)} {mg : Str → Option Value} {base : Heap} {a : Addr} {fd : FuncData} (B : Bt mg) (c_is_term : CalX P w K mg base 3 "is_term" (lift ⟨K, P, w, T⟩ sp_is_term)) (F : FunD K "are_terms" "are_terms" (defArgs s_are_terms) (defBody s_are_terms) (defScope s_are_terms) [] [] a fd) : FnOk P w K mg base (L2.CX P w) 4 a fd ["value", "many"] (lift ⟨K, P, w, T⟩ sp_are_terms) :=
  okD F sc_are_terms len_are_terms (fun E Ψ => r_are_terms  E Ψ) pure_are_terms fun cdv A outer s H E hr => der_are_terms B c_is_term cdv A outer s H E hr
theorem sc_are_updates : FnScope n_are_updates ["value", "many"] (defScope s_are_updates) := ⟨rfl, rfl, rfl, by decide +kernel, rfl, by decide +kernel, by decide +kernel⟩
theorem der_are_updates {P : Program} {w : World} {K : Frag} {T : List (Addr × Str)} {mg : Str → Option Value} {base : Heap} {f : Addr} (B : Bt mg) (c_are_terms : CalX P w K mg base 4 "are_terms" (lift ⟨K, P, w, T⟩ sp_are_terms)) (cdv : Value) (A : Around) (outer : List Env) (s : Shared) (H : Hp) (E : XK) 
    (hr : Room 4 (A.deeper (PyProof.Rows.envOfC "are_updates" (defScope s_are_updates) s.heap.objs.size f cdv))) : PSs (cxOf (L2.CX P w) P w K mg base n_are_updates "are_updates" (defScope s_are_updates) f cdv A outer s H E) (defBody s_are_updates) (t_are_updates ⟨K, P, w, T⟩ E) := by
  exact (pss_one (ps_ret (pe_and (pe_callB call_isi rfl B.isinstance_ (by decide +kernel) (pa_cons (pv 0) (pa_cons (pe_bltn rfl B.tuple_ (by decide +kernel) rfl) pa_nil))) (pe_and (pe_cmpR op_eq (pe_callB call_len_seq rfl B.len_ (by decide +kernel) (pa_cons (pv 0) pa_nil)) (pv 1) (nomark _)) (pe_one (pe_callB (cr_all rfl) rfl B.all_ (by decide +kernel) (pa_cons (pe_lcn (own := [("one", 2)]) rfl sc_are_updates.nd (pi_tup (pv 0)) (by walk_at "sw_blk") (fun _ _ _ _ _ => (pg_name (i := 2) sc_are_updates.nd rfl (by walk_at "sw_loc"))) (fun _ _ _ _ _ => pts_nil) (fun _ _ _ _ _ => (pe_cn c_are_terms hr (by decide) rfl (pa_cons (pv 2) (pa_cons (pe_op op_add (pv 1) pe_int) pa_nil))))) pa_nil)))))))
theorem b_are_updates {K : Frag} {a : Addr} {fd : FuncData} (F : FunD K "are_updates" "are_updates" (defArgs s_are_updates) (defBody s_are_updates) (defScope s_are_updates) [] [] a fd) : L2.Binds K fd ["value", "many"] [] := F.bindsN fun _ _ _ _ _ _ us hl => match us, hl with | [_, _], _ => rfl
theorem f_are_updates {P : Program} {w : World} {K : Frag} {T : List (Addr × Str)} {mg : Str → Option Value} {base : Heap} {a : Addr} {fd : FuncData} (B : Bt mg) (c_are_terms : CalX P w K mg base 4 "are_terms" (lift ⟨K, P, w, T⟩ sp_are_terms)) (F : FunD K "are_updates" "are_updates" (defArgs s_are_updates) (defBody s_are_updates) (defScope s_are_updates) [] [] a fd) : FnOk P w K mg base (L2.CX P w) 5 a fd ["value", "many"] (lift ⟨K, P, w, T⟩ sp_are_updates) :=
  okD F sc_are_updates len_are_updates (fun E Ψ => r_are_updates  E Ψ) pure_are_updates fun cdv A outer s H E hr => der_are_updates B c_are_terms cdv A outer s H E hr
theorem sc_is_line : FnScope n_is_line ["value", "size", "many", "names"] (defScope s_is_line) := ⟨rfl, rfl, rfl, by decide +kernel, rfl, by decide +kernel, by decide +kernel⟩
theorem der_is_line {P : Program} {w : World} {K : Frag} {T : List (Addr × Str)} {mg : Str → Option Value} {base : Heap} {f : Addr} (B : Bt mg) (c_is_between : CalX P w K mg base 2 "is_between" (lift ⟨K, P, w, T⟩ sp_is_between)) (c_is_integer : CalX P w K mg base 1 "is_integer" (lift ⟨K, P, w, T⟩ sp_is_integer)) (c_are_updates : CalX P w K mg base 5 "are_updates" (lift ⟨K, P, w, T⟩ sp_are_updates)) (cdv : Value) (A : Around) (outer : List Env) (s : Shared) (H : Hp) (E : XK) 
    (hr : Room 5 (A.deeper (PyProof.Rows.envOfC "is_line" (defScope s_is_line) s.heap.objs.size f cdv))) : PSs (cxOf (L2.CX P w) P w K mg base n_is_line "is_line" (defScope s_is_line) f cdv A outer s H E) (defBody s_is_line) (t_is_line ⟨K, P, w, T⟩ E) := by
  exact (pss_cons (ps_if (PW.pt (pw_or (pt_not (pt_val (pe_callB call_isi rfl B.isinstance_ (by decide +kernel) (pa_cons (pv 0) (pa_cons (pe_bltn rfl B.tuple_ (by decide +kernel) rfl) pa_nil))))) (pw_or1 (pt_cmpR op_ne (pe_callB call_len_seq rfl B.len_ (by decide +kernel) (pa_cons (pv 0) pa_nil)) pe_int (nomark _))))) (pss_one (ps_ret pe_bl)) pss_nil) (pss_cons (ps_asg (pv 0) (pg_tup (by rfl) (pgs_cons (pg_name (i := 4) sc_is_line.nd rfl (by walk_at "sw_loc")) (pgs_cons (pg_name (i := 5) sc_is_line.nd rfl (by walk_at "sw_loc")) (pgs_cons (pg_name (i := 6) sc_is_line.nd rfl (by walk_at "sw_loc")) (pgs_cons (pg_name (i := 7) sc_is_line.nd rfl (by walk_at "sw_loc")) pgs_nil)))))) (pss_cons (ps_if (PW.pt (pw_and (pt_cmpR op_notN (pv 4) pe_non (nomark _)) (pw_and1 (pt_not (pt_val (pe_cn c_is_between hr (by decide) rfl (pa_cons (pv 4) (pa_cons (pe_un un_neg pe_int) (pa_cons pe_int pa_nil))))))))) (pss_one (ps_ret pe_bl)) pss_nil) (pss_cons (ps_if (PW.pt (pw_and (pt_cmpR op_notN (pv 5) pe_non (nomark _)) (pw_and1 (pt_not (PW.pt (pw_and (pt_val (pe_cn c_is_integer hr (by decide) rfl (pa_cons (pv 5) pa_nil))) (pw_and1 (pt_cmpR op_lt (pe_callB call_abs rfl B.abs_ (by decide +kernel) (pa_cons (pv 5) pa_nil)) (pv 1) (nomark _))))))))) (pss_one (ps_ret pe_bl)) pss_nil) (pss_one (ps_ret (pe_and (pe_cn c_are_updates hr (by decide) rfl (pa_cons (pv 6) (pa_cons (pv 2) pa_nil))) (pe_one (pe_or (pe_cmpR op_isN (pv 7) pe_non (nomark _)) (pe_one (pe_and (pe_callB call_isi rfl B.isinstance_ (by decide +kernel) (pa_cons (pv 7) (pa_cons (pe_bltn rfl B.str_ (by decide +kernel) rfl) pa_nil))) (pe_one (pe_cmpR op_in_seq (pv 7) (pv 3) rfl)))))))))))))
theorem b_is_line {K : Frag} {a : Addr} {fd : FuncData} (F : FunD K "is_line" "is_line" (defArgs s_is_line) (defBody s_is_line) (defScope s_is_line) [] [] a fd) : L2.Binds K fd ["value", "size", "many", "names"] [] := F.bindsN fun _ _ _ _ _ _ us hl => match us, hl with | [_, _, _, _], _ => rfl
theorem f_is_line {P : Program} {w : World} {K : Frag} {T : List (Addr × Str)} {mg : Str → Option Value} {base : Heap} {a : Addr} {fd : FuncData} (B : Bt mg) (c_is_between : CalX P w K mg base 2 "is_between" (lift ⟨K, P, w, T⟩ sp_is_between)) (c_is_integer : CalX P w K mg base 1 "is_integer" (lift ⟨K, P, w, T⟩ sp_is_integer)) (c_are_updates : CalX P w K mg base 5 "are_updates" (lift ⟨K, P, w, T⟩ sp_are_updates)) (F : FunD K "is_line" "is_line" (defArgs s_is_line) (defBody s_is_line) (defScope s_is_line) [] [] a fd) : FnOk P w K mg base (L2.CX P w) 6 a fd ["value", "size", "many", "names"] (lift ⟨K, P, w, T⟩ sp_is_line) :=
  okD F sc_is_line len_is_line (fun E Ψ => r_is_line  E Ψ) pure_is_line fun cdv A outer s H E hr => der_is_line B c_is_between c_is_integer c_are_updates cdv A outer s H E hr
theorem sc_require_rows : FnScope n_require_rows ["mode", "rows", "size", "many", "names"] (defScope s_require_rows) := ⟨rfl, rfl, rfl, by decide +kernel, rfl, by decide +kernel, by decide +kernel⟩
theorem der_require_rows {P : Program} {w : World} {K : Frag} {T : List (Addr × Str)} {mg : Str → Option Value} {base : Heap} {f : Addr} (B : Bt mg) (c_is_line : CalX P w K mg base 6 "is_line" (lift ⟨K, P, w, T⟩ sp_is_line)) (cdv : Value) (A : Around) (outer : List Env) (s : Shared) (H : Hp) (E : XK) 
    (hr : Room 6 (A.deeper (PyProof.Rows.envOfC "require_rows" (defScope s_require_rows) s.heap.objs.size f cdv))) : PSs (cxOf (L2.CX P w) P w K mg base n_require_rows "require_rows" (defScope s_require_rows) f cdv A outer s H E) (defBody s_require_rows) (t_require_rows ⟨K, P, w, T⟩ E) := by
  exact (pss_cons (ps_set (i := 5) sc_require_rows.nd rfl (by walk_at "sw_loc") (pe_lst pa_nil)) (pss_cons (ps_for (passes_of rfl) rfl (pi_enum rfl B.enumerate_ (pa_cons (pv 1) pa_nil)) (pg_tup (by rfl) (pgs_cons (pg_name (i := 6) sc_require_rows.nd rfl (by walk_at "sw_loc")) (pgs_cons (pg_name (i := 7) sc_require_rows.nd rfl (by walk_at "sw_loc")) pgs_nil))) (pss_cons (ps_if (PW.pt (pw_or (pt_not (pt_val (pe_cn c_is_line hr (by decide) rfl (pa_cons (pv 7) (pa_cons (pv 2) (pa_cons (pv 3) (pa_cons (pv 4) pa_nil))))))) (pw_or1 (pt_cmpR (op_inD (units65 hr)) (pe_slice sl_tupA (pv 7) po_none (po_some pe_int)) (pv 5) rfl)))) (pss_one ps_never) pss_nil) (pss_one (ps_expr (pe_bm PySem.F.plainAttrs_list PySem.F.slot_list_append PySem.F.type_list_append mt_append (pv 5) (pa_cons (pe_slice sl_tupA (pv 7) po_none (po_some pe_int)) pa_nil)))))) (pss_one (ps_if (pt_cmpR (op_notInD (units65 hr)) (pe_tup (pa_cons pe_non (pa_cons pe_non pa_nil))) (pv 5) rfl) (pss_one ps_never) pss_nil))))
theorem b_require_rows {K : Frag} {a : Addr} {fd : FuncData} (F : FunD K "require_rows" "require_rows" (defArgs s_require_rows) (defBody s_require_rows) (defScope s_require_rows) [] [] a fd) : L2.Binds K fd ["mode", "rows", "size", "many", "names"] [] := F.bindsN fun _ _ _ _ _ _ us hl => match us, hl with | [_, _, _, _, _], _ => rfl
theorem f_require_rows {P : Program} {w : World} {K : Frag} {T : List (Addr × Str)} {mg : Str → Option Value} {base : Heap} {a : Addr} {fd : FuncData} (B : Bt mg) (c_is_line : CalX P w K mg base 6 "is_line" (lift ⟨K, P, w, T⟩ sp_is_line)) (F : FunD K "require_rows" "require_rows" (defArgs s_require_rows) (defBody s_require_rows) (defScope s_require_rows) [] [] a fd) : FnOk P w K mg base (L2.CX P w) 7 a fd ["mode", "rows", "size", "many", "names"] (lift ⟨K, P, w, T⟩ sp_require_rows) :=
  okD F sc_require_rows len_require_rows (fun E Ψ => r_require_rows  E Ψ) pure_require_rows fun cdv A outer s H E hr => der_require_rows B c_is_line cdv A outer s H E hr
theorem sc_are_ends : FnScope n_are_ends ["value", "size"] (defScope s_are_ends) := ⟨rfl, rfl, rfl, by decide +kernel, rfl, by decide +kernel, by decide +kernel⟩
theorem der_are_ends {P : Program} {w : World} {K : Frag} {T : List (Addr × Str)} {mg : Str → Option Value} {base : Heap} {f : Addr} (B : Bt mg) (c_is_row_like : CalX P w K mg base 1 "is_row_like" (lift ⟨K, P, w, T⟩ sp_is_row_like)) (c_is_integer : CalX P w K mg base 1 "is_integer" (lift ⟨K, P, w, T⟩ sp_is_integer)) (cdv : Value) (A : Around) (outer : List Env) (s : Shared) (H : Hp) (E : XK) 
    (hr : Room 1 (A.deeper (PyProof.Rows.envOfC "are_ends" (defScope s_are_ends) s.heap.objs.size f cdv))) : PSs (cxOf (L2.CX P w) P w K mg base n_are_ends "are_ends" (defScope s_are_ends) f cdv A outer s H E) (defBody s_are_ends) (t_are_ends ⟨K, P, w, T⟩ E) := by
  exact (pss_cons (ps_if (PW.pt (pw_or (pt_not (pt_val (pe_cn c_is_row_like hr (by decide) rfl (pa_cons (pv 0) pa_nil)))) (pw_or1 (pt_not (pt_val (pe_callB (cr_all rfl) rfl B.all_ (by decide +kernel) (pa_cons (pe_lcn (own := [("one", 2)]) rfl sc_are_ends.nd (pi_list (pv 0)) (by walk_at "sw_blk") (fun _ _ _ _ _ => (pg_name (i := 2) sc_are_ends.nd rfl (by walk_at "sw_loc"))) (fun _ _ _ _ _ => pts_nil) (fun _ _ _ _ _ => (pe_and (pe_cn c_is_integer hr (by decide) rfl (pa_cons (pv 2) pa_nil)) (pe_one (pe_cmpR op_lt (pe_callB call_abs rfl B.abs_ (by decide +kernel) (pa_cons (pv 2) pa_nil)) (pv 1) (nomark _)))))) pa_nil))))))) (pss_one (ps_ret pe_bl)) pss_nil) (pss_one (ps_ret (pe_callB (cr_all rfl) rfl B.all_ (by decide +kernel) (pa_cons (pe_lcn (own := [("one", 2), ("other", 3)]) rfl sc_are_ends.nd (pi_zipM rfl B.zip_ (pa_cons (pv 0) (pa_cons (pe_slice sl_list (pv 0) (po_some pe_int) po_none) pa_nil))) (by walk_at "sw_blk") (fun _ _ _ _ _ => (pg_tup (by rfl) (pgs_cons (pg_name (i := 2) sc_are_ends.nd rfl (by walk_at "sw_loc")) (pgs_cons (pg_name (i := 3) sc_are_ends.nd rfl (by walk_at "sw_loc")) pgs_nil)))) (fun _ _ _ _ _ => pts_nil) (fun _ _ _ _ _ => (pe_cmpR op_lt (pv 2) (pv 3) (nomark _)))) pa_nil)))))
theorem b_are_ends {K : Frag} {a : Addr} {fd : FuncData} (F : FunD K "are_ends" "are_ends" (defArgs s_are_ends) (defBody s_are_ends) (defScope s_are_ends) [] [] a fd) : L2.Binds K fd ["value", "size"] [] := F.bindsN fun _ _ _ _ _ _ us hl => match us, hl with | [_, _], _ => rfl
theorem f_are_ends {P : Program} {w : World} {K : Frag} {T : List (Addr × Str)} {mg : Str → Option Value} {base : Heap} {a : Addr} {fd : FuncData} (B : Bt mg) (c_is_row_like : CalX P w K mg base 1 "is_row_like" (lift ⟨K, P, w, T⟩ sp_is_row_like)) (c_is_integer : CalX P w K mg base 1 "is_integer" (lift ⟨K, P, w, T⟩ sp_is_integer)) (F : FunD K "are_ends" "are_ends" (defArgs s_are_ends) (defBody s_are_ends) (defScope s_are_ends) [] [] a fd) : FnOk P w K mg base (L2.CX P w) 2 a fd ["value", "size"] (lift ⟨K, P, w, T⟩ sp_are_ends) :=
  okD F sc_are_ends len_are_ends (fun E Ψ => r_are_ends  E Ψ) pure_are_ends fun cdv A outer s H E hr => der_are_ends B c_is_row_like c_is_integer cdv A outer s H E hr
theorem sc_require_all : FnScope n_require_all ["base", "registers", "modes", "ends", "result"] (defScope s_require_all) := ⟨rfl, rfl, rfl, by decide +kernel, rfl, by decide +kernel, by decide +kernel⟩
theorem der_require_all {P : Program} {w : World} {K : Frag} {T : List (Addr × Str)} {mg : Str → Option Value} {base : Heap} {f : Addr} (B : Bt mg) (c_is_base : CalX P w K mg base 2 "is_base" (lift ⟨K, P, w, T⟩ sp_is_base)) (c_require_registers : CalX P w K mg base 5 "require_registers" (lift ⟨K, P, w, T⟩ sp_require_registers)) (c_require_modes : CalX P w K mg base 3 "require_modes" (lift ⟨K, P, w, T⟩ sp_require_modes)) (c_require_rows : CalX P w K mg base 7 "require_rows" (lift ⟨K, P, w, T⟩ sp_require_rows)) (c_are_ends : CalX P w K mg base 2 "are_ends" (lift ⟨K, P, w, T⟩ sp_are_ends)) (c_are_terms : CalX P w K mg base 4 "are_terms" (lift ⟨K, P, w, T⟩ sp_are_terms)) (cdv : Value) (A : Around) (outer : List Env) (s : Shared) (H : Hp) (E : XK) 
    (hr : Room 7 (A.deeper (PyProof.Rows.envOfC "require_all" (defScope s_require_all) s.heap.objs.size f cdv))) : PSs (cxOf (L2.CX P w) P w K mg base n_require_all "require_all" (defScope s_require_all) f cdv A outer s H E) (defBody s_require_all) (t_require_all ⟨K, P, w, T⟩ E) := by
  exact (pss_cons (ps_if (pt_not (pt_val (pe_cn c_is_base hr (by decide) rfl (pa_cons (pv 0) pa_nil)))) (pss_one ps_never) pss_nil) (pss_cons (ps_expr (pe_cn c_require_registers hr (by decide) rfl (pa_cons (pv 1) pa_nil))) (pss_cons (ps_expr (pe_cn c_require_modes hr (by decide) rfl (pa_cons (pv 2) pa_nil))) (pss_cons (ps_setC (i := 5) (own := [("mode", 9)]) rfl sc_require_all.nd rfl rfl (sw_true rfl rfl rfl (by decide +kernel)) (pi_list (pv 2)) (by walk_at "sw_blk") (fun _ _ _ _ _ => (pg_name (i := 9) sc_require_all.nd rfl (by walk_at "sw_loc"))) (fun _ _ _ _ _ => pts_nil) (fun _ _ _ _ _ => (pe_ix ix_seq (pv 9) pe_int (fun _ _ => rfl)))) (pss_cons (ps_for (passes_of rfl) rfl (pi_list (pv 2)) (pg_tup (by rfl) (pgs_cons (pg_name (i := 6) sc_require_all.nd rfl (by walk_at "sw_loc")) (pgs_cons (pg_name (i := 7) sc_require_all.nd rfl (by walk_at "sw_loc")) (pgs_cons (pg_name (i := 8) sc_require_all.nd rfl (by walk_at "sw_loc")) pgs_nil)))) (pss_one (ps_expr (pe_cn c_require_rows hr (by decide) rfl (pa_cons (pv 6) (pa_cons (pv 8) (pa_cons (pe_callB call_abs rfl B.abs_ (by decide +kernel) (pa_cons (pv 0) pa_nil)) (pa_cons (pe_callB call_len_seq rfl B.len_ (by decide +kernel) (pa_cons (pv 1) pa_nil)) (pa_cons (pv 5) pa_nil))))))))) (pss_cons (ps_if (pt_not (pt_val (pe_cn c_are_ends hr (by decide) rfl (pa_cons (pv 3) (pa_cons (pe_callB call_abs rfl B.abs_ (by decide +kernel) (pa_cons (pv 0) pa_nil)) pa_nil))))) (pss_one ps_never) pss_nil) (pss_one (ps_if (pt_not (pt_val (pe_cn c_are_terms hr (by decide) rfl (pa_cons (pv 4) (pa_cons (pe_op op_add (pe_callB call_len_seq rfl B.len_ (by decide +kernel) (pa_cons (pv 1) pa_nil)) pe_int) pa_nil))))) (pss_one ps_never) pss_nil))))))))
theorem b_require_all {K : Frag} {a : Addr} {fd : FuncData} (F : FunD K "require_all" "require_all" (defArgs s_require_all) (defBody s_require_all) (defScope s_require_all) [] [] a fd) : L2.Binds K fd ["base", "registers", "modes", "ends", "result"] [] := F.bindsN fun _ _ _ _ _ _ us hl => match us, hl with | [_, _, _, _, _], _ => rfl
theorem f_require_all {P : Program} {w : World} {K : Frag} {T : List (Addr × Str)} {mg : Str → Option Value} {base : Heap} {a : Addr} {fd : FuncData} (B : Bt mg) (c_is_base : CalX P w K mg base 2 "is_base" (lift ⟨K, P, w, T⟩ sp_is_base)) (c_require_registers : CalX P w K mg base 5 "require_registers" (lift ⟨K, P, w, T⟩ sp_require_registers)) (c_require_modes : CalX P w K mg base 3 "require_modes" (lift ⟨K, P, w, T⟩ sp_require_modes)) (c_require_rows : CalX P w K mg base 7 "require_rows" (lift ⟨K, P, w, T⟩ sp_require_rows)) (c_are_ends : CalX P w K mg base 2 "are_ends" (lift ⟨K, P, w, T⟩ sp_are_ends)) (c_are_terms : CalX P w K mg base 4 "are_terms" (lift ⟨K, P, w, T⟩ sp_are_terms)) (F : FunD K "require_all" "require_all" (defArgs s_require_all) (defBody s_require_all) (defScope s_require_all) [] [] a fd) : FnOk P w K mg base (L2.CX P w) 8 a fd ["base", "registers", "modes", "ends", "result"] (lift ⟨K, P, w, T⟩ sp_require_all) :=
  okD F sc_require_all len_require_all (fun E Ψ => r_require_all  E Ψ) pure_require_all fun cdv A outer s H E hr => der_require_all B c_is_base c_require_registers c_require_modes c_require_rows c_are_ends c_are_terms cdv A outer s H E hr
theorem sc_Program___init__ : FnScope n_Program___init__ ["self", "base", "registers", "modes", "ends", "result"] (defScope s_Program___init__) := ⟨rfl, rfl, rfl, by decide +kernel, rfl, by decide +kernel, by decide +kernel⟩
theorem der_Program___init__ {P : Program} {w : World} {K : Frag} {T : List (Addr × Str)} {mg : Str → Option Value} {base : Heap} {f : Addr} (B : Bt mg) (c_require_all : CalX P w K mg base 8 "require_all" (lift ⟨K, P, w, T⟩ sp_require_all)) (cdv : Value) (A : Around) (outer : List Env) (s : Shared) (H : Hp) (E : XK) 
    (hr : Room 8 (A.deeper (PyProof.Rows.envOfC "Program.__init__" (defScope s_Program___init__) s.heap.objs.size f cdv))) : PSs (cxOf (L2.CX P w) P w K mg base n_Program___init__ "Program.__init__" (defScope s_Program___init__) f cdv A outer s H E) (defBody s_Program___init__) (t_Program___init__ ⟨K, P, w, T⟩ E) := by
  exact (pss_cons (ps_expr (pe_cn c_require_all hr (by decide) rfl (pa_cons (pv 1) (pa_cons (pv 2) (pa_cons (pv 3) (pa_cons (pv 4) (pa_cons (pv 5) pa_nil))))))) (pss_cons (ps_fld (pv 0) (pv 1) rfl) (pss_cons (ps_fld (pv 0) (pe_callTy call_tuple_of rfl B.tuple_ (by decide +kernel) (pa_cons (pv 2) pa_nil)) rfl) (pss_cons (ps_fld (pv 0) (pe_lcn (own := [("mode", 6)]) rfl sc_Program___init__.nd (pi_list (pv 3)) (by walk_at "sw_blk") (fun _ _ _ _ _ => (pg_name (i := 6) sc_Program___init__.nd rfl (by walk_at "sw_loc"))) (fun _ _ _ _ _ => pts_nil) (fun _ _ _ _ _ => (pe_ix ix_seq (pv 6) pe_int (fun _ _ => rfl)))) rfl) (pss_cons (ps_fld (pv 0) (pe_dcSn (own := [("mode", 6)]) rfl sc_Program___init__.nd (pi_list (pv 3)) (by walk_at "sw_blk") (fun _ _ _ _ _ => (pg_name (i := 6) sc_Program___init__.nd rfl (by walk_at "sw_loc"))) (fun _ _ _ _ _ => pts_nil) (fun _ _ _ _ _ => (pe_ix ix_seq (pv 6) pe_int (fun _ _ => rfl))) (fun _ _ _ _ _ => (pe_ix ix_seq (pv 6) pe_int (fun _ _ => rfl)))) rfl) (pss_cons (ps_fld (pv 0) (pe_dcSn (own := [("mode", 6)]) rfl sc_Program___init__.nd (pi_list (pv 3)) (by walk_at "sw_blk") (fun _ _ _ _ _ => (pg_name (i := 6) sc_Program___init__.nd rfl (by walk_at "sw_loc"))) (fun _ _ _ _ _ => pts_nil) (fun _ _ _ _ _ => (pe_ix ix_seq (pv 6) pe_int (fun _ _ => rfl))) (fun _ _ _ _ _ => (pe_dcTn (own := [("row", 7)]) hr rfl sc_Program___init__.nd (pi_list (pe_ix ix_seq (pv 6) pe_int (fun _ _ => rfl))) (by walk_at "sw_blk") (fun _ _ _ _ _ => (pg_name (i := 7) sc_Program___init__.nd rfl (by walk_at "sw_loc"))) (fun _ _ _ _ _ => pts_nil) (fun _ _ _ _ _ => (pe_slice sl_tupA (pv 7) po_none (po_some pe_int))) (fun _ _ _ _ _ => (pe_slice sl_tupA (pv 7) (po_some pe_int) po_none))))) rfl) (pss_cons (ps_fld (pv 0) (pe_callTy call_tuple_of rfl B.tuple_ (by decide +kernel) (pa_cons (pv 4) pa_nil)) rfl) (pss_one (ps_fld (pv 0) (pv 5) rfl)))))))))
theorem b_Program___init__ {K : Frag} {a : Addr} {fd : FuncData} (F : FunD K "__init__" "Program.__init__" (defArgs s_Program___init__) (defBody s_Program___init__) (defScope s_Program___init__) [] [] a fd) : L2.Binds K fd ["self", "base", "registers", "modes", "ends", "result"] [] := F.bindsN fun _ _ _ _ _ _ us hl => match us, hl with | [_, _, _, _, _, _], _ => rfl
theorem f_Program___init__ {P : Program} {w : World} {K : Frag} {T : List (Addr × Str)} {mg : Str → Option Value} {base : Heap} {a : Addr} {fd : FuncData} (B : Bt mg) (c_require_all : CalX P w K mg base 8 "require_all" (lift ⟨K, P, w, T⟩ sp_require_all)) (fl : FlOk ⟨K, P, w, T⟩ flds) (F : FunD K "__init__" "Program.__init__" (defArgs s_Program___init__) (defBody s_Program___init__) (defScope s_Program___init__) [] [] a fd) : FnOk P w K mg base (L2.CX P w) 9 a fd ["self", "base", "registers", "modes", "ends", "result"] (lift ⟨K, P, w, T⟩ sp_Program___init__) :=
  okD F sc_Program___init__ len_Program___init__ (fun E Ψ => r_Program___init__ fl E Ψ) pure_Program___init__ fun cdv A outer s H E hr => der_Program___init__ B c_require_all cdv A outer s H E hr
theorem sc_law_made : FnScope n_law_made ["parts"] (defScope s_law_made) := ⟨rfl, rfl, rfl, by decide +kernel, rfl, by decide +kernel, by decide +kernel⟩
theorem der_law_made {P : Program} {w : World} {K : Frag} {T : List (Addr × Str)} {mg : Str → Option Value} {base : Heap} {f : Addr} (c_Program___init__ : MakX P w K mg base 9 "Program" (lift ⟨K, P, w, T⟩ sp_Program___init__)) (cdv : Value) (A : Around) (outer : List Env) (s : Shared) (H : Hp) (E : XK) 
    (hr : Room 10 (A.deeper (PyProof.Rows.envOfC "_law_made" (defScope s_law_made) s.heap.objs.size f cdv))) : PSs (cxOf (L2.CX P w) P w K mg base n_law_made "_law_made" (defScope s_law_made) f cdv A outer s H E) (defBody s_law_made) (t_law_made ⟨K, P, w, T⟩ E) := by
  exact (pss_one (ps_ret (pe_kn c_Program___init__ hr (by decide) rfl (pa_cons (pe_ix ix_seq (pv 0) pe_int (fun _ _ => rfl)) (pa_cons (pe_ix ix_seq (pv 0) pe_int (fun _ _ => rfl)) (pa_cons (pe_ix ix_seq (pv 0) pe_int (fun _ _ => rfl)) (pa_cons (pe_ix ix_seq (pv 0) pe_int (fun _ _ => rfl)) (pa_cons (pe_ix ix_seq (pv 0) pe_int (fun _ _ => rfl)) pa_nil))))))))
theorem b_law_made {K : Frag} {a : Addr} {fd : FuncData} (F : FunD K "_law_made" "_law_made" (defArgs s_law_made) (defBody s_law_made) (defScope s_law_made) [] [] a fd) : L2.Binds K fd ["parts"] [] := F.bindsN fun _ _ _ _ _ _ us hl => match us, hl with | [_], _ => rfl
theorem f_law_made {P : Program} {w : World} {K : Frag} {T : List (Addr × Str)} {mg : Str → Option Value} {base : Heap} {a : Addr} {fd : FuncData} (c_Program___init__ : MakX P w K mg base 9 "Program" (lift ⟨K, P, w, T⟩ sp_Program___init__)) (F : FunD K "_law_made" "_law_made" (defArgs s_law_made) (defBody s_law_made) (defScope s_law_made) [] [] a fd) : FnOk P w K mg base (L2.CX P w) 11 a fd ["parts"] (lift ⟨K, P, w, T⟩ sp_law_made) :=
  okD F sc_law_made len_law_made (fun E Ψ => r_law_made  E Ψ) pure_law_made fun cdv A outer s H E hr => der_law_made c_Program___init__ cdv A outer s H E hr
theorem sc_law_number : FnScope n_law_number ["pool"] (defScope s_law_number) := ⟨rfl, rfl, rfl, by decide +kernel, rfl, by decide +kernel, by decide +kernel⟩
theorem der_law_number {P : Program} {w : World} {K : Frag} {T : List (Addr × Str)} {mg : Str → Option Value} {base : Heap} {f : Addr} (c_law_draw : CalX P w K mg base 1 "_law_draw" (lift ⟨K, P, w, T⟩ sp_law_draw)) (c_law_choose : CalX P w K mg base 2 "_law_choose" (lift ⟨K, P, w, T⟩ sp_law_choose)) (cdv : Value) (A : Around) (outer : List Env) (s : Shared) (H : Hp) (E : XK) 
    (hr : Room 2 (A.deeper (PyProof.Rows.envOfC "_law_number" (defScope s_law_number) s.heap.objs.size f cdv))) : PSs (cxOf (L2.CX P w) P w K mg base n_law_number "_law_number" (defScope s_law_number) f cdv A outer s H E) (defBody s_law_number) (t_law_number ⟨K, P, w, T⟩ E) := by
  exact (pss_cons (ps_set (i := 1) sc_law_number.nd rfl (by walk_at "sw_loc") (pe_lst (pa_cons (pe_op op_sub (pe_cn c_law_draw hr (by decide) rfl (pa_cons (pv 0) (pa_cons pe_int pa_nil))) pe_int) (pa_cons (pe_op op_sub (pe_cn c_law_draw hr (by decide) rfl (pa_cons (pv 0) (pa_cons pe_int pa_nil))) pe_int) (pa_cons (pe_op op_sub (pe_cn c_law_draw hr (by decide) rfl (pa_cons (pv 0) (pa_cons (pe_op op_pow pe_int pe_int) pa_nil))) (pe_op op_pow pe_int pe_int)) pa_nil))))) (pss_one (ps_ret (pe_cn c_law_choose hr (by decide) rfl (pa_cons (pv 0) (pa_cons (pv 1) pa_nil))))))
theorem b_law_number {K : Frag} {a : Addr} {fd : FuncData} (F : FunD K "_law_number" "_law_number" (defArgs s_law_number) (defBody s_law_number) (defScope s_law_number) [] [] a fd) : L2.Binds K fd ["pool"] [] := F.bindsN fun _ _ _ _ _ _ us hl => match us, hl with | [_], _ => rfl
theorem f_law_number {P : Program} {w : World} {K : Frag} {T : List (Addr × Str)} {mg : Str → Option Value} {base : Heap} {a : Addr} {fd : FuncData} (c_law_draw : CalX P w K mg base 1 "_law_draw" (lift ⟨K, P, w, T⟩ sp_law_draw)) (c_law_choose : CalX P w K mg base 2 "_law_choose" (lift ⟨K, P, w, T⟩ sp_law_choose)) (F : FunD K "_law_number" "_law_number" (defArgs s_law_number) (defBody s_law_number) (defScope s_law_number) [] [] a fd) : FnOk P w K mg base (L2.CX P w) 3 a fd ["pool"] (lift ⟨K, P, w, T⟩ sp_law_number) :=
  okD F sc_law_number len_law_number (fun E Ψ => r_law_number  E Ψ) pure_law_number fun cdv A outer s H E hr => der_law_number c_law_draw c_law_choose cdv A outer s H E hr
theorem sc_law_figures : FnScope n_law_figures ["number", "size"] (defScope s_law_figures) := ⟨rfl, rfl, rfl, by decide +kernel, rfl, by decide +kernel, by decide +kernel⟩
theorem der_law_figures {P : Program} {w : World} {K : Frag} {T : List (Addr × Str)} {mg : Str → Option Value} {base : Heap} {f : Addr} (B : Bt mg) (cdv : Value) (A : Around) (outer : List Env) (s : Shared) (H : Hp) (E : XK) 
    (hr : Room 0 (A.deeper (PyProof.Rows.envOfC "_law_figures" (defScope s_law_figures) s.heap.objs.size f cdv))) : PSs (cxOf (L2.CX P w) P w K mg base n_law_figures "_law_figures" (defScope s_law_figures) f cdv A outer s H E) (defBody s_law_figures) (t_law_figures ⟨K, P, w, T⟩ E) := by
  exact (pss_cons (ps_par (by rfl) sc_law_figures.nd (i := 2) (j := 3) rfl rfl (by decide) rfl rfl (pa_cons (pe_callB call_abs rfl B.abs_ (by decide +kernel) (pa_cons (pv 0) pa_nil)) (pa_cons (pe_lst pa_nil) pa_nil)) (by rfl)) (pss_cons (ps_while (passes_of rfl) (pt_cmpR op_gt (pv 2) pe_int (nomark _)) (pss_cons (ps_expr (pe_bm PySem.F.plainAttrs_list PySem.F.slot_list_append PySem.F.type_list_append mt_append (pv 3) (pa_cons (pe_op op_mod (pe_callTy call_int1 rfl B.int_ (by decide +kernel) (pa_cons (pv 2) pa_nil)) (pv 1)) pa_nil))) (pss_one (ps_set (i := 2) sc_law_figures.nd rfl (by walk_at "sw_loc") (pe_op op_fdivW (pv 2) (pv 1)))))) (pss_one (ps_ret (pe_callTy call_tuple_of rfl B.tuple_ (by decide +kernel) (pa_cons (pv 3) pa_nil))))))
theorem b_law_figures {K : Frag} {a : Addr} {fd : FuncData} (F : FunD K "_law_figures" "_law_figures" (defArgs s_law_figures) (defBody s_law_figures) (defScope s_law_figures) [] [] a fd) : L2.Binds K fd ["number", "size"] [] := F.bindsN fun _ _ _ _ _ _ us hl => match us, hl with | [_, _], _ => rfl
theorem f_law_figures {P : Program} {w : World} {K : Frag} {T : List (Addr × Str)} {mg : Str → Option Value} {base : Heap} {a : Addr} {fd : FuncData} (B : Bt mg) (F : FunD K "_law_figures" "_law_figures" (defArgs s_law_figures) (defBody s_law_figures) (defScope s_law_figures) [] [] a fd) : FnOk P w K mg base (L2.CX P w) 1 a fd ["number", "size"] (lift ⟨K, P, w, T⟩ sp_law_figures) :=
  okD F sc_law_figures len_law_figures (fun E Ψ => r_law_figures  E Ψ) pure_law_figures fun cdv A outer s H E hr => der_law_figures B cdv A outer s H E hr
theorem sc_figures_in : FnScope n_figures_in ["number", "size"] (defScope s_figures_in) := ⟨rfl, rfl, rfl, by decide +kernel, rfl, by decide +kernel, by decide +kernel⟩
theorem der_figures_in {P : Program} {w : World} {K : Frag} {T : List (Addr × Str)} {mg : Str → Option Value} {base : Heap} {f : Addr} (B : Bt mg) (cdv : Value) (A : Around) (outer : List Env) (s : Shared) (H : Hp) (E : XK) 
    (hr : Room 0 (A.deeper (PyProof.Rows.envOfC "figures_in" (defScope s_figures_in) s.heap.objs.size f cdv))) : PSs (cxOf (L2.CX P w) P w K mg base n_figures_in "figures_in" (defScope s_figures_in) f cdv A outer s H E) (defBody s_figures_in) (t_figures_in ⟨K, P, w, T⟩ E) := by
  exact (pss_cons (ps_set (i := 2) sc_figures_in.nd rfl (by walk_at "sw_loc") (pe_lst pa_nil)) (pss_cons (ps_set (i := 3) sc_figures_in.nd rfl (by walk_at "sw_loc") (pe_callB call_abs rfl B.abs_ (by decide +kernel) (pa_cons (pv 0) pa_nil))) (pss_cons (ps_while (passes_of rfl) (pt_cmpR op_gt (pv 3) pe_int (nomark _)) (pss_cons (ps_asg (pe_callB call_divmodW rfl B.divmod_ (by decide +kernel) (pa_cons (pv 3) (pa_cons (pv 1) pa_nil))) (pg_tup (by rfl) (pgs_cons (pg_name (i := 3) sc_figures_in.nd rfl (by walk_at "sw_loc")) (pgs_cons (pg_name (i := 4) sc_figures_in.nd rfl (by walk_at "sw_loc")) pgs_nil)))) (pss_one (ps_expr (pe_bm PySem.F.plainAttrs_list PySem.F.slot_list_append PySem.F.type_list_append mt_append (pv 2) (pa_cons (pv 4) pa_nil)))))) (pss_one (ps_ret (pe_callTy call_tuple_of rfl B.tuple_ (by decide +kernel) (pa_cons (pv 2) pa_nil)))))))
theorem b_figures_in {K : Frag} {a : Addr} {fd : FuncData} (F : FunD K "figures_in" "figures_in" (defArgs s_figures_in) (defBody s_figures_in) (defScope s_figures_in) [] [] a fd) : L2.Binds K fd ["number", "size"] [] := F.bindsN fun _ _ _ _ _ _ us hl => match us, hl with | [_, _], _ => rfl
theorem f_figures_in {P : Program} {w : World} {K : Frag} {T : List (Addr × Str)} {mg : Str → Option Value} {base : Heap} {a : Addr} {fd : FuncData} (B : Bt mg) (F : FunD K "figures_in" "figures_in" (defArgs s_figures_in) (defBody s_figures_in) (defScope s_figures_in) [] [] a fd) : FnOk P w K mg base (L2.CX P w) 1 a fd ["number", "size"] (lift ⟨K, P, w, T⟩ sp_figures_in) :=
  okD F sc_figures_in len_figures_in (fun E Ψ => r_figures_in  E Ψ) pure_figures_in fun cdv A outer s H E hr => der_figures_in B cdv A outer s H E hr
theorem sc_figures_of : FnScope n_figures_of ["number", "size"] (defScope s_figures_of) := ⟨rfl, rfl, rfl, by decide +kernel, rfl, by decide +kernel, by decide +kernel⟩
theorem der_figures_of {P : Program} {w : World} {K : Frag} {T : List (Addr × Str)} {mg : Str → Option Value} {base : Heap} {f : Addr} (c_is_integer : CalX P w K mg base 1 "is_integer" (lift ⟨K, P, w, T⟩ sp_is_integer)) (c_is_between : CalX P w K mg base 2 "is_between" (lift ⟨K, P, w, T⟩ sp_is_between)) (c_figures_in : CalX P w K mg base 1 "figures_in" (lift ⟨K, P, w, T⟩ sp_figures_in)) (e_InvalidNumber : ExX P w K mg base 1 "InvalidNumber" "value") (e_InvalidBase : ExX P w K mg base 1 "InvalidBase" "value") (cdv : Value) (A : Around) (outer : List Env) (s : Shared) (H : Hp) (E : XK) 
    (hr : Room 2 (A.deeper (PyProof.Rows.envOfC "figures_of" (defScope s_figures_of) s.heap.objs.size f cdv))) : PSs (cxOf (L2.CX P w) P w K mg base n_figures_of "figures_of" (defScope s_figures_of) f cdv A outer s H E) (defBody s_figures_of) (t_figures_of ⟨K, P, w, T⟩ E) := by
  exact (pss_cons (ps_if (pt_not (pt_val (pe_cn c_is_integer hr (by decide) rfl (pa_cons (pv 0) pa_nil)))) (pss_one (ps_rx e_InvalidNumber hr (by decide) rfl (takes_of rfl rfl rfl rfl) rfl (pv 0))) pss_nil) (pss_cons (ps_if (pt_not (pt_val (pe_cn c_is_between hr (by decide) rfl (pa_cons (pv 1) (pa_cons pe_int (pa_cons pe_int pa_nil)))))) (pss_one (ps_rx e_InvalidBase hr (by decide) rfl (takes_of rfl rfl rfl rfl) rfl (pv 1))) pss_nil) (pss_one (ps_ret (pe_cn c_figures_in hr (by decide) rfl (pa_cons (pv 0) (pa_cons (pv 1) pa_nil)))))))
theorem b_figures_of {K : Frag} {a : Addr} {fd : FuncData} (F : FunD K "figures_of" "figures_of" (defArgs s_figures_of) (defBody s_figures_of) (defScope s_figures_of) [] [] a fd) : L2.Binds K fd ["number", "size"] [] := F.bindsN fun _ _ _ _ _ _ us hl => match us, hl with | [_, _], _ => rfl
theorem f_figures_of {P : Program} {w : World} {K : Frag} {T : List (Addr × Str)} {mg : Str → Option Value} {base : Heap} {a : Addr} {fd : FuncData} (c_is_integer : CalX P w K mg base 1 "is_integer" (lift ⟨K, P, w, T⟩ sp_is_integer)) (c_is_between : CalX P w K mg base 2 "is_between" (lift ⟨K, P, w, T⟩ sp_is_between)) (c_figures_in : CalX P w K mg base 1 "figures_in" (lift ⟨K, P, w, T⟩ sp_figures_in)) (e_InvalidNumber : ExX P w K mg base 1 "InvalidNumber" "value") (e_InvalidBase : ExX P w K mg base 1 "InvalidBase" "value") (x_InvalidNumber : XcOk K "InvalidNumber" "value") (x_InvalidBase : XcOk K "InvalidBase" "value") (F : FunD K "figures_of" "figures_of" (defArgs s_figures_of) (defBody s_figures_of) (defScope s_figures_of) [] [] a fd) : FnOk P w K mg base (L2.CX P w) 3 a fd ["number", "size"] (lift ⟨K, P, w, T⟩ sp_figures_of) :=
  okD F sc_figures_of len_figures_of (fun E Ψ => r_figures_of x_InvalidNumber x_InvalidBase E Ψ) pure_figures_of fun cdv A outer s H E hr => der_figures_of c_is_integer c_is_between c_figures_in e_InvalidNumber e_InvalidBase cdv A outer s H E hr
theorem sc_is_sign : FnScope n_is_sign ["value"] (defScope s_is_sign) := ⟨rfl, rfl, rfl, by decide +kernel, rfl, by decide +kernel, by decide +kernel⟩
theorem der_is_sign {P : Program} {w : World} {K : Frag} {T : List (Addr × Str)} {mg : Str → Option Value} {base : Heap} {f : Addr} (c_is_integer : CalX P w K mg base 1 "is_integer" (lift ⟨K, P, w, T⟩ sp_is_integer)) (cdv : Value) (A : Around) (outer : List Env) (s : Shared) (H : Hp) (E : XK) 
    (hr : Room 1 (A.deeper (PyProof.Rows.envOfC "is_sign" (defScope s_is_sign) s.heap.objs.size f cdv))) : PSs (cxOf (L2.CX P w) P w K mg base n_is_sign "is_sign" (defScope s_is_sign) f cdv A outer s H E) (defBody s_is_sign) (t_is_sign ⟨K, P, w, T⟩ E) := by
  exact (pss_one (ps_ret (pe_and (pe_cn c_is_integer hr (by decide) rfl (pa_cons (pv 0) pa_nil)) (pe_one (pe_cmpR op_in_seq (pv 0) (pe_tup (pa_cons (pe_un un_neg pe_int) (pa_cons pe_int pa_nil))) rfl)))))
theorem b_is_sign {K : Frag} {a : Addr} {fd : FuncData} (F : FunD K "is_sign" "is_sign" (defArgs s_is_sign) (defBody s_is_sign) (defScope s_is_sign) [] [] a fd) : L2.Binds K fd ["value"] [] := F.bindsN fun _ _ _ _ _ _ us hl => match us, hl with | [_], _ => rfl
theorem f_is_sign {P : Program} {w : World} {K : Frag} {T : List (Addr × Str)} {mg : Str → Option Value} {base : Heap} {a : Addr} {fd : FuncData} (c_is_integer : CalX P w K mg base 1 "is_integer" (lift ⟨K, P, w, T⟩ sp_is_integer)) (F : FunD K "is_sign" "is_sign" (defArgs s_is_sign) (defBody s_is_sign) (defScope s_is_sign) [] [] a fd) : FnOk P w K mg base (L2.CX P w) 2 a fd ["value"] (lift ⟨K, P, w, T⟩ sp_is_sign) :=
  okD F sc_is_sign len_is_sign (fun E Ψ => r_is_sign  E Ψ) pure_is_sign fun cdv A outer s H E hr => der_is_sign c_is_integer cdv A outer s H E hr
theorem sc_are_figures : FnScope n_are_figures ["value", "size"] (defScope s_are_figures) := ⟨rfl, rfl, rfl, by decide +kernel, rfl, by decide +kernel, by decide +kernel⟩
theorem der_are_figures {P : Program} {w : World} {K : Frag} {T : List (Addr × Str)} {mg : Str → Option Value} {base : Heap} {f : Addr} (B : Bt mg) (c_is_between : CalX P w K mg base 2 "is_between" (lift ⟨K, P, w, T⟩ sp_is_between)) (cdv : Value) (A : Around) (outer : List Env) (s : Shared) (H : Hp) (E : XK) 
    (hr : Room 2 (A.deeper (PyProof.Rows.envOfC "are_figures" (defScope s_are_figures) s.heap.objs.size f cdv))) : PSs (cxOf (L2.CX P w) P w K mg base n_are_figures "are_figures" (defScope s_are_figures) f cdv A outer s H E) (defBody s_are_figures) (t_are_figures ⟨K, P, w, T⟩ E) := by
  exact (pss_one (ps_ret (pe_and (pe_callB call_isi rfl B.isinstance_ (by decide +kernel) (pa_cons (pv 0) (pa_cons (pe_bltn rfl B.tuple_ (by decide +kernel) rfl) pa_nil))) (pe_one (pe_callB (cr_all rfl) rfl B.all_ (by decide +kernel) (pa_cons (pe_lcn (own := [("one", 2)]) rfl sc_are_figures.nd (pi_tup (pv 0)) (by walk_at "sw_blk") (fun _ _ _ _ _ => (pg_name (i := 2) sc_are_figures.nd rfl (by walk_at "sw_loc"))) (fun _ _ _ _ _ => pts_nil) (fun _ _ _ _ _ => (pe_cn c_is_between hr (by decide) rfl (pa_cons (pv 2) (pa_cons pe_int (pa_cons (pe_op op_sub (pv 1) pe_int) pa_nil)))))) pa_nil))))))
theorem b_are_figures {K : Frag} {a : Addr} {fd : FuncData} (F : FunD K "are_figures" "are_figures" (defArgs s_are_figures) (defBody s_are_figures) (defScope s_are_figures) [] [] a fd) : L2.Binds K fd ["value", "size"] [] := F.bindsN fun _ _ _ _ _ _ us hl => match us, hl with | [_, _], _ => rfl
theorem f_are_figures {P : Program} {w : World} {K : Frag} {T : List (Addr × Str)} {mg : Str → Option Value} {base : Heap} {a : Addr} {fd : FuncData} (B : Bt mg) (c_is_between : CalX P w K mg base 2 "is_between" (lift ⟨K, P, w, T⟩ sp_is_between)) (F : FunD K "are_figures" "are_figures" (defArgs s_are_figures) (defBody s_are_figures) (defScope s_are_figures) [] [] a fd) : FnOk P w K mg base (L2.CX P w) 3 a fd ["value", "size"] (lift ⟨K, P, w, T⟩ sp_are_figures) :=
  okD F sc_are_figures len_are_figures (fun E Ψ => r_are_figures  E Ψ) pure_are_figures fun cdv A outer s H E hr => der_are_figures B c_is_between cdv A outer s H E hr
theorem sc_are_whole_figures : FnScope n_are_whole_figures ["value", "size"] (defScope s_are_whole_figures) := ⟨rfl, rfl, rfl, by decide +kernel, rfl, by decide +kernel, by decide +kernel⟩
theorem der_are_whole_figures {P : Program} {w : World} {K : Frag} {T : List (Addr × Str)} {mg : Str → Option Value} {base : Heap} {f : Addr} (c_are_figures : CalX P w K mg base 3 "are_figures" (lift ⟨K, P, w, T⟩ sp_are_figures)) (cdv : Value) (A : Around) (outer : List Env) (s : Shared) (H : Hp) (E : XK) 
    (hr : Room 3 (A.deeper (PyProof.Rows.envOfC "are_whole_figures" (defScope s_are_whole_figures) s.heap.objs.size f cdv))) : PSs (cxOf (L2.CX P w) P w K mg base n_are_whole_figures "are_whole_figures" (defScope s_are_whole_figures) f cdv A outer s H E) (defBody s_are_whole_figures) (t_are_whole_figures ⟨K, P, w, T⟩ E) := by
  exact (pss_one (ps_ret (pe_and (pe_cn c_are_figures hr (by decide) rfl (pa_cons (pv 0) (pa_cons (pv 1) pa_nil))) (pe_one (pe_or (pe_cmpR (op_eqD hr.units) (pv 0) (pe_tup pa_nil) (nomark _)) (pe_one (pe_cmpR op_gt (pe_ix ix_seq (pv 0) (pe_un un_neg pe_int) (fun _ _ => rfl)) pe_int (nomark _))))))))
theorem b_are_whole_figures {K : Frag} {a : Addr} {fd : FuncData} (F : FunD K "are_whole_figures" "are_whole_figures" (defArgs s_are_whole_figures) (defBody s_are_whole_figures) (defScope s_are_whole_figures) [] [] a fd) : L2.Binds K fd ["value", "size"] [] := F.bindsN fun _ _ _ _ _ _ us hl => match us, hl with | [_, _], _ => rfl
theorem f_are_whole_figures {P : Program} {w : World} {K : Frag} {T : List (Addr × Str)} {mg : Str → Option Value} {base : Heap} {a : Addr} {fd : FuncData} (c_are_figures : CalX P w K mg base 3 "are_figures" (lift ⟨K, P, w, T⟩ sp_are_figures)) (F : FunD K "are_whole_figures" "are_whole_figures" (defArgs s_are_whole_figures) (defBody s_are_whole_figures) (defScope s_are_whole_figures) [] [] a fd) : FnOk P w K mg base (L2.CX P w) 4 a fd ["value", "size"] (lift ⟨K, P, w, T⟩ sp_are_whole_figures) :=
  okD F sc_are_whole_figures len_are_whole_figures (fun E Ψ => r_are_whole_figures  E Ψ) pure_are_whole_figures fun cdv A outer s H E hr => der_are_whole_figures c_are_figures cdv A outer s H E hr
theorem sc_size_in : FnScope n_size_in ["figures", "size"] (defScope s_size_in) := ⟨rfl, rfl, rfl, by decide +kernel, rfl, by decide +kernel, by decide +kernel⟩
theorem der_size_in {P : Program} {w : World} {K : Frag} {T : List (Addr × Str)} {mg : Str → Option Value} {base : Heap} {f : Addr}  (cdv : Value) (A : Around) (outer : List Env) (s : Shared) (H : Hp) (E : XK) 
    (hr : Room 0 (A.deeper (PyProof.Rows.envOfC "size_in" (defScope s_size_in) s.heap.objs.size f cdv))) : PSs (cxOf (L2.CX P w) P w K mg base n_size_in "size_in" (defScope s_size_in) f cdv A outer s H E) (defBody s_size_in) (t_size_in ⟨K, P, w, T⟩ E) := by
  exact (pss_cons (ps_set (i := 2) sc_size_in.nd rfl (by walk_at "sw_loc") pe_int) (pss_cons (ps_for (passes_of rfl) rfl (pi_tup (pe_revT (pv 0))) (pg_name (i := 3) sc_size_in.nd rfl (by walk_at "sw_loc")) (pss_one (ps_set (i := 2) sc_size_in.nd rfl (by walk_at "sw_loc") (pe_op op_add (pe_op op_mul (pv 2) (pv 1)) (pv 3))))) (pss_one (ps_ret (pv 2)))))
theorem b_size_in {K : Frag} {a : Addr} {fd : FuncData} (F : FunD K "size_in" "size_in" (defArgs s_size_in) (defBody s_size_in) (defScope s_size_in) [] [] a fd) : L2.Binds K fd ["figures", "size"] [] := F.bindsN fun _ _ _ _ _ _ us hl => match us, hl with | [_, _], _ => rfl
theorem f_size_in {P : Program} {w : World} {K : Frag} {T : List (Addr × Str)} {mg : Str → Option Value} {base : Heap} {a : Addr} {fd : FuncData}  (F : FunD K "size_in" "size_in" (defArgs s_size_in) (defBody s_size_in) (defScope s_size_in) [] [] a fd) : FnOk P w K mg base (L2.CX P w) 1 a fd ["figures", "size"] (lift ⟨K, P, w, T⟩ sp_size_in) :=
  okD F sc_size_in len_size_in (fun E Ψ => r_size_in  E Ψ) pure_size_in fun cdv A outer s H E hr => der_size_in  cdv A outer s H E hr
theorem sc_number_of : FnScope n_number_of ["sign", "figures", "size"] (defScope s_number_of) := ⟨rfl, rfl, rfl, by decide +kernel, rfl, by decide +kernel, by decide +kernel⟩
theorem der_number_of {P : Program} {w : World} {K : Frag} {T : List (Addr × Str)} {mg : Str → Option Value} {base : Heap} {f : Addr} (c_is_sign : CalX P w K mg base 2 "is_sign" (lift ⟨K, P, w, T⟩ sp_is_sign)) (c_is_between : CalX P w K mg base 2 "is_between" (lift ⟨K, P, w, T⟩ sp_is_between)) (c_are_whole_figures : CalX P w K mg base 4 "are_whole_figures" (lift ⟨K, P, w, T⟩ sp_are_whole_figures)) (c_size_in : CalX P w K mg base 1 "size_in" (lift ⟨K, P, w, T⟩ sp_size_in)) (e_InvalidSign : ExX P w K mg base 1 "InvalidSign" "value") (e_InvalidBase : ExX P w K mg base 1 "InvalidBase" "value") (e_InvalidFigures : ExX P w K mg base 1 "InvalidFigures" "value") (cdv : Value) (A : Around) (outer : List Env) (s : Shared) (H : Hp) (E : XK) 
    (hr : Room 4 (A.deeper (PyProof.Rows.envOfC "number_of" (defScope s_number_of) s.heap.objs.size f cdv))) : PSs (cxOf (L2.CX P w) P w K mg base n_number_of "number_of" (defScope s_number_of) f cdv A outer s H E) (defBody s_number_of) (t_number_of ⟨K, P, w, T⟩ E) := by
  exact (pss_cons (ps_if (pt_not (pt_val (pe_cn c_is_sign hr (by decide) rfl (pa_cons (pv 0) pa_nil)))) (pss_one (ps_rx e_InvalidSign hr (by decide) rfl (takes_of rfl rfl rfl rfl) rfl (pv 0))) pss_nil) (pss_cons (ps_if (pt_not (pt_val (pe_cn c_is_between hr (by decide) rfl (pa_cons (pv 2) (pa_cons pe_int (pa_cons pe_int pa_nil)))))) (pss_one (ps_rx e_InvalidBase hr (by decide) rfl (takes_of rfl rfl rfl rfl) rfl (pv 2))) pss_nil) (pss_cons (ps_if (pt_not (pt_val (pe_cn c_are_whole_figures hr (by decide) rfl (pa_cons (pv 1) (pa_cons (pv 2) pa_nil))))) (pss_one (ps_rx e_InvalidFigures hr (by decide) rfl (takes_of rfl rfl rfl rfl) rfl (pv 1))) pss_nil) (pss_one (ps_ret (pe_op op_mul (pv 0) (pe_cn c_size_in hr (by decide) rfl (pa_cons (pv 1) (pa_cons (pv 2) pa_nil)))))))))
theorem b_number_of {K : Frag} {a : Addr} {fd : FuncData} (F : FunD K "number_of" "number_of" (defArgs s_number_of) (defBody s_number_of) (defScope s_number_of) [] [] a fd) : L2.Binds K fd ["sign", "figures", "size"] [] := F.bindsN fun _ _ _ _ _ _ us hl => match us, hl with | [_, _, _], _ => rfl
theorem f_number_of {P : Program} {w : World} {K : Frag} {T : List (Addr × Str)} {mg : Str → Option Value} {base : Heap} {a : Addr} {fd : FuncData} (c_is_sign : CalX P w K mg base 2 "is_sign" (lift ⟨K, P, w, T⟩ sp_is_sign)) (c_is_between : CalX P w K mg base 2 "is_between" (lift ⟨K, P, w, T⟩ sp_is_between)) (c_are_whole_figures : CalX P w K mg base 4 "are_whole_figures" (lift ⟨K, P, w, T⟩ sp_are_whole_figures)) (c_size_in : CalX P w K mg base 1 "size_in" (lift ⟨K, P, w, T⟩ sp_size_in)) (e_InvalidSign : ExX P w K mg base 1 "InvalidSign" "value") (e_InvalidBase : ExX P w K mg base 1 "InvalidBase" "value") (e_InvalidFigures : ExX P w K mg base 1 "InvalidFigures" "value") (x_InvalidSign : XcOk K "InvalidSign" "value") (x_InvalidBase : XcOk K "InvalidBase" "value") (x_InvalidFigures : XcOk K "InvalidFigures" "value") (F : FunD K "number_of" "number_of" (defArgs s_number_of) (defBody s_number_of) (defScope s_number_of) [] [] a fd) : FnOk P w K mg base (L2.CX P w) 5 a fd ["sign", "figures", "size"] (lift ⟨K, P, w, T⟩ sp_number_of) :=
  okD F sc_number_of len_number_of (fun E Ψ => r_number_of x_InvalidSign x_InvalidBase x_InvalidFigures E Ψ) pure_number_of fun cdv A outer s H E hr => der_number_of c_is_sign c_is_between c_are_whole_figures c_size_in e_InvalidSign e_InvalidBase e_InvalidFigures cdv A outer s H E hr
theorem sc_law_divide : FnScope n_law_divide ["rule", "x", "base"] (defScope s_law_divide) := ⟨rfl, rfl, rfl, by decide +kernel, rfl, by decide +kernel, by decide +kernel⟩
theorem der_law_divide {P : Program} {w : World} {K : Frag} {T : List (Addr × Str)} {mg : Str → Option Value} {base : Heap} {f : Addr} (B : Bt mg) (cdv : Value) (A : Around) (outer : List Env) (s : Shared) (H : Hp) (E : XK) 
    (hr : Room 0 (A.deeper (PyProof.Rows.envOfC "_law_divide" (defScope s_law_divide) s.heap.objs.size f cdv))) : PSs (cxOf (L2.CX P w) P w K mg base n_law_divide "_law_divide" (defScope s_law_divide) f cdv A outer s H E) (defBody s_law_divide) (t_law_divide ⟨K, P, w, T⟩ E) := by
  exact (pss_cons (ps_par (by rfl) sc_law_divide.nd (i := 4) (j := 5) rfl rfl (by decide) rfl rfl (pa_cons (pe_callB call_abs rfl B.abs_ (by decide +kernel) (pa_cons (pv 2) pa_nil)) (pa_cons (pe_op op_sub pe_int (pe_op op_mul pe_int (pe_callTy call_int1 rfl B.int_ (by decide +kernel) (pa_cons (pe_cmpR op_lt (pv 2) pe_int (nomark _)) pa_nil)))) pa_nil)) (by rfl)) (pss_cons (ps_set (i := 3) sc_law_divide.nd rfl (by walk_at "sw_loc") (pe_op op_mod (pe_callTy call_int1 rfl B.int_ (by decide +kernel) (pa_cons (pv 1) pa_nil)) (pv 4))) (pss_cons (ps_if (pt_cmpR op_eq (pv 0) pe_str (nomark _)) (pss_one (ps_set (i := 3) sc_law_divide.nd rfl (by walk_at "sw_loc") (pe_op op_sub (pv 3) (pe_op op_mul (pv 4) (pe_callTy call_int1 rfl B.int_ (by decide +kernel) (pa_cons (pe_and (pe_cmpR op_lt (pv 2) pe_int (nomark _)) (pe_one (pe_cmpR op_gt (pv 3) pe_int (nomark _)))) pa_nil)))))) (pss_one (ps_if (pt_cmpR op_eq (pv 0) pe_str (nomark _)) (pss_one (ps_set (i := 3) sc_law_divide.nd rfl (by walk_at "sw_loc") (pe_op op_sub (pv 3) (pe_op op_mul (pv 4) (pe_callTy call_int1 rfl B.int_ (by decide +kernel) (pa_cons (pe_and (pe_cmpR op_gt (pv 2) pe_int (nomark _)) (pe_one (pe_cmpR op_gt (pv 3) pe_int (nomark _)))) pa_nil)))))) (pss_one (ps_if (pt_cmpR op_eq (pv 0) pe_str (nomark _)) (pss_one (ps_set (i := 3) sc_law_divide.nd rfl (by walk_at "sw_loc") (pe_op op_sub (pv 3) (pe_op op_mul (pv 4) (pe_callTy call_int1 rfl B.int_ (by decide +kernel) (pa_cons (pe_and (pe_cmpR op_lt (pv 1) pe_int (nomark _)) (pe_one (pe_cmpR op_gt (pv 3) pe_int (nomark _)))) pa_nil)))))) (pss_one (ps_if (pt_cmpR op_eq (pv 0) pe_str (nomark _)) (pss_one (ps_set (i := 3) sc_law_divide.nd rfl (by walk_at "sw_loc") (pe_op op_sub (pv 3) (pe_op op_mul (pv 4) (pe_callTy call_int1 rfl B.int_ (by decide +kernel) (pa_cons (pe_cmpR op_gt (pe_op op_mul pe_int (pv 3)) (pv 4) (nomark _)) pa_nil)))))) pss_nil))))))) (pss_one (ps_ret (pe_tup (pa_cons (pe_op op_mul (pe_op op_fdivW (pe_op op_sub (pv 1) (pv 3)) (pv 4)) (pv 5)) (pa_cons (pv 3) pa_nil))))))))
theorem b_law_divide {K : Frag} {a : Addr} {fd : FuncData} (F : FunD K "_law_divide" "_law_divide" (defArgs s_law_divide) (defBody s_law_divide) (defScope s_law_divide) [] [] a fd) : L2.Binds K fd ["rule", "x", "base"] [] := F.bindsN fun _ _ _ _ _ _ us hl => match us, hl with | [_, _, _], _ => rfl
theorem f_law_divide {P : Program} {w : World} {K : Frag} {T : List (Addr × Str)} {mg : Str → Option Value} {base : Heap} {a : Addr} {fd : FuncData} (B : Bt mg) (F : FunD K "_law_divide" "_law_divide" (defArgs s_law_divide) (defBody s_law_divide) (defScope s_law_divide) [] [] a fd) : FnOk P w K mg base (L2.CX P w) 1 a fd ["rule", "x", "base"] (lift ⟨K, P, w, T⟩ sp_law_divide) :=
  okD F sc_law_divide len_law_divide (fun E Ψ => r_law_divide  E Ψ) pure_law_divide fun cdv A outer s H E hr => der_law_divide B cdv A outer s H E hr
theorem sc_law_line : FnScope n_law_line ["rows", "sign", "part"] (defScope s_law_line) := ⟨rfl, rfl, rfl, by decide +kernel, rfl, by decide +kernel, by decide +kernel⟩
theorem der_law_line {P : Program} {w : World} {K : Frag} {T : List (Addr × Str)} {mg : Str → Option Value} {base : Heap} {f : Addr}  (cdv : Value) (A : Around) (outer : List Env) (s : Shared) (H : Hp) (E : XK) 
    (hr : Room 0 (A.deeper (PyProof.Rows.envOfC "_law_line" (defScope s_law_line) s.heap.objs.size f cdv))) : PSs (cxOf (L2.CX P w) P w K mg base n_law_line "_law_line" (defScope s_law_line) f cdv A outer s H E) (defBody s_law_line) (t_law_line ⟨K, P, w, T⟩ E) := by
  exact (pss_cons (ps_for (passes_of rfl) rfl (pi_list (pe_lst (pa_cons (pe_tup (pa_cons (pv 1) (pa_cons (pv 2) pa_nil))) (pa_cons (pe_tup (pa_cons pe_non (pa_cons (pv 2) pa_nil))) (pa_cons (pe_tup (pa_cons (pv 1) (pa_cons pe_non pa_nil))) (pa_cons (pe_tup (pa_cons pe_non (pa_cons pe_non pa_nil))) pa_nil)))))) (pg_name (i := 3) sc_law_line.nd rfl (by walk_at "sw_loc")) (pss_one (ps_for (passes_of rfl) rfl (pi_list (pv 0)) (pg_name (i := 4) sc_law_line.nd rfl (by walk_at "sw_loc")) (pss_one (ps_if (pt_cmpR (op_eqD hr.units) (pe_slice sl_tupA (pv 4) po_none (po_some pe_int)) (pv 3) (nomark _)) (pss_one (ps_ret (pv 4))) pss_nil))))) (pss_one (ps_ret pe_non)))
theorem b_law_line {K : Frag} {a : Addr} {fd : FuncData} (F : FunD K "_law_line" "_law_line" (defArgs s_law_line) (defBody s_law_line) (defScope s_law_line) [] [] a fd) : L2.Binds K fd ["rows", "sign", "part"] [] := F.bindsN fun _ _ _ _ _ _ us hl => match us, hl with | [_, _, _], _ => rfl
theorem f_law_line {P : Program} {w : World} {K : Frag} {T : List (Addr × Str)} {mg : Str → Option Value} {base : Heap} {a : Addr} {fd : FuncData}  (F : FunD K "_law_line" "_law_line" (defArgs s_law_line) (defBody s_law_line) (defScope s_law_line) [] [] a fd) : FnOk P w K mg base (L2.CX P w) 1 a fd ["rows", "sign", "part"] (lift ⟨K, P, w, T⟩ sp_law_line) :=
  okD F sc_law_line len_law_line (fun E Ψ => r_law_line  E Ψ) pure_law_line fun cdv A outer s H E hr => der_law_line  cdv A outer s H E hr
theorem sc_law_next : FnScope n_law_next ["row", "values", "part"] (defScope s_law_next) := ⟨rfl, rfl, rfl, by decide +kernel, rfl, by decide +kernel, by decide +kernel⟩
theorem der_law_next {P : Program} {w : World} {K : Frag} {T : List (Addr × Str)} {mg : Str → Option Value} {base : Heap} {f : Addr} (B : Bt mg) (cdv : Value) (A : Around) (outer : List Env) (s : Shared) (H : Hp) (E : XK) 
    (hr : Room 0 (A.deeper (PyProof.Rows.envOfC "_law_next" (defScope s_law_next) s.heap.objs.size f cdv))) : PSs (cxOf (L2.CX P w) P w K mg base n_law_next "_law_next" (defScope s_law_next) f cdv A outer s H E) (defBody s_law_next) (t_law_next ⟨K, P, w, T⟩ E) := by
  exact (pss_cons (ps_set (i := 3) sc_law_next.nd rfl (by walk_at "sw_loc") (pe_lst pa_nil)) (pss_cons (ps_for (passes_of rfl) rfl (pi_tup (pe_ix ix_seq (pv 0) pe_int (fun _ _ => rfl))) (pg_name (i := 4) sc_law_next.nd rfl (by walk_at "sw_loc")) (pss_cons (ps_set (i := 5) sc_law_next.nd rfl (by walk_at "sw_loc") (pe_op op_add (pe_ix ix_seq (pv 4) (pe_un un_neg pe_int) (fun _ _ => rfl)) (pe_op op_mul (pe_ix ix_seq (pv 4) (pe_un un_neg pe_int) (fun _ _ => rfl)) (pv 2)))) (pss_cons (ps_for (passes_of rfl) rfl (pi_range1 rfl B.range_ (pa_cons (pe_callB call_len_seq rfl B.len_ (by decide +kernel) (pa_cons (pv 1) pa_nil)) pa_nil)) (pg_name (i := 6) sc_law_next.nd rfl (by walk_at "sw_loc")) (pss_one (ps_set (i := 5) sc_law_next.nd rfl (by walk_at "sw_loc") (pe_op op_add (pv 5) (pe_op op_mul (pe_ix ix_seq (pv 4) (pv 6) (fun _ _ => rfl)) (pe_ix ix_seq (pv 1) (pv 6) (fun _ _ => rfl))))))) (pss_one (ps_expr (pe_bm PySem.F.plainAttrs_list PySem.F.slot_list_append PySem.F.type_list_append mt_append (pv 3) (pa_cons (pv 5) pa_nil))))))) (pss_one (ps_ret (pv 3)))))
theorem b_law_next {K : Frag} {a : Addr} {fd : FuncData} (F : FunD K "_law_next" "_law_next" (defArgs s_law_next) (defBody s_law_next) (defScope s_law_next) [] [] a fd) : L2.Binds K fd ["row", "values", "part"] [] := F.bindsN fun _ _ _ _ _ _ us hl => match us, hl with | [_, _, _], _ => rfl
theorem f_law_next {P : Program} {w : World} {K : Frag} {T : List (Addr × Str)} {mg : Str → Option Value} {base : Heap} {a : Addr} {fd : FuncData} (B : Bt mg) (F : FunD K "_law_next" "_law_next" (defArgs s_law_next) (defBody s_law_next) (defScope s_law_next) [] [] a fd) : FnOk P w K mg base (L2.CX P w) 1 a fd ["row", "values", "part"] (lift ⟨K, P, w, T⟩ sp_law_next) :=
  okD F sc_law_next len_law_next (fun E Ψ => r_law_next  E Ψ) pure_law_next fun cdv A outer s H E hr => der_law_next B cdv A outer s H E hr
theorem sc_law_run : FnScope n_law_run ["parts", "number"] (defScope s_law_run) := ⟨rfl, rfl, rfl, by decide +kernel, rfl, by decide +kernel, by decide +kernel⟩
theorem der_law_run {P : Program} {w : World} {K : Frag} {T : List (Addr × Str)} {mg : Str → Option Value} {base : Heap} {f : Addr} (B : Bt mg) (c_law_divide : CalX P w K mg base 1 "_law_divide" (lift ⟨K, P, w, T⟩ sp_law_divide)) (c_law_line : CalX P w K mg base 1 "_law_line" (lift ⟨K, P, w, T⟩ sp_law_line)) (c_law_next : CalX P w K mg base 1 "_law_next" (lift ⟨K, P, w, T⟩ sp_law_next)) (cdv : Value) (A : Around) (outer : List Env) (s : Shared) (H : Hp) (E : XK) 
    (hr : Room 1 (A.deeper (PyProof.Rows.envOfC "_law_run" (defScope s_law_run) s.heap.objs.size f cdv))) : PSs (cxOf (L2.CX P w) P w K mg base n_law_run "_law_run" (defScope s_law_run) f cdv A outer s H E) (defBody s_law_run) (t_law_run ⟨K, P, w, T⟩ E) := by
  exact (pss_cons (ps_set (i := 2) sc_law_run.nd rfl (by walk_at "sw_loc") (pe_callTy (call_dictP rfl) rfl B.dict_ (by decide +kernel) (pa_cons (pe_lcn (own := [("name", 11), ("rule", 12), ("rows", 13)]) rfl sc_law_run.nd (pi_list (pe_ix ix_seq (pv 0) pe_int (fun _ _ => rfl))) (by walk_at "sw_blk") (fun _ _ _ _ _ => (pg_tup (by rfl) (pgs_cons (pg_name (i := 11) sc_law_run.nd rfl (by walk_at "sw_loc")) (pgs_cons (pg_name (i := 12) sc_law_run.nd rfl (by walk_at "sw_loc")) (pgs_cons (pg_name (i := 13) sc_law_run.nd rfl (by walk_at "sw_loc")) pgs_nil))))) (fun _ _ _ _ _ => pts_nil) (fun _ _ _ _ _ => (pe_tup (pa_cons (pv 11) (pa_cons (pe_lst (pa_cons (pv 12) (pa_cons (pv 13) pa_nil))) pa_nil))))) pa_nil))) (pss_cons (ps_par3 (by rfl) sc_law_run.nd (i := 3) (j := 4) (l := 5) rfl rfl rfl (by decide) (by decide) (by decide) rfl rfl rfl (pa_cons (pe_ix ix_seq (pe_ix ix_seq (pe_ix ix_seq (pv 0) pe_int (fun _ _ => rfl)) pe_int (fun _ _ => rfl)) pe_int (fun _ _ => rfl)) (pa_cons (pv 1) (pa_cons (pe_lcn (own := [("name", 11), ("first", 14)]) rfl sc_law_run.nd (pi_list (pe_ix ix_seq (pv 0) pe_int (fun _ _ => rfl))) (by walk_at "sw_blk") (fun _ _ _ _ _ => (pg_tup (by rfl) (pgs_cons (pg_name (i := 11) sc_law_run.nd rfl (by walk_at "sw_loc")) (pgs_cons (pg_name (i := 14) sc_law_run.nd rfl (by walk_at "sw_loc")) pgs_nil)))) (fun _ _ _ _ _ => pts_nil) (fun _ _ _ _ _ => (pv 14))) pa_nil))) (by rfl)) (pss_cons (ps_par (by rfl) sc_law_run.nd (i := 6) (j := 7) rfl rfl (by decide) rfl rfl (pa_cons pe_dnewT (pa_cons (pe_lst pa_nil) pa_nil)) (by rfl)) (pss_cons (ps_while (passes_of rfl) (pt_cmpR (op_notInDc hr) (pe_tup (pa_cons (pv 3) (pa_cons (pv 4) pa_nil))) (pv 6) rfl) (pss_cons (ps_asg pe_bl (pg_sub (pv 6) (pe_tup (pa_cons (pv 3) (pa_cons (pv 4) pa_nil))) (set_dc hr))) (pss_cons (ps_if (pt_cmpR op_in_seq (pv 4) (pe_ix ix_seq (pv 0) pe_int (fun _ _ => rfl)) rfl) (pss_one (ps_ret (pe_lst (pa_cons pe_str (pa_cons (pv 5) (pa_cons (pv 4) (pa_cons (pv 7) pa_nil))))))) pss_nil) (pss_cons (ps_asg (pe_cn c_law_divide hr (by decide) rfl (pa_cons (pe_ix ix_seq (pe_dgetN hr (pv 2) (pv 3)) pe_int (fun _ _ => rfl)) (pa_cons (pv 4) (pa_cons (pe_ix ix_seq (pv 0) pe_int (fun _ _ => rfl)) pa_nil)))) (pg_tup (by rfl) (pgs_cons (pg_name (i := 9) sc_law_run.nd rfl (by walk_at "sw_loc")) (pgs_cons (pg_name (i := 10) sc_law_run.nd rfl (by walk_at "sw_loc")) pgs_nil)))) (pss_cons (ps_set (i := 8) sc_law_run.nd rfl (by walk_at "sw_loc") (pe_cn c_law_line hr (by decide) rfl (pa_cons (pe_ix ix_seq (pe_dgetN hr (pv 2) (pv 3)) pe_int (fun _ _ => rfl)) (pa_cons (pe_op op_sub (pe_callTy call_int1 rfl B.int_ (by decide +kernel) (pa_cons (pe_cmpR op_gt (pv 4) pe_int (nomark _)) pa_nil)) (pe_callTy call_int1 rfl B.int_ (by decide +kernel) (pa_cons (pe_cmpR op_lt (pv 4) pe_int (nomark _)) pa_nil))) (pa_cons (pv 10) pa_nil))))) (pss_cons (ps_expr (pe_bm PySem.F.plainAttrs_list PySem.F.slot_list_append PySem.F.type_list_append mt_append (pv 7) (pa_cons (pe_tup (pa_cons (pv 3) (pa_cons (pv 4) (pa_cons (pv 10) (pa_cons (pv 5) pa_nil))))) pa_nil))) (pss_cons (ps_par (by rfl) sc_law_run.nd (i := 5) (j := 4) rfl rfl (by decide) rfl rfl (pa_cons (pe_cn c_law_next hr (by decide) rfl (pa_cons (pv 8) (pa_cons (pv 5) (pa_cons (pv 10) pa_nil)))) (pa_cons (pv 9) pa_nil)) (by rfl)) (pss_cons (ps_if (pt_cmpR op_isN (pe_ix ix_seq (pv 8) pe_int (fun _ _ => rfl)) pe_non (nomark _)) (pss_one (ps_ret (pe_lst (pa_cons pe_str (pa_cons (pv 5) (pa_cons (pv 4) (pa_cons (pv 7) pa_nil))))))) pss_nil) (pss_one (ps_set (i := 3) sc_law_run.nd rfl (by walk_at "sw_loc") (pe_ix ix_seq (pv 8) pe_int (fun _ _ => rfl)))))))))))) (pss_one (ps_ret (pe_lst (pa_cons pe_str (pa_cons pe_non (pa_cons pe_non (pa_cons (pv 7) pa_nil)))))))))))
theorem b_law_run {K : Frag} {a : Addr} {fd : FuncData} (F : FunD K "_law_run" "_law_run" (defArgs s_law_run) (defBody s_law_run) (defScope s_law_run) [] [] a fd) : L2.Binds K fd ["parts", "number"] [] := F.bindsN fun _ _ _ _ _ _ us hl => match us, hl with | [_, _], _ => rfl
theorem f_law_run {P : Program} {w : World} {K : Frag} {T : List (Addr × Str)} {mg : Str → Option Value} {base : Heap} {a : Addr} {fd : FuncData} (B : Bt mg) (c_law_divide : CalX P w K mg base 1 "_law_divide" (lift ⟨K, P, w, T⟩ sp_law_divide)) (c_law_line : CalX P w K mg base 1 "_law_line" (lift ⟨K, P, w, T⟩ sp_law_line)) (c_law_next : CalX P w K mg base 1 "_law_next" (lift ⟨K, P, w, T⟩ sp_law_next)) (F : FunD K "_law_run" "_law_run" (defArgs s_law_run) (defBody s_law_run) (defScope s_law_run) [] [] a fd) : FnOk P w K mg base (L2.CX P w) 2 a fd ["parts", "number"] (lift ⟨K, P, w, T⟩ sp_law_run) :=
  okD F sc_law_run len_law_run (fun E Ψ => r_law_run  E Ψ) pure_law_run fun cdv A outer s H E hr => der_law_run B c_law_divide c_law_line c_law_next cdv A outer s H E hr
theorem sc_Run_rounds : FnScope n_Run_rounds ["self"] (defScope s_Run_rounds) := ⟨rfl, rfl, rfl, by decide +kernel, rfl, by decide +kernel, by decide +kernel⟩
theorem der_Run_rounds {P : Program} {w : World} {K : Frag} {T : List (Addr × Str)} {mg : Str → Option Value} {base : Heap} {f : Addr} (B : Bt mg) (cdv : Value) (A : Around) (outer : List Env) (s : Shared) (H : Hp) (E : XK) 
    (hr : Room 0 (A.deeper (PyProof.Rows.envOfC "Run.rounds" (defScope s_Run_rounds) s.heap.objs.size f cdv))) : PSs (cxOf (L2.CX P w) P w K mg base n_Run_rounds "Run.rounds" (defScope s_Run_rounds) f cdv A outer s H E) (defBody s_Run_rounds) (t_Run_rounds ⟨K, P, w, T⟩ E) := by
  exact (pss_one (ps_ret (pe_callTy call_list_of rfl B.list_ (by decide +kernel) (pa_cons (pe_fld (pv 0) rfl) pa_nil))))
theorem b_Run_rounds {K : Frag} {a : Addr} {fd : FuncData} (F : FunD K "rounds" "Run.rounds" (defArgs s_Run_rounds) (defBody s_Run_rounds) (defScope s_Run_rounds) [] [] a fd) : L2.Binds K fd ["self"] [] := F.bindsN fun _ _ _ _ _ _ us hl => match us, hl with | [_], _ => rfl
theorem f_Run_rounds {P : Program} {w : World} {K : Frag} {T : List (Addr × Str)} {mg : Str → Option Value} {base : Heap} {a : Addr} {fd : FuncData} (B : Bt mg) (fl : FlOk ⟨K, P, w, T⟩ flds) (F : FunD K "rounds" "Run.rounds" (defArgs s_Run_rounds) (defBody s_Run_rounds) (defScope s_Run_rounds) [] [] a fd) : FnOk P w K mg base (L2.CX P w) 1 a fd ["self"] (lift ⟨K, P, w, T⟩ sp_Run_rounds) :=
  okD F sc_Run_rounds len_Run_rounds (fun E Ψ => r_Run_rounds fl E Ψ) pure_Run_rounds fun cdv A outer s H E hr => der_Run_rounds B cdv A outer s H E hr
theorem sc_Program_first_row : FnScope n_Program_first_row ["self"] (defScope s_Program_first_row) := ⟨rfl, rfl, rfl, by decide +kernel, rfl, by decide +kernel, by decide +kernel⟩
theorem der_Program_first_row {P : Program} {w : World} {K : Frag} {T : List (Addr × Str)} {mg : Str → Option Value} {base : Heap} {f : Addr}  (cdv : Value) (A : Around) (outer : List Env) (s : Shared) (H : Hp) (E : XK) 
    (hr : Room 0 (A.deeper (PyProof.Rows.envOfC "Program.first_row" (defScope s_Program_first_row) s.heap.objs.size f cdv))) : PSs (cxOf (L2.CX P w) P w K mg base n_Program_first_row "Program.first_row" (defScope s_Program_first_row) f cdv A outer s H E) (defBody s_Program_first_row) (t_Program_first_row ⟨K, P, w, T⟩ E) := by
  exact (pss_one (ps_ret (pe_tup (StX.pa_star (pe_lcn (own := [("name", 1), ("first", 2)]) rfl sc_Program_first_row.nd (pi_tup (pe_fld (pv 0) rfl)) (by walk_at "sw_blk") (fun _ _ _ _ _ => (pg_tup (by rfl) (pgs_cons (pg_name (i := 1) sc_Program_first_row.nd rfl (by walk_at "sw_loc")) (pgs_cons (pg_name (i := 2) sc_Program_first_row.nd rfl (by walk_at "sw_loc")) pgs_nil)))) (fun _ _ _ _ _ => pts_nil) (fun _ _ _ _ _ => (pv 2))) (pa_cons pe_int pa_nil)))))
theorem b_Program_first_row {K : Frag} {a : Addr} {fd : FuncData} (F : FunD K "first_row" "Program.first_row" (defArgs s_Program_first_row) (defBody s_Program_first_row) (defScope s_Program_first_row) [] [] a fd) : L2.Binds K fd ["self"] [] := F.bindsN fun _ _ _ _ _ _ us hl => match us, hl with | [_], _ => rfl
theorem f_Program_first_row {P : Program} {w : World} {K : Frag} {T : List (Addr × Str)} {mg : Str → Option Value} {base : Heap} {a : Addr} {fd : FuncData} (fl : FlOk ⟨K, P, w, T⟩ flds) (F : FunD K "first_row" "Program.first_row" (defArgs s_Program_first_row) (defBody s_Program_first_row) (defScope s_Program_first_row) [] [] a fd) : FnOk P w K mg base (L2.CX P w) 1 a fd ["self"] (lift ⟨K, P, w, T⟩ sp_Program_first_row) :=
  okD F sc_Program_first_row len_Program_first_row (fun E Ψ => r_Program_first_row fl E Ψ) pure_Program_first_row fun cdv A outer s H E hr => der_Program_first_row  cdv A outer s H E hr
theorem sc_Loop___init__ : FnScope n_Loop___init__ ["self", "program", "number"] (defScope s_Loop___init__) := ⟨rfl, rfl, rfl, by decide +kernel, rfl, by decide +kernel, by decide +kernel⟩
theorem der_Loop___init__ {P : Program} {w : World} {K : Frag} {T : List (Addr × Str)} {mg : Str → Option Value} {base : Heap} {f : Addr} (c_Program_first_row : MetX P w K mg base 1 "Program" "first_row" (lift ⟨K, P, w, T⟩ sp_Program_first_row)) (cdv : Value) (A : Around) (outer : List Env) (s : Shared) (H : Hp) (E : XK) 
    (hr : Room 1 (A.deeper (PyProof.Rows.envOfC "Loop.__init__" (defScope s_Loop___init__) s.heap.objs.size f cdv))) : PSs (cxOf (L2.CX P w) P w K mg base n_Loop___init__ "Loop.__init__" (defScope s_Loop___init__) f cdv A outer s H E) (defBody s_Loop___init__) (t_Loop___init__ ⟨K, P, w, T⟩ E) := by
  exact (pss_cons (ps_fld (pv 0) (pv 1) rfl) (pss_cons (ps_fld (pv 0) (pe_ix ix_seq (pe_fld (pv 1) rfl) pe_int (fun _ _ => rfl)) rfl) (pss_cons (ps_fld (pv 0) (pv 2) rfl) (pss_cons (ps_fld (pv 0) (pe_slice sl_tupA (pe_mn0 c_Program_first_row hr (by decide) (pv 1)) po_none (po_some (pe_un un_neg pe_int))) rfl) (pss_one (ps_fld (pv 0) pe_non rfl))))))
theorem b_Loop___init__ {K : Frag} {a : Addr} {fd : FuncData} (F : FunD K "__init__" "Loop.__init__" (defArgs s_Loop___init__) (defBody s_Loop___init__) (defScope s_Loop___init__) [] [] a fd) : L2.Binds K fd ["self", "program", "number"] [] := F.bindsN fun _ _ _ _ _ _ us hl => match us, hl with | [_, _, _], _ => rfl
theorem f_Loop___init__ {P : Program} {w : World} {K : Frag} {T : List (Addr × Str)} {mg : Str → Option Value} {base : Heap} {a : Addr} {fd : FuncData} (c_Program_first_row : MetX P w K mg base 1 "Program" "first_row" (lift ⟨K, P, w, T⟩ sp_Program_first_row)) (fl : FlOk ⟨K, P, w, T⟩ flds) (F : FunD K "__init__" "Loop.__init__" (defArgs s_Loop___init__) (defBody s_Loop___init__) (defScope s_Loop___init__) [] [] a fd) : FnOk P w K mg base (L2.CX P w) 2 a fd ["self", "program", "number"] (lift ⟨K, P, w, T⟩ sp_Loop___init__) :=
  okD F sc_Loop___init__ len_Loop___init__ (fun E Ψ => r_Loop___init__ fl E Ψ) pure_Loop___init__ fun cdv A outer s H E hr => der_Loop___init__ c_Program_first_row cdv A outer s H E hr
theorem sc_sign_of : FnScope n_sign_of ["number"] (defScope s_sign_of) := ⟨rfl, rfl, rfl, by decide +kernel, rfl, by decide +kernel, by decide +kernel⟩
theorem der_sign_of {P : Program} {w : World} {K : Frag} {T : List (Addr × Str)} {mg : Str → Option Value} {base : Heap} {f : Addr} (B : Bt mg) (cdv : Value) (A : Around) (outer : List Env) (s : Shared) (H : Hp) (E : XK) 
    (hr : Room 0 (A.deeper (PyProof.Rows.envOfC "sign_of" (defScope s_sign_of) s.heap.objs.size f cdv))) : PSs (cxOf (L2.CX P w) P w K mg base n_sign_of "sign_of" (defScope s_sign_of) f cdv A outer s H E) (defBody s_sign_of) (t_sign_of ⟨K, P, w, T⟩ E) := by
  exact (pss_one (ps_ret (pe_op op_sub (pe_callTy call_int1 rfl B.int_ (by decide +kernel) (pa_cons (pe_cmpR op_gt (pv 0) pe_int (nomark _)) pa_nil)) (pe_callTy call_int1 rfl B.int_ (by decide +kernel) (pa_cons (pe_cmpR op_lt (pv 0) pe_int (nomark _)) pa_nil)))))
theorem b_sign_of {K : Frag} {a : Addr} {fd : FuncData} (F : FunD K "sign_of" "sign_of" (defArgs s_sign_of) (defBody s_sign_of) (defScope s_sign_of) [] [] a fd) : L2.Binds K fd ["number"] [] := F.bindsN fun _ _ _ _ _ _ us hl => match us, hl with | [_], _ => rfl
theorem f_sign_of {P : Program} {w : World} {K : Frag} {T : List (Addr × Str)} {mg : Str → Option Value} {base : Heap} {a : Addr} {fd : FuncData} (B : Bt mg) (F : FunD K "sign_of" "sign_of" (defArgs s_sign_of) (defBody s_sign_of) (defScope s_sign_of) [] [] a fd) : FnOk P w K mg base (L2.CX P w) 1 a fd ["number"] (lift ⟨K, P, w, T⟩ sp_sign_of) :=
  okD F sc_sign_of len_sign_of (fun E Ψ => r_sign_of  E Ψ) pure_sign_of fun cdv A outer s H E hr => der_sign_of B cdv A outer s H E hr
theorem sc_is_greater : FnScope n_is_greater ["rule", "sign", "divisor_sign", "part", "size"] (defScope s_is_greater) := ⟨rfl, rfl, rfl, by decide +kernel, rfl, by decide +kernel, by decide +kernel⟩
theorem der_is_greater {P : Program} {w : World} {K : Frag} {T : List (Addr × Str)} {mg : Str → Option Value} {base : Heap} {f : Addr}  (cdv : Value) (A : Around) (outer : List Env) (s : Shared) (H : Hp) (E : XK) 
    (hr : Room 0 (A.deeper (PyProof.Rows.envOfC "is_greater" (defScope s_is_greater) s.heap.objs.size f cdv))) : PSs (cxOf (L2.CX P w) P w K mg base n_is_greater "is_greater" (defScope s_is_greater) f cdv A outer s H E) (defBody s_is_greater) (t_is_greater ⟨K, P, w, T⟩ E) := by
  exact (pss_one (ps_match (pv 0) (pm_str (pss_one (ps_ret (pe_cmpR op_lt (pe_op op_mul (pv 1) (pv 2)) pe_int (nomark _)))) (pm_str (pss_one (ps_ret (pe_cmpR op_gt (pe_op op_mul (pv 1) (pv 2)) pe_int (nomark _)))) (pm_str (pss_one (ps_ret (pe_cmpR op_lt (pv 1) pe_int (nomark _)))) (pm_str (pss_one (ps_ret (pe_or (pe_cmpR op_gt (pe_op op_mul pe_int (pv 3)) (pv 4) (nomark _)) (pe_one (pe_and (pe_cmpR op_eq (pe_op op_mul pe_int (pv 3)) (pv 4) (nomark _)) (pe_one (pe_cmpR op_lt (pv 1) pe_int (nomark _)))))))) (pm_else (pss_one (ps_ret pe_bl)))))))))
theorem b_is_greater {K : Frag} {a : Addr} {fd : FuncData} (F : FunD K "is_greater" "is_greater" (defArgs s_is_greater) (defBody s_is_greater) (defScope s_is_greater) [] [] a fd) : L2.Binds K fd ["rule", "sign", "divisor_sign", "part", "size"] [] := F.bindsN fun _ _ _ _ _ _ us hl => match us, hl with | [_, _, _, _, _], _ => rfl
theorem f_is_greater {P : Program} {w : World} {K : Frag} {T : List (Addr × Str)} {mg : Str → Option Value} {base : Heap} {a : Addr} {fd : FuncData}  (F : FunD K "is_greater" "is_greater" (defArgs s_is_greater) (defBody s_is_greater) (defScope s_is_greater) [] [] a fd) : FnOk P w K mg base (L2.CX P w) 1 a fd ["rule", "sign", "divisor_sign", "part", "size"] (lift ⟨K, P, w, T⟩ sp_is_greater) :=
  okD F sc_is_greater len_is_greater (fun E Ψ => r_is_greater  E Ψ) pure_is_greater fun cdv A outer s H E hr => der_is_greater  cdv A outer s H E hr
theorem sc_divided : FnScope n_divided ["rule", "x", "divisor"] (defScope s_divided) := ⟨rfl, rfl, rfl, by decide +kernel, rfl, by decide +kernel, by decide +kernel⟩
theorem der_divided {P : Program} {w : World} {K : Frag} {T : List (Addr × Str)} {mg : Str → Option Value} {base : Heap} {f : Addr} (B : Bt mg) (c_sign_of : CalX P w K mg base 1 "sign_of" (lift ⟨K, P, w, T⟩ sp_sign_of)) (c_is_greater : CalX P w K mg base 1 "is_greater" (lift ⟨K, P, w, T⟩ sp_is_greater)) (cdv : Value) (A : Around) (outer : List Env) (s : Shared) (H : Hp) (E : XK) 
    (hr : Room 1 (A.deeper (PyProof.Rows.envOfC "divided" (defScope s_divided) s.heap.objs.size f cdv))) : PSs (cxOf (L2.CX P w) P w K mg base n_divided "divided" (defScope s_divided) f cdv A outer s H E) (defBody s_divided) (t_divided ⟨K, P, w, T⟩ E) := by
  exact (pss_cons (ps_par (by rfl) sc_divided.nd (i := 3) (j := 4) rfl rfl (by decide) rfl rfl (pa_cons (pe_callB call_abs rfl B.abs_ (by decide +kernel) (pa_cons (pv 2) pa_nil)) (pa_cons (pe_cn c_sign_of hr (by decide) rfl (pa_cons (pv 1) pa_nil)) pa_nil)) (by rfl)) (pss_cons (ps_asg (pe_callB call_divmodW rfl B.divmod_ (by decide +kernel) (pa_cons (pe_callB call_abs rfl B.abs_ (by decide +kernel) (pa_cons (pv 1) pa_nil)) (pa_cons (pv 3) pa_nil))) (pg_tup (by rfl) (pgs_cons (pg_name (i := 5) sc_divided.nd rfl (by walk_at "sw_loc")) (pgs_cons (pg_name (i := 6) sc_divided.nd rfl (by walk_at "sw_loc")) pgs_nil)))) (pss_cons (ps_if (PW.pt (pw_and (pt_cmpR op_gt (pv 6) pe_int (nomark _)) (pw_and1 (pt_val (pe_cn c_is_greater hr (by decide) rfl (pa_cons (pv 0) (pa_cons (pv 4) (pa_cons (pe_cn c_sign_of hr (by decide) rfl (pa_cons (pv 2) pa_nil)) (pa_cons (pv 6) (pa_cons (pv 3) pa_nil)))))))))) (pss_one (ps_par (by rfl) sc_divided.nd (i := 5) (j := 6) rfl rfl (by decide) rfl rfl (pa_cons (pe_op op_add (pv 5) pe_int) (pa_cons (pe_op op_sub (pv 6) (pv 3)) pa_nil)) (by rfl))) pss_nil) (pss_one (ps_ret (pe_tup (pa_cons (pe_op op_mul (pe_op op_mul (pv 4) (pe_cn c_sign_of hr (by decide) rfl (pa_cons (pv 2) pa_nil))) (pv 5)) (pa_cons (pe_op op_mul (pv 4) (pv 6)) pa_nil))))))))
theorem b_divided {K : Frag} {a : Addr} {fd : FuncData} (F : FunD K "divided" "divided" (defArgs s_divided) (defBody s_divided) (defScope s_divided) [] [] a fd) : L2.Binds K fd ["rule", "x", "divisor"] [] := F.bindsN fun _ _ _ _ _ _ us hl => match us, hl with | [_, _, _], _ => rfl
theorem f_divided {P : Program} {w : World} {K : Frag} {T : List (Addr × Str)} {mg : Str → Option Value} {base : Heap} {a : Addr} {fd : FuncData} (B : Bt mg) (c_sign_of : CalX P w K mg base 1 "sign_of" (lift ⟨K, P, w, T⟩ sp_sign_of)) (c_is_greater : CalX P w K mg base 1 "is_greater" (lift ⟨K, P, w, T⟩ sp_is_greater)) (F : FunD K "divided" "divided" (defArgs s_divided) (defBody s_divided) (defScope s_divided) [] [] a fd) : FnOk P w K mg base (L2.CX P w) 2 a fd ["rule", "x", "divisor"] (lift ⟨K, P, w, T⟩ sp_divided) :=
  okD F sc_divided len_divided (fun E Ψ => r_divided  E Ψ) pure_divided fun cdv A outer s H E hr => der_divided B c_sign_of c_is_greater cdv A outer s H E hr
theorem sc_picked : FnScope n_picked ["rows", "sign", "remainder"] (defScope s_picked) := ⟨rfl, rfl, rfl, by decide +kernel, rfl, by decide +kernel, by decide +kernel⟩
theorem der_picked {P : Program} {w : World} {K : Frag} {T : List (Addr × Str)} {mg : Str → Option Value} {base : Heap} {f : Addr}  (cdv : Value) (A : Around) (outer : List Env) (s : Shared) (H : Hp) (E : XK) 
    (hr : Room 0 (A.deeper (PyProof.Rows.envOfC "picked" (defScope s_picked) s.heap.objs.size f cdv))) : PSs (cxOf (L2.CX P w) P w K mg base n_picked "picked" (defScope s_picked) f cdv A outer s H E) (defBody s_picked) (t_picked ⟨K, P, w, T⟩ E) := by
  exact (pss_cons (ps_for (passes_of rfl) rfl (pi_tup (pe_tup (pa_cons (pe_tup (pa_cons (pv 1) (pa_cons (pv 2) pa_nil))) (pa_cons (pe_tup (pa_cons pe_non (pa_cons (pv 2) pa_nil))) (pa_cons (pe_tup (pa_cons (pv 1) (pa_cons pe_non pa_nil))) pa_nil))))) (pg_name (i := 3) sc_picked.nd rfl (by walk_at "sw_loc")) (pss_one (ps_if (pt_cmpR (op_inDc hr) (pv 3) (pv 0) rfl) (pss_one (ps_ret (pe_ix (ix_dc hr) (pv 0) (pv 3) (fun _ _ => rfl)))) pss_nil))) (pss_one (ps_ret (pe_ix (ix_dc hr) (pv 0) (pe_tup (pa_cons pe_non (pa_cons pe_non pa_nil))) (fun _ _ => rfl)))))
theorem b_picked {K : Frag} {a : Addr} {fd : FuncData} (F : FunD K "picked" "picked" (defArgs s_picked) (defBody s_picked) (defScope s_picked) [] [] a fd) : L2.Binds K fd ["rows", "sign", "remainder"] [] := F.bindsN fun _ _ _ _ _ _ us hl => match us, hl with | [_, _, _], _ => rfl
theorem f_picked {P : Program} {w : World} {K : Frag} {T : List (Addr × Str)} {mg : Str → Option Value} {base : Heap} {a : Addr} {fd : FuncData}  (F : FunD K "picked" "picked" (defArgs s_picked) (defBody s_picked) (defScope s_picked) [] [] a fd) : FnOk P w K mg base (L2.CX P w) 1 a fd ["rows", "sign", "remainder"] (lift ⟨K, P, w, T⟩ sp_picked) :=
  okD F sc_picked len_picked (fun E Ψ => r_picked  E Ψ) pure_picked fun cdv A outer s H E hr => der_picked  cdv A outer s H E hr
theorem sc_updated : FnScope n_updated ["updates", "values", "remainder"] (defScope s_updated) := ⟨rfl, rfl, rfl, by decide +kernel, rfl, by decide +kernel, by decide +kernel⟩
theorem der_updated {P : Program} {w : World} {K : Frag} {T : List (Addr × Str)} {mg : Str → Option Value} {base : Heap} {f : Addr} (B : Bt mg) (cdv : Value) (A : Around) (outer : List Env) (s : Shared) (H : Hp) (E : XK) 
    (hr : Room 0 (A.deeper (PyProof.Rows.envOfC "updated" (defScope s_updated) s.heap.objs.size f cdv))) : PSs (cxOf (L2.CX P w) P w K mg base n_updated "updated" (defScope s_updated) f cdv A outer s H E) (defBody s_updated) (t_updated ⟨K, P, w, T⟩ E) := by
  exact (pss_cons (ps_set (i := 3) sc_updated.nd rfl (by walk_at "sw_loc") (pe_lst pa_nil)) (pss_cons (ps_for (passes_of rfl) rfl (pi_tup (pv 0)) (pg_star (n := 2) rfl (pg_name (i := 7) sc_updated.nd rfl (by walk_at "sw_loc")) (pgs_cons (pg_name (i := 4) sc_updated.nd rfl (by walk_at "sw_loc")) (pgs_cons (pg_name (i := 5) sc_updated.nd rfl (by walk_at "sw_loc")) pgs_nil))) (pss_cons (ps_setC (i := 6) (own := [("one", 8), ("value", 9)]) rfl sc_updated.nd rfl rfl (sw_true rfl rfl rfl (by decide +kernel)) (pi_zipM rfl B.zip_ (pa_cons (pv 7) (pa_cons (pv 1) pa_nil))) (by walk_at "sw_blk") (fun _ _ _ _ _ => (pg_tup (by rfl) (pgs_cons (pg_name (i := 8) sc_updated.nd rfl (by walk_at "sw_loc")) (pgs_cons (pg_name (i := 9) sc_updated.nd rfl (by walk_at "sw_loc")) pgs_nil)))) (fun _ _ _ _ _ => pts_nil) (fun _ _ _ _ _ => (pe_op op_mul (pv 8) (pv 9)))) (pss_one (ps_expr (pe_bm PySem.F.plainAttrs_list PySem.F.slot_list_append PySem.F.type_list_append mt_append (pv 3) (pa_cons (pe_op op_add (pe_op op_add (pe_callB (cr_sum rfl) rfl B.sum_ (by decide +kernel) (pa_cons (pv 6) pa_nil)) (pe_op op_mul (pv 4) (pv 2))) (pv 5)) pa_nil)))))) (pss_one (ps_ret (pe_callTy call_tuple_of rfl B.tuple_ (by decide +kernel) (pa_cons (pv 3) pa_nil))))))
theorem b_updated {K : Frag} {a : Addr} {fd : FuncData} (F : FunD K "updated" "updated" (defArgs s_updated) (defBody s_updated) (defScope s_updated) [] [] a fd) : L2.Binds K fd ["updates", "values", "remainder"] [] := F.bindsN fun _ _ _ _ _ _ us hl => match us, hl with | [_, _, _], _ => rfl
theorem f_updated {P : Program} {w : World} {K : Frag} {T : List (Addr × Str)} {mg : Str → Option Value} {base : Heap} {a : Addr} {fd : FuncData} (B : Bt mg) (F : FunD K "updated" "updated" (defArgs s_updated) (defBody s_updated) (defScope s_updated) [] [] a fd) : FnOk P w K mg base (L2.CX P w) 1 a fd ["updates", "values", "remainder"] (lift ⟨K, P, w, T⟩ sp_updated) :=
  okD F sc_updated len_updated (fun E Ψ => r_updated  E Ψ) pure_updated fun cdv A outer s H E hr => der_updated B cdv A outer s H E hr
theorem sc_Loop_go_on : FnScope n_Loop_go_on ["self"] (defScope s_Loop_go_on) := ⟨rfl, rfl, rfl, by decide +kernel, rfl, by decide +kernel, by decide +kernel⟩
theorem der_Loop_go_on {P : Program} {w : World} {K : Frag} {T : List (Addr × Str)} {mg : Str → Option Value} {base : Heap} {f : Addr} (c_divided : CalX P w K mg base 2 "divided" (lift ⟨K, P, w, T⟩ sp_divided)) (c_picked : CalX P w K mg base 1 "picked" (lift ⟨K, P, w, T⟩ sp_picked)) (c_sign_of : CalX P w K mg base 1 "sign_of" (lift ⟨K, P, w, T⟩ sp_sign_of)) (c_updated : CalX P w K mg base 1 "updated" (lift ⟨K, P, w, T⟩ sp_updated)) (cdv : Value) (A : Around) (outer : List Env) (s : Shared) (H : Hp) (E : XK) 
    (hr : Room 2 (A.deeper (PyProof.Rows.envOfC "Loop.go_on" (defScope s_Loop_go_on) s.heap.objs.size f cdv))) : PSs (cxOf (L2.CX P w) P w K mg base n_Loop_go_on "Loop.go_on" (defScope s_Loop_go_on) f cdv A outer s H E) (defBody s_Loop_go_on) (t_Loop_go_on ⟨K, P, w, T⟩ E) := by
  exact (pss_cons (ps_par3 (by rfl) sc_Loop_go_on.nd (i := 1) (j := 2) (l := 3) rfl rfl rfl (by decide) (by decide) (by decide) rfl rfl rfl (pa_cons (pe_fld (pv 0) rfl) (pa_cons (pe_fld (pv 0) rfl) (pa_cons (pe_fld (pv 0) rfl) pa_nil))) (by rfl)) (pss_cons (ps_if (PW.pt (pw_and (pt_cmpR op_isN (pe_fld (pv 0) rfl) pe_non (nomark _)) (pw_and1 (pt_cmpR op_in_seq (pv 3) (pe_fld (pv 1) rfl) rfl)))) (pss_one (ps_fld (pv 0) pe_str rfl)) pss_nil) (pss_cons (ps_if (pt_cmpR op_notN (pe_fld (pv 0) rfl) pe_non (nomark _)) (pss_one (ps_ret pe_non)) pss_nil) (pss_cons (ps_asg (pe_cn c_divided hr (by decide) rfl (pa_cons (pe_dgetN hr (pe_fld (pv 1) rfl) (pv 2)) (pa_cons (pv 3) (pa_cons (pe_fld (pv 1) rfl) pa_nil)))) (pg_tup (by rfl) (pgs_cons (pg_fld (pv 0)) (pgs_cons (pg_name (i := 4) sc_Loop_go_on.nd rfl (by walk_at "sw_loc")) pgs_nil)))) (pss_cons (ps_asg (pe_cn c_picked hr (by decide) rfl (pa_cons (pe_dgetN hr (pe_fld (pv 1) rfl) (pv 2)) (pa_cons (pe_cn c_sign_of hr (by decide) rfl (pa_cons (pv 3) pa_nil)) (pa_cons (pv 4) pa_nil)))) (pg_tup (by rfl) (pgs_cons (pg_name (i := 5) sc_Loop_go_on.nd rfl (by walk_at "sw_loc")) (pgs_cons (pg_name (i := 6) sc_Loop_go_on.nd rfl (by walk_at "sw_loc")) pgs_nil)))) (pss_cons (ps_fld (pv 0) (pe_cn c_updated hr (by decide) rfl (pa_cons (pv 5) (pa_cons (pe_fld (pv 0) rfl) (pa_cons (pv 4) pa_nil)))) rfl) (pss_cons (ps_if (pt_cmpR op_isN (pv 6) pe_non (nomark _)) (pss_one (ps_fld (pv 0) pe_str rfl)) (pss_one (ps_fld (pv 0) (pv 6) rfl))) (pss_one (ps_ret (pe_tup (pa_cons (pv 2) (pa_cons (pv 3) (pa_cons (pv 4) pa_nil)))))))))))))
theorem b_Loop_go_on {K : Frag} {a : Addr} {fd : FuncData} (F : FunD K "go_on" "Loop.go_on" (defArgs s_Loop_go_on) (defBody s_Loop_go_on) (defScope s_Loop_go_on) [] [] a fd) : L2.Binds K fd ["self"] [] := F.bindsN fun _ _ _ _ _ _ us hl => match us, hl with | [_], _ => rfl
theorem f_Loop_go_on {P : Program} {w : World} {K : Frag} {T : List (Addr × Str)} {mg : Str → Option Value} {base : Heap} {a : Addr} {fd : FuncData} (c_divided : CalX P w K mg base 2 "divided" (lift ⟨K, P, w, T⟩ sp_divided)) (c_picked : CalX P w K mg base 1 "picked" (lift ⟨K, P, w, T⟩ sp_picked)) (c_sign_of : CalX P w K mg base 1 "sign_of" (lift ⟨K, P, w, T⟩ sp_sign_of)) (c_updated : CalX P w K mg base 1 "updated" (lift ⟨K, P, w, T⟩ sp_updated)) (fl : FlOk ⟨K, P, w, T⟩ flds) (F : FunD K "go_on" "Loop.go_on" (defArgs s_Loop_go_on) (defBody s_Loop_go_on) (defScope s_Loop_go_on) [] [] a fd) : FnOk P w K mg base (L2.CX P w) 3 a fd ["self"] (lift ⟨K, P, w, T⟩ sp_Loop_go_on) :=
  okD F sc_Loop_go_on len_Loop_go_on (fun E Ψ => r_Loop_go_on fl E Ψ) pure_Loop_go_on fun cdv A outer s H E hr => der_Loop_go_on c_divided c_picked c_sign_of c_updated cdv A outer s H E hr
theorem sc_Run___init__ : FnScope n_Run___init__ ["self", "program", "number", "rounds", "rows", "loop"] (defScope s_Run___init__) := ⟨rfl, rfl, rfl, by decide +kernel, rfl, by decide +kernel, by decide +kernel⟩
theorem der_Run___init__ {P : Program} {w : World} {K : Frag} {T : List (Addr × Str)} {mg : Str → Option Value} {base : Heap} {f : Addr}  (cdv : Value) (A : Around) (outer : List Env) (s : Shared) (H : Hp) (E : XK) 
    (hr : Room 0 (A.deeper (PyProof.Rows.envOfC "Run.__init__" (defScope s_Run___init__) s.heap.objs.size f cdv))) : PSs (cxOf (L2.CX P w) P w K mg base n_Run___init__ "Run.__init__" (defScope s_Run___init__) f cdv A outer s H E) (defBody s_Run___init__) (t_Run___init__ ⟨K, P, w, T⟩ E) := by
  exact (pss_cons (ps_fld (pv 0) (pe_tup (pa_cons (pv 1) (pa_cons (pv 2) pa_nil))) rfl) (pss_cons (ps_fld (pv 0) (pv 3) rfl) (pss_cons (ps_fld (pv 0) (pv 4) rfl) (pss_one (ps_fld (pv 0) (pv 5) rfl)))))
theorem b_Run___init__ {K : Frag} {a : Addr} {fd : FuncData} (F : FunD K "__init__" "Run.__init__" (defArgs s_Run___init__) (defBody s_Run___init__) (defScope s_Run___init__) [] [] a fd) : L2.Binds K fd ["self", "program", "number", "rounds", "rows", "loop"] [] := F.bindsN fun _ _ _ _ _ _ us hl => match us, hl with | [_, _, _, _, _, _], _ => rfl
theorem f_Run___init__ {P : Program} {w : World} {K : Frag} {T : List (Addr × Str)} {mg : Str → Option Value} {base : Heap} {a : Addr} {fd : FuncData} (fl : FlOk ⟨K, P, w, T⟩ flds) (F : FunD K "__init__" "Run.__init__" (defArgs s_Run___init__) (defBody s_Run___init__) (defScope s_Run___init__) [] [] a fd) : FnOk P w K mg base (L2.CX P w) 1 a fd ["self", "program", "number", "rounds", "rows", "loop"] (lift ⟨K, P, w, T⟩ sp_Run___init__) :=
  okD F sc_Run___init__ len_Run___init__ (fun E Ψ => r_Run___init__ fl E Ψ) pure_Run___init__ fun cdv A outer s H E hr => der_Run___init__  cdv A outer s H E hr
theorem sc_run : FnScope n_run ["program", "number"] (defScope s_run) := ⟨rfl, rfl, rfl, by decide +kernel, rfl, by decide +kernel, by decide +kernel⟩
theorem der_run {P : Program} {w : World} {K : Frag} {T : List (Addr × Str)} {mg : Str → Option Value} {base : Heap} {f : Addr} (c_is_integer : CalX P w K mg base 1 "is_integer" (lift ⟨K, P, w, T⟩ sp_is_integer)) (c_Loop___init__ : MakX P w K mg base 2 "Loop" (lift ⟨K, P, w, T⟩ sp_Loop___init__)) (c_Loop_go_on : MetX P w K mg base 3 "Loop" "go_on" (lift ⟨K, P, w, T⟩ sp_Loop_go_on)) (c_Run___init__ : MakX P w K mg base 1 "Run" (lift ⟨K, P, w, T⟩ sp_Run___init__)) (cdv : Value) (A : Around) (outer : List Env) (s : Shared) (H : Hp) (E : XK) 
    (hr : Room 3 (A.deeper (PyProof.Rows.envOfC "run" (defScope s_run) s.heap.objs.size f cdv))) : PSs (cxOf (L2.CX P w) P w K mg base n_run "run" (defScope s_run) f cdv A outer s H E) (defBody s_run) (t_run ⟨K, P, w, T⟩ E) := by
  exact (pss_cons (ps_if (pt_not (pt_val (pe_cn c_is_integer hr (by decide) rfl (pa_cons (pv 1) pa_nil)))) (pss_one ps_never) pss_nil) (pss_cons (ps_par (by rfl) sc_run.nd (i := 2) (j := 3) rfl rfl (by decide) rfl rfl (pa_cons (pe_kn c_Loop___init__ hr (by decide) rfl (pa_cons (pv 0) (pa_cons (pv 1) pa_nil))) (pa_cons pe_dnewT pa_nil)) (by rfl)) (pss_cons (ps_par (by rfl) sc_run.nd (i := 4) (j := 5) rfl rfl (by decide) rfl rfl (pa_cons (pe_lst pa_nil) (pa_cons (pe_lst (pa_cons (pe_fld (pv 2) rfl) pa_nil)) pa_nil)) (by rfl)) (pss_cons (ps_while (passes_of rfl) (pt_cmpR (op_notInDc hr) (pe_tup (pa_cons (pe_fld (pv 2) rfl) (pa_cons (pe_fld (pv 2) rfl) pa_nil))) (pv 3) rfl) (pss_cons (ps_asg pe_bl (pg_sub (pv 3) (pe_tup (pa_cons (pe_fld (pv 2) rfl) (pa_cons (pe_fld (pv 2) rfl) pa_nil))) (set_dc hr))) (pss_cons (ps_set (i := 6) sc_run.nd rfl (by walk_at "sw_loc") (pe_mn0 c_Loop_go_on hr (by decide) (pv 2))) (pss_cons (ps_if (pt_cmpR op_isN (pv 6) pe_non (nomark _)) (pss_one ps_break) pss_nil) (pss_cons (ps_expr (pe_bm PySem.F.plainAttrs_list PySem.F.slot_list_append PySem.F.type_list_append mt_append (pv 4) (pa_cons (pv 6) pa_nil))) (pss_cons (ps_expr (pe_bm PySem.F.plainAttrs_list PySem.F.slot_list_append PySem.F.type_list_append mt_append (pv 5) (pa_cons (pe_fld (pv 2) rfl) pa_nil))) (pss_one (ps_if (pt_cmpR op_notN (pe_fld (pv 2) rfl) pe_non (nomark _)) (pss_one ps_break) pss_nil)))))))) (pss_one (ps_ret (pe_kn c_Run___init__ hr (by decide) rfl (pa_cons (pv 0) (pa_cons (pv 1) (pa_cons (pv 4) (pa_cons (pv 5) (pa_cons (pv 2) pa_nil))))))))))))
theorem b_run {K : Frag} {a : Addr} {fd : FuncData} (F : FunD K "run" "run" (defArgs s_run) (defBody s_run) (defScope s_run) [] [] a fd) : L2.Binds K fd ["program", "number"] [] := F.bindsN fun _ _ _ _ _ _ us hl => match us, hl with | [_, _], _ => rfl
theorem f_run {P : Program} {w : World} {K : Frag} {T : List (Addr × Str)} {mg : Str → Option Value} {base : Heap} {a : Addr} {fd : FuncData} (c_is_integer : CalX P w K mg base 1 "is_integer" (lift ⟨K, P, w, T⟩ sp_is_integer)) (c_Loop___init__ : MakX P w K mg base 2 "Loop" (lift ⟨K, P, w, T⟩ sp_Loop___init__)) (c_Loop_go_on : MetX P w K mg base 3 "Loop" "go_on" (lift ⟨K, P, w, T⟩ sp_Loop_go_on)) (c_Run___init__ : MakX P w K mg base 1 "Run" (lift ⟨K, P, w, T⟩ sp_Run___init__)) (fl : FlOk ⟨K, P, w, T⟩ flds) (F : FunD K "run" "run" (defArgs s_run) (defBody s_run) (defScope s_run) [] [] a fd) : FnOk P w K mg base (L2.CX P w) 4 a fd ["program", "number"] (lift ⟨K, P, w, T⟩ sp_run) :=
  okD F sc_run len_run (fun E Ψ => r_run fl E Ψ) pure_run fun cdv A outer s H E hr => der_run c_is_integer c_Loop___init__ c_Loop_go_on c_Run___init__ cdv A outer s H E hr
theorem sc_Program_size : FnScope n_Program_size ["self"] (defScope s_Program_size) := ⟨rfl, rfl, rfl, by decide +kernel, rfl, by decide +kernel, by decide +kernel⟩
theorem der_Program_size {P : Program} {w : World} {K : Frag} {T : List (Addr × Str)} {mg : Str → Option Value} {base : Heap} {f : Addr} (B : Bt mg) (cdv : Value) (A : Around) (outer : List Env) (s : Shared) (H : Hp) (E : XK) 
    (hr : Room 0 (A.deeper (PyProof.Rows.envOfC "Program.size" (defScope s_Program_size) s.heap.objs.size f cdv))) : PSs (cxOf (L2.CX P w) P w K mg base n_Program_size "Program.size" (defScope s_Program_size) f cdv A outer s H E) (defBody s_Program_size) (t_Program_size ⟨K, P, w, T⟩ E) := by
  exact (pss_one (ps_ret (pe_callB call_abs rfl B.abs_ (by decide +kernel) (pa_cons (pe_fld (pv 0) rfl) pa_nil))))
theorem b_Program_size {K : Frag} {a : Addr} {fd : FuncData} (F : FunD K "size" "Program.size" (defArgs s_Program_size) (defBody s_Program_size) (defScope s_Program_size) [] [] a fd) : L2.Binds K fd ["self"] [] := F.bindsN fun _ _ _ _ _ _ us hl => match us, hl with | [_], _ => rfl
theorem f_Program_size {P : Program} {w : World} {K : Frag} {T : List (Addr × Str)} {mg : Str → Option Value} {base : Heap} {a : Addr} {fd : FuncData} (B : Bt mg) (fl : FlOk ⟨K, P, w, T⟩ flds) (F : FunD K "size" "Program.size" (defArgs s_Program_size) (defBody s_Program_size) (defScope s_Program_size) [] [] a fd) : FnOk P w K mg base (L2.CX P w) 1 a fd ["self"] (lift ⟨K, P, w, T⟩ sp_Program_size) :=
  okD F sc_Program_size len_Program_size (fun E Ψ => r_Program_size fl E Ψ) pure_Program_size fun cdv A outer s H E hr => der_Program_size B cdv A outer s H E hr
theorem sc_Program_base : FnScope n_Program_base ["self"] (defScope s_Program_base) := ⟨rfl, rfl, rfl, by decide +kernel, rfl, by decide +kernel, by decide +kernel⟩
theorem der_Program_base {P : Program} {w : World} {K : Frag} {T : List (Addr × Str)} {mg : Str → Option Value} {base : Heap} {f : Addr}  (cdv : Value) (A : Around) (outer : List Env) (s : Shared) (H : Hp) (E : XK) 
    (hr : Room 0 (A.deeper (PyProof.Rows.envOfC "Program.base" (defScope s_Program_base) s.heap.objs.size f cdv))) : PSs (cxOf (L2.CX P w) P w K mg base n_Program_base "Program.base" (defScope s_Program_base) f cdv A outer s H E) (defBody s_Program_base) (t_Program_base ⟨K, P, w, T⟩ E) := by
  exact (pss_one (ps_ret (pe_fld (pv 0) rfl)))
theorem b_Program_base {K : Frag} {a : Addr} {fd : FuncData} (F : FunD K "base" "Program.base" (defArgs s_Program_base) (defBody s_Program_base) (defScope s_Program_base) [] [] a fd) : L2.Binds K fd ["self"] [] := F.bindsN fun _ _ _ _ _ _ us hl => match us, hl with | [_], _ => rfl
theorem f_Program_base {P : Program} {w : World} {K : Frag} {T : List (Addr × Str)} {mg : Str → Option Value} {base : Heap} {a : Addr} {fd : FuncData} (fl : FlOk ⟨K, P, w, T⟩ flds) (F : FunD K "base" "Program.base" (defArgs s_Program_base) (defBody s_Program_base) (defScope s_Program_base) [] [] a fd) : FnOk P w K mg base (L2.CX P w) 1 a fd ["self"] (lift ⟨K, P, w, T⟩ sp_Program_base) :=
  okD F sc_Program_base len_Program_base (fun E Ψ => r_Program_base fl E Ψ) pure_Program_base fun cdv A outer s H E hr => der_Program_base  cdv A outer s H E hr
theorem sc_standings : FnScope n_standings ["program", "number"] (defScope s_standings) := ⟨rfl, rfl, rfl, by decide +kernel, rfl, by decide +kernel, by decide +kernel⟩
theorem der_standings {P : Program} {w : World} {K : Frag} {T : List (Addr × Str)} {mg : Str → Option Value} {base : Heap} {f : Addr} (B : Bt mg) (c_Run_rounds : MetX P w K mg base 1 "Run" "rounds" (lift ⟨K, P, w, T⟩ sp_Run_rounds)) (c_run : CalX P w K mg base 4 "run" (lift ⟨K, P, w, T⟩ sp_run)) (c_Program_size : PrpX P w K mg base 1 "Program" "size" (lift ⟨K, P, w, T⟩ sp_Program_size)) (c_Program_base : PrpX P w K mg base 1 "Program" "base" (lift ⟨K, P, w, T⟩ sp_Program_base)) (cdv : Value) (A : Around) (outer : List Env) (s : Shared) (H : Hp) (E : XK) 
    (hr : Room 4 (A.deeper (PyProof.Rows.envOfC "standings" (defScope s_standings) s.heap.objs.size f cdv))) : PSs (cxOf (L2.CX P w) P w K mg base n_standings "standings" (defScope s_standings) f cdv A outer s H E) (defBody s_standings) (t_standings ⟨K, P, w, T⟩ E) := by
  exact (pss_cons (ps_set (i := 2) sc_standings.nd rfl (by walk_at "sw_loc") (pe_mn0 c_Run_rounds hr (by decide) (pe_cn c_run hr (by decide) rfl (pa_cons (pv 0) (pa_cons (pv 1) pa_nil))))) (pss_cons (ps_par3 (by rfl) sc_standings.nd (i := 3) (j := 4) (l := 5) rfl rfl rfl (by decide) (by decide) (by decide) rfl rfl rfl (pa_cons (pe_ifExp (pt_cmpR op_lt (pv 1) pe_int (nomark _)) (pe_un un_neg pe_int) pe_int) (pa_cons (pe_callB call_abs rfl B.abs_ (by decide +kernel) (pa_cons (pv 1) pa_nil)) (pa_cons (pe_lst pa_nil) pa_nil))) (by rfl)) (pss_cons (ps_for (passes_of rfl) rfl (pi_list (pv 2)) (pg_tup (by rfl) (pgs_cons (pg_name (i := 6) sc_standings.nd rfl (by walk_at "sw_loc")) (pgs_cons (pg_name (i := 7) sc_standings.nd rfl (by walk_at "sw_loc")) (pgs_cons (pg_name (i := 8) sc_standings.nd rfl (by walk_at "sw_loc")) pgs_nil)))) (pss_cons (ps_expr (pe_bm PySem.F.plainAttrs_list PySem.F.slot_list_append PySem.F.type_list_append mt_append (pv 5) (pa_cons (pe_tup (pa_cons (pv 6) (pa_cons (pv 3) (pa_cons (pv 4) (pa_cons (pe_op op_sub (pe_op op_mul (pv 3) (pv 7)) (pv 4)) pa_nil))))) pa_nil))) (pss_cons (ps_set (i := 4) sc_standings.nd rfl (by walk_at "sw_loc") (pe_op op_fdivW (pv 4) (pe_pn c_Program_size hr (by decide) (pv 0)))) (pss_one (ps_set (i := 3) sc_standings.nd rfl (by walk_at "sw_loc") (pe_ifExp (PW.pt (pw_or (pt_cmpR op_gt (pe_pn c_Program_base hr (by decide) (pv 0)) pe_int (nomark _)) (pw_or1 (pt_cmpR op_eq (pv 1) pe_int (nomark _))))) (pv 3) (pe_un un_neg (pv 3)))))))) (pss_one (ps_ret (pv 5))))))
theorem b_standings {K : Frag} {a : Addr} {fd : FuncData} (F : FunD K "standings" "standings" (defArgs s_standings) (defBody s_standings) (defScope s_standings) [] [] a fd) : L2.Binds K fd ["program", "number"] [] := F.bindsN fun _ _ _ _ _ _ us hl => match us, hl with | [_, _], _ => rfl
theorem f_standings {P : Program} {w : World} {K : Frag} {T : List (Addr × Str)} {mg : Str → Option Value} {base : Heap} {a : Addr} {fd : FuncData} (B : Bt mg) (c_Run_rounds : MetX P w K mg base 1 "Run" "rounds" (lift ⟨K, P, w, T⟩ sp_Run_rounds)) (c_run : CalX P w K mg base 4 "run" (lift ⟨K, P, w, T⟩ sp_run)) (c_Program_size : PrpX P w K mg base 1 "Program" "size" (lift ⟨K, P, w, T⟩ sp_Program_size)) (c_Program_base : PrpX P w K mg base 1 "Program" "base" (lift ⟨K, P, w, T⟩ sp_Program_base)) (F : FunD K "standings" "standings" (defArgs s_standings) (defBody s_standings) (defScope s_standings) [] [] a fd) : FnOk P w K mg base (L2.CX P w) 5 a fd ["program", "number"] (lift ⟨K, P, w, T⟩ sp_standings) :=
  okD F sc_standings len_standings (fun E Ψ => r_standings  E Ψ) pure_standings fun cdv A outer s H E hr => der_standings B c_Run_rounds c_run c_Program_size c_Program_base cdv A outer s H E hr
theorem sc_require_rule : FnScope n_require_rule ["value"] (defScope s_require_rule) := ⟨rfl, rfl, rfl, by decide +kernel, rfl, by decide +kernel, by decide +kernel⟩
theorem der_require_rule {P : Program} {w : World} {K : Frag} {T : List (Addr × Str)} {mg : Str → Option Value} {base : Heap} {f : Addr} (c_is_rule : CalX P w K mg base 1 "is_rule" (lift ⟨K, P, w, T⟩ sp_is_rule)) (cdv : Value) (A : Around) (outer : List Env) (s : Shared) (H : Hp) (E : XK) 
    (hr : Room 1 (A.deeper (PyProof.Rows.envOfC "require_rule" (defScope s_require_rule) s.heap.objs.size f cdv))) : PSs (cxOf (L2.CX P w) P w K mg base n_require_rule "require_rule" (defScope s_require_rule) f cdv A outer s H E) (defBody s_require_rule) (t_require_rule ⟨K, P, w, T⟩ E) := by
  exact (pss_one (ps_if (pt_not (pt_val (pe_cn c_is_rule hr (by decide) rfl (pa_cons (pv 0) pa_nil)))) (pss_one ps_never) pss_nil))
theorem b_require_rule {K : Frag} {a : Addr} {fd : FuncData} (F : FunD K "require_rule" "require_rule" (defArgs s_require_rule) (defBody s_require_rule) (defScope s_require_rule) [] [] a fd) : L2.Binds K fd ["value"] [] := F.bindsN fun _ _ _ _ _ _ us hl => match us, hl with | [_], _ => rfl
theorem f_require_rule {P : Program} {w : World} {K : Frag} {T : List (Addr × Str)} {mg : Str → Option Value} {base : Heap} {a : Addr} {fd : FuncData} (c_is_rule : CalX P w K mg base 1 "is_rule" (lift ⟨K, P, w, T⟩ sp_is_rule)) (F : FunD K "require_rule" "require_rule" (defArgs s_require_rule) (defBody s_require_rule) (defScope s_require_rule) [] [] a fd) : FnOk P w K mg base (L2.CX P w) 2 a fd ["value"] (lift ⟨K, P, w, T⟩ sp_require_rule) :=
  okD F sc_require_rule len_require_rule (fun E Ψ => r_require_rule  E Ψ) pure_require_rule fun cdv A outer s H E hr => der_require_rule c_is_rule cdv A outer s H E hr
theorem sc_carried : FnScope n_carried ["rule", "sign", "base", "figure"] (defScope s_carried) := ⟨rfl, rfl, rfl, by decide +kernel, rfl, by decide +kernel, by decide +kernel⟩
theorem der_carried {P : Program} {w : World} {K : Frag} {T : List (Addr × Str)} {mg : Str → Option Value} {base : Heap} {f : Addr} (B : Bt mg) (c_is_greater : CalX P w K mg base 1 "is_greater" (lift ⟨K, P, w, T⟩ sp_is_greater)) (c_sign_of : CalX P w K mg base 1 "sign_of" (lift ⟨K, P, w, T⟩ sp_sign_of)) (cdv : Value) (A : Around) (outer : List Env) (s : Shared) (H : Hp) (E : XK) 
    (hr : Room 1 (A.deeper (PyProof.Rows.envOfC "carried" (defScope s_carried) s.heap.objs.size f cdv))) : PSs (cxOf (L2.CX P w) P w K mg base n_carried "carried" (defScope s_carried) f cdv A outer s H E) (defBody s_carried) (t_carried ⟨K, P, w, T⟩ E) := by
  exact (pss_cons (ps_set (i := 4) sc_carried.nd rfl (by walk_at "sw_loc") (pe_callB call_abs rfl B.abs_ (by decide +kernel) (pa_cons (pv 2) pa_nil))) (pss_cons (ps_if (pt_cmpR op_eq (pv 3) (pv 4) (nomark _)) (pss_one (ps_ret (pe_tup (pa_cons pe_int (pa_cons pe_int pa_nil))))) pss_nil) (pss_cons (ps_if (PW.pt (pw_and (pt_cmpR op_gt (pv 3) pe_int (nomark _)) (pw_and1 (pt_val (pe_cn c_is_greater hr (by decide) rfl (pa_cons (pv 0) (pa_cons (pv 1) (pa_cons (pe_cn c_sign_of hr (by decide) rfl (pa_cons (pv 2) pa_nil)) (pa_cons (pv 3) (pa_cons (pv 4) pa_nil)))))))))) (pss_one (ps_ret (pe_tup (pa_cons pe_int (pa_cons (pe_op op_mul (pv 1) (pe_op op_sub (pv 3) (pv 4))) pa_nil))))) pss_nil) (pss_one (ps_ret (pe_tup (pa_cons pe_int (pa_cons (pe_op op_mul (pv 1) (pv 3)) pa_nil))))))))
theorem b_carried {K : Frag} {a : Addr} {fd : FuncData} (F : FunD K "carried" "carried" (defArgs s_carried) (defBody s_carried) (defScope s_carried) [] [] a fd) : L2.Binds K fd ["rule", "sign", "base", "figure"] [] := F.bindsN fun _ _ _ _ _ _ us hl => match us, hl with | [_, _, _, _], _ => rfl
theorem f_carried {P : Program} {w : World} {K : Frag} {T : List (Addr × Str)} {mg : Str → Option Value} {base : Heap} {a : Addr} {fd : FuncData} (B : Bt mg) (c_is_greater : CalX P w K mg base 1 "is_greater" (lift ⟨K, P, w, T⟩ sp_is_greater)) (c_sign_of : CalX P w K mg base 1 "sign_of" (lift ⟨K, P, w, T⟩ sp_sign_of)) (F : FunD K "carried" "carried" (defArgs s_carried) (defBody s_carried) (defScope s_carried) [] [] a fd) : FnOk P w K mg base (L2.CX P w) 2 a fd ["rule", "sign", "base", "figure"] (lift ⟨K, P, w, T⟩ sp_carried) :=
  okD F sc_carried len_carried (fun E Ψ => r_carried  E Ψ) pure_carried fun cdv A outer s H E hr => der_carried B c_is_greater c_sign_of cdv A outer s H E hr
theorem sc_carry : FnScope n_carry ["rule", "sign", "base", "figure"] (defScope s_carry) := ⟨rfl, rfl, rfl, by decide +kernel, rfl, by decide +kernel, by decide +kernel⟩
theorem der_carry {P : Program} {w : World} {K : Frag} {T : List (Addr × Str)} {mg : Str → Option Value} {base : Heap} {f : Addr} (B : Bt mg) (c_require_rule : CalX P w K mg base 2 "require_rule" (lift ⟨K, P, w, T⟩ sp_require_rule)) (c_is_sign : CalX P w K mg base 2 "is_sign" (lift ⟨K, P, w, T⟩ sp_is_sign)) (c_is_base : CalX P w K mg base 2 "is_base" (lift ⟨K, P, w, T⟩ sp_is_base)) (c_is_between : CalX P w K mg base 2 "is_between" (lift ⟨K, P, w, T⟩ sp_is_between)) (c_carried : CalX P w K mg base 2 "carried" (lift ⟨K, P, w, T⟩ sp_carried)) (cdv : Value) (A : Around) (outer : List Env) (s : Shared) (H : Hp) (E : XK) 
    (hr : Room 2 (A.deeper (PyProof.Rows.envOfC "carry" (defScope s_carry) s.heap.objs.size f cdv))) : PSs (cxOf (L2.CX P w) P w K mg base n_carry "carry" (defScope s_carry) f cdv A outer s H E) (defBody s_carry) (t_carry ⟨K, P, w, T⟩ E) := by
  exact (pss_cons (ps_expr (pe_cn c_require_rule hr (by decide) rfl (pa_cons (pv 0) pa_nil))) (pss_cons (ps_if (pt_not (pt_val (pe_cn c_is_sign hr (by decide) rfl (pa_cons (pv 1) pa_nil)))) (pss_one ps_never) pss_nil) (pss_cons (ps_if (pt_not (pt_val (pe_cn c_is_base hr (by decide) rfl (pa_cons (pv 2) pa_nil)))) (pss_one ps_never) pss_nil) (pss_cons (ps_if (pt_not (pt_val (pe_cn c_is_between hr (by decide) rfl (pa_cons (pv 3) (pa_cons pe_int (pa_cons (pe_callB call_abs rfl B.abs_ (by decide +kernel) (pa_cons (pv 2) pa_nil)) pa_nil)))))) (pss_one ps_never) pss_nil) (pss_one (ps_ret (pe_cn c_carried hr (by decide) rfl (pa_cons (pv 0) (pa_cons (pv 1) (pa_cons (pv 2) (pa_cons (pv 3) pa_nil)))))))))))
theorem b_carry {K : Frag} {a : Addr} {fd : FuncData} (F : FunD K "carry" "carry" (defArgs s_carry) (defBody s_carry) (defScope s_carry) [] [] a fd) : L2.Binds K fd ["rule", "sign", "base", "figure"] [] := F.bindsN fun _ _ _ _ _ _ us hl => match us, hl with | [_, _, _, _], _ => rfl
theorem f_carry {P : Program} {w : World} {K : Frag} {T : List (Addr × Str)} {mg : Str → Option Value} {base : Heap} {a : Addr} {fd : FuncData} (B : Bt mg) (c_require_rule : CalX P w K mg base 2 "require_rule" (lift ⟨K, P, w, T⟩ sp_require_rule)) (c_is_sign : CalX P w K mg base 2 "is_sign" (lift ⟨K, P, w, T⟩ sp_is_sign)) (c_is_base : CalX P w K mg base 2 "is_base" (lift ⟨K, P, w, T⟩ sp_is_base)) (c_is_between : CalX P w K mg base 2 "is_between" (lift ⟨K, P, w, T⟩ sp_is_between)) (c_carried : CalX P w K mg base 2 "carried" (lift ⟨K, P, w, T⟩ sp_carried)) (F : FunD K "carry" "carry" (defArgs s_carry) (defBody s_carry) (defScope s_carry) [] [] a fd) : FnOk P w K mg base (L2.CX P w) 3 a fd ["rule", "sign", "base", "figure"] (lift ⟨K, P, w, T⟩ sp_carry) :=
  okD F sc_carry len_carry (fun E Ψ => r_carry  E Ψ) pure_carry fun cdv A outer s H E hr => der_carry B c_require_rule c_is_sign c_is_base c_is_between c_carried cdv A outer s H E hr
theorem sc_Program_require_mode : FnScope n_Program_require_mode ["self", "mode"] (defScope s_Program_require_mode) := ⟨rfl, rfl, rfl, by decide +kernel, rfl, by decide +kernel, by decide +kernel⟩
theorem der_Program_require_mode {P : Program} {w : World} {K : Frag} {T : List (Addr × Str)} {mg : Str → Option Value} {base : Heap} {f : Addr} (B : Bt mg) (cdv : Value) (A : Around) (outer : List Env) (s : Shared) (H : Hp) (E : XK) 
    (hr : Room 0 (A.deeper (PyProof.Rows.envOfC "Program.require_mode" (defScope s_Program_require_mode) s.heap.objs.size f cdv))) : PSs (cxOf (L2.CX P w) P w K mg base n_Program_require_mode "Program.require_mode" (defScope s_Program_require_mode) f cdv A outer s H E) (defBody s_Program_require_mode) (t_Program_require_mode ⟨K, P, w, T⟩ E) := by
  exact (pss_one (ps_if (PW.pt (pw_or (pt_not (pt_val (pe_callB call_isi rfl B.isinstance_ (by decide +kernel) (pa_cons (pv 1) (pa_cons (pe_bltn rfl B.str_ (by decide +kernel) rfl) pa_nil))))) (pw_or1 (pt_cmpR op_notIn_seq (pv 1) (pe_fld (pv 0) rfl) rfl)))) (pss_one ps_never) pss_nil))
theorem b_Program_require_mode {K : Frag} {a : Addr} {fd : FuncData} (F : FunD K "require_mode" "Program.require_mode" (defArgs s_Program_require_mode) (defBody s_Program_require_mode) (defScope s_Program_require_mode) [] [] a fd) : L2.Binds K fd ["self", "mode"] [] := F.bindsN fun _ _ _ _ _ _ us hl => match us, hl with | [_, _], _ => rfl
theorem f_Program_require_mode {P : Program} {w : World} {K : Frag} {T : List (Addr × Str)} {mg : Str → Option Value} {base : Heap} {a : Addr} {fd : FuncData} (B : Bt mg) (fl : FlOk ⟨K, P, w, T⟩ flds) (F : FunD K "require_mode" "Program.require_mode" (defArgs s_Program_require_mode) (defBody s_Program_require_mode) (defScope s_Program_require_mode) [] [] a fd) : FnOk P w K mg base (L2.CX P w) 1 a fd ["self", "mode"] (lift ⟨K, P, w, T⟩ sp_Program_require_mode) :=
  okD F sc_Program_require_mode len_Program_require_mode (fun E Ψ => r_Program_require_mode fl E Ψ) pure_Program_require_mode fun cdv A outer s H E hr => der_Program_require_mode B cdv A outer s H E hr
theorem sc_Program_rule_of : FnScope n_Program_rule_of ["self", "mode"] (defScope s_Program_rule_of) := ⟨rfl, rfl, rfl, by decide +kernel, rfl, by decide +kernel, by decide +kernel⟩
theorem der_Program_rule_of {P : Program} {w : World} {K : Frag} {T : List (Addr × Str)} {mg : Str → Option Value} {base : Heap} {f : Addr} (c_Program_require_mode : MetX P w K mg base 1 "Program" "require_mode" (lift ⟨K, P, w, T⟩ sp_Program_require_mode)) (cdv : Value) (A : Around) (outer : List Env) (s : Shared) (H : Hp) (E : XK) 
    (hr : Room 1 (A.deeper (PyProof.Rows.envOfC "Program.rule_of" (defScope s_Program_rule_of) s.heap.objs.size f cdv))) : PSs (cxOf (L2.CX P w) P w K mg base n_Program_rule_of "Program.rule_of" (defScope s_Program_rule_of) f cdv A outer s H E) (defBody s_Program_rule_of) (t_Program_rule_of ⟨K, P, w, T⟩ E) := by
  exact (pss_cons (ps_expr (pe_mn c_Program_require_mode hr (by decide) (pv 0) (pa_cons (pv 1) pa_nil))) (pss_one (ps_ret (pe_dgetN hr (pe_fld (pv 0) rfl) (pv 1)))))
theorem b_Program_rule_of {K : Frag} {a : Addr} {fd : FuncData} (F : FunD K "rule_of" "Program.rule_of" (defArgs s_Program_rule_of) (defBody s_Program_rule_of) (defScope s_Program_rule_of) [] [] a fd) : L2.Binds K fd ["self", "mode"] [] := F.bindsN fun _ _ _ _ _ _ us hl => match us, hl with | [_, _], _ => rfl
theorem f_Program_rule_of {P : Program} {w : World} {K : Frag} {T : List (Addr × Str)} {mg : Str → Option Value} {base : Heap} {a : Addr} {fd : FuncData} (c_Program_require_mode : MetX P w K mg base 1 "Program" "require_mode" (lift ⟨K, P, w, T⟩ sp_Program_require_mode)) (fl : FlOk ⟨K, P, w, T⟩ flds) (F : FunD K "rule_of" "Program.rule_of" (defArgs s_Program_rule_of) (defBody s_Program_rule_of) (defScope s_Program_rule_of) [] [] a fd) : FnOk P w K mg base (L2.CX P w) 2 a fd ["self", "mode"] (lift ⟨K, P, w, T⟩ sp_Program_rule_of) :=
  okD F sc_Program_rule_of len_Program_rule_of (fun E Ψ => r_Program_rule_of fl E Ψ) pure_Program_rule_of fun cdv A outer s H E hr => der_Program_rule_of c_Program_require_mode cdv A outer s H E hr
theorem sc_law_right : FnScope n_law_right ["one", "parts", "number"] (defScope s_law_right) := ⟨rfl, rfl, rfl, by decide +kernel, rfl, by decide +kernel, by decide +kernel⟩
theorem der_law_right {P : Program} {w : World} {K : Frag} {T : List (Addr × Str)} {mg : Str → Option Value} {base : Heap} {f : Addr} (B : Bt mg) (c_law_run : CalX P w K mg base 2 "_law_run" (lift ⟨K, P, w, T⟩ sp_law_run)) (c_standings : CalX P w K mg base 5 "standings" (lift ⟨K, P, w, T⟩ sp_standings)) (c_law_figures : CalX P w K mg base 1 "_law_figures" (lift ⟨K, P, w, T⟩ sp_law_figures)) (c_number_of : CalX P w K mg base 5 "number_of" (lift ⟨K, P, w, T⟩ sp_number_of)) (c_carry : CalX P w K mg base 3 "carry" (lift ⟨K, P, w, T⟩ sp_carry)) (c_Program_rule_of : MetX P w K mg base 2 "Program" "rule_of" (lift ⟨K, P, w, T⟩ sp_Program_rule_of)) (cdv : Value) (A : Around) (outer : List Env) (s : Shared) (H : Hp) (E : XK) 
    (hr : Room 5 (A.deeper (PyProof.Rows.envOfC "_law_right" (defScope s_law_right) s.heap.objs.size f cdv))) : PSs (cxOf (L2.CX P w) P w K mg base n_law_right "_law_right" (defScope s_law_right) f cdv A outer s H E) (defBody s_law_right) (t_law_right ⟨K, P, w, T⟩ E) := by
  exact (pss_cons (ps_par (by rfl) sc_law_right.nd (i := 6) (j := 7) rfl rfl (by decide) rfl rfl (pa_cons (pe_callB call_abs rfl B.abs_ (by decide +kernel) (pa_cons (pe_ix ix_seq (pv 1) pe_int (fun _ _ => rfl)) pa_nil)) (pa_cons (pe_op op_sub pe_int (pe_op op_mul pe_int (pe_callTy call_int1 rfl B.int_ (by decide +kernel) (pa_cons (pe_cmpR op_lt (pe_ix ix_seq (pv 1) pe_int (fun _ _ => rfl)) pe_int (nomark _)) pa_nil)))) pa_nil)) (by rfl)) (pss_cons (ps_set (i := 3) sc_law_right.nd rfl (by walk_at "sw_loc") (pe_ix ix_seq (pe_cn c_law_run hr (by decide) rfl (pa_cons (pv 1) (pa_cons (pv 2) pa_nil))) pe_int (fun _ _ => rfl))) (pss_cons (ps_set (i := 4) sc_law_right.nd rfl (by walk_at "sw_loc") (pe_cn c_standings hr (by decide) rfl (pa_cons (pv 0) (pa_cons (pv 2) pa_nil)))) (pss_cons (ps_if (pt_cmpR op_ne (pe_callB call_len_seq rfl B.len_ (by decide +kernel) (pa_cons (pv 4) pa_nil)) (pe_callB call_len_seq rfl B.len_ (by decide +kernel) (pa_cons (pv 3) pa_nil)) (nomark _)) (pss_one (ps_ret pe_bl)) pss_nil) (pss_cons (ps_par (by rfl) sc_law_right.nd (i := 8) (j := 9) rfl rfl (by decide) rfl rfl (pa_cons (pe_cn c_law_figures hr (by decide) rfl (pa_cons (pv 2) (pa_cons (pv 6) pa_nil))) (pa_cons (pe_op op_sub pe_int (pe_op op_mul pe_int (pe_callTy call_int1 rfl B.int_ (by decide +kernel) (pa_cons (pe_cmpR op_lt (pv 2) pe_int (nomark _)) pa_nil)))) pa_nil)) (by rfl)) (pss_cons (ps_for (passes_of rfl) rfl (pi_range1 rfl B.range_ (pa_cons (pe_callB call_len_seq rfl B.len_ (by decide +kernel) (pa_cons (pv 3) pa_nil)) pa_nil)) (pg_name (i := 5) sc_law_right.nd rfl (by walk_at "sw_loc")) (pss_cons (ps_asg (pe_ix ix_seq (pv 3) (pv 5) (fun _ _ => rfl)) (pg_tup (by rfl) (pgs_cons (pg_name (i := 13) sc_law_right.nd rfl (by walk_at "sw_loc")) (pgs_cons (pg_name (i := 14) sc_law_right.nd rfl (by walk_at "sw_loc")) (pgs_cons (pg_name (i := 15) sc_law_right.nd rfl (by walk_at "sw_loc")) (pgs_cons (pg_name (i := 16) sc_law_right.nd rfl (by walk_at "sw_loc")) pgs_nil)))))) (pss_cons (ps_set (i := 10) sc_law_right.nd rfl (by walk_at "sw_loc") (pe_cn c_number_of hr (by decide) rfl (pa_cons pe_int (pa_cons (pe_slice sl_tupA (pv 8) (po_some (pv 5)) po_none) (pa_cons (pv 6) pa_nil))))) (pss_cons (ps_if (PW.pt (pw_or (pt_cmpR (op_neD hr.units) (pe_slice sl_tupA (pe_ix ix_seq (pv 4) (pv 5) (fun _ _ => rfl)) po_none (po_some pe_int)) (pe_tup (pa_cons (pv 13) (pa_cons (pv 9) (pa_cons (pv 10) pa_nil)))) (nomark _)) (pw_or (pt_cmpR op_notIn_seq (pe_ix ix_seq (pe_ix ix_seq (pv 4) (pv 5) (fun _ _ => rfl)) pe_int (fun _ _ => rfl)) (pe_lst (pa_cons pe_int (pa_cons pe_int pa_nil))) rfl) (pw_or1 (pt_cmpR op_ne (pv 14) (pe_op op_mul (pv 9) (pe_op op_add (pv 10) (pe_ix ix_seq (pe_ix ix_seq (pv 4) (pv 5) (fun _ _ => rfl)) pe_int (fun _ _ => rfl)))) (nomark _)))))) (pss_one (ps_ret pe_bl)) pss_nil) (pss_cons (ps_if (pt_val (pe_callB call_isi rfl B.isinstance_ (by decide +kernel) (pa_cons (pe_ix ix_seq (pe_ix ix_seq (pv 4) (pv 5) (fun _ _ => rfl)) pe_int (fun _ _ => rfl)) (pa_cons (pe_bltn rfl B.bool_ (by decide +kernel) rfl) pa_nil)))) (pss_one (ps_ret pe_bl)) pss_nil) (pss_cons (ps_set (i := 11) sc_law_right.nd rfl (by walk_at "sw_loc") (pe_ifExp (pt_cmpR op_lt (pv 5) (pe_callB call_len_seq rfl B.len_ (by decide +kernel) (pa_cons (pv 8) pa_nil)) (nomark _)) (pe_ix ix_seq (pv 8) (pv 5) (fun _ _ => rfl)) pe_int)) (pss_cons (ps_set (i := 12) sc_law_right.nd rfl (by walk_at "sw_loc") (pe_cn c_carry hr (by decide) rfl (pa_cons (pe_mn c_Program_rule_of hr (by decide) (pv 0) (pa_cons (pv 13) pa_nil)) (pa_cons (pv 9) (pa_cons (pe_ix ix_seq (pv 1) pe_int (fun _ _ => rfl)) (pa_cons (pe_op op_add (pv 11) (pe_ix ix_seq (pe_ix ix_seq (pv 4) (pv 5) (fun _ _ => rfl)) pe_int (fun _ _ => rfl))) pa_nil)))))) (pss_cons (ps_if (PW.pt (pw_or (pt_cmpR op_ne (pe_ix ix_seq (pv 12) pe_int (fun _ _ => rfl)) (pv 15) (nomark _)) (pw_or1 (PW.pt (pw_and (pt_cmpR op_lt (pe_op op_add (pv 5) pe_int) (pe_callB call_len_seq rfl B.len_ (by decide +kernel) (pa_cons (pv 3) pa_nil)) (nomark _)) (pw_and1 (pt_cmpR op_ne (pe_ix ix_seq (pv 12) pe_int (fun _ _ => rfl)) (pe_ix ix_seq (pe_ix ix_seq (pv 4) (pe_op op_add (pv 5) pe_int) (fun _ _ => rfl)) pe_int (fun _ _ => rfl)) (nomark _)))))))) (pss_one (ps_ret pe_bl)) pss_nil) (pss_one (ps_set (i := 9) sc_law_right.nd rfl (by walk_at "sw_loc") (pe_op op_mul (pv 9) (pe_ifExp (pt_cmpR op_ne (pv 2) pe_int (nomark _)) (pv 7) pe_int)))))))))))) (pss_one (ps_ret pe_bl))))))))
theorem b_law_right {K : Frag} {a : Addr} {fd : FuncData} (F : FunD K "_law_right" "_law_right" (defArgs s_law_right) (defBody s_law_right) (defScope s_law_right) [] [] a fd) : L2.Binds K fd ["one", "parts", "number"] [] := F.bindsN fun _ _ _ _ _ _ us hl => match us, hl with | [_, _, _], _ => rfl
theorem f_law_right {P : Program} {w : World} {K : Frag} {T : List (Addr × Str)} {mg : Str → Option Value} {base : Heap} {a : Addr} {fd : FuncData} (B : Bt mg) (c_law_run : CalX P w K mg base 2 "_law_run" (lift ⟨K, P, w, T⟩ sp_law_run)) (c_standings : CalX P w K mg base 5 "standings" (lift ⟨K, P, w, T⟩ sp_standings)) (c_law_figures : CalX P w K mg base 1 "_law_figures" (lift ⟨K, P, w, T⟩ sp_law_figures)) (c_number_of : CalX P w K mg base 5 "number_of" (lift ⟨K, P, w, T⟩ sp_number_of)) (c_carry : CalX P w K mg base 3 "carry" (lift ⟨K, P, w, T⟩ sp_carry)) (c_Program_rule_of : MetX P w K mg base 2 "Program" "rule_of" (lift ⟨K, P, w, T⟩ sp_Program_rule_of)) (F : FunD K "_law_right" "_law_right" (defArgs s_law_right) (defBody s_law_right) (defScope s_law_right) [] [] a fd) : FnOk P w K mg base (L2.CX P w) 6 a fd ["one", "parts", "number"] (lift ⟨K, P, w, T⟩ sp_law_right) :=
  okD F sc_law_right len_law_right (fun E Ψ => r_law_right  E Ψ) pure_law_right fun cdv A outer s H E hr => der_law_right B c_law_run c_standings c_law_figures c_number_of c_carry c_Program_rule_of cdv A outer s H E hr
def n_law_error : List Str := ["call", "e"]
theorem sc_law_error : FnScope n_law_error ["call"] (defScope s_law_error) := ⟨rfl, rfl, rfl, by decide +kernel, rfl, by decide +kernel, by decide +kernel⟩
theorem gives_law_error {X : Cx} (B : Bt X.mg) (m_InvalidNumber : X.mg "InvalidNumber" = some (.ref (He.ga X.K "InvalidNumber"))) (xf_InvalidNumber : XfC X.K (He.ga X.K "InvalidNumber")) (no_InvalidNumber : W.findIn X.K (.ref (He.ga X.K "InvalidNumber")) "value" = some none) (m_InvalidSign : X.mg "InvalidSign" = some (.ref (He.ga X.K "InvalidSign"))) (xf_InvalidSign : XfC X.K (He.ga X.K "InvalidSign")) (no_InvalidSign : W.findIn X.K (.ref (He.ga X.K "InvalidSign")) "value" = some none) (m_InvalidBase : X.mg "InvalidBase" = some (.ref (He.ga X.K "InvalidBase"))) (xf_InvalidBase : XfC X.K (He.ga X.K "InvalidBase")) (no_InvalidBase : W.findIn X.K (.ref (He.ga X.K "InvalidBase")) "value" = some none) (m_InvalidFigures : X.mg "InvalidFigures" = some (.ref (He.ga X.K "InvalidFigures"))) (xf_InvalidFigures : XfC X.K (He.ga X.K "InvalidFigures")) (no_InvalidFigures : W.findIn X.K (.ref (He.ga X.K "InvalidFigures")) "value" = some none) (hgd : X.A.guards = some []) (hu : X.A.units + 100 < cLine) (g : Addr) (q : Str) (cdv : Value) :
    LamX.GivesTo X n_law_error "_law_error" (defScope s_law_error) g cdv (defBody s_law_error) "call" q (TErr X.K cl_law_error) :=
  told_gives (by decide) (fun f => rfl) (by decide) fun s H => (.cons ⟨rfl, by decide, .inl m_InvalidNumber⟩ rfl rfl (fun ea eo cls d pn hz hf => pss_one (ps_ret (pe_lst (pa_cons pe_str (pa_cons (pe_callB (call_reprD (j := 0) hgd (by show X.A.units + 3 + 64 < cLine; omega)) rfl B.repr_ (by decide +kernel) (pa_cons (pe_xf xf_InvalidNumber no_InvalidNumber hz hf (pv 1)) pa_nil)) pa_nil))))) (.cons ⟨rfl, by decide, .inl m_InvalidSign⟩ rfl rfl (fun ea eo cls d pn hz hf => pss_one (ps_ret (pe_lst (pa_cons pe_str (pa_cons (pe_callB (call_reprD (j := 0) hgd (by show X.A.units + 3 + 64 < cLine; omega)) rfl B.repr_ (by decide +kernel) (pa_cons (pe_xf xf_InvalidSign no_InvalidSign hz hf (pv 1)) pa_nil)) pa_nil))))) (.cons ⟨rfl, by decide, .inl m_InvalidBase⟩ rfl rfl (fun ea eo cls d pn hz hf => pss_one (ps_ret (pe_lst (pa_cons pe_str (pa_cons (pe_callB (call_reprD (j := 0) hgd (by show X.A.units + 3 + 64 < cLine; omega)) rfl B.repr_ (by decide +kernel) (pa_cons (pe_xf xf_InvalidBase no_InvalidBase hz hf (pv 1)) pa_nil)) pa_nil))))) (.cons ⟨rfl, by decide, .inl m_InvalidFigures⟩ rfl rfl (fun ea eo cls d pn hz hf => pss_one (ps_ret (pe_lst (pa_cons pe_str (pa_cons (pe_callB (call_reprD (j := 0) hgd (by show X.A.units + 3 + 64 < cLine; omega)) rfl B.repr_ (by decide +kernel) (pa_cons (pe_xf xf_InvalidFigures no_InvalidFigures hz hf (pv 1)) pa_nil)) pa_nil))))) .nil))))
theorem b_law_error {K : Frag} {a : Addr} {fd : FuncData} (F : FunD K "_law_error" "_law_error" (defArgs s_law_error) (defBody s_law_error) (defScope s_law_error) [] [] a fd) : L2.Binds K fd ["call"] [] := F.bindsN fun _ _ _ _ _ _ us hl => match us, hl with | [_], _ => rfl
theorem sc_law_refused_right : FnScope n_law_refused_right ["size"] (defScope s_law_refused_right) := ⟨rfl, rfl, rfl, by decide +kernel, rfl, by decide +kernel, by decide +kernel⟩
theorem der_law_refused_right {P : Program} {w : World} {K : Frag} {T : List (Addr × Str)} {mg : Str → Option Value} {base : Heap} {f : Addr} (B : Bt mg) (c_figures_of : CalX P w K mg base 3 "figures_of" (lift ⟨K, P, w, T⟩ sp_figures_of)) (c_number_of : CalX P w K mg base 5 "number_of" (lift ⟨K, P, w, T⟩ sp_number_of)) {g_law_error : Addr} {fd_law_error : FuncData} (F_law_error : FunD K "_law_error" "_law_error" (defArgs s_law_error) (defBody s_law_error) (defScope s_law_error) [] [] g_law_error fd_law_error) (m_law_error : mg "_law_error" = some (.ref g_law_error)) (b_law_error : L2.Binds K fd_law_error ["call"] []) (m_InvalidNumber : mg "InvalidNumber" = some (.ref (He.ga K "InvalidNumber"))) (xf_InvalidNumber : XfC K (He.ga K "InvalidNumber")) (no_InvalidNumber : W.findIn K (.ref (He.ga K "InvalidNumber")) "value" = some none) (m_InvalidSign : mg "InvalidSign" = some (.ref (He.ga K "InvalidSign"))) (xf_InvalidSign : XfC K (He.ga K "InvalidSign")) (no_InvalidSign : W.findIn K (.ref (He.ga K "InvalidSign")) "value" = some none) (m_InvalidBase : mg "InvalidBase" = some (.ref (He.ga K "InvalidBase"))) (xf_InvalidBase : XfC K (He.ga K "InvalidBase")) (no_InvalidBase : W.findIn K (.ref (He.ga K "InvalidBase")) "value" = some none) (m_InvalidFigures : mg "InvalidFigures" = some (.ref (He.ga K "InvalidFigures"))) (xf_InvalidFigures : XfC K (He.ga K "InvalidFigures")) (no_InvalidFigures : W.findIn K (.ref (He.ga K "InvalidFigures")) "value" = some none) {c0 P0 : Addr} (TB : LamX.TabB base mg c0 P0) (hT1 : (P0, ((PyProof.Rows.envOfC "_law_refused_right" (defScope s_law_refused_right) 0 0 .none).qual ++ "<lambda>")) ∈ T) (hT2 : ∀ p ∈ T, p.1 = P0 → p.2 = ((PyProof.Rows.envOfC "_law_refused_right" (defScope s_law_refused_right) 0 0 .none).qual ++ "<lambda>")) (cdv : Value) (A : Around) (outer : List Env) (s : Shared) (H : Hp) (E : XK) (hcd : cdv = .ref c0) (hgd : A.guards = some [])
    (hr : Room 7 (A.deeper (PyProof.Rows.envOfC "_law_refused_right" (defScope s_law_refused_right) s.heap.objs.size f cdv))) : PSs (cxOf (L2.CX P w) P w K mg base n_law_refused_right "_law_refused_right" (defScope s_law_refused_right) f cdv A outer s H E) (defBody s_law_refused_right) (t_law_refused_right ⟨K, P, w, T⟩ E) := by
  exact (pss_cons (ps_for (passes_of rfl) rfl (pi_list (pe_lst (pa_cons pe_non (pa_cons pe_bl (pa_cons pe_str (pa_cons (pe_lst (pa_cons pe_int pa_nil)) pa_nil)))))) (pg_name (i := 1) sc_law_refused_right.nd rfl (by walk_at "sw_loc")) (pss_one (ps_if (pt_cmpR (op_neD hr.units) (pe_lamN (k := 3) F_law_error m_law_error b_law_error sc_law_error rfl (.inl rfl) (fun cdv => gives_law_error B m_InvalidNumber xf_InvalidNumber no_InvalidNumber m_InvalidSign xf_InvalidSign no_InvalidSign m_InvalidBase xf_InvalidBase no_InvalidBase m_InvalidFigures xf_InvalidFigures no_InvalidFigures hgd (units100 hr) _ _ cdv) rfl TB hcd hT1 hT2 (hr.mono (by decide)) (LamX.lamS_by (by kernel_rfl)) rfl (fun _ _ _ _ _ => rfl) (fun A outer s H E f c' hr => (pe_cx c_figures_of hr (by decide) rfl pass_lam (pa_cons (pv 1) (pa_cons pe_non pa_nil))))) (pe_lst (pa_cons pe_str (pa_cons (pe_callB (call_reprD (j := 0) hgd (units64 hr)) rfl B.repr_ (by decide +kernel) (pa_cons (pv 1) pa_nil)) pa_nil))) (nomark _)) (pss_one (ps_ret pe_bl)) pss_nil))) (pss_cons (ps_for (passes_of rfl) rfl (pi_list (pe_lst (pa_cons pe_non (pa_cons pe_int (pa_cons pe_int (pa_cons pe_bl (pa_cons (pe_un un_neg pe_int) (pa_cons pe_str pa_nil)))))))) (pg_name (i := 1) sc_law_refused_right.nd rfl (by walk_at "sw_loc")) (pss_cons (ps_if (pt_cmpR (op_neD hr.units) (pe_lamN (k := 3) F_law_error m_law_error b_law_error sc_law_error rfl (.inl rfl) (fun cdv => gives_law_error B m_InvalidNumber xf_InvalidNumber no_InvalidNumber m_InvalidSign xf_InvalidSign no_InvalidSign m_InvalidBase xf_InvalidBase no_InvalidBase m_InvalidFigures xf_InvalidFigures no_InvalidFigures hgd (units100 hr) _ _ cdv) rfl TB hcd hT1 hT2 (hr.mono (by decide)) (LamX.lamS_by (by kernel_rfl)) rfl (fun _ _ _ _ _ => rfl) (fun A outer s H E f c' hr => (pe_cx c_figures_of hr (by decide) rfl pass_lam (pa_cons pe_int (pa_cons (pv 1) pa_nil))))) (pe_lst (pa_cons pe_str (pa_cons (pe_callB (call_reprD (j := 0) hgd (units64 hr)) rfl B.repr_ (by decide +kernel) (pa_cons (pv 1) pa_nil)) pa_nil))) (nomark _)) (pss_one (ps_ret pe_bl)) pss_nil) (pss_one (ps_if (pt_cmpR (op_neD hr.units) (pe_lamN (k := 5) F_law_error m_law_error b_law_error sc_law_error rfl (.inl rfl) (fun cdv => gives_law_error B m_InvalidNumber xf_InvalidNumber no_InvalidNumber m_InvalidSign xf_InvalidSign no_InvalidSign m_InvalidBase xf_InvalidBase no_InvalidBase m_InvalidFigures xf_InvalidFigures no_InvalidFigures hgd (units100 hr) _ _ cdv) rfl TB hcd hT1 hT2 (hr.mono (by decide)) (LamX.lamS_by (by kernel_rfl)) rfl (fun _ _ _ _ _ => rfl) (fun A outer s H E f c' hr => (pe_cx c_number_of hr (by decide) rfl pass_lam (pa_cons pe_int (pa_cons pe_non (pa_cons (pv 1) pa_nil)))))) (pe_lst (pa_cons pe_str (pa_cons (pe_callB (call_reprD (j := 0) hgd (units64 hr)) rfl B.repr_ (by decide +kernel) (pa_cons (pv 1) pa_nil)) pa_nil))) (nomark _)) (pss_one (ps_ret pe_bl)) pss_nil)))) (pss_cons (ps_for (passes_of rfl) rfl (pi_list (pe_lst (pa_cons pe_non (pa_cons pe_int (pa_cons pe_int (pa_cons pe_bl (pa_cons pe_str pa_nil))))))) (pg_name (i := 1) sc_law_refused_right.nd rfl (by walk_at "sw_loc")) (pss_one (ps_if (pt_cmpR (op_neD hr.units) (pe_lamN (k := 5) F_law_error m_law_error b_law_error sc_law_error rfl (.inl rfl) (fun cdv => gives_law_error B m_InvalidNumber xf_InvalidNumber no_InvalidNumber m_InvalidSign xf_InvalidSign no_InvalidSign m_InvalidBase xf_InvalidBase no_InvalidBase m_InvalidFigures xf_InvalidFigures no_InvalidFigures hgd (units100 hr) _ _ cdv) rfl TB hcd hT1 hT2 (hr.mono (by decide)) (LamX.lamS_by (by kernel_rfl)) rfl (fun _ _ _ _ _ => rfl) (fun A outer s H E f c' hr => (pe_cx c_number_of hr (by decide) rfl pass_lam (pa_cons (pv 1) (pa_cons pe_non (pa_cons pe_non pa_nil)))))) (pe_lst (pa_cons pe_str (pa_cons (pe_callB (call_reprD (j := 0) hgd (units64 hr)) rfl B.repr_ (by decide +kernel) (pa_cons (pv 1) pa_nil)) pa_nil))) (nomark _)) (pss_one (ps_ret pe_bl)) pss_nil))) (pss_cons (ps_for (passes_of rfl) rfl (pi_list (pe_lst (pa_cons pe_non (pa_cons pe_int (pa_cons (pe_lst (pa_cons pe_int pa_nil)) (pa_cons (pe_tup (pa_cons pe_int pa_nil)) (pa_cons (pe_tup (pa_cons pe_int (pa_cons pe_int pa_nil))) (pa_cons (pe_tup (pa_cons (pv 0) pa_nil)) (pa_cons (pe_tup (pa_cons (pe_un un_neg pe_int) pa_nil)) (pa_cons (pe_tup (pa_cons pe_bl pa_nil)) (pa_cons (pe_tup (pa_cons pe_int (pa_cons pe_str pa_nil))) (pa_cons (pe_tup (pa_cons (pe_tup (pa_cons pe_int pa_nil)) pa_nil)) pa_nil)))))))))))) (pg_name (i := 1) sc_law_refused_right.nd rfl (by walk_at "sw_loc")) (pss_one (ps_if (pt_cmpR (op_neD hr.units) (pe_lamN (k := 5) F_law_error m_law_error b_law_error sc_law_error rfl (.inl rfl) (fun cdv => gives_law_error B m_InvalidNumber xf_InvalidNumber no_InvalidNumber m_InvalidSign xf_InvalidSign no_InvalidSign m_InvalidBase xf_InvalidBase no_InvalidBase m_InvalidFigures xf_InvalidFigures no_InvalidFigures hgd (units100 hr) _ _ cdv) rfl TB hcd hT1 hT2 (hr.mono (by decide)) (LamX.lamS_by (by kernel_rfl)) rfl (fun _ _ _ _ _ => rfl) (fun A outer s H E f c' hr => (pe_cx c_number_of hr (by decide) rfl pass_lam (pa_cons (pe_un un_neg pe_int) (pa_cons (pv 1) (pa_cons (pv 0) pa_nil)))))) (pe_lst (pa_cons pe_str (pa_cons (pe_callB (call_reprD (j := 0) hgd (units64 hr)) rfl B.repr_ (by decide +kernel) (pa_cons (pv 1) pa_nil)) pa_nil))) (nomark _)) (pss_one (ps_ret pe_bl)) pss_nil))) (pss_one (ps_ret (pe_cmpR op_eq (pe_cn c_number_of hr (by decide) rfl (pa_cons (pe_un un_neg pe_int) (pa_cons (pe_tup pa_nil) (pa_cons (pv 0) pa_nil)))) pe_int (nomark _))))))))
theorem b_law_refused_right {K : Frag} {a : Addr} {fd : FuncData} (F : FunD K "_law_refused_right" "_law_refused_right" (defArgs s_law_refused_right) (defBody s_law_refused_right) (defScope s_law_refused_right) [] [] a fd) : L2.Binds K fd ["size"] [] := F.bindsN fun _ _ _ _ _ _ us hl => match us, hl with | [_], _ => rfl
theorem f_law_refused_right {P : Program} {w : World} {K : Frag} {T : List (Addr × Str)} {mg : Str → Option Value} {base : Heap} {a : Addr} {fd : FuncData} (B : Bt mg) (c_figures_of : CalX P w K mg base 3 "figures_of" (lift ⟨K, P, w, T⟩ sp_figures_of)) (c_number_of : CalX P w K mg base 5 "number_of" (lift ⟨K, P, w, T⟩ sp_number_of)) {g_law_error : Addr} {fd_law_error : FuncData} (F_law_error : FunD K "_law_error" "_law_error" (defArgs s_law_error) (defBody s_law_error) (defScope s_law_error) [] [] g_law_error fd_law_error) (m_law_error : mg "_law_error" = some (.ref g_law_error)) (b_law_error : L2.Binds K fd_law_error ["call"] []) (m_InvalidNumber : mg "InvalidNumber" = some (.ref (He.ga K "InvalidNumber"))) (xf_InvalidNumber : XfC K (He.ga K "InvalidNumber")) (no_InvalidNumber : W.findIn K (.ref (He.ga K "InvalidNumber")) "value" = some none) (m_InvalidSign : mg "InvalidSign" = some (.ref (He.ga K "InvalidSign"))) (xf_InvalidSign : XfC K (He.ga K "InvalidSign")) (no_InvalidSign : W.findIn K (.ref (He.ga K "InvalidSign")) "value" = some none) (m_InvalidBase : mg "InvalidBase" = some (.ref (He.ga K "InvalidBase"))) (xf_InvalidBase : XfC K (He.ga K "InvalidBase")) (no_InvalidBase : W.findIn K (.ref (He.ga K "InvalidBase")) "value" = some none) (m_InvalidFigures : mg "InvalidFigures" = some (.ref (He.ga K "InvalidFigures"))) (xf_InvalidFigures : XfC K (He.ga K "InvalidFigures")) (no_InvalidFigures : W.findIn K (.ref (He.ga K "InvalidFigures")) "value" = some none) {c0 P0 : Addr} (TB : LamX.TabB base mg c0 P0) (hT1 : (P0, ((PyProof.Rows.envOfC "_law_refused_right" (defScope s_law_refused_right) 0 0 .none).qual ++ "<lambda>")) ∈ T) (hT2 : ∀ p ∈ T, p.1 = P0 → p.2 = ((PyProof.Rows.envOfC "_law_refused_right" (defScope s_law_refused_right) 0 0 .none).qual ++ "<lambda>")) (tx_law_error : ToldOk K cl_law_error) (F : FunD K "_law_refused_right" "_law_refused_right" (defArgs s_law_refused_right) (defBody s_law_refused_right) (defScope s_law_refused_right) [] [] a fd) (hcf : fd.code = .ref c0) : FnOkG P w K mg base (L2.CX P w) 8 a fd ["size"] (lift ⟨K, P, w, T⟩ sp_law_refused_right) :=
  okDG (C := fun v => v = .ref c0) F hcf sc_law_refused_right len_law_refused_right (fun E Ψ => r_law_refused_right tx_law_error E Ψ) pure_law_refused_right fun cdv A outer s H E hcd hgd hr => der_law_refused_right B c_figures_of c_number_of F_law_error m_law_error b_law_error m_InvalidNumber xf_InvalidNumber no_InvalidNumber m_InvalidSign xf_InvalidSign no_InvalidSign m_InvalidBase xf_InvalidBase no_InvalidBase m_InvalidFigures xf_InvalidFigures no_InvalidFigures TB hT1 hT2 cdv A outer s H E hcd hgd hr
theorem sc_law : FnScope n_law ["script"] (defScope s_law) := ⟨rfl, rfl, rfl, by decide +kernel, rfl, by decide +kernel, by decide +kernel⟩
theorem der_law {P : Program} {w : World} {K : Frag} {T : List (Addr × Str)} {mg : Str → Option Value} {base : Heap} {f : Addr} (B : Bt mg) (c_law_pool : CalX P w K mg base 1 "_law_pool" (lift ⟨K, P, w, T⟩ sp_law_pool)) (c_law_parts : CalX P w K mg base 5 "_law_parts" (lift ⟨K, P, w, T⟩ sp_law_parts)) (c_law_made : CalX P w K mg base 11 "_law_made" (lift ⟨K, P, w, T⟩ sp_law_made)) (c_law_number : CalX P w K mg base 3 "_law_number" (lift ⟨K, P, w, T⟩ sp_law_number)) (c_law_figures : CalX P w K mg base 1 "_law_figures" (lift ⟨K, P, w, T⟩ sp_law_figures)) (c_figures_of : CalX P w K mg base 3 "figures_of" (lift ⟨K, P, w, T⟩ sp_figures_of)) (c_number_of : CalX P w K mg base 5 "number_of" (lift ⟨K, P, w, T⟩ sp_number_of)) (c_law_right : CalX P w K mg base 6 "_law_right" (lift ⟨K, P, w, T⟩ sp_law_right)) (c_law_refused_right : CalG P w K mg base 8 "_law_refused_right" (lift ⟨K, P, w, T⟩ sp_law_refused_right)) (cdv : Value) (A : Around) (outer : List Env) (s : Shared) (H : Hp) (E : XK) (hgd : A.guards = some [])
    (hr : Room 11 (A.deeper (PyProof.Rows.envOfC "law" (defScope s_law) s.heap.objs.size f cdv))) : PSs (cxOf (L2.CX P w) P w K mg base n_law "law" (defScope s_law) f cdv A outer s H E) (defBody s_law) (t_law ⟨K, P, w, T⟩ E) := by
  exact (pss_cons (ps_for (passes_of rfl) rfl (pi_range1 rfl B.range_ (pa_cons (pe_callB (call_max2 rfl) rfl B.max_ (by decide +kernel) (pa_cons pe_int (pa_cons (pe_callB (call_min2 rfl) rfl B.min_ (by decide +kernel) (pa_cons (pe_callB call_len_seq rfl B.len_ (by decide +kernel) (pa_cons (pv 0) pa_nil)) (pa_cons pe_int pa_nil))) pa_nil))) pa_nil)) (pg_name (i := 1) sc_law.nd rfl (by walk_at "sw_loc")) (pss_cons (ps_set (i := 2) sc_law.nd rfl (by walk_at "sw_loc") (pe_cn c_law_pool hr (by decide) rfl (pa_cons (pv 0) (pa_cons (pv 1) pa_nil)))) (pss_cons (ps_set (i := 3) sc_law.nd rfl (by walk_at "sw_loc") (pe_cn c_law_parts hr (by decide) rfl (pa_cons (pv 2) (pa_cons (pe_lst (pa_cons pe_int (pa_cons pe_int (pa_cons pe_int (pa_cons pe_int pa_nil))))) (pa_cons pe_int pa_nil))))) (pss_cons (ps_par (by rfl) sc_law.nd (i := 6) (j := 7) rfl rfl (by decide) rfl rfl (pa_cons (pe_cn c_law_made hr (by decide) rfl (pa_cons (pv 3) pa_nil)) (pa_cons (pe_callB call_abs rfl B.abs_ (by decide +kernel) (pa_cons (pe_ix ix_seq (pv 3) pe_int (fun _ _ => rfl)) pa_nil)) pa_nil)) (by rfl)) (pss_cons (ps_set (i := 4) sc_law.nd rfl (by walk_at "sw_loc") (pe_op op_cat (pe_lst (pa_cons pe_int (pa_cons pe_int (pa_cons (pe_un un_neg pe_int) (pa_cons (pv 7) (pa_cons (pe_op op_sub pe_int (pv 7)) (pa_cons (pe_op op_sub (pe_op op_mul (pv 7) (pv 7)) pe_int) pa_nil))))))) (pe_lcn (own := [("turn", 10)]) rfl sc_law.nd (pi_range1 rfl B.range_ (pa_cons pe_int pa_nil)) (by walk_at "sw_blk") (fun _ _ _ _ _ => (pg_name (i := 10) sc_law.nd rfl (by walk_at "sw_loc"))) (fun _ _ _ _ _ => pts_nil) (fun _ _ _ _ _ => (pe_cn c_law_number hr (by decide) rfl (pa_cons (pv 2) pa_nil)))))) (pss_cons (ps_for (passes_of rfl) rfl (pi_list (pv 4)) (pg_name (i := 5) sc_law.nd rfl (by walk_at "sw_loc")) (pss_cons (ps_set (i := 8) sc_law.nd rfl (by walk_at "sw_loc") (pe_cn c_law_figures hr (by decide) rfl (pa_cons (pv 5) (pa_cons (pv 7) pa_nil)))) (pss_cons (ps_if (pt_cmpR (op_neD hr.units) (pe_cn c_figures_of hr (by decide) rfl (pa_cons (pv 5) (pa_cons (pv 7) pa_nil))) (pv 8) (nomark _)) (pss_one (ps_ret pe_bl)) pss_nil) (pss_cons (ps_set (i := 9) sc_law.nd rfl (by walk_at "sw_loc") (pe_op op_sub pe_int (pe_op op_mul pe_int (pe_callTy call_int1 rfl B.int_ (by decide +kernel) (pa_cons (pe_cmpR op_lt (pv 5) pe_int (nomark _)) pa_nil))))) (pss_cons (ps_if (pt_cmpR op_ne (pe_cn c_number_of hr (by decide) rfl (pa_cons (pv 9) (pa_cons (pv 8) (pa_cons (pv 7) pa_nil)))) (pv 5) (nomark _)) (pss_one (ps_ret pe_bl)) pss_nil) (pss_one (ps_if (pt_not (pt_val (pe_cn c_law_right hr (by decide) rfl (pa_cons (pv 6) (pa_cons (pv 3) (pa_cons (pv 5) pa_nil)))))) (pss_one (ps_ret pe_bl)) pss_nil))))))) (pss_one (ps_if (pt_not (pt_val (pe_cg c_law_refused_right hgd hr (by decide) rfl (pa_cons (pv 7) pa_nil)))) (pss_one (ps_ret pe_bl)) pss_nil)))))))) (pss_one (ps_ret pe_bl)))
theorem b_law {K : Frag} {a : Addr} {fd : FuncData} (F : FunD K "law" "law" (defArgs s_law) (defBody s_law) (defScope s_law) [] [] a fd) : L2.Binds K fd ["script"] [] := F.bindsN fun _ _ _ _ _ _ us hl => match us, hl with | [_], _ => rfl
theorem f_law {P : Program} {w : World} {K : Frag} {T : List (Addr × Str)} {mg : Str → Option Value} {base : Heap} {a : Addr} {fd : FuncData} (B : Bt mg) (c_law_pool : CalX P w K mg base 1 "_law_pool" (lift ⟨K, P, w, T⟩ sp_law_pool)) (c_law_parts : CalX P w K mg base 5 "_law_parts" (lift ⟨K, P, w, T⟩ sp_law_parts)) (c_law_made : CalX P w K mg base 11 "_law_made" (lift ⟨K, P, w, T⟩ sp_law_made)) (c_law_number : CalX P w K mg base 3 "_law_number" (lift ⟨K, P, w, T⟩ sp_law_number)) (c_law_figures : CalX P w K mg base 1 "_law_figures" (lift ⟨K, P, w, T⟩ sp_law_figures)) (c_figures_of : CalX P w K mg base 3 "figures_of" (lift ⟨K, P, w, T⟩ sp_figures_of)) (c_number_of : CalX P w K mg base 5 "number_of" (lift ⟨K, P, w, T⟩ sp_number_of)) (c_law_right : CalX P w K mg base 6 "_law_right" (lift ⟨K, P, w, T⟩ sp_law_right)) (c_law_refused_right : CalG P w K mg base 8 "_law_refused_right" (lift ⟨K, P, w, T⟩ sp_law_refused_right)) (F : FunD K "law" "law" (defArgs s_law) (defBody s_law) (defScope s_law) [] [] a fd) : FnOkG P w K mg base (L2.CX P w) 12 a fd ["script"] (lift ⟨K, P, w, T⟩ sp_law) :=
  okDG (C := fun v => True) F trivial sc_law len_law (fun E Ψ => r_law  E Ψ) pure_law fun cdv A outer s H E hcd hgd hr => der_law B c_law_pool c_law_parts c_law_made c_law_number c_law_figures c_figures_of c_number_of c_law_right c_law_refused_right cdv A outer s H E hgd hr
def n_E_InvalidNumber : List Str := ["self", "value"]
theorem sc_E_InvalidNumber : FnScope n_E_InvalidNumber ["self", "value"] (defScope s_E_InvalidNumber) := ⟨rfl, rfl, rfl, by decide +kernel, rfl, by decide +kernel, by decide +kernel⟩
theorem der_E_InvalidNumber {P : Program} {w : World} {K : Frag} {mg : Str → Option Value} {base : Heap} {f : Addr} (hVE : mg "ValueError" = none) (vV : W.findCls K (.type "ValueError") (.type "type") "__init__" = some (.val (.builtin "ValueError.__init__"))) (cdv : Value) (A : Around) (outer : List Env) (s : Shared) (H : Hp) (E : XK) :
    PSs (cxOf (L2.CX P w) P w K mg base n_E_InvalidNumber "InvalidNumber.__init__" (defScope s_E_InvalidNumber) f cdv A outer s H E) (defBody s_E_InvalidNumber) (tExc K "value" "a value is not the number that is wanted") :=
  pss_cons (ps_expr (pe_veinit rfl hVE vV (pa_cons (pv 0) (pa_cons pe_str pa_nil)))) (pss_one (ps_ost (pv 0) (pv 1)))
theorem b_E_InvalidNumber {K : Frag} {a : Addr} {fd : FuncData} (F : FunD K "__init__" "InvalidNumber.__init__" (defArgs s_E_InvalidNumber) (defBody s_E_InvalidNumber) (defScope s_E_InvalidNumber) [] [] a fd) : L2.Binds K fd ["self", "value"] [] := F.bindsN fun _ _ _ _ _ _ us hl => match us, hl with | [_, _], _ => rfl
def n_E_InvalidBase : List Str := ["self", "value"]
theorem sc_E_InvalidBase : FnScope n_E_InvalidBase ["self", "value"] (defScope s_E_InvalidBase) := ⟨rfl, rfl, rfl, by decide +kernel, rfl, by decide +kernel, by decide +kernel⟩
theorem der_E_InvalidBase {P : Program} {w : World} {K : Frag} {mg : Str → Option Value} {base : Heap} {f : Addr} (hVE : mg "ValueError" = none) (vV : W.findCls K (.type "ValueError") (.type "type") "__init__" = some (.val (.builtin "ValueError.__init__"))) (cdv : Value) (A : Around) (outer : List Env) (s : Shared) (H : Hp) (E : XK) :
    PSs (cxOf (L2.CX P w) P w K mg base n_E_InvalidBase "InvalidBase.__init__" (defScope s_E_InvalidBase) f cdv A outer s H E) (defBody s_E_InvalidBase) (tExc K "value" "a value is no base") :=
  pss_cons (ps_expr (pe_veinit rfl hVE vV (pa_cons (pv 0) (pa_cons pe_str pa_nil)))) (pss_one (ps_ost (pv 0) (pv 1)))
theorem b_E_InvalidBase {K : Frag} {a : Addr} {fd : FuncData} (F : FunD K "__init__" "InvalidBase.__init__" (defArgs s_E_InvalidBase) (defBody s_E_InvalidBase) (defScope s_E_InvalidBase) [] [] a fd) : L2.Binds K fd ["self", "value"] [] := F.bindsN fun _ _ _ _ _ _ us hl => match us, hl with | [_, _], _ => rfl
def n_E_InvalidSign : List Str := ["self", "value"]
theorem sc_E_InvalidSign : FnScope n_E_InvalidSign ["self", "value"] (defScope s_E_InvalidSign) := ⟨rfl, rfl, rfl, by decide +kernel, rfl, by decide +kernel, by decide +kernel⟩
theorem der_E_InvalidSign {P : Program} {w : World} {K : Frag} {mg : Str → Option Value} {base : Heap} {f : Addr} (hVE : mg "ValueError" = none) (vV : W.findCls K (.type "ValueError") (.type "type") "__init__" = some (.val (.builtin "ValueError.__init__"))) (cdv : Value) (A : Around) (outer : List Env) (s : Shared) (H : Hp) (E : XK) :
    PSs (cxOf (L2.CX P w) P w K mg base n_E_InvalidSign "InvalidSign.__init__" (defScope s_E_InvalidSign) f cdv A outer s H E) (defBody s_E_InvalidSign) (tExc K "value" "a value is not the sign that is wanted") :=
  pss_cons (ps_expr (pe_veinit rfl hVE vV (pa_cons (pv 0) (pa_cons pe_str pa_nil)))) (pss_one (ps_ost (pv 0) (pv 1)))
theorem b_E_InvalidSign {K : Frag} {a : Addr} {fd : FuncData} (F : FunD K "__init__" "InvalidSign.__init__" (defArgs s_E_InvalidSign) (defBody s_E_InvalidSign) (defScope s_E_InvalidSign) [] [] a fd) : L2.Binds K fd ["self", "value"] [] := F.bindsN fun _ _ _ _ _ _ us hl => match us, hl with | [_, _], _ => rfl
def n_E_InvalidFigures : List Str := ["self", "value"]
theorem sc_E_InvalidFigures : FnScope n_E_InvalidFigures ["self", "value"] (defScope s_E_InvalidFigures) := ⟨rfl, rfl, rfl, by decide +kernel, rfl, by decide +kernel, by decide +kernel⟩
theorem der_E_InvalidFigures {P : Program} {w : World} {K : Frag} {mg : Str → Option Value} {base : Heap} {f : Addr} (hVE : mg "ValueError" = none) (vV : W.findCls K (.type "ValueError") (.type "type") "__init__" = some (.val (.builtin "ValueError.__init__"))) (cdv : Value) (A : Around) (outer : List Env) (s : Shared) (H : Hp) (E : XK) :
    PSs (cxOf (L2.CX P w) P w K mg base n_E_InvalidFigures "InvalidFigures.__init__" (defScope s_E_InvalidFigures) f cdv A outer s H E) (defBody s_E_InvalidFigures) (tExc K "value" "a value is not the figures of a number") :=
  pss_cons (ps_expr (pe_veinit rfl hVE vV (pa_cons (pv 0) (pa_cons pe_str pa_nil)))) (pss_one (ps_ost (pv 0) (pv 1)))
theorem b_E_InvalidFigures {K : Frag} {a : Addr} {fd : FuncData} (F : FunD K "__init__" "InvalidFigures.__init__" (defArgs s_E_InvalidFigures) (defBody s_E_InvalidFigures) (defScope s_E_InvalidFigures) [] [] a fd) : L2.Binds K fd ["self", "value"] [] := F.bindsN fun _ _ _ _ _ _ us hl => match us, hl with | [_, _], _ => rfl
theorem facts_ {P : Program} {w : World} {K : Frag} {h : Heap} {mg : Str → Option Value} {f : Addr} (X : K.In h) (G : h.Ns mainGlobals mg) (hfa : mg ("law" : Str) = some (.ref f)) (c : SaysP fa_ fn_ tf_ ex_ pr_ w h K) :
    ∃ fd : FuncData, (∀ (s : Shared) (v : Value), BindsTo s fd ⟨[v], []⟩ [("script", v)]) ∧ ∀ base : Heap, K.In base → base.Ns mainGlobals mg → (∀ p ∈ tl_ K, LamX.TabB base mg p.1 p.2) → FnOkG P w K mg base (L2.CX P w) 12 f fd ["script"] (lift ⟨K, P, w, TT_ K⟩ sp_law) := by
  have hT2_law_refused_right : ∀ p ∈ TT_ K, p.1 = (He.cT K ("_law_refused_right", none)).2 → p.2 = ((PyProof.Rows.envOfC "_law_refused_right" (defScope s_law_refused_right) 0 0 .none).qual ++ "<lambda>") := fun p hp _ => by
    rw [List.mem_singleton.mp hp]
  have m_law_pool : mg "_law_pool" = some (.ref (He.ga K "_law_pool")) := He.glo_ok X G (c.d.fact 0 (f := .glo "_law_pool") rfl)
  have m_law_draw : mg "_law_draw" = some (.ref (He.ga K "_law_draw")) := He.glo_ok X G (c.d.fact 1 (f := .glo "_law_draw") rfl)
  have m_law_choose : mg "_law_choose" = some (.ref (He.ga K "_law_choose")) := He.glo_ok X G (c.d.fact 2 (f := .glo "_law_choose") rfl)
  have m_law_then : mg "_law_then" = some (.ref (He.ga K "_law_then")) := He.glo_ok X G (c.d.fact 3 (f := .glo "_law_then") rfl)
  have m_law_updates : mg "_law_updates" = some (.ref (He.ga K "_law_updates")) := He.glo_ok X G (c.d.fact 4 (f := .glo "_law_updates") rfl)
  have m_law_rows : mg "_law_rows" = some (.ref (He.ga K "_law_rows")) := He.glo_ok X G (c.d.fact 5 (f := .glo "_law_rows") rfl)
  have m_law_parts : mg "_law_parts" = some (.ref (He.ga K "_law_parts")) := He.glo_ok X G (c.d.fact 6 (f := .glo "_law_parts") rfl)
  have m_is_integer : mg "is_integer" = some (.ref (He.ga K "is_integer")) := He.glo_ok X G (c.d.fact 7 (f := .glo "is_integer") rfl)
  have m_is_base : mg "is_base" = some (.ref (He.ga K "is_base")) := He.glo_ok X G (c.d.fact 8 (f := .glo "is_base") rfl)
  have m_is_row_like : mg "is_row_like" = some (.ref (He.ga K "is_row_like")) := He.glo_ok X G (c.d.fact 9 (f := .glo "is_row_like") rfl)
  have m_is_name : mg "is_name" = some (.ref (He.ga K "is_name")) := He.glo_ok X G (c.d.fact 10 (f := .glo "is_name") rfl)
  have m_is_between : mg "is_between" = some (.ref (He.ga K "is_between")) := He.glo_ok X G (c.d.fact 11 (f := .glo "is_between") rfl)
  have m_is_term : mg "is_term" = some (.ref (He.ga K "is_term")) := He.glo_ok X G (c.d.fact 12 (f := .glo "is_term") rfl)
  have m_is_register : mg "is_register" = some (.ref (He.ga K "is_register")) := He.glo_ok X G (c.d.fact 13 (f := .glo "is_register") rfl)
  have m_require_registers : mg "require_registers" = some (.ref (He.ga K "require_registers")) := He.glo_ok X G (c.d.fact 14 (f := .glo "require_registers") rfl)
  have m_is_rule : mg "is_rule" = some (.ref (He.ga K "is_rule")) := He.glo_ok X G (c.d.fact 15 (f := .glo "is_rule") rfl)
  have m_is_mode : mg "is_mode" = some (.ref (He.ga K "is_mode")) := He.glo_ok X G (c.d.fact 16 (f := .glo "is_mode") rfl)
  have m_require_modes : mg "require_modes" = some (.ref (He.ga K "require_modes")) := He.glo_ok X G (c.d.fact 17 (f := .glo "require_modes") rfl)
  have m_are_terms : mg "are_terms" = some (.ref (He.ga K "are_terms")) := He.glo_ok X G (c.d.fact 18 (f := .glo "are_terms") rfl)
  have m_are_updates : mg "are_updates" = some (.ref (He.ga K "are_updates")) := He.glo_ok X G (c.d.fact 19 (f := .glo "are_updates") rfl)
  have m_is_line : mg "is_line" = some (.ref (He.ga K "is_line")) := He.glo_ok X G (c.d.fact 20 (f := .glo "is_line") rfl)
  have m_require_rows : mg "require_rows" = some (.ref (He.ga K "require_rows")) := He.glo_ok X G (c.d.fact 21 (f := .glo "require_rows") rfl)
  have m_are_ends : mg "are_ends" = some (.ref (He.ga K "are_ends")) := He.glo_ok X G (c.d.fact 22 (f := .glo "are_ends") rfl)
  have m_require_all : mg "require_all" = some (.ref (He.ga K "require_all")) := He.glo_ok X G (c.d.fact 23 (f := .glo "require_all") rfl)
  have m_law_made : mg "_law_made" = some (.ref (He.ga K "_law_made")) := He.glo_ok X G (c.d.fact 24 (f := .glo "_law_made") rfl)
  have m_law_number : mg "_law_number" = some (.ref (He.ga K "_law_number")) := He.glo_ok X G (c.d.fact 25 (f := .glo "_law_number") rfl)
  have m_law_figures : mg "_law_figures" = some (.ref (He.ga K "_law_figures")) := He.glo_ok X G (c.d.fact 26 (f := .glo "_law_figures") rfl)
  have m_figures_in : mg "figures_in" = some (.ref (He.ga K "figures_in")) := He.glo_ok X G (c.d.fact 27 (f := .glo "figures_in") rfl)
  have m_figures_of : mg "figures_of" = some (.ref (He.ga K "figures_of")) := He.glo_ok X G (c.d.fact 28 (f := .glo "figures_of") rfl)
  have m_is_sign : mg "is_sign" = some (.ref (He.ga K "is_sign")) := He.glo_ok X G (c.d.fact 29 (f := .glo "is_sign") rfl)
  have m_are_figures : mg "are_figures" = some (.ref (He.ga K "are_figures")) := He.glo_ok X G (c.d.fact 30 (f := .glo "are_figures") rfl)
  have m_are_whole_figures : mg "are_whole_figures" = some (.ref (He.ga K "are_whole_figures")) := He.glo_ok X G (c.d.fact 31 (f := .glo "are_whole_figures") rfl)
  have m_size_in : mg "size_in" = some (.ref (He.ga K "size_in")) := He.glo_ok X G (c.d.fact 32 (f := .glo "size_in") rfl)
  have m_number_of : mg "number_of" = some (.ref (He.ga K "number_of")) := He.glo_ok X G (c.d.fact 33 (f := .glo "number_of") rfl)
  have m_law_divide : mg "_law_divide" = some (.ref (He.ga K "_law_divide")) := He.glo_ok X G (c.d.fact 34 (f := .glo "_law_divide") rfl)
  have m_law_line : mg "_law_line" = some (.ref (He.ga K "_law_line")) := He.glo_ok X G (c.d.fact 35 (f := .glo "_law_line") rfl)
  have m_law_next : mg "_law_next" = some (.ref (He.ga K "_law_next")) := He.glo_ok X G (c.d.fact 36 (f := .glo "_law_next") rfl)
  have m_law_run : mg "_law_run" = some (.ref (He.ga K "_law_run")) := He.glo_ok X G (c.d.fact 37 (f := .glo "_law_run") rfl)
  have m_sign_of : mg "sign_of" = some (.ref (He.ga K "sign_of")) := He.glo_ok X G (c.d.fact 38 (f := .glo "sign_of") rfl)
  have m_is_greater : mg "is_greater" = some (.ref (He.ga K "is_greater")) := He.glo_ok X G (c.d.fact 39 (f := .glo "is_greater") rfl)
  have m_divided : mg "divided" = some (.ref (He.ga K "divided")) := He.glo_ok X G (c.d.fact 40 (f := .glo "divided") rfl)
  have m_picked : mg "picked" = some (.ref (He.ga K "picked")) := He.glo_ok X G (c.d.fact 41 (f := .glo "picked") rfl)
  have m_updated : mg "updated" = some (.ref (He.ga K "updated")) := He.glo_ok X G (c.d.fact 42 (f := .glo "updated") rfl)
  have m_run : mg "run" = some (.ref (He.ga K "run")) := He.glo_ok X G (c.d.fact 43 (f := .glo "run") rfl)
  have m_standings : mg "standings" = some (.ref (He.ga K "standings")) := He.glo_ok X G (c.d.fact 44 (f := .glo "standings") rfl)
  have m_require_rule : mg "require_rule" = some (.ref (He.ga K "require_rule")) := He.glo_ok X G (c.d.fact 45 (f := .glo "require_rule") rfl)
  have m_carried : mg "carried" = some (.ref (He.ga K "carried")) := He.glo_ok X G (c.d.fact 46 (f := .glo "carried") rfl)
  have m_carry : mg "carry" = some (.ref (He.ga K "carry")) := He.glo_ok X G (c.d.fact 47 (f := .glo "carry") rfl)
  have m_law_right : mg "_law_right" = some (.ref (He.ga K "_law_right")) := He.glo_ok X G (c.d.fact 48 (f := .glo "_law_right") rfl)
  have m_law_error : mg "_law_error" = some (.ref (He.ga K "_law_error")) := He.glo_ok X G (c.d.fact 49 (f := .glo "_law_error") rfl)
  have m_law_refused_right : mg "_law_refused_right" = some (.ref (He.ga K "_law_refused_right")) := He.glo_ok X G (c.d.fact 50 (f := .glo "_law_refused_right") rfl)
  have m_law : mg "law" = some (.ref (He.ga K "law")) := He.glo_ok X G (c.d.fact 51 (f := .glo "law") rfl)
  have m_InvalidBase : mg "InvalidBase" = some (.ref (He.ga K "InvalidBase")) := He.glo_ok X G (c.d.fact 52 (f := .glo "InvalidBase") rfl)
  have m_InvalidFigures : mg "InvalidFigures" = some (.ref (He.ga K "InvalidFigures")) := He.glo_ok X G (c.d.fact 53 (f := .glo "InvalidFigures") rfl)
  have m_InvalidNumber : mg "InvalidNumber" = some (.ref (He.ga K "InvalidNumber")) := He.glo_ok X G (c.d.fact 54 (f := .glo "InvalidNumber") rfl)
  have m_InvalidSign : mg "InvalidSign" = some (.ref (He.ga K "InvalidSign")) := He.glo_ok X G (c.d.fact 55 (f := .glo "InvalidSign") rfl)
  have m_Loop : mg "Loop" = some (.ref (He.ga K "Loop")) := He.glo_ok X G (c.d.fact 56 (f := .glo "Loop") rfl)
  have m_Program : mg "Program" = some (.ref (He.ga K "Program")) := He.glo_ok X G (c.d.fact 57 (f := .glo "Program") rfl)
  have m_Run : mg "Run" = some (.ref (He.ga K "Run")) := He.glo_ok X G (c.d.fact 58 (f := .glo "Run") rfl)
  obtain ⟨fd_law_pool, F_law_pool⟩ := c.d.def_ 0 (d := dd_law_pool) rfl
  obtain ⟨fd_law_draw, F_law_draw⟩ := c.d.def_ 1 (d := dd_law_draw) rfl
  obtain ⟨fd_law_choose, F_law_choose⟩ := c.d.def_ 2 (d := dd_law_choose) rfl
  obtain ⟨fd_law_then, F_law_then⟩ := c.d.def_ 3 (d := dd_law_then) rfl
  obtain ⟨fd_law_updates, F_law_updates⟩ := c.d.def_ 4 (d := dd_law_updates) rfl
  obtain ⟨fd_law_rows, F_law_rows⟩ := c.d.def_ 5 (d := dd_law_rows) rfl
  obtain ⟨fd_law_parts, F_law_parts⟩ := c.d.def_ 6 (d := dd_law_parts) rfl
  obtain ⟨fd_is_integer, F_is_integer⟩ := c.d.def_ 7 (d := dd_is_integer) rfl
  obtain ⟨fd_is_base, F_is_base⟩ := c.d.def_ 8 (d := dd_is_base) rfl
  obtain ⟨fd_is_row_like, F_is_row_like⟩ := c.d.def_ 9 (d := dd_is_row_like) rfl
  obtain ⟨fd_is_name, F_is_name⟩ := c.d.def_ 10 (d := dd_is_name) rfl
  obtain ⟨fd_is_between, F_is_between⟩ := c.d.def_ 11 (d := dd_is_between) rfl
  obtain ⟨fd_is_term, F_is_term⟩ := c.d.def_ 12 (d := dd_is_term) rfl
  obtain ⟨fd_is_register, F_is_register⟩ := c.d.def_ 13 (d := dd_is_register) rfl
  obtain ⟨fd_require_registers, F_require_registers⟩ := c.d.def_ 14 (d := dd_require_registers) rfl
  obtain ⟨fd_is_rule, F_is_rule⟩ := c.d.def_ 15 (d := dd_is_rule) rfl
  obtain ⟨fd_is_mode, F_is_mode⟩ := c.d.def_ 16 (d := dd_is_mode) rfl
  obtain ⟨fd_require_modes, F_require_modes⟩ := c.d.def_ 17 (d := dd_require_modes) rfl
  obtain ⟨fd_are_terms, F_are_terms⟩ := c.d.def_ 18 (d := dd_are_terms) rfl
  obtain ⟨fd_are_updates, F_are_updates⟩ := c.d.def_ 19 (d := dd_are_updates) rfl
  obtain ⟨fd_is_line, F_is_line⟩ := c.d.def_ 20 (d := dd_is_line) rfl
  obtain ⟨fd_require_rows, F_require_rows⟩ := c.d.def_ 21 (d := dd_require_rows) rfl
  obtain ⟨fd_are_ends, F_are_ends⟩ := c.d.def_ 22 (d := dd_are_ends) rfl
  obtain ⟨fd_require_all, F_require_all⟩ := c.d.def_ 23 (d := dd_require_all) rfl
  obtain ⟨fd_law_made, F_law_made⟩ := c.d.def_ 24 (d := dd_law_made) rfl
  obtain ⟨fd_law_number, F_law_number⟩ := c.d.def_ 25 (d := dd_law_number) rfl
  obtain ⟨fd_law_figures, F_law_figures⟩ := c.d.def_ 26 (d := dd_law_figures) rfl
  obtain ⟨fd_figures_in, F_figures_in⟩ := c.d.def_ 27 (d := dd_figures_in) rfl
  obtain ⟨fd_figures_of, F_figures_of⟩ := c.d.def_ 28 (d := dd_figures_of) rfl
  obtain ⟨fd_is_sign, F_is_sign⟩ := c.d.def_ 29 (d := dd_is_sign) rfl
  obtain ⟨fd_are_figures, F_are_figures⟩ := c.d.def_ 30 (d := dd_are_figures) rfl
  obtain ⟨fd_are_whole_figures, F_are_whole_figures⟩ := c.d.def_ 31 (d := dd_are_whole_figures) rfl
  obtain ⟨fd_size_in, F_size_in⟩ := c.d.def_ 32 (d := dd_size_in) rfl
  obtain ⟨fd_number_of, F_number_of⟩ := c.d.def_ 33 (d := dd_number_of) rfl
  obtain ⟨fd_law_divide, F_law_divide⟩ := c.d.def_ 34 (d := dd_law_divide) rfl
  obtain ⟨fd_law_line, F_law_line⟩ := c.d.def_ 35 (d := dd_law_line) rfl
  obtain ⟨fd_law_next, F_law_next⟩ := c.d.def_ 36 (d := dd_law_next) rfl
  obtain ⟨fd_law_run, F_law_run⟩ := c.d.def_ 37 (d := dd_law_run) rfl
  obtain ⟨fd_sign_of, F_sign_of⟩ := c.d.def_ 38 (d := dd_sign_of) rfl
  obtain ⟨fd_is_greater, F_is_greater⟩ := c.d.def_ 39 (d := dd_is_greater) rfl
  obtain ⟨fd_divided, F_divided⟩ := c.d.def_ 40 (d := dd_divided) rfl
  obtain ⟨fd_picked, F_picked⟩ := c.d.def_ 41 (d := dd_picked) rfl
  obtain ⟨fd_updated, F_updated⟩ := c.d.def_ 42 (d := dd_updated) rfl
  obtain ⟨fd_run, F_run⟩ := c.d.def_ 43 (d := dd_run) rfl
  obtain ⟨fd_standings, F_standings⟩ := c.d.def_ 44 (d := dd_standings) rfl
  obtain ⟨fd_require_rule, F_require_rule⟩ := c.d.def_ 45 (d := dd_require_rule) rfl
  obtain ⟨fd_carried, F_carried⟩ := c.d.def_ 46 (d := dd_carried) rfl
  obtain ⟨fd_carry, F_carry⟩ := c.d.def_ 47 (d := dd_carry) rfl
  obtain ⟨fd_law_right, F_law_right⟩ := c.d.def_ 48 (d := dd_law_right) rfl
  obtain ⟨fd_law_error, F_law_error⟩ := c.d.def_ 49 (d := dd_law_error) rfl
  obtain ⟨fd_law_refused_right, F_law_refused_right⟩ := c.d.def_ 50 (d := dd_law_refused_right) rfl
  obtain ⟨fd_law, F_law⟩ := c.d.def_ 51 (d := dd_law) rfl
  obtain ⟨fd_Program___init__, F_Program___init__⟩ := c.d.def_ 52 (d := dd_Program___init__) rfl
  obtain ⟨fd_Run_rounds, F_Run_rounds⟩ := c.d.def_ 53 (d := dd_Run_rounds) rfl
  obtain ⟨fd_Program_first_row, F_Program_first_row⟩ := c.d.def_ 54 (d := dd_Program_first_row) rfl
  obtain ⟨fd_Loop___init__, F_Loop___init__⟩ := c.d.def_ 55 (d := dd_Loop___init__) rfl
  obtain ⟨fd_Loop_go_on, F_Loop_go_on⟩ := c.d.def_ 56 (d := dd_Loop_go_on) rfl
  obtain ⟨fd_Run___init__, F_Run___init__⟩ := c.d.def_ 57 (d := dd_Run___init__) rfl
  obtain ⟨fd_Program_require_mode, F_Program_require_mode⟩ := c.d.def_ 58 (d := dd_Program_require_mode) rfl
  obtain ⟨fd_Program_rule_of, F_Program_rule_of⟩ := c.d.def_ 59 (d := dd_Program_rule_of) rfl
  obtain ⟨fd_E_InvalidNumber, F_E_InvalidNumber⟩ := c.d.def_ 60 (d := dd_E_InvalidNumber) rfl
  obtain ⟨fd_E_InvalidBase, F_E_InvalidBase⟩ := c.d.def_ 61 (d := dd_E_InvalidBase) rfl
  obtain ⟨fd_E_InvalidSign, F_E_InvalidSign⟩ := c.d.def_ 62 (d := dd_E_InvalidSign) rfl
  obtain ⟨fd_E_InvalidFigures, F_E_InvalidFigures⟩ := c.d.def_ 63 (d := dd_E_InvalidFigures) rfl
  obtain ⟨p_Program_size, fd_Program_size, F_Program_size⟩ := c.prop 0 (d := dd_Program_size) rfl
  obtain ⟨p_Program_base, fd_Program_base, F_Program_base⟩ := c.prop 1 (d := dd_Program_base) rfl
  have B : Bt mg := ⟨He.free_ok X G (c.d.fact 59 (f := .free "abs") rfl), He.free_ok X G (c.d.fact 60 (f := .free "all") rfl), He.free_ok X G (c.d.fact 61 (f := .free "bool") rfl), He.free_ok X G (c.d.fact 62 (f := .free "dict") rfl), He.free_ok X G (c.d.fact 63 (f := .free "divmod") rfl), He.free_ok X G (c.d.fact 64 (f := .free "enumerate") rfl), He.free_ok X G (c.d.fact 65 (f := .free "int") rfl), He.free_ok X G (c.d.fact 66 (f := .free "isinstance") rfl), He.free_ok X G (c.d.fact 67 (f := .free "len") rfl), He.free_ok X G (c.d.fact 68 (f := .free "list") rfl), He.free_ok X G (c.d.fact 69 (f := .free "max") rfl), He.free_ok X G (c.d.fact 70 (f := .free "min") rfl), He.free_ok X G (c.d.fact 71 (f := .free "range") rfl), He.free_ok X G (c.d.fact 72 (f := .free "repr") rfl), He.free_ok X G (c.d.fact 73 (f := .free "str") rfl), He.free_ok X G (c.d.fact 74 (f := .free "sum") rfl), He.free_ok X G (c.d.fact 75 (f := .free "tuple") rfl), He.free_ok X G (c.d.fact 76 (f := .free "zip") rfl)⟩
  have g_GREATEST := He.int_ok X G (c.d.fact 77 (f := .int "GREATEST" 1000000) rfl)
  have g_LETTERS := He.str_ok X G (c.d.fact 78 (f := .str "LETTERS" "abcdefghijklmnopqrstuvwxyz") rfl)
  have g_RULES : mg "RULES" = some (.ref (He.ga K "RULES")) := He.glo_ok X G (c.d.fact 79 (f := .glo "RULES") rfl)
  have tb_RULES : TabRULES K := fun H => He.tupB_ok ((He.ba c.own).1) H
  have k_Loop : Cls K (He.ga K "Loop") := He.cls_ok (c.d.fact 80 (f := .cls "Loop") rfl)
  have k_Program : Cls K (He.ga K "Program") := He.cls_ok (c.d.fact 81 (f := .cls "Program") rfl)
  have k_Run : Cls K (He.ga K "Run") := He.cls_ok (c.d.fact 82 (f := .cls "Run") rfl)
  have er_InvalidNumber := errB_ok (p := ("InvalidNumber", "value")) ((He.ba (He.ba c.own).2).1)
  have x_InvalidNumber := er_InvalidNumber.1
  have xf_InvalidNumber := er_InvalidNumber.2.2.2
  have no_InvalidNumber := er_InvalidNumber.1.nf
  have er_InvalidBase := errB_ok (p := ("InvalidBase", "value")) ((He.ba (He.ba (He.ba c.own).2).2).1)
  have x_InvalidBase := er_InvalidBase.1
  have xf_InvalidBase := er_InvalidBase.2.2.2
  have no_InvalidBase := er_InvalidBase.1.nf
  have er_InvalidSign := errB_ok (p := ("InvalidSign", "value")) ((He.ba (He.ba (He.ba (He.ba c.own).2).2).2).1)
  have x_InvalidSign := er_InvalidSign.1
  have xf_InvalidSign := er_InvalidSign.2.2.2
  have no_InvalidSign := er_InvalidSign.1.nf
  have er_InvalidFigures := errB_ok (p := ("InvalidFigures", "value")) ((He.ba (He.ba (He.ba (He.ba (He.ba c.own).2).2).2).2).1)
  have x_InvalidFigures := er_InvalidFigures.1
  have xf_InvalidFigures := er_InvalidFigures.2.2.2
  have no_InvalidFigures := er_InvalidFigures.1.nf
  have hVE : mg "ValueError" = none := He.free_ok X G (c.d.fact 83 (f := .free "ValueError") rfl)
  have vV := veB_ok ((He.ba (He.ba (He.ba (He.ba (He.ba (He.ba c.own).2).2).2).2).2).1)
  have tx_law_error := toldB_ok (cl := cl_law_error) ((He.ba (He.ba (He.ba (He.ba (He.ba (He.ba c.own).2).2).2).2).2).2)
  have fl : FlOk ⟨K, P, w, TT_ K⟩ flds := ⟨fun C f h => by
    have h := List.contains_iff_mem.mp h
    simp only [flds, List.mem_cons, Prod.mk.injEq, List.not_mem_nil, or_false] at h
    rcases h with ⟨rfl, rfl⟩ | ⟨rfl, rfl⟩ | ⟨rfl, rfl⟩ | ⟨rfl, rfl⟩ | ⟨rfl, rfl⟩ | ⟨rfl, rfl⟩ | ⟨rfl, rfl⟩ | ⟨rfl, rfl⟩ | ⟨rfl, rfl⟩ | ⟨rfl, rfl⟩ | ⟨rfl, rfl⟩ | ⟨rfl, rfl⟩ | ⟨rfl, rfl⟩ | ⟨rfl, rfl⟩ | ⟨rfl, rfl⟩ | ⟨rfl, rfl⟩
    · exact ⟨k_Loop, He.noat_ok (c.d.fact 84 (f := .noat "Loop" "own_program") rfl)⟩
    · exact ⟨k_Loop, He.noat_ok (c.d.fact 85 (f := .noat "Loop" "own_mode") rfl)⟩
    · exact ⟨k_Loop, He.noat_ok (c.d.fact 86 (f := .noat "Loop" "own_x") rfl)⟩
    · exact ⟨k_Loop, He.noat_ok (c.d.fact 87 (f := .noat "Loop" "own_values") rfl)⟩
    · exact ⟨k_Loop, He.noat_ok (c.d.fact 88 (f := .noat "Loop" "own_how") rfl)⟩
    · exact ⟨k_Run, He.noat_ok (c.d.fact 89 (f := .noat "Run" "own_key") rfl)⟩
    · exact ⟨k_Run, He.noat_ok (c.d.fact 90 (f := .noat "Run" "own_rounds") rfl)⟩
    · exact ⟨k_Run, He.noat_ok (c.d.fact 91 (f := .noat "Run" "own_values") rfl)⟩
    · exact ⟨k_Run, He.noat_ok (c.d.fact 92 (f := .noat "Run" "own_loop") rfl)⟩
    · exact ⟨k_Program, He.noat_ok (c.d.fact 93 (f := .noat "Program" "own_base") rfl)⟩
    · exact ⟨k_Program, He.noat_ok (c.d.fact 94 (f := .noat "Program" "own_registers") rfl)⟩
    · exact ⟨k_Program, He.noat_ok (c.d.fact 95 (f := .noat "Program" "own_names") rfl)⟩
    · exact ⟨k_Program, He.noat_ok (c.d.fact 96 (f := .noat "Program" "own_rules") rfl)⟩
    · exact ⟨k_Program, He.noat_ok (c.d.fact 97 (f := .noat "Program" "own_rows") rfl)⟩
    · exact ⟨k_Program, He.noat_ok (c.d.fact 98 (f := .noat "Program" "own_ends") rfl)⟩
    · exact ⟨k_Program, He.noat_ok (c.d.fact 99 (f := .noat "Program" "own_result") rfl)⟩⟩
  have e_InvalidNumber : ∀ base : Heap, ExX P w K mg base 1 "InvalidNumber" "value" := fun base => exX_of F_E_InvalidNumber sc_E_InvalidNumber rfl rfl (b_E_InvalidNumber F_E_InvalidNumber) m_InvalidNumber ((He.ba (He.ba c.own).2).1) fun cdv A outer s H E => der_E_InvalidNumber hVE vV cdv A outer s H E
  have e_InvalidBase : ∀ base : Heap, ExX P w K mg base 1 "InvalidBase" "value" := fun base => exX_of F_E_InvalidBase sc_E_InvalidBase rfl rfl (b_E_InvalidBase F_E_InvalidBase) m_InvalidBase ((He.ba (He.ba (He.ba c.own).2).2).1) fun cdv A outer s H E => der_E_InvalidBase hVE vV cdv A outer s H E
  have e_InvalidSign : ∀ base : Heap, ExX P w K mg base 1 "InvalidSign" "value" := fun base => exX_of F_E_InvalidSign sc_E_InvalidSign rfl rfl (b_E_InvalidSign F_E_InvalidSign) m_InvalidSign ((He.ba (He.ba (He.ba (He.ba c.own).2).2).2).1) fun cdv A outer s H E => der_E_InvalidSign hVE vV cdv A outer s H E
  have e_InvalidFigures : ∀ base : Heap, ExX P w K mg base 1 "InvalidFigures" "value" := fun base => exX_of F_E_InvalidFigures sc_E_InvalidFigures rfl rfl (b_E_InvalidFigures F_E_InvalidFigures) m_InvalidFigures ((He.ba (He.ba (He.ba (He.ba (He.ba c.own).2).2).2).2).1) fun cdv A outer s H E => der_E_InvalidFigures hVE vV cdv A outer s H E
  have c_law_pool : ∀ base : Heap, CalX P w K mg base 1 "_law_pool" (lift ⟨K, P, w, TT_ K⟩ sp_law_pool) := fun base => ⟨⟨_, _, _, f_law_pool B F_law_pool, m_law_pool, F_law_pool.kp, b_law_pool F_law_pool⟩⟩
  have c_law_draw : ∀ base : Heap, CalX P w K mg base 1 "_law_draw" (lift ⟨K, P, w, TT_ K⟩ sp_law_draw) := fun base => ⟨⟨_, _, _, f_law_draw B F_law_draw, m_law_draw, F_law_draw.kp, b_law_draw F_law_draw⟩⟩
  have c_law_choose : ∀ base : Heap, CalX P w K mg base 2 "_law_choose" (lift ⟨K, P, w, TT_ K⟩ sp_law_choose) := fun base => ⟨⟨_, _, _, f_law_choose B (c_law_draw base) F_law_choose, m_law_choose, F_law_choose.kp, b_law_choose F_law_choose⟩⟩
  have c_law_then : ∀ base : Heap, CalX P w K mg base 3 "_law_then" (lift ⟨K, P, w, TT_ K⟩ sp_law_then) := fun base => ⟨⟨_, _, _, f_law_then (c_law_draw base) (c_law_choose base) F_law_then, m_law_then, F_law_then.kp, b_law_then F_law_then⟩⟩
  have c_law_updates : ∀ base : Heap, CalX P w K mg base 2 "_law_updates" (lift ⟨K, P, w, TT_ K⟩ sp_law_updates) := fun base => ⟨⟨_, _, _, f_law_updates B (c_law_draw base) F_law_updates, m_law_updates, F_law_updates.kp, b_law_updates F_law_updates⟩⟩
  have c_law_rows : ∀ base : Heap, CalX P w K mg base 4 "_law_rows" (lift ⟨K, P, w, TT_ K⟩ sp_law_rows) := fun base => ⟨⟨_, _, _, f_law_rows B (c_law_draw base) (c_law_choose base) (c_law_then base) (c_law_updates base) F_law_rows, m_law_rows, F_law_rows.kp, b_law_rows F_law_rows⟩⟩
  have c_law_parts : ∀ base : Heap, CalX P w K mg base 5 "_law_parts" (lift ⟨K, P, w, TT_ K⟩ sp_law_parts) := fun base => ⟨⟨_, _, _, f_law_parts B (c_law_choose base) (c_law_draw base) (c_law_rows base) F_law_parts, m_law_parts, F_law_parts.kp, b_law_parts F_law_parts⟩⟩
  have c_is_integer : ∀ base : Heap, CalX P w K mg base 1 "is_integer" (lift ⟨K, P, w, TT_ K⟩ sp_is_integer) := fun base => ⟨⟨_, _, _, f_is_integer B F_is_integer, m_is_integer, F_is_integer.kp, b_is_integer F_is_integer⟩⟩
  have c_is_base : ∀ base : Heap, CalX P w K mg base 2 "is_base" (lift ⟨K, P, w, TT_ K⟩ sp_is_base) := fun base => ⟨⟨_, _, _, f_is_base B (c_is_integer base) F_is_base, m_is_base, F_is_base.kp, b_is_base F_is_base⟩⟩
  have c_is_row_like : ∀ base : Heap, CalX P w K mg base 1 "is_row_like" (lift ⟨K, P, w, TT_ K⟩ sp_is_row_like) := fun base => ⟨⟨_, _, _, f_is_row_like B F_is_row_like, m_is_row_like, F_is_row_like.kp, b_is_row_like F_is_row_like⟩⟩
  have c_is_name : ∀ base : Heap, CalX P w K mg base 1 "is_name" (lift ⟨K, P, w, TT_ K⟩ sp_is_name) := fun base => ⟨⟨_, _, _, f_is_name B g_LETTERS F_is_name, m_is_name, F_is_name.kp, b_is_name F_is_name⟩⟩
  have c_is_between : ∀ base : Heap, CalX P w K mg base 2 "is_between" (lift ⟨K, P, w, TT_ K⟩ sp_is_between) := fun base => ⟨⟨_, _, _, f_is_between (c_is_integer base) F_is_between, m_is_between, F_is_between.kp, b_is_between F_is_between⟩⟩
  have c_is_term : ∀ base : Heap, CalX P w K mg base 3 "is_term" (lift ⟨K, P, w, TT_ K⟩ sp_is_term) := fun base => ⟨⟨_, _, _, f_is_term (c_is_between base) g_GREATEST F_is_term, m_is_term, F_is_term.kp, b_is_term F_is_term⟩⟩
  have c_is_register : ∀ base : Heap, CalX P w K mg base 4 "is_register" (lift ⟨K, P, w, TT_ K⟩ sp_is_register) := fun base => ⟨⟨_, _, _, f_is_register B (c_is_name base) (c_is_term base) F_is_register, m_is_register, F_is_register.kp, b_is_register F_is_register⟩⟩
  have c_require_registers : ∀ base : Heap, CalX P w K mg base 5 "require_registers" (lift ⟨K, P, w, TT_ K⟩ sp_require_registers) := fun base => ⟨⟨_, _, _, f_require_registers B (c_is_row_like base) (c_is_register base) F_require_registers, m_require_registers, F_require_registers.kp, b_require_registers F_require_registers⟩⟩
  have c_is_rule : ∀ base : Heap, CalX P w K mg base 1 "is_rule" (lift ⟨K, P, w, TT_ K⟩ sp_is_rule) := fun base => ⟨⟨_, _, _, f_is_rule B g_RULES tb_RULES F_is_rule, m_is_rule, F_is_rule.kp, b_is_rule F_is_rule⟩⟩
  have c_is_mode : ∀ base : Heap, CalX P w K mg base 2 "is_mode" (lift ⟨K, P, w, TT_ K⟩ sp_is_mode) := fun base => ⟨⟨_, _, _, f_is_mode B (c_is_name base) (c_is_rule base) (c_is_row_like base) F_is_mode, m_is_mode, F_is_mode.kp, b_is_mode F_is_mode⟩⟩
  have c_require_modes : ∀ base : Heap, CalX P w K mg base 3 "require_modes" (lift ⟨K, P, w, TT_ K⟩ sp_require_modes) := fun base => ⟨⟨_, _, _, f_require_modes B (c_is_row_like base) (c_is_mode base) F_require_modes, m_require_modes, F_require_modes.kp, b_require_modes F_require_modes⟩⟩
  have c_are_terms : ∀ base : Heap, CalX P w K mg base 4 "are_terms" (lift ⟨K, P, w, TT_ K⟩ sp_are_terms) := fun base => ⟨⟨_, _, _, f_are_terms B (c_is_term base) F_are_terms, m_are_terms, F_are_terms.kp, b_are_terms F_are_terms⟩⟩
  have c_are_updates : ∀ base : Heap, CalX P w K mg base 5 "are_updates" (lift ⟨K, P, w, TT_ K⟩ sp_are_updates) := fun base => ⟨⟨_, _, _, f_are_updates B (c_are_terms base) F_are_updates, m_are_updates, F_are_updates.kp, b_are_updates F_are_updates⟩⟩
  have c_is_line : ∀ base : Heap, CalX P w K mg base 6 "is_line" (lift ⟨K, P, w, TT_ K⟩ sp_is_line) := fun base => ⟨⟨_, _, _, f_is_line B (c_is_between base) (c_is_integer base) (c_are_updates base) F_is_line, m_is_line, F_is_line.kp, b_is_line F_is_line⟩⟩
  have c_require_rows : ∀ base : Heap, CalX P w K mg base 7 "require_rows" (lift ⟨K, P, w, TT_ K⟩ sp_require_rows) := fun base => ⟨⟨_, _, _, f_require_rows B (c_is_line base) F_require_rows, m_require_rows, F_require_rows.kp, b_require_rows F_require_rows⟩⟩
  have c_are_ends : ∀ base : Heap, CalX P w K mg base 2 "are_ends" (lift ⟨K, P, w, TT_ K⟩ sp_are_ends) := fun base => ⟨⟨_, _, _, f_are_ends B (c_is_row_like base) (c_is_integer base) F_are_ends, m_are_ends, F_are_ends.kp, b_are_ends F_are_ends⟩⟩
  have c_require_all : ∀ base : Heap, CalX P w K mg base 8 "require_all" (lift ⟨K, P, w, TT_ K⟩ sp_require_all) := fun base => ⟨⟨_, _, _, f_require_all B (c_is_base base) (c_require_registers base) (c_require_modes base) (c_require_rows base) (c_are_ends base) (c_are_terms base) F_require_all, m_require_all, F_require_all.kp, b_require_all F_require_all⟩⟩
  have c_Program___init__ : ∀ base : Heap, MakX P w K mg base 9 "Program" (lift ⟨K, P, w, TT_ K⟩ sp_Program___init__) := fun base => ⟨⟨_, _, _, f_Program___init__ B (c_require_all base) fl F_Program___init__, He.mkr_ok (c.d.fact 100 (f := .mkr "Program") rfl), m_Program, b_Program___init__ F_Program___init__⟩⟩
  have c_law_made : ∀ base : Heap, CalX P w K mg base 11 "_law_made" (lift ⟨K, P, w, TT_ K⟩ sp_law_made) := fun base => ⟨⟨_, _, _, f_law_made (c_Program___init__ base) F_law_made, m_law_made, F_law_made.kp, b_law_made F_law_made⟩⟩
  have c_law_number : ∀ base : Heap, CalX P w K mg base 3 "_law_number" (lift ⟨K, P, w, TT_ K⟩ sp_law_number) := fun base => ⟨⟨_, _, _, f_law_number (c_law_draw base) (c_law_choose base) F_law_number, m_law_number, F_law_number.kp, b_law_number F_law_number⟩⟩
  have c_law_figures : ∀ base : Heap, CalX P w K mg base 1 "_law_figures" (lift ⟨K, P, w, TT_ K⟩ sp_law_figures) := fun base => ⟨⟨_, _, _, f_law_figures B F_law_figures, m_law_figures, F_law_figures.kp, b_law_figures F_law_figures⟩⟩
  have c_figures_in : ∀ base : Heap, CalX P w K mg base 1 "figures_in" (lift ⟨K, P, w, TT_ K⟩ sp_figures_in) := fun base => ⟨⟨_, _, _, f_figures_in B F_figures_in, m_figures_in, F_figures_in.kp, b_figures_in F_figures_in⟩⟩
  have c_figures_of : ∀ base : Heap, CalX P w K mg base 3 "figures_of" (lift ⟨K, P, w, TT_ K⟩ sp_figures_of) := fun base => ⟨⟨_, _, _, f_figures_of (c_is_integer base) (c_is_between base) (c_figures_in base) (e_InvalidNumber base) (e_InvalidBase base) x_InvalidNumber x_InvalidBase F_figures_of, m_figures_of, F_figures_of.kp, b_figures_of F_figures_of⟩⟩
  have c_is_sign : ∀ base : Heap, CalX P w K mg base 2 "is_sign" (lift ⟨K, P, w, TT_ K⟩ sp_is_sign) := fun base => ⟨⟨_, _, _, f_is_sign (c_is_integer base) F_is_sign, m_is_sign, F_is_sign.kp, b_is_sign F_is_sign⟩⟩
  have c_are_figures : ∀ base : Heap, CalX P w K mg base 3 "are_figures" (lift ⟨K, P, w, TT_ K⟩ sp_are_figures) := fun base => ⟨⟨_, _, _, f_are_figures B (c_is_between base) F_are_figures, m_are_figures, F_are_figures.kp, b_are_figures F_are_figures⟩⟩
  have c_are_whole_figures : ∀ base : Heap, CalX P w K mg base 4 "are_whole_figures" (lift ⟨K, P, w, TT_ K⟩ sp_are_whole_figures) := fun base => ⟨⟨_, _, _, f_are_whole_figures (c_are_figures base) F_are_whole_figures, m_are_whole_figures, F_are_whole_figures.kp, b_are_whole_figures F_are_whole_figures⟩⟩
  have c_size_in : ∀ base : Heap, CalX P w K mg base 1 "size_in" (lift ⟨K, P, w, TT_ K⟩ sp_size_in) := fun base => ⟨⟨_, _, _, f_size_in  F_size_in, m_size_in, F_size_in.kp, b_size_in F_size_in⟩⟩
  have c_number_of : ∀ base : Heap, CalX P w K mg base 5 "number_of" (lift ⟨K, P, w, TT_ K⟩ sp_number_of) := fun base => ⟨⟨_, _, _, f_number_of (c_is_sign base) (c_is_between base) (c_are_whole_figures base) (c_size_in base) (e_InvalidSign base) (e_InvalidBase base) (e_InvalidFigures base) x_InvalidSign x_InvalidBase x_InvalidFigures F_number_of, m_number_of, F_number_of.kp, b_number_of F_number_of⟩⟩
  have c_law_divide : ∀ base : Heap, CalX P w K mg base 1 "_law_divide" (lift ⟨K, P, w, TT_ K⟩ sp_law_divide) := fun base => ⟨⟨_, _, _, f_law_divide B F_law_divide, m_law_divide, F_law_divide.kp, b_law_divide F_law_divide⟩⟩
  have c_law_line : ∀ base : Heap, CalX P w K mg base 1 "_law_line" (lift ⟨K, P, w, TT_ K⟩ sp_law_line) := fun base => ⟨⟨_, _, _, f_law_line  F_law_line, m_law_line, F_law_line.kp, b_law_line F_law_line⟩⟩
  have c_law_next : ∀ base : Heap, CalX P w K mg base 1 "_law_next" (lift ⟨K, P, w, TT_ K⟩ sp_law_next) := fun base => ⟨⟨_, _, _, f_law_next B F_law_next, m_law_next, F_law_next.kp, b_law_next F_law_next⟩⟩
  have c_law_run : ∀ base : Heap, CalX P w K mg base 2 "_law_run" (lift ⟨K, P, w, TT_ K⟩ sp_law_run) := fun base => ⟨⟨_, _, _, f_law_run B (c_law_divide base) (c_law_line base) (c_law_next base) F_law_run, m_law_run, F_law_run.kp, b_law_run F_law_run⟩⟩
  have c_Run_rounds : ∀ base : Heap, MetX P w K mg base 1 "Run" "rounds" (lift ⟨K, P, w, TT_ K⟩ sp_Run_rounds) := fun base => ⟨⟨_, _, _, f_Run_rounds B fl F_Run_rounds, k_Run, He.meth_ok (c.d.fact 101 (f := .meth "Run" "rounds") rfl), b_Run_rounds F_Run_rounds⟩⟩
  have c_Program_first_row : ∀ base : Heap, MetX P w K mg base 1 "Program" "first_row" (lift ⟨K, P, w, TT_ K⟩ sp_Program_first_row) := fun base => ⟨⟨_, _, _, f_Program_first_row fl F_Program_first_row, k_Program, He.meth_ok (c.d.fact 102 (f := .meth "Program" "first_row") rfl), b_Program_first_row F_Program_first_row⟩⟩
  have c_Loop___init__ : ∀ base : Heap, MakX P w K mg base 2 "Loop" (lift ⟨K, P, w, TT_ K⟩ sp_Loop___init__) := fun base => ⟨⟨_, _, _, f_Loop___init__ (c_Program_first_row base) fl F_Loop___init__, He.mkr_ok (c.d.fact 103 (f := .mkr "Loop") rfl), m_Loop, b_Loop___init__ F_Loop___init__⟩⟩
  have c_sign_of : ∀ base : Heap, CalX P w K mg base 1 "sign_of" (lift ⟨K, P, w, TT_ K⟩ sp_sign_of) := fun base => ⟨⟨_, _, _, f_sign_of B F_sign_of, m_sign_of, F_sign_of.kp, b_sign_of F_sign_of⟩⟩
  have c_is_greater : ∀ base : Heap, CalX P w K mg base 1 "is_greater" (lift ⟨K, P, w, TT_ K⟩ sp_is_greater) := fun base => ⟨⟨_, _, _, f_is_greater  F_is_greater, m_is_greater, F_is_greater.kp, b_is_greater F_is_greater⟩⟩
  have c_divided : ∀ base : Heap, CalX P w K mg base 2 "divided" (lift ⟨K, P, w, TT_ K⟩ sp_divided) := fun base => ⟨⟨_, _, _, f_divided B (c_sign_of base) (c_is_greater base) F_divided, m_divided, F_divided.kp, b_divided F_divided⟩⟩
  have c_picked : ∀ base : Heap, CalX P w K mg base 1 "picked" (lift ⟨K, P, w, TT_ K⟩ sp_picked) := fun base => ⟨⟨_, _, _, f_picked  F_picked, m_picked, F_picked.kp, b_picked F_picked⟩⟩
  have c_updated : ∀ base : Heap, CalX P w K mg base 1 "updated" (lift ⟨K, P, w, TT_ K⟩ sp_updated) := fun base => ⟨⟨_, _, _, f_updated B F_updated, m_updated, F_updated.kp, b_updated F_updated⟩⟩
  have c_Loop_go_on : ∀ base : Heap, MetX P w K mg base 3 "Loop" "go_on" (lift ⟨K, P, w, TT_ K⟩ sp_Loop_go_on) := fun base => ⟨⟨_, _, _, f_Loop_go_on (c_divided base) (c_picked base) (c_sign_of base) (c_updated base) fl F_Loop_go_on, k_Loop, He.meth_ok (c.d.fact 104 (f := .meth "Loop" "go_on") rfl), b_Loop_go_on F_Loop_go_on⟩⟩
  have c_Run___init__ : ∀ base : Heap, MakX P w K mg base 1 "Run" (lift ⟨K, P, w, TT_ K⟩ sp_Run___init__) := fun base => ⟨⟨_, _, _, f_Run___init__ fl F_Run___init__, He.mkr_ok (c.d.fact 105 (f := .mkr "Run") rfl), m_Run, b_Run___init__ F_Run___init__⟩⟩
  have c_run : ∀ base : Heap, CalX P w K mg base 4 "run" (lift ⟨K, P, w, TT_ K⟩ sp_run) := fun base => ⟨⟨_, _, _, f_run (c_is_integer base) (c_Loop___init__ base) (c_Loop_go_on base) (c_Run___init__ base) fl F_run, m_run, F_run.kp, b_run F_run⟩⟩
  have c_Program_size : ∀ base : Heap, PrpX P w K mg base 1 "Program" "size" (lift ⟨K, P, w, TT_ K⟩ sp_Program_size) := fun base => ⟨⟨_, _, _, _, f_Program_size B fl F_Program_size, k_Program, p_Program_size, b_Program_size F_Program_size⟩⟩
  have c_Program_base : ∀ base : Heap, PrpX P w K mg base 1 "Program" "base" (lift ⟨K, P, w, TT_ K⟩ sp_Program_base) := fun base => ⟨⟨_, _, _, _, f_Program_base fl F_Program_base, k_Program, p_Program_base, b_Program_base F_Program_base⟩⟩
  have c_standings : ∀ base : Heap, CalX P w K mg base 5 "standings" (lift ⟨K, P, w, TT_ K⟩ sp_standings) := fun base => ⟨⟨_, _, _, f_standings B (c_Run_rounds base) (c_run base) (c_Program_size base) (c_Program_base base) F_standings, m_standings, F_standings.kp, b_standings F_standings⟩⟩
  have c_require_rule : ∀ base : Heap, CalX P w K mg base 2 "require_rule" (lift ⟨K, P, w, TT_ K⟩ sp_require_rule) := fun base => ⟨⟨_, _, _, f_require_rule (c_is_rule base) F_require_rule, m_require_rule, F_require_rule.kp, b_require_rule F_require_rule⟩⟩
  have c_carried : ∀ base : Heap, CalX P w K mg base 2 "carried" (lift ⟨K, P, w, TT_ K⟩ sp_carried) := fun base => ⟨⟨_, _, _, f_carried B (c_is_greater base) (c_sign_of base) F_carried, m_carried, F_carried.kp, b_carried F_carried⟩⟩
  have c_carry : ∀ base : Heap, CalX P w K mg base 3 "carry" (lift ⟨K, P, w, TT_ K⟩ sp_carry) := fun base => ⟨⟨_, _, _, f_carry B (c_require_rule base) (c_is_sign base) (c_is_base base) (c_is_between base) (c_carried base) F_carry, m_carry, F_carry.kp, b_carry F_carry⟩⟩
  have c_Program_require_mode : ∀ base : Heap, MetX P w K mg base 1 "Program" "require_mode" (lift ⟨K, P, w, TT_ K⟩ sp_Program_require_mode) := fun base => ⟨⟨_, _, _, f_Program_require_mode B fl F_Program_require_mode, k_Program, He.meth_ok (c.d.fact 106 (f := .meth "Program" "require_mode") rfl), b_Program_require_mode F_Program_require_mode⟩⟩
  have c_Program_rule_of : ∀ base : Heap, MetX P w K mg base 2 "Program" "rule_of" (lift ⟨K, P, w, TT_ K⟩ sp_Program_rule_of) := fun base => ⟨⟨_, _, _, f_Program_rule_of (c_Program_require_mode base) fl F_Program_rule_of, k_Program, He.meth_ok (c.d.fact 107 (f := .meth "Program" "rule_of") rfl), b_Program_rule_of F_Program_rule_of⟩⟩
  have c_law_right : ∀ base : Heap, CalX P w K mg base 6 "_law_right" (lift ⟨K, P, w, TT_ K⟩ sp_law_right) := fun base => ⟨⟨_, _, _, f_law_right B (c_law_run base) (c_standings base) (c_law_figures base) (c_number_of base) (c_carry base) (c_Program_rule_of base) F_law_right, m_law_right, F_law_right.kp, b_law_right F_law_right⟩⟩
  have c_law_refused_right : ∀ base : Heap, (∀ p ∈ tl_ K, LamX.TabB base mg p.1 p.2) → CalG P w K mg base 8 "_law_refused_right" (lift ⟨K, P, w, TT_ K⟩ sp_law_refused_right) := fun base tabs => ⟨⟨_, _, _, f_law_refused_right B (c_figures_of base) (c_number_of base) F_law_error m_law_error (b_law_error F_law_error) m_InvalidNumber xf_InvalidNumber no_InvalidNumber m_InvalidSign xf_InvalidSign no_InvalidSign m_InvalidBase xf_InvalidBase no_InvalidBase m_InvalidFigures xf_InvalidFigures no_InvalidFigures (tabs _ (.head _)) (.head _) (hT2_law_refused_right) tx_law_error F_law_refused_right (code_of (p := ("_law_refused_right", none)) F_law_refused_right), m_law_refused_right, F_law_refused_right.kp, b_law_refused_right F_law_refused_right⟩⟩
  have e := hfa.symm.trans m_law
  cases e
  have b := b_law F_law
  exact ⟨fd_law, fun s v => FunD.bindsA (ps := ["script"]) F_law (fun _ _ _ _ _ _ us hl => match us, hl with | [_], _ => rfl) s [v] rfl, fun base _ _ tabs => f_law B (c_law_pool base) (c_law_parts base) (c_law_made base) (c_law_number base) (c_law_figures base) (c_figures_of base) (c_number_of base) (c_law_right base) (c_law_refused_right base tabs) F_law⟩
end SW
open PySem PySem.W PySem.Calls PyProof.Rows
theorem PySem.Challenge.cw_stillwords_k07_whole_one_small_carry_holds : PySem.Challenge.rw_stillwords_k07_whole_one_small_carry.Holds := by
  w_on; o_law
  refine HandSHeadRun.head_any (r := OpenLaw.row PySem.Challenge.rw_stillwords_k07_whole_one_small_carry) (q := view (OpenLaw.row PySem.Challenge.rw_stillwords_k07_whole_one_small_carry).prog [81]) (H := SW.hk_) (ob := SW.ob_) (M := 7240) (loose := SW.loose_) (d := HandSHeadRun.topDef (OpenLaw.row PySem.Challenge.rw_stillwords_k07_whole_one_small_carry).prog 81) (kwd := []) SW.ob_eq_
    (by kernel_rfl) (fun s => by kernel_rfl) SW.run_ (by kernel_rfl) (by kernel_rfl) (by kernel_rfl) (by rfl) (by first | assumption | decide +kernel) (by decide +kernel) ⟨rfl, rfl, rfl, rfl, rfl, by decide +kernel⟩ ?hw ?hc
  case hw => w_witness2
  case hc =>
    refine SW.walk_G (l := PySem.Challenge.rw_stillwords_k07_whole_one_small_carry) (n := 63) (k := 12) (x := "script") (CXL := fun w => L2.CX (PySem.Challenge.rw_stillwords_k07_whole_one_small_carry).prog w) rfl (by decide) (by kernel_rfl) ⟨rfl, by decide, by decide⟩ ?F (fun w _ _ _ _ z => SW.cx_no z)
    intro w mg fa h Y G hmg0 _
    obtain ⟨K, KX, c⟩ := Y
    have hmg : mg ("law" : PySem.Str) = some (.ref fa) := by
      have e : (HandSHeadRun.topDef (OpenLaw.row PySem.Challenge.rw_stillwords_k07_whole_one_small_carry).prog 81).name = ("law" : PySem.Str) := by kernel_rfl
      rw [← e]
      exact hmg0
    obtain ⟨fd, hb, hF⟩ := SW.facts_ (P := (PySem.Challenge.rw_stillwords_k07_whole_one_small_carry).prog) (w := w) KX G hmg c
    have tabs : ∀ p ∈ SW.tl_ K, h.get? p.2 = some { cls := .none, data := .fields #[] } ∧ K.lookup p.2 = none ∧ CodeHd h p.1 p.2 := fun p hp => by
      obtain ⟨y, hy, rfl⟩ : ∃ y ∈ SW.tf_, p = He.cT K y := by
        unfold SW.tl_ at hp
        unfold SW.tf_
        simp only [List.mem_cons, List.not_mem_nil, or_false] at hp ⊢
        exact ⟨_, rfl, hp⟩
      exact c.tab KX hy
    refine ⟨K, fd, SW.tl_ K, _, KX, fun p hp => (tabs p hp).1, fun p hp => (tabs p hp).2.1, fun p hp => (tabs p hp).2.2, hb, fun J a is hl hJ hS => ?_, hF⟩
    refine SW.law_start (fun p hp => ?_) hS fun μ => ⟨is, rfl, hl, fun _ => rfl⟩
    unfold SW.TT_ at hp
    simp only [List.mem_cons, List.not_mem_nil, or_false] at hp
    rw [hp]
    exact hJ _ (.head _)
#print axioms PySem.Challenge.cw_stillwords_k07_whole_one_small_carry_holds
