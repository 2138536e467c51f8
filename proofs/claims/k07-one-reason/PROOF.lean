import PyProof.Rows.All
import Wide.All
import OpenK.AllK
import Wide.FinOn
import HandS.ForMost
import HandS.ForExc
import HandS.Evl
import HandS.Codes
import HandS.IsInst
import HandS.EndBits
import HandS.Style
import HandS.Wide
import PyProof.LongRange
import HandS.Zip
import HandS.SetFor
import KE.KStateDown
import HandS.Head0
import HandS.Head1
import HandS.Head2
import HandS.HeadHook1
import HandS.HeadHook2
import HandS.HeadHook3
import HandS.HeadHook4
import HandS.HeadWalk
import HandS.CallLocal
import HandS.Lambda
import HandS.EndTab
import HandS.ExcIs
import HandS.Nested
import HandS.Comp
import HandS.ExcOwn
import HandS.Strs
import PySem.Challenge.RW_queenrows_k07_one_reason
set_option Elab.async false
set_option linter.all false
set_option maxRecDepth 100000
set_option maxHeartbeats 4000000
namespace QR
open PySem PySem.Spec PyProof.Rows L2 Evl

/-! ### what an expression, a test, a block leads to, at these slots and this heap -/
structure EW (X : Cx) (e : Expr) (σ : L2.St) (H : Hp) (Q : VK) : Prop where
  run : ∀ (pins : List (Addr × Obj)) (s : Shared), Inv X pins σ H s → wpAny (model X.prog X.w) X.A (eval e X.env) (EP X pins σ Q) X.xe s
structure TW (X : Cx) (e : Expr) (σ : L2.St) (H : Hp) (Q : Bool → Hp → Prop) : Prop where
  run : ∀ (pins : List (Addr × Obj)) (s : Shared), Inv X pins σ H s → wpAny (model X.prog X.w) X.A (isTrue e X.env (eval e X.env)) (TP X pins σ Q) X.xe s
structure LW (X : Cx) (e : Expr) (σ : L2.St) (H : Hp) (Q : Bool → Hp → Prop) : Prop where
  run : ∀ (whole : Sem Value) (pins : List (Addr × Obj)) (s : Shared), Inv X pins σ H s → wpAny (model X.prog X.w) X.A (isTrue e X.env whole) (TP X pins σ Q) X.xe s
structure BW (X : Cx) (st : List Stmt) (D : Ends) (σ : L2.St) (H : Hp) : Prop where
  run : ∀ (pins : List (Addr × Obj)) (s : Shared), Inv X pins σ H s → wpAny (model X.prog X.w) X.A (execs st X.env) (SP X pins D) X.xe s
section
variable {X : Cx} {e : Expr} {es : List Expr} {σ : L2.St} {H : Hp} {Q : VK} {v : V}
theorem pe_self : PE X e (EW X e) := ⟨fun pins s _ _ _ I h => h.run pins s I⟩
theorem pt_self : PT X e (TW X e) := ⟨fun pins s _ _ _ I h => h.run pins s I⟩
theorem pw_self : PW X e (LW X e) := ⟨fun wh pins s _ _ _ I h => h.run wh pins s I⟩
theorem pss_self {st : List Stmt} : PSs X st (BW X st) := ⟨fun pins s _ _ _ I h => h.run pins s I⟩
theorem EW.of {t : TE} (h : PE X e t) (r : t σ H Q) : EW X e σ H Q := ⟨fun pins s I => h.run pins s σ H Q I r⟩
theorem TW.of {t : TT} {Q : Bool → Hp → Prop} (h : PT X e t) (r : t σ H Q) : TW X e σ H Q := ⟨fun pins s I => h.run pins s σ H Q I r⟩
theorem LW.of {t : TT} {Q : Bool → Hp → Prop} (h : PW X e t) (r : t σ H Q) : LW X e σ H Q := ⟨fun wh pins s I => h.run wh pins s σ H Q I r⟩
theorem BW.of {t : TS} {st : List Stmt} {D : Ends} (h : PSs X st t) (r : t D σ H) : BW X st D σ H := ⟨fun pins s I => h.run pins s σ H D I r⟩
/-- the argument list as a reading -/
def tArgs (X : Cx) : List Expr → TA
  | [] => tNil
  | e :: es => tCons (EW X e) (tArgs X es)
/-! ### values -/
structure EV (X : Cx) (e : Expr) (σ : L2.St) (H : Hp) (v : V) : Prop where
  ev : Ev (EW X e) σ H v
structure EL (X : Cx) (e : Expr) (σ : L2.St) (H : Hp) (xs : List V) : Prop where
  ev : EvL (EW X e) σ H xs
structure EU (X : Cx) (e : Expr) (σ : L2.St) (H : Hp) (xs : List V) : Prop where
  ev : EvU (EW X e) σ H xs
structure TV (X : Cx) (e : Expr) (σ : L2.St) (H : Hp) (b : Bool) : Prop where
  ev : EvT (TW X e) σ H b
structure LV (X : Cx) (e : Expr) (σ : L2.St) (H : Hp) (b : Bool) : Prop where
  ev : EvT (LW X e) σ H b
theorem EV.of {t : TE} (h : PE X e t) (r : Ev t σ H v) : EV X e σ H v := ⟨fun H1 e1 Q q => EW.of h (r H1 e1 Q q)⟩
theorem EL.of {t : TE} {xs : List V} (h : PE X e t) (r : EvL t σ H xs) : EL X e σ H xs := ⟨fun H1 e1 Q q => EW.of h (r H1 e1 Q q)⟩
theorem EU.of {t : TE} {xs : List V} (h : PE X e t) (r : EvU t σ H xs) : EU X e σ H xs := ⟨fun H1 e1 Q q => EW.of h (r H1 e1 Q q)⟩
theorem TV.of {t : TT} {b : Bool} (h : PT X e t) (r : EvT t σ H b) : TV X e σ H b := ⟨fun H1 e1 Q q => TW.of h (r H1 e1 Q q)⟩
theorem LV.of {t : TT} {b : Bool} (h : PW X e t) (r : EvT t σ H b) : LV X e σ H b := ⟨fun H1 e1 Q q => LW.of h (r H1 e1 Q q)⟩
theorem EV.mono {H' : Hp} (h : EV X e σ H v) (e1 : Ex H H') : EV X e σ H' v := ⟨h.ev.mono e1⟩
theorem EL.mono {H' : Hp} {xs : List V} (h : EL X e σ H xs) (e1 : Ex H H') : EL X e σ H' xs := ⟨h.ev.mono e1⟩
theorem TV.mono {H' : Hp} {b : Bool} (h : TV X e σ H b) (e1 : Ex H H') : TV X e σ H' b := ⟨h.ev.mono e1⟩
theorem EV.is {w : V} (h : EV X e σ H v) (q : v = w) : EV X e σ H w := q ▸ h
theorem EL.is {xs ys : List V} (h : EL X e σ H xs) (q : xs = ys) : EL X e σ H ys := q ▸ h
theorem TV.is {b c : Bool} (h : TV X e σ H b) (q : b = c) : TV X e σ H c := q ▸ h
theorem EV.isI {i j : Int} (h : EV X e σ H (.int i)) (q : i = j) : EV X e σ H (.int j) := q ▸ h
theorem EV.isB {i j : Bool} (h : EV X e σ H (.bl i)) (q : i = j) : EV X e σ H (.bl j) := q ▸ h
/-- in a row: what is wanted behind it -/
theorem EV.go (h : EV X e σ H v) (k : ∀ H1, Ex H H1 → Q v H1) : EW X e σ H Q := h.ev H (Ex.refl H) Q k
theorem EL.go {xs : List V} (h : EL X e σ H xs) (k : ∀ p H1, H p = none → Ex H H1 → H1 p = some (.lst xs) → Q (.ref p) H1) : EW X e σ H Q := h.ev H (Ex.refl H) Q k
theorem EU.go {xs : List V} (h : EU X e σ H xs) (k : ∀ p H1, H p = none → Ex H H1 → H1 p = some (.tup xs) → Q (.ref p) H1) : EW X e σ H Q := h.ev H (Ex.refl H) Q k
theorem TV.go {b : Bool} {Q : Bool → Hp → Prop} (h : TV X e σ H b) (k : ∀ H1, Ex H H1 → Q b H1) : TW X e σ H Q := h.ev H (Ex.refl H) Q k
end
section
variable {X : Cx} {e a b c : Expr} {es : List Expr} {σ : L2.St} {H : Hp} {Q : VK} {v x y z : V} {pos p : Pos}
/-! ### names and constants -/
theorem EV.var (i : Nat) {x : Str} (h : σ[i]? = some (some v)) (hN : X.N[i]? = some x := by rfl) (hv : Vis X.env.scope x := by first | exact Or.inl rfl | exact Or.inr (Or.inl rfl) | exact Or.inr (Or.inr rfl)) (hd : (x == ("__debug__" : Str)) = false := by decide)
    (hcd : (x == ("__classdict__" : Str)) = false := by decide) : EV X (.Name x pos) σ H v := EV.of (pe_var hN hv hd hcd) (ev_var h)
theorem EV.int {i : Int} {j : Nat} : EV X (.Constant (.int i) j pos) σ H (.int i) := EV.of pe_int ev_c
theorem EV.bl {i : Bool} {j : Nat} : EV X (.Constant (.bool i) j pos) σ H (.bl i) := EV.of pe_bl ev_c
theorem EV.non {j : Nat} : EV X (.Constant .none j pos) σ H .non := EV.of pe_non ev_c
theorem EV.str {z : Str} {j : Nat} : EV X (.Constant (.str z) j pos) σ H (.str z) := EV.of pe_str ev_c
theorem EV.glob {x : Str} {f : Addr} (hm : X.mg x = some (.ref f)) (hg : Gl X x := by rfl) (hd : (x == ("__debug__" : Str)) = false := by decide) : EV X (.Name x pos) σ H (.ref f) := EV.of (pe_glob (v := .ref f) hg hm rfl hd) ev_c
theorem EV.globI {x : Str} {i : Int} {t : Tok} (hm : X.mg x = some (.int i t)) (hg : Gl X x := by rfl) (hd : (x == ("__debug__" : Str)) = false := by decide) : EV X (.Name x pos) σ H (.int i) := EV.of (pe_glob (v := .int i) hg hm ⟨t, rfl⟩ hd) ev_c
/-- the name of a built-in class, as a value -/
theorem EV.ty {x : Str} {T : String} (hm : X.mg x = none) (hv : bootBuiltins x = some (.type T)) (hg : Gl X x := by rfl) (hn : x ≠ "__name__" := by decide) (hd : (x == ("__debug__" : Str)) = false := by decide) : EV X (.Name x pos) σ H (.ty T) := EV.of (pe_bltn (v := .ty T) hg hm hv rfl hn hd) ev_c
/-! ### whole numbers -/
theorem EV.opI {op : Operator} {r : R2} (ho : OpR X (binaryOp op) r) (ha : EV X a σ H x) (hb : EV X b σ H y) (hr : RV r x y H z) : EV X (.BinOp a op b pos) σ H z := EV.of (pe_op ho pe_self pe_self) (ev_op ha.ev hb.ev hr)
theorem EV.add {i j : Int} (ha : EV X a σ H (.int i)) (hb : EV X b σ H (.int j)) : EV X (.BinOp a .Add b pos) σ H (.int (i + j)) := EV.opI op_add ha hb rv_I0
theorem EV.sub {i j : Int} (ha : EV X a σ H (.int i)) (hb : EV X b σ H (.int j)) : EV X (.BinOp a .Sub b pos) σ H (.int (i - j)) := EV.opI op_sub ha hb rv_I0
theorem op_mulV : OpR X (binaryOp .Mult) (rI IntMulOk fun i j => .int (i * j)) := opI fun _ _ _ _ _ _ _ hc q => mul_int q hc
theorem EV.mul {i j : Int} (ha : EV X a σ H (.int i)) (hb : EV X b σ H (.int j)) (hc : IntMulOk i j) : EV X (.BinOp a .Mult b pos) σ H (.int (i * j)) := EV.opI op_mulV ha hb (rv_I hc)
theorem EV.mod {i j : Int} (ha : EV X a σ H (.int i)) (hb : EV X b σ H (.int j)) (hc : 0 < j) : EV X (.BinOp a .Mod b pos) σ H (.int (i % j)) := EV.opI op_mod ha hb (rv_I (C := fun _ j => 0 < j) hc)
theorem EV.fdiv {i j : Int} (ha : EV X a σ H (.int i)) (hb : EV X b σ H (.int j)) (hc : 0 < j ∧ j < 1073741824) : EV X (.BinOp a .FloorDiv b pos) σ H (.int (i / j)) := EV.opI op_fdiv ha hb (rv_I (C := CDiv) hc)
theorem EV.pow {i j : Int} (ha : EV X a σ H (.int i)) (hb : EV X b σ H (.int j)) (hc : 0 ≤ j ∧ j ≤ 1000000 ∧ i.natAbs < 2 ^ 64) : EV X (.BinOp a .Pow b pos) σ H (.int (i ^ j.toNat)) := EV.opI op_pow ha hb (rv_I (C := CPow) hc)
theorem EV.neg {i : Int} (ha : EV X a σ H (.int i)) : EV X (.UnaryOp .USub a pos) σ H (.int (-i)) := EV.of (pe_un un_neg pe_self) (ev_un ha.ev ru_neg)
theorem mul_small {i j : Int} (h : (-(2 ^ 64) < i ∧ i < 2 ^ 64) ∨ (-(2 ^ 64) < j ∧ j < 2 ^ 64)) : IntMulOk i j := CMul.ok h
/-! ### comparisons -/
theorem EV.cmp {op : CmpOp} {r : R2} (ho : OpR X (compareOp op) r) (ha : EV X a σ H x) (hb : EV X b σ H y) (hr : RV r x y H z) (hm : behindInMarks op b = false) : EV X (.Compare a [op] [b] pos) σ H z := EV.of (pe_cmpR ho pe_self pe_self hm) (ev_op ha.ev hb.ev hr)
theorem EV.lt {i j : Int} (ha : EV X a σ H (.int i)) (hb : EV X b σ H (.int j)) : EV X (.Compare a [.Lt] [b] pos) σ H (.bl (decide (i < j))) := EV.cmp op_lt ha hb rv_I0 (nomark _)
theorem EV.le {i j : Int} (ha : EV X a σ H (.int i)) (hb : EV X b σ H (.int j)) : EV X (.Compare a [.LtE] [b] pos) σ H (.bl (decide (i ≤ j))) := EV.cmp op_le ha hb rv_I0 (nomark _)
theorem EV.gt {i j : Int} (ha : EV X a σ H (.int i)) (hb : EV X b σ H (.int j)) : EV X (.Compare a [.Gt] [b] pos) σ H (.bl (decide (j < i))) := EV.cmp op_gt ha hb rv_I0 (nomark _)
theorem EV.ge {i j : Int} (ha : EV X a σ H (.int i)) (hb : EV X b σ H (.int j)) : EV X (.Compare a [.GtE] [b] pos) σ H (.bl (decide (j ≤ i))) := EV.cmp op_ge ha hb rv_I0 (nomark _)
theorem EV.eq {i j : Int} (ha : EV X a σ H (.int i)) (hb : EV X b σ H (.int j)) : EV X (.Compare a [.Eq] [b] pos) σ H (.bl (decide (i = j))) := by
  refine EV.is (EV.cmp op_eq ha hb (rv_eq rfl) (nomark _)) ?_
  rw [dec_int, Bool.beq_eq_decide_eq]
theorem EV.ne {i j : Int} (ha : EV X a σ H (.int i)) (hb : EV X b σ H (.int j)) : EV X (.Compare a [.NotEq] [b] pos) σ H (.bl (decide (i ≠ j))) := by
  refine EV.is (EV.cmp op_ne ha hb (rv_ne rfl) (nomark _)) ?_
  rw [dec_int, Bool.beq_eq_decide_eq, ← decide_not]
theorem EV.eqB {i j : Bool} (ha : EV X a σ H (.bl i)) (hb : EV X b σ H (.bl j)) : EV X (.Compare a [.Eq] [b] pos) σ H (.bl (i == j)) := by
  refine EV.is (EV.cmp op_eq ha hb (rv_eq rfl) (nomark _)) ?_
  rw [dec_bl]
theorem EV.neB {i j : Bool} (ha : EV X a σ H (.bl i)) (hb : EV X b σ H (.bl j)) : EV X (.Compare a [.NotEq] [b] pos) σ H (.bl (i != j)) := by
  refine EV.is (EV.cmp op_ne ha hb (rv_ne rfl) (nomark _)) ?_
  rw [dec_bl]; rfl
theorem EV.isN (ha : EV X a σ H x) (hb : EV X b σ H .non) : EV X (.Compare a [.Is] [b] pos) σ H (.bl (decide (x = .non))) := EV.cmp op_isN ha hb (fun H1 _ _ q => ⟨rfl, q H1 (Ex.refl H1)⟩) (nomark _)
theorem EV.notN (ha : EV X a σ H x) (hb : EV X b σ H .non) : EV X (.Compare a [.IsNot] [b] pos) σ H (.bl (!decide (x = .non))) := EV.cmp op_notN ha hb (fun H1 _ _ q => ⟨rfl, q H1 (Ex.refl H1)⟩) (nomark _)
/-- a < b < c -/
theorem EV.chain {op op' : CmpOp} {r r' : R2} {k1 k2 : Bool} {w : V} (ho : OpR X (compareOp op) r) (ho' : OpR X (compareOp op') r') (ha : EV X a σ H x) (hb : EV X b σ H y) (hr : RV r x y H (.bl k1)) (hc : k1 = true → EV X c σ H w) (hr' : k1 = true → RV r' y w H (.bl k2))
    (hm : lastMarks [op, op'] [b, c] = false := by with_unfolding_all rfl) : EV X (.Compare a [op, op'] [b, c] pos) σ H (.bl (k1 && k2)) := by
  refine EV.of (pe_chain ho ho' pe_self pe_self pe_self hm) fun H1 e Q q => ?_
  refine ha.ev H1 e _ fun H2 e2 => hb.ev H2 (e.trans e2) _ fun H3 e3 => hr H3 ((e.trans e2).trans e3) _ fun H4 e4 => ⟨k1, rfl, ?_⟩
  cases k1 with
  | false => exact q H4 ((e2.trans e3).trans e4)
  | true => exact (hc rfl).ev H4 (((e.trans e2).trans e3).trans e4) _ fun H5 e5 => hr' rfl H5 ((((e.trans e2).trans e3).trans e4).trans e5) _ fun H6 e6 => q H6 ((((e2.trans e3).trans e4).trans e5).trans e6)
theorem EV.leLt {i j k : Int} (ha : EV X a σ H (.int i)) (hb : EV X b σ H (.int j)) (hc : EV X c σ H (.int k)) : EV X (.Compare a [.LtE, .Lt] [b, c] pos) σ H (.bl (decide (i ≤ j) && decide (j < k))) := EV.chain op_le op_lt ha hb rv_I0 (fun _ => hc) (fun _ => rv_I0) (nomark c)
theorem EV.leLe {i j k : Int} (ha : EV X a σ H (.int i)) (hb : EV X b σ H (.int j)) (hc : EV X c σ H (.int k)) : EV X (.Compare a [.LtE, .LtE] [b, c] pos) σ H (.bl (decide (i ≤ j) && decide (j ≤ k))) := EV.chain op_le op_le ha hb rv_I0 (fun _ => hc) (fun _ => rv_I0) (nomark c)
/-! ### truths -/
theorem EV.not {k : Bool} (ha : EV X a σ H (.bl k)) : EV X (.UnaryOp .Not a pos) σ H (.bl (!k)) := EV.of (pe_not pe_self) (ev_notV ha.ev)
theorem EV.one {op : BoolOp} (ha : EV X a σ H v) : EV X (.BoolOp op [a] pos) σ H v := EV.of (pe_one pe_self) ha.ev
theorem EV.and {k1 k2 : Bool} (ha : EV X a σ H (.bl k1)) (hb : k1 = true → EV X (.BoolOp .And (b :: es) pos) σ H (.bl k2)) : EV X (.BoolOp .And (a :: b :: es) pos) σ H (.bl (k1 && k2)) := EV.of (pe_and pe_self pe_self) (ev_andV ha.ev fun h => (hb h).ev)
theorem EV.or {k1 k2 : Bool} (ha : EV X a σ H (.bl k1)) (hb : k1 = false → EV X (.BoolOp .Or (b :: es) pos) σ H (.bl k2)) : EV X (.BoolOp .Or (a :: b :: es) pos) σ H (.bl (k1 || k2)) := EV.of (pe_or pe_self pe_self) (ev_orV ha.ev fun h => (hb h).ev)
theorem EV.and2 {k1 k2 : Bool} (ha : EV X a σ H (.bl k1)) (hb : k1 = true → EV X b σ H (.bl k2)) : EV X (.BoolOp .And [a, b] pos) σ H (.bl (k1 && k2)) := EV.and ha fun h => EV.one (hb h)
theorem EV.or2 {k1 k2 : Bool} (ha : EV X a σ H (.bl k1)) (hb : k1 = false → EV X b σ H (.bl k2)) : EV X (.BoolOp .Or [a, b] pos) σ H (.bl (k1 || k2)) := EV.or ha fun h => EV.one (hb h)
theorem EV.and3 {k1 k2 k3 : Bool} (ha : EV X a σ H (.bl k1)) (hb : k1 = true → EV X b σ H (.bl k2)) (hc : k1 = true → k2 = true → EV X c σ H (.bl k3)) : EV X (.BoolOp .And [a, b, c] pos) σ H (.bl (k1 && (k2 && k3))) := EV.and ha fun h => EV.and2 (hb h) (hc h)
theorem EV.or3 {k1 k2 k3 : Bool} (ha : EV X a σ H (.bl k1)) (hb : k1 = false → EV X b σ H (.bl k2)) (hc : k1 = false → k2 = false → EV X c σ H (.bl k3)) : EV X (.BoolOp .Or [a, b, c] pos) σ H (.bl (k1 || (k2 || k3))) := EV.or ha fun h => EV.or2 (hb h) (hc h)
theorem EV.ite {k : Bool} (ht : TV X c σ H k) (h1 : k = true → EV X a σ H v) (h2 : k = false → EV X b σ H v) : EV X (.IfExp c a b pos) σ H v := EV.of (pe_ifExp pt_self pe_self pe_self) (ev_if ht.ev (fun h => (h1 h).ev) fun h => (h2 h).ev)
theorem EV.iteI {k : Bool} {i j : Int} (ht : TV X c σ H k) (h1 : k = true → EV X a σ H (.int i)) (h2 : k = false → EV X b σ H (.int j)) : EV X (.IfExp c a b pos) σ H (.int (if k = true then i else j)) :=
  EV.ite ht (fun h => by rw [if_pos h]; exact h1 h) (fun h => by rw [if_neg (by rw [h]; decide)]; exact h2 h)
/-! ### tests -/
theorem TV.val {k : Bool} (h : EV X e σ H (.bl k)) (he : ∀ whole, isTrue e X.env whole = (do let v ← whole; standAt e.pos; holding [v] (truthy v)) := by intro _; rfl) : TV X e σ H k := TV.of (pt_val pe_self he) (et_B h.ev)
theorem TV.cmp {op : CmpOp} {k : Bool} (h : EV X (.Compare a [op] [b] pos) σ H (.bl k)) : TV X (.Compare a [op] [b] pos) σ H k → TV X (.Compare a [op] [b] pos) σ H k := fun z => z
theorem TV.op {op : CmpOp} {r : R2} {k : Bool} (ho : OpR X (compareOp op) r) (ha : EV X a σ H x) (hb : EV X b σ H y) (hr : RV r x y H (.bl k)) (hm : behindInMarks op b = false) : TV X (.Compare a [op] [b] pos) σ H k := TV.of (pt_cmpR ho pe_self pe_self hm) (et_test (ev_op ha.ev hb.ev hr))
theorem TV.lt {i j : Int} (ha : EV X a σ H (.int i)) (hb : EV X b σ H (.int j)) : TV X (.Compare a [.Lt] [b] pos) σ H (decide (i < j)) := TV.op op_lt ha hb rv_I0 (nomark _)
theorem TV.le {i j : Int} (ha : EV X a σ H (.int i)) (hb : EV X b σ H (.int j)) : TV X (.Compare a [.LtE] [b] pos) σ H (decide (i ≤ j)) := TV.op op_le ha hb rv_I0 (nomark _)
theorem TV.gt {i j : Int} (ha : EV X a σ H (.int i)) (hb : EV X b σ H (.int j)) : TV X (.Compare a [.Gt] [b] pos) σ H (decide (j < i)) := TV.op op_gt ha hb rv_I0 (nomark _)
theorem TV.ge {i j : Int} (ha : EV X a σ H (.int i)) (hb : EV X b σ H (.int j)) : TV X (.Compare a [.GtE] [b] pos) σ H (decide (j ≤ i)) := TV.op op_ge ha hb rv_I0 (nomark _)
theorem TV.eq {i j : Int} (ha : EV X a σ H (.int i)) (hb : EV X b σ H (.int j)) : TV X (.Compare a [.Eq] [b] pos) σ H (decide (i = j)) := by
  refine TV.is (TV.op op_eq ha hb (rv_eq rfl) (nomark _)) ?_
  rw [dec_int, Bool.beq_eq_decide_eq]
theorem TV.ne {i j : Int} (ha : EV X a σ H (.int i)) (hb : EV X b σ H (.int j)) : TV X (.Compare a [.NotEq] [b] pos) σ H (decide (i ≠ j)) := by
  refine TV.is (TV.op op_ne ha hb (rv_ne rfl) (nomark _)) ?_
  rw [dec_int, Bool.beq_eq_decide_eq, ← decide_not]
theorem TV.neB {i j : Bool} (ha : EV X a σ H (.bl i)) (hb : EV X b σ H (.bl j)) : TV X (.Compare a [.NotEq] [b] pos) σ H (i != j) := by
  refine TV.is (TV.op op_ne ha hb (rv_ne rfl) (nomark _)) ?_
  rw [dec_bl]; rfl
theorem TV.eqB {i j : Bool} (ha : EV X a σ H (.bl i)) (hb : EV X b σ H (.bl j)) : TV X (.Compare a [.Eq] [b] pos) σ H (i == j) := by
  refine TV.is (TV.op op_eq ha hb (rv_eq rfl) (nomark _)) ?_
  rw [dec_bl]
theorem TV.isN (ha : EV X a σ H x) (hb : EV X b σ H .non) : TV X (.Compare a [.Is] [b] pos) σ H (decide (x = .non)) := TV.op op_isN ha hb (fun H1 _ _ q => ⟨rfl, q H1 (Ex.refl H1)⟩) (nomark _)
theorem TV.notN (ha : EV X a σ H x) (hb : EV X b σ H .non) : TV X (.Compare a [.IsNot] [b] pos) σ H (!decide (x = .non)) := TV.op op_notN ha hb (fun H1 _ _ q => ⟨rfl, q H1 (Ex.refl H1)⟩) (nomark _)
theorem TV.chain {op op' : CmpOp} {r r' : R2} {k1 k2 : Bool} {w : V} (ho : OpR X (compareOp op) r) (ho' : OpR X (compareOp op') r') (ha : EV X a σ H x) (hb : EV X b σ H y) (hr : RV r x y H (.bl k1)) (hc : k1 = true → EV X c σ H w) (hr' : k1 = true → RV r' y w H (.bl k2))
    (hm : lastMarks [op, op'] [b, c] = false := by with_unfolding_all rfl) : TV X (.Compare a [op, op'] [b, c] pos) σ H (k1 && k2) := by
  refine TV.of (pt_chain ho ho' pe_self pe_self pe_self hm) fun H1 e Q q => ?_
  refine ha.ev H1 e _ fun H2 e2 => hb.ev H2 (e.trans e2) _ fun H3 e3 => hr H3 ((e.trans e2).trans e3) _ fun H4 e4 => ⟨k1, rfl, ?_⟩
  cases k1 with
  | false => exact ⟨_, rfl, q H4 ((e2.trans e3).trans e4)⟩
  | true => exact (hc rfl).ev H4 (((e.trans e2).trans e3).trans e4) _ fun H5 e5 => hr' rfl H5 ((((e.trans e2).trans e3).trans e4).trans e5) _ fun H6 e6 => ⟨_, rfl, q H6 ((((e2.trans e3).trans e4).trans e5).trans e6)⟩
theorem TV.leLt {i j k : Int} (ha : EV X a σ H (.int i)) (hb : EV X b σ H (.int j)) (hc : EV X c σ H (.int k)) : TV X (.Compare a [.LtE, .Lt] [b, c] pos) σ H (decide (i ≤ j) && decide (j < k)) := TV.chain op_le op_lt ha hb rv_I0 (fun _ => hc) (fun _ => rv_I0) (nomark c)
theorem TV.leLe {i j k : Int} (ha : EV X a σ H (.int i)) (hb : EV X b σ H (.int j)) (hc : EV X c σ H (.int k)) : TV X (.Compare a [.LtE, .LtE] [b, c] pos) σ H (decide (i ≤ j) && decide (j ≤ k)) := TV.chain op_le op_le ha hb rv_I0 (fun _ => hc) (fun _ => rv_I0) (nomark c)
theorem TV.not {k : Bool} (h : TV X a σ H k) : TV X (.UnaryOp .Not a pos) σ H (!k) := TV.of (pt_not pt_self) (et_not h.ev)
theorem LV.and1 {k : Bool} (h : TV X a σ H k) : LV X (.BoolOp .And [a] pos) σ H k := LV.of (pw_and1 pt_self) h.ev
theorem LV.or1 {k : Bool} (h : TV X a σ H k) : LV X (.BoolOp .Or [a] pos) σ H k := LV.of (pw_or1 pt_self) h.ev
theorem LV.and {k1 k2 : Bool} (h : TV X a σ H k1) (h2 : k1 = true → LV X (.BoolOp .And (b :: es) pos) σ H k2) : LV X (.BoolOp .And (a :: b :: es) pos) σ H (k1 && k2) := LV.of (pw_and pt_self pw_self) (et_and h.ev fun q => (h2 q).ev)
theorem LV.or {k1 k2 : Bool} (h : TV X a σ H k1) (h2 : k1 = false → LV X (.BoolOp .Or (b :: es) pos) σ H k2) : LV X (.BoolOp .Or (a :: b :: es) pos) σ H (k1 || k2) := LV.of (pw_or pt_self pw_self) (et_or h.ev fun q => (h2 q).ev)
theorem TV.bool {k : Bool} (h : LV X e σ H k) : TV X e σ H k := TV.of (PW.pt pw_self) h.ev
theorem TV.and2 {k1 k2 : Bool} (h : TV X a σ H k1) (h2 : k1 = true → TV X b σ H k2) : TV X (.BoolOp .And [a, b] pos) σ H (k1 && k2) := TV.bool (LV.and h fun q => LV.and1 (h2 q))
theorem TV.or2 {k1 k2 : Bool} (h : TV X a σ H k1) (h2 : k1 = false → TV X b σ H k2) : TV X (.BoolOp .Or [a, b] pos) σ H (k1 || k2) := TV.bool (LV.or h fun q => LV.or1 (h2 q))
theorem TV.and3 {k1 k2 k3 : Bool} (h : TV X a σ H k1) (h2 : k1 = true → TV X b σ H k2) (h3 : k1 = true → k2 = true → TV X c σ H k3) : TV X (.BoolOp .And [a, b, c] pos) σ H (k1 && (k2 && k3)) := TV.bool (LV.and h fun q => LV.and (h2 q) fun r => LV.and1 (h3 q r))
theorem TV.or3 {k1 k2 k3 : Bool} (h : TV X a σ H k1) (h2 : k1 = false → TV X b σ H k2) (h3 : k1 = false → k2 = false → TV X c σ H k3) : TV X (.BoolOp .Or [a, b, c] pos) σ H (k1 || (k2 || k3)) := TV.bool (LV.or h fun q => LV.or (h2 q) fun r => LV.or1 (h3 q r))
/-- a < b < c < d -/
def tChain3 (r r' r'' : R2) (ta tb tc td : TE) : TE := fun σ H Q => ta σ H fun x H1 => tb σ H1 fun y H2 => r x y H2 fun z H3 => ∃ k, z = .bl k ∧
  (if k = true then tc σ H3 fun w' H4 => r' y w' H4 fun z2 H5 => ∃ k2, z2 = .bl k2 ∧ (if k2 = true then td σ H5 fun u H6 => r'' w' u H6 Q else Q (.bl false) H5) else Q (.bl false) H3)
theorem pe_chain3 {d : Expr} {ta tb tc td : TE} {op op' op'' : CmpOp} {r r' r'' : R2} (ho : OpR X (compareOp op) r) (ho' : OpR X (compareOp op') r') (ho'' : OpR X (compareOp op'') r'') (ha : PE X a ta) (hb : PE X b tb) (hc : PE X c tc) (hd : PE X d td)
    (hm : lastMarks [op, op', op''] [b, c, d] = false) : PE X (.Compare a [op, op', op''] [b, c, d] pos) (tChain3 r r' r'' ta tb tc td) := by
  refine ⟨fun pins s σ H Q I h => ?_⟩
  refine Compare_chain (thn (ha.run pins s σ H _ I h) fun v s1 ⟨x, H1, I1, r1, q1⟩ => chain_link (thn (hb.run pins s1 σ H1 _ I1 q1) fun u s2 ⟨y, H2, I2, r2, q2⟩ =>
    thn (ho pins s2 σ H2 x y v u _ I2 r1 r2 q2) fun d s3 ⟨z, H3, I3, r3, k, e, q3⟩ => ?_)) hm
  subst e
  cases r3
  refine wpAny_truthy_bool ?_
  cases k with
  | false => exact ite_ff ⟨.bl false, H3, I3, rfl, q3⟩
  | true =>
    refine ite_tt (chain_link (thn (hc.run pins s3 σ H3 _ I3 q3) fun w' s4 ⟨z', H4, I4, r4, q4⟩ => thn (ho' pins s4 σ H4 y z' u w' _ I4 r2 r4 q4) fun d' s5 ⟨z2, H5, I5, r5, k2, e2, q5⟩ => ?_))
    subst e2
    cases r5
    refine wpAny_truthy_bool ?_
    cases k2 with
    | false => exact ite_ff ⟨.bl false, H5, I5, rfl, q5⟩
    | true => exact ite_tt (chain_last (thn (hd.run pins s5 σ H5 _ I5 q5) fun w2 s6 ⟨z3, H6, I6, r6, q6⟩ => ho'' pins s6 σ H6 z' z3 w' w2 Q I6 r4 r6 q6))
theorem EV.chain3 {d : Expr} {op op' op'' : CmpOp} {r r' r'' : R2} {k1 k2 k3 : Bool} {w u : V} (ho : OpR X (compareOp op) r) (ho' : OpR X (compareOp op') r') (ho'' : OpR X (compareOp op'') r'') (ha : EV X a σ H x) (hb : EV X b σ H y) (hr : RV r x y H (.bl k1)) (hc : EV X c σ H w) (hr' : RV r' y w H (.bl k2)) (hd : EV X d σ H u) (hr'' : RV r'' w u H (.bl k3))
    (hm : lastMarks [op, op', op''] [b, c, d] = false) : EV X (.Compare a [op, op', op''] [b, c, d] pos) σ H (.bl (k1 && (k2 && k3))) := by
  refine EV.of (pe_chain3 ho ho' ho'' pe_self pe_self pe_self pe_self hm) fun H1 e Q q => ?_
  refine ha.ev H1 e _ fun H2 e2 => hb.ev H2 (e.trans e2) _ fun H3 e3 => hr H3 ((e.trans e2).trans e3) _ fun H4 e4 => ⟨k1, rfl, ?_⟩
  have g4 := ((e2.trans e3).trans e4)
  cases k1 with
  | false => exact q H4 g4
  | true =>
    refine hc.ev H4 (e.trans g4) _ fun H5 e5 => hr' H5 ((e.trans g4).trans e5) _ fun H6 e6 => ⟨k2, rfl, ?_⟩
    have g6 := ((g4.trans e5).trans e6)
    cases k2 with
    | false => exact q H6 g6
    | true => exact hd.ev H6 (e.trans g6) _ fun H7 e7 => hr'' H7 ((e.trans g6).trans e7) _ fun H8 e8 => q H8 ((g6.trans e7).trans e8)
theorem EV.leLtLt {d : Expr} {i j k l : Int} (ha : EV X a σ H (.int i)) (hb : EV X b σ H (.int j)) (hc : EV X c σ H (.int k)) (hd : EV X d σ H (.int l)) : EV X (.Compare a [.LtE, .Lt, .Lt] [b, c, d] pos) σ H (.bl (decide (i ≤ j) && (decide (j < k) && decide (k < l)))) :=
  EV.chain3 op_le op_lt op_lt ha hb rv_I0 hc rv_I0 hd rv_I0 (nomark d)
end
/-! ### argument lists, displays, calls of built-ins -/
structure AV (X : Cx) (es : List Expr) (σ : L2.St) (H : Hp) (vs : List V) : Prop where
  ev : EvA (tArgs X es) σ H vs
section
variable {X : Cx} {e a b c : Expr} {es : List Expr} {σ : L2.St} {H : Hp} {Q : VK} {v x y z : V} {pos p : Pos} {vs xs : List V}
theorem AV.nil : AV X [] σ H [] := ⟨ea_nil⟩
theorem AV.cons (h : EV X e σ H v) (hr : AV X es σ H vs) : AV X (e :: es) σ H (v :: vs) := ⟨ea_cons h.ev hr.ev⟩
theorem AV.one (h : EV X e σ H v) : AV X [e] σ H [v] := AV.cons h AV.nil
theorem AV.two (h : EV X a σ H x) (h2 : EV X b σ H y) : AV X [a, b] σ H [x, y] := AV.cons h (AV.one h2)
theorem AV.three (h : EV X a σ H x) (h2 : EV X b σ H y) (h3 : EV X c σ H z) : AV X [a, b, c] σ H [x, y, z] := AV.cons h (AV.two h2 h3)
theorem pa_self : ∀ (es : List Expr), (∀ e ∈ es, ∀ r, starEach (e :: r) X.env = (false, eval e X.env) :: starEach r X.env) → PA X es (tArgs X es)
  | [], _ => pa_nil
  | e :: es, h => pa_cons pe_self (pa_self es fun e' he => h e' (List.mem_cons_of_mem _ he)) (h e List.mem_cons_self es)
/-- no star at the head of an argument -/
def noStar : Expr → Bool
  | .Starred .. => false
  | _ => true
theorem star_of {e : Expr} (h : noStar e = true) (r : List Expr) : starEach (e :: r) X.env = (false, eval e X.env) :: starEach r X.env := by
  cases e <;> first | rfl | exact nomatch h
theorem pa_all (h : es.all noStar = true) : PA X es (tArgs X es) := pa_self es fun e he r => star_of (List.all_eq_true.mp h e he) r
theorem back_any : ∀ (es : List Expr), es.all noStar = true → (backTo pos (starEach es X.env)).any (·.1) = false
  | [], _ => rfl
  | e :: es, h => by
    have h1 : noStar e = true := List.all_eq_true.mp h e List.mem_cons_self
    have h2 : es.all noStar = true := List.all_eq_true.mpr fun e' he => List.all_eq_true.mp h e' (List.mem_cons_of_mem _ he)
    rw [star_of h1 es]
    have ih := back_any es h2
    unfold backTo at ih ⊢
    simpa using ih
/-- [a, b, ..]; (a, b, ..) -/
theorem EL.lst (h : AV X es σ H vs) (hl : vs.length ≤ 100000 := by exact Nat.le_of_ble_eq_true rfl) (hs : es.all noStar = true := by rfl) : EL X (.List es pos) σ H vs := EL.of (pe_lst (pa_all hs)) (el_lst h.ev hl)
theorem EU.tup {x1 : Nat} (h : AV X es σ H vs) (hl : vs.length ≤ 100000 := by exact Nat.le_of_ble_eq_true rfl) (hs : es.all noStar = true := by rfl) : EU X (.Tuple es x1 pos) σ H vs := EU.of (pe_tup (pa_all hs)) (eu_tup h.ev hl)
/-- f(e, ..), f a built-in function; a built-in class -/
theorem EV.callB {f : Str} {id : String} {r : List V → Hp → VK → Prop} (hc : CallR X (.builtin id) r) (hm : X.mg f = none) (hv : bootBuiltins f = some (.builtin id)) (ha : AV X (e :: es) σ H vs) (hr : RC r vs H z) (hg : Gl X f := by rfl) (hn : f ≠ "__name__" := by decide) (hdb : (f == ("__debug__" : Str)) = false := by decide)
    (hs : (e :: es).all noStar = true := by rfl) : EV X (.Call (.Name f p) (e :: es) [] pos) σ H z :=
  EV.of (pe_callB hc hg hm hv (pa_all hs) hn hdb (star_of (List.all_eq_true.mp hs e List.mem_cons_self) es) (back_any es (List.all_eq_true.mpr fun e' he => List.all_eq_true.mp hs e' (List.mem_cons_of_mem _ he)))) (ev_cb ha.ev hr)
theorem EV.callT {f : Str} {id : String} {r : List V → Hp → VK → Prop} (hc : CallR X (.type id) r) (hm : X.mg f = none) (hv : bootBuiltins f = some (.type id)) (ha : AV X (e :: es) σ H vs) (hr : RC r vs H z) (hg : Gl X f := by rfl) (hn : f ≠ "__name__" := by decide) (hdb : (f == ("__debug__" : Str)) = false := by decide)
    (hs : (e :: es).all noStar = true := by rfl) : EV X (.Call (.Name f p) (e :: es) [] pos) σ H z :=
  EV.of (pe_callTy hc hg hm hv (pa_all hs) hn hdb (star_of (List.all_eq_true.mp hs e List.mem_cons_self) es) (back_any es (List.all_eq_true.mpr fun e' he => List.all_eq_true.mp hs e' (List.mem_cons_of_mem _ he)))) (ev_cb ha.ev hr)
theorem EL.callB {f : Str} {id : String} {r : List V → Hp → VK → Prop} (hc : CallR X (.builtin id) r) (hm : X.mg f = none) (hv : bootBuiltins f = some (.builtin id)) (ha : AV X (e :: es) σ H vs) (hr : RCL r vs H xs) (hg : Gl X f := by rfl) (hn : f ≠ "__name__" := by decide) (hdb : (f == ("__debug__" : Str)) = false := by decide)
    (hs : (e :: es).all noStar = true := by rfl) : EL X (.Call (.Name f p) (e :: es) [] pos) σ H xs :=
  EL.of (pe_callB hc hg hm hv (pa_all hs) hn hdb (star_of (List.all_eq_true.mp hs e List.mem_cons_self) es) (back_any es (List.all_eq_true.mpr fun e' he => List.all_eq_true.mp hs e' (List.mem_cons_of_mem _ he)))) (el_cb ha.ev hr)
theorem EL.callT {f : Str} {id : String} {r : List V → Hp → VK → Prop} (hc : CallR X (.type id) r) (hm : X.mg f = none) (hv : bootBuiltins f = some (.type id)) (ha : AV X (e :: es) σ H vs) (hr : RCL r vs H xs) (hg : Gl X f := by rfl) (hn : f ≠ "__name__" := by decide) (hdb : (f == ("__debug__" : Str)) = false := by decide)
    (hs : (e :: es).all noStar = true := by rfl) : EL X (.Call (.Name f p) (e :: es) [] pos) σ H xs :=
  EL.of (pe_callTy hc hg hm hv (pa_all hs) hn hdb (star_of (List.all_eq_true.mp hs e List.mem_cons_self) es) (back_any es (List.all_eq_true.mpr fun e' he => List.all_eq_true.mp hs e' (List.mem_cons_of_mem _ he)))) (el_cb ha.ev hr)
/-- the built-ins of this program; m: that the name is still the built-in's -/
theorem EV.abs {i : Int} (m : X.mg "abs" = none) (h : EV X a σ H (.int i)) (hg : Gl X "abs" := by rfl) (hs : noStar a = true := by rfl) : EV X (.Call (.Name "abs" p) [a] [] pos) σ H (.int (i.natAbs : Int)) := by
  refine EV.isI (EV.callB call_abs m (by decide +kernel) (AV.one h) (fun H1 _ _ q => ⟨i, rfl, q H1 (Ex.refl H1)⟩) hg (hs := by simp [hs])) ?_
  split <;> omega
theorem EV.max2 {i j : Int} (m : X.mg "max" = none) (h : EV X a σ H (.int i)) (h2 : EV X b σ H (.int j)) (hg : Gl X "max" := by rfl) (hc : X.calm = true := by rfl) (hs : [a, b].all noStar = true := by rfl) : EV X (.Call (.Name "max" p) [a, b] [] pos) σ H (.int (max i j)) := by
  refine EV.isI (EV.callB (call_max2 hc) m (by decide +kernel) (AV.two h h2) (fun H1 _ _ q => ⟨i, j, rfl, q H1 (Ex.refl H1)⟩) hg (hs := hs)) ?_
  split <;> omega
theorem EV.min2 {i j : Int} (m : X.mg "min" = none) (h : EV X a σ H (.int i)) (h2 : EV X b σ H (.int j)) (hg : Gl X "min" := by rfl) (hc : X.calm = true := by rfl) (hs : [a, b].all noStar = true := by rfl) : EV X (.Call (.Name "min" p) [a, b] [] pos) σ H (.int (min i j)) := by
  refine EV.isI (EV.callB (call_min2 hc) m (by decide +kernel) (AV.two h h2) (fun H1 _ _ q => ⟨i, j, rfl, q H1 (Ex.refl H1)⟩) hg (hs := hs)) ?_
  split <;> omega
theorem EV.len {q : Addr} (m : X.mg "len" = none) (h : EV X a σ H (.ref q)) (hq : SqL X.K H q xs) (hg : Gl X "len" := by rfl) (hs : noStar a = true := by rfl) : EV X (.Call (.Name "len" p) [a] [] pos) σ H (.int (xs.length : Int)) :=
  EV.callB call_len_seq m PySem.boot_len (AV.one h) (fun H1 e1 _ k => ⟨q, xs, rfl, .inl (ex_l e1 hq), k H1 (Ex.refl H1)⟩) hg (hs := by simp [hs])
/-- len of a list made on the way -/
theorem EV.lenN (m : X.mg "len" = none) (h : EL X a σ H xs) (hg : Gl X "len" := by rfl) (hs : noStar a = true := by rfl) : EV X (.Call (.Name "len" p) [a] [] pos) σ H (.int (xs.length : Int)) :=
  EV.of (pe_callB call_len_seq hg m PySem.boot_len (pa_all (es := [a]) (by simp [hs])) (by decide) (by decide) (star_of hs []) rfl) fun H1 e1 Q k => h.ev H1 e1 _ fun q H2 hq e2 h2 => ⟨q, xs, rfl, .inl (.inl (.inl h2)), k H2 e2⟩
theorem EV.sum {q : Addr} {ns : List Int} (m : X.mg "sum" = none) (h : EV X a σ H (.ref q)) (hq : SqL X.K H q (ns.map V.int)) (hg : Gl X "sum" := by rfl) (hc : X.calm = true := by rfl) (hs : noStar a = true := by rfl) : EV X (.Call (.Name "sum" p) [a] [] pos) σ H (.int ns.sum) :=
  EV.callB (cr_sum hc) m (by decide +kernel) (AV.one h) (fun H1 e1 _ k => ⟨q, ns, rfl, ex_l e1 hq, k H1 (Ex.refl H1)⟩) hg (hs := by simp [hs])
theorem EV.sumN {ns : List Int} (m : X.mg "sum" = none) (h : EL X a σ H (ns.map V.int)) (hg : Gl X "sum" := by rfl) (hc : X.calm = true := by rfl) (hs : noStar a = true := by rfl) : EV X (.Call (.Name "sum" p) [a] [] pos) σ H (.int ns.sum) :=
  EV.of (pe_callB (cr_sum hc) hg m (by decide +kernel) (pa_all (es := [a]) (by simp [hs])) (by decide) (by decide) (star_of hs []) rfl) fun H1 e1 Q k => h.ev H1 e1 _ fun q H2 hq e2 h2 => ⟨q, ns, rfl, .inl (.inl h2), k H2 e2⟩
theorem EV.allN {bs : List Bool} (m : X.mg "all" = none) (h : EL X a σ H (bs.map V.bl)) (hg : Gl X "all" := by rfl) (hc : X.calm = true := by rfl) (hs : noStar a = true := by rfl) : EV X (.Call (.Name "all" p) [a] [] pos) σ H (.bl (bs.all id)) :=
  EV.of (pe_callB (cr_all hc) hg m (by decide +kernel) (pa_all (es := [a]) (by simp [hs])) (by decide) (by decide) (star_of hs []) rfl) fun H1 e1 Q k => h.ev H1 e1 _ fun q H2 hq e2 h2 => ⟨q, bs, rfl, .inl (.inl h2), k H2 e2⟩
theorem EV.anyN {bs : List Bool} (m : X.mg "any" = none) (h : EL X a σ H (bs.map V.bl)) (hg : Gl X "any" := by rfl) (hc : X.calm = true := by rfl) (hs : noStar a = true := by rfl) : EV X (.Call (.Name "any" p) [a] [] pos) σ H (.bl (bs.any id)) :=
  EV.of (pe_callB (cr_any hc) hg m (by decide +kernel) (pa_all (es := [a]) (by simp [hs])) (by decide) (by decide) (star_of hs []) rfl) fun H1 e1 Q k => h.ev H1 e1 _ fun q H2 hq e2 h2 => ⟨q, bs, rfl, .inl (.inl h2), k H2 e2⟩
theorem EV.any {q : Addr} {bs : List Bool} (m : X.mg "any" = none) (h : EV X a σ H (.ref q)) (hq : SqL X.K H q (bs.map V.bl)) (hg : Gl X "any" := by rfl) (hc : X.calm = true := by rfl) (hs : noStar a = true := by rfl) : EV X (.Call (.Name "any" p) [a] [] pos) σ H (.bl (bs.any id)) :=
  EV.callB (cr_any hc) m (by decide +kernel) (AV.one h) (fun H1 e1 _ k => ⟨q, bs, rfl, ex_l e1 hq, k H1 (Ex.refl H1)⟩) hg (hs := by simp [hs])
/-! ### lists read -/
theorem EV.ixL {q : Addr} {i : Int} (h : EV X a σ H (.ref q)) (hi : EV X b σ H (.int i)) (hq : SqL X.K H q xs) (hv : atI xs i = some v) (hp : PlainIx b := by exact fun _ _ => rfl) : EV X (.Subscript a b pos) σ H v :=
  EV.of (pe_ix ix_list pe_self pe_self hp) (ev_op h.ev hi.ev (rv_ixL hq hv))
theorem EV.ixT {q : Addr} {i : Int} (h : EV X a σ H (.ref q)) (hi : EV X b σ H (.int i)) (hq : SqT X.K H q xs) (hv : atI xs i = some v) (hp : PlainIx b := by exact fun _ _ => rfl) : EV X (.Subscript a b pos) σ H v :=
  EV.of (pe_ix ix_tup pe_self pe_self hp) (ev_op h.ev hi.ev (rv_ixT hq hv))
/-- (a, b, c)[i], the tuple made on the way -/
theorem EV.ixU {i : Int} (h : EU X a σ H xs) (hi : EV X b σ H (.int i)) (hv : atI xs i = some v) (hp : PlainIx b := by exact fun _ _ => rfl) : EV X (.Subscript a b pos) σ H v :=
  EV.of (pe_ix ix_tup pe_self pe_self hp) fun H1 e1 Q k => h.ev H1 e1 _ fun q H2 hq e2 h2 => hi.ev H2 (e1.trans e2) _ fun H3 e3 => ⟨q, xs, i, v, rfl, rfl, .inl (.inl (e3 _ _ h2)), hv, k H3 (e2.trans e3)⟩
theorem EL.slice {q : Addr} {lo hi : Option Expr} {l h : Option Int} {tl th : TO} {p2 : Pos} (he : EV X a σ H (.ref q)) (hq : SqL X.K H q xs) (pl : PO X lo tl) (ph : PO X hi th) (hl : EvO tl σ H l) (hh : EvO th σ H h) : EL X (.Subscript a (.Slice lo hi none p2) pos) σ H (cutV xs l h) :=
  EL.of (pe_slice sl_list pe_self pl ph) (el_sl he.ev hl hh hq)
/-- xs[:n] -/
theorem EL.upto {q : Addr} {i : Int} {p2 : Pos} (he : EV X a σ H (.ref q)) (hi : EV X b σ H (.int i)) (hq : SqL X.K H q xs) : EL X (.Subscript a (.Slice none (some b) none p2) pos) σ H (cutV xs none (some i)) :=
  EL.slice he hq po_none (po_some pe_self) eo_none (eo_some hi.ev)
/-- x in [..], x in (..), made on the way -/
theorem TV.inL (ha : EV X a σ H x) (hb : EL X b σ H xs) (hx : flatV x = true := by rfl) (hf : xs.all flatV = true := by rfl) (hm : behindInMarks .In b = false := by rfl) : TV X (.Compare a [.In] [b] pos) σ H (inV x xs) :=
  TV.of (pt_cmpR op_in_seq pe_self pe_self hm) (et_test (ev_opL ha.ev hb.ev fun _ _ h _ => rv_isL (sq_of h) hx hf))
theorem EV.inL (ha : EV X a σ H x) (hb : EL X b σ H xs) (hx : flatV x = true := by rfl) (hf : xs.all flatV = true := by rfl) (hm : behindInMarks .In b = false := by rfl) : EV X (.Compare a [.In] [b] pos) σ H (.bl (inV x xs)) :=
  EV.of (pe_cmpR op_in_seq pe_self pe_self hm) (ev_opL ha.ev hb.ev fun _ _ h _ => rv_isL (sq_of h) hx hf)
theorem TV.inU (ha : EV X a σ H x) (hb : EU X b σ H xs) (hx : flatV x = true := by rfl) (hf : xs.all flatV = true := by rfl) (hm : behindInMarks .In b = false := by rfl) : TV X (.Compare a [.In] [b] pos) σ H (inV x xs) :=
  TV.of (pt_cmpR op_in_seq pe_self pe_self hm) (et_test (ev_inU ha.ev hb.ev hx hf))
theorem EV.inU (ha : EV X a σ H x) (hb : EU X b σ H xs) (hx : flatV x = true := by rfl) (hf : xs.all flatV = true := by rfl) (hm : behindInMarks .In b = false := by rfl) : EV X (.Compare a [.In] [b] pos) σ H (.bl (inV x xs)) :=
  EV.of (pe_cmpR op_in_seq pe_self pe_self hm) (ev_inU ha.ev hb.ev hx hf)
end
/-! ### calls of the program's own defs -/
/-- the def of that name keeps the promise -/
structure Fc (P : Program) (w : World) (K : PySem.W.Frag) (mg : Str → Option Value) (base : Heap) (k : Nat) (x : Str) (sp : Sp) : Prop where
  ex : ∃ (f : Addr) (fd : FuncData) (ps : List Str), FnOk P w K mg base (L2.CX P w) k f fd ps sp ∧ mg x = some (.ref f) ∧ PySem.W.keepIn K (.ref f) = true ∧ Binds K fd ps []
section
variable {X : Cx} {e a b c : Expr} {es : List Expr} {σ : L2.St} {H : Hp} {Q : VK} {v z : V} {pos p : Pos} {vs xs : List V} {x : Str} {sp : Sp} {k j : Nat} {E : XK}
theorem pe_fc (C : Fc X.prog X.w X.K X.mg X.base k x sp) (hr : Room j X.A) (hk : k ≤ j) (hx : Passes (L2.CX X.prog X.w) X E) (hg : Gl X x) (hs : (e :: es).all noStar = true) (hdb : (x == ("__debug__" : Str)) = false) : PE X (.Call (.Name x p) (e :: es) [] pos) (tCall sp [] E (tArgs X (e :: es))) := by
  obtain ⟨f, fd, ps, F, hm, kp, bn⟩ := C.ex
  exact pe_call F (hr.mono hk) hg hm kp bn .nil hx (pa_all hs) hdb (star_of (List.all_eq_true.mp hs e List.mem_cons_self) es) (back_any es (List.all_eq_true.mpr fun e' he => List.all_eq_true.mp hs e' (List.mem_cons_of_mem _ he)))
theorem EV.call (C : Fc X.prog X.w X.K X.mg X.base k x sp) (hr : Room j X.A) (ha : AV X (e :: es) σ H vs) (hv : SpV sp vs H z) (hk : k ≤ j := by decide) (hg : Gl X x := by rfl) (hs : (e :: es).all noStar = true := by rfl) (hdb : (x == ("__debug__" : Str)) = false := by decide) :
    EV X (.Call (.Name x p) (e :: es) [] pos) σ H z := EV.of (pe_fc C hr hk passL hg hs hdb) (ev_call ha.ev (by rw [List.append_nil]; exact hv))
theorem EL.call (C : Fc X.prog X.w X.K X.mg X.base k x sp) (hr : Room j X.A) (ha : AV X (e :: es) σ H vs) (hv : SpL sp vs H xs) (hk : k ≤ j := by decide) (hg : Gl X x := by rfl) (hs : (e :: es).all noStar = true := by rfl) (hdb : (x == ("__debug__" : Str)) = false := by decide) :
    EL X (.Call (.Name x p) (e :: es) [] pos) σ H xs := EL.of (pe_fc C hr hk passL hg hs hdb) (el_call ha.ev (by rw [List.append_nil]; exact hv))
/-- with what follows: nothing is raised; or what is raised leaves (tk) -/
theorem EW.call (C : Fc X.prog X.w X.K X.mg X.base k x sp) (hr : Room j X.A) (h : tArgs X (e :: es) σ H fun vs H1 => sp vs H1 Q E0) (hk : k ≤ j := by decide) (hg : Gl X x := by rfl) (hs : (e :: es).all noStar = true := by rfl) (hdb : (x == ("__debug__" : Str)) = false := by decide) :
    EW X (.Call (.Name x p) (e :: es) [] pos) σ H Q := by
  refine EW.of (pe_fc C hr hk passL hg hs hdb) (?_ : tCall _ _ _ _ σ H Q)
  unfold tCall
  simpa only [List.append_nil] using h
theorem EW.callX (C : Fc X.prog X.w X.K X.mg X.base k x sp) (hr : Room j X.A) (tk : Takes X (fun cls d _ H => E cls d H)) (h : tArgs X (e :: es) σ H fun vs H1 => sp vs H1 Q E) (hk : k ≤ j := by decide) (hg : Gl X x := by rfl) (hs : (e :: es).all noStar = true := by rfl) (hdb : (x == ("__debug__" : Str)) = false := by decide) :
    EW X (.Call (.Name x p) (e :: es) [] pos) σ H Q := by
  refine EW.of (pe_fc C hr hk (passes_call (E := E) tk fun _ _ _ _ h => h) hg hs hdb) (?_ : tCall _ _ _ _ σ H Q)
  unfold tCall
  simpa only [List.append_nil] using h
end
/-! ### blocks -/
section
variable {X : Cx} {e a b c : Expr} {st : Stmt} {rest : List Stmt} {σ : L2.St} {H : Hp} {D : Ends} {v : V} {xs : List V} {pos p p2 : Pos} {x : Str}
theorem BW.nil (h : D.nx σ H) : BW X [] D σ H := BW.of pss_nil h
theorem BW.cons {t : TS} (h : PS X st t) (r : t { D with nx := BW X rest D } σ H) : BW X (st :: rest) D σ H := BW.of (pss_cons h pss_self) r
theorem BW.asgW {i : Nat} (hN : X.N.Nodup) (hi : X.N[i]? = some x) (hx : Loc X.env.scope x) (h : EW X e σ H fun v H1 => BW X rest D (σ.set i (some v)) H1) (hs : swapsWith e (some (.Name x p)) pos.line X.env = pure false := by rfl) (hf : X.fn x = true ∨ X.env.scope.names.lookup x = some .local := by first | exact .inl rfl | exact .inr rfl) : BW X (.Assign [.Name x p] e pos :: rest) D σ H :=
  BW.cons (ps_set (i := i) hN hi hx pe_self hs hf) h
/-- x = e, e a value; a new list; a new tuple -/
theorem BW.asg (i : Nat) (hN : X.N.Nodup) (h : EV X e σ H v) (k : ∀ H1, Ex H H1 → BW X rest D (σ.set i (some v)) H1) (hi : X.N[i]? = some x := by rfl) (hx : Loc X.env.scope x := by first | exact Or.inl rfl | exact Or.inr rfl) (hs : swapsWith e (some (.Name x p)) pos.line X.env = pure false := by rfl) (hf : X.fn x = true ∨ X.env.scope.names.lookup x = some .local := by first | exact .inl rfl | exact .inr rfl) : BW X (.Assign [.Name x p] e pos :: rest) D σ H :=
  BW.asgW hN hi hx (h.go k) hs hf
theorem BW.asgL (i : Nat) (hN : X.N.Nodup) (h : EL X e σ H xs) (k : ∀ q H1, H q = none → Ex H H1 → H1 q = some (.lst xs) → BW X rest D (σ.set i (some (.ref q))) H1) (hi : X.N[i]? = some x := by rfl) (hx : Loc X.env.scope x := by first | exact Or.inl rfl | exact Or.inr rfl) (hs : swapsWith e (some (.Name x p)) pos.line X.env = pure false := by rfl) (hf : X.fn x = true ∨ X.env.scope.names.lookup x = some .local := by first | exact .inl rfl | exact .inr rfl) : BW X (.Assign [.Name x p] e pos :: rest) D σ H :=
  BW.asgW hN hi hx (h.go k) hs hf
theorem BW.ret (h : EV X e σ H v) (k : ∀ H1, Ex H H1 → D.rt v H1) : BW X (.Return (some e) pos :: rest) D σ H := BW.cons (ps_ret pe_self) (h.go k)
theorem BW.retL (h : EL X e σ H xs) (k : ∀ q H1, H q = none → Ex H H1 → H1 q = some (.lst xs) → D.rt (.ref q) H1) : BW X (.Return (some e) pos :: rest) D σ H := BW.cons (ps_ret pe_self) (h.go k)
theorem BW.retU (h : EU X e σ H xs) (k : ∀ q H1, H q = none → Ex H H1 → H1 q = some (.tup xs) → D.rt (.ref q) H1) : BW X (.Return (some e) pos :: rest) D σ H := BW.cons (ps_ret pe_self) (h.go k)
theorem BW.retW (h : EW X e σ H D.rt) : BW X (.Return (some e) pos :: rest) D σ H := BW.cons (ps_ret pe_self) h
theorem BW.exprW (h : EW X e σ H fun _ H1 => BW X rest D σ H1) (hs : swapsWith e none pos.line X.env = pure false := by rfl) : BW X (.Expr e pos :: rest) D σ H := BW.cons (ps_expr pe_self hs) h
theorem BW.expr (h : EV X e σ H v) (k : ∀ H1, Ex H H1 → BW X rest D σ H1) (hs : swapsWith e none pos.line X.env = pure false := by rfl) : BW X (.Expr e pos :: rest) D σ H := BW.exprW (h.go k) hs
/-- what follows a block, as an Ends -/
abbrev Ends.bef (X : Cx) (rest : List Stmt) (D : Ends) : Ends := { D with nx := BW X rest D }
theorem BW.ite {s1 s2 : List Stmt} {k : Bool} (h : TV X c σ H k) (h1 : k = true → ∀ H1, Ex H H1 → BW X s1 (Ends.bef X rest D) σ H1) (h2 : k = false → ∀ H1, Ex H H1 → BW X s2 (Ends.bef X rest D) σ H1) : BW X (.If c s1 s2 pos :: rest) D σ H :=
  BW.cons (ps_if pt_self pss_self pss_self) (h.go fun H1 e => by
    cases k with
    | true => exact h1 rfl H1 e
    | false => exact h2 rfl H1 e)
/-- an if without else -/
theorem BW.when {s1 : List Stmt} {k : Bool} (h : TV X c σ H k) (h1 : k = true → ∀ H1, Ex H H1 → BW X s1 (Ends.bef X rest D) σ H1) (h2 : k = false → ∀ H1, Ex H H1 → BW X rest D σ H1) : BW X (.If c s1 [] pos :: rest) D σ H :=
  BW.ite h h1 fun hk H1 e => BW.nil (h2 hk H1 e)
/-- an if whose test is known to be false -/
theorem BW.skip {s1 : List Stmt} (h : TV X c σ H false) (h2 : ∀ H1, Ex H H1 → BW X rest D σ H1) : BW X (.If c s1 [] pos :: rest) D σ H := BW.when h (fun z => nomatch z) fun _ => h2
theorem BW.take {s1 s2 : List Stmt} (h : TV X c σ H true) (h1 : ∀ H1, Ex H H1 → BW X s1 (Ends.bef X rest D) σ H1) : BW X (.If c s1 s2 pos :: rest) D σ H := BW.ite h (fun _ => h1) fun z => nomatch z
theorem BW.iteW {s1 s2 : List Stmt} (h : TW X c σ H fun k H1 => (k = true → BW X s1 (Ends.bef X rest D) σ H1) ∧ (k = false → BW X s2 (Ends.bef X rest D) σ H1)) : BW X (.If c s1 s2 pos :: rest) D σ H := by
  refine BW.cons (ps_if pt_self pss_self pss_self) (?_ : tIfS _ _ _ _ σ H)
  refine ⟨fun pins s I => thn (h.run pins s I) fun k s1 ⟨H1, I1, q⟩ => ⟨H1, I1, ?_⟩⟩
  cases k with
  | true => exact q.1 rfl
  | false => exact q.2 rfl
theorem BW.never (h : False) : BW X rest D σ H := h.elim
end
/-! ### a def by its body -/
section
variable {P : Program} {w : World} {K : PySem.W.Frag} {mg : Str → Option Value} {base : Heap}
/-- a def from which nothing is let out -/
theorem okB {x qual : Str} {st : Stmt} {f : Addr} {fd : FuncData} {N ps : List Str} {k : Nat} {sp : Sp} (F : Fun K x qual st f fd) (S : FnScope N ps (defScope st)) (len : ∀ vs H Q E, sp vs H Q E → vs.length = ps.length)
    (hbody : ∀ (cdv : Value) (A : Around) (outer : List Env) (s : Shared) (H : Hp) (vs : List V) (Q : VK) (E : XK), Room k (A.deeper (envOfC qual (defScope st) s.heap.objs.size f cdv)) → sp vs H Q E →
      BW (cxOf (L2.CX P w) P w K mg base N qual (defScope st) f cdv A outer s H E).nox (defBody st) { nx := fun _ H' => Q .non H', rt := Q } (start N vs) H) : FnOk P w K mg base (L2.CX P w) (k + 1) f fd ps sp :=
  F.okX S len fun cdv A outer s H vs Q E hr hsp => ⟨_, pss_self.nox, hbody cdv A outer s H vs Q E hr hsp⟩
/-- a def that may raise -/
theorem okR {x qual : Str} {st : Stmt} {f : Addr} {fd : FuncData} {N ps : List Str} {k : Nat} {sp : Sp} (F : Fun K x qual st f fd) (S : FnScope N ps (defScope st)) (len : ∀ vs H Q E, sp vs H Q E → vs.length = ps.length)
    (hbody : ∀ (cdv : Value) (A : Around) (outer : List Env) (s : Shared) (H : Hp) (vs : List V) (Q : VK) (E : XK), Room k (A.deeper (envOfC qual (defScope st) s.heap.objs.size f cdv)) → sp vs H Q E →
      BW (cxOf (L2.CX P w) P w K mg base N qual (defScope st) f cdv A outer s H E) (defBody st) { nx := fun _ H' => Q .non H', rt := Q } (start N vs) H) : FnOk P w K mg base (L2.CX P w) (k + 1) f fd ps sp :=
  F.okX S len fun cdv A outer s H vs Q E hr hsp => ⟨_, pss_self, hbody cdv A outer s H vs Q E hr hsp⟩
end
end QR

namespace QR
open PySem PySem.Spec PyProof.Rows L2 Evl
/-! ### kinds of values -/
theorem TyX.ex {K : PySem.W.Frag} {H H' : Hp} {x : V} {t : Value} (ty : TyX K H x t) (e : Ex H H') : TyX K H' x t := by
  cases ty with
  | base b =>
    refine .base ?_
    cases b with
    | non => exact .non
    | bl x => exact .bl x
    | int i => exact .int i
    | str x => exact .str x
    | flt x => exact .flt x
    | lst h => exact .lst (e _ _ h)
    | frz h => exact .frz (e _ _ h)
    | tup h => exact .tup (e _ _ h)
    | dK h => exact .dK (e _ _ h)
    | dT h => exact .dT (e _ _ h)
    | ins h c a b d m => exact .ins (e _ _ h) c a b d m
  | byt b => exact .byt b
  | set h => exact .set (e _ _ h)
  | kList h c => exact .kList h c
  | kTuple h c => exact .kTuple h c
  | kDict h c => exact .kDict h c
  | fTuple h => exact .fTuple (e _ _ h)
  | fDict h => exact .fDict (e _ _ h)
theorem ty_list {K : PySem.W.Frag} {H : Hp} {a : Addr} {xs : List V} (h : SqL K H a xs) : TyX K H (.ref a) (.type "list") := by
  rcases h with (h | ⟨o, h⟩) | ⟨o, its, n, h, c, _⟩
  · exact .base (.lst h)
  · exact .base (.frz h)
  · exact .kList h c
theorem ty_tup {K : PySem.W.Frag} {H : Hp} {a : Addr} {xs : List V} (h : SqT K H a xs) : TyX K H (.ref a) (.type "tuple") := by
  rcases h with (h | ⟨o, h⟩) | ⟨o, its, n, h, c, _⟩
  · exact .base (.tup h)
  · exact .fTuple h
  · exact .kTuple h c
section
variable {X : Cx} {e a b c : Expr} {es : List Expr} {σ : L2.St} {H : Hp} {Q : VK} {v x y z : V} {pos p : Pos} {vs xs : List V}
theorem EV.isi {w : V} {t u : Value} {k : Bool} (m : X.mg "isinstance" = none) (ha : EV X a σ H x) (hb : EV X b σ H w) (kc : ClsV w u) (ty : TyX X.K H x t) (hk : PySem.W.kitOne X.K t u = some k) (hg : Gl X "isinstance" := by rfl) (hs : [a, b].all noStar = true := by rfl) :
    EV X (.Call (.Name "isinstance" p) [a, b] [] pos) σ H (.bl k) :=
  EV.callB call_isi m (by decide +kernel) (AV.two ha hb) (fun H1 e1 _ q => ⟨x, w, t, u, k, rfl, kc, TyX.ex ty e1, hk, q H1 (Ex.refl H1)⟩) hg (hs := hs)
/-- isinstance(e, T), T a built-in class -/
theorem EV.isT {f : Str} {T n : String} {k : Bool} {pf : Pos} (m : X.mg "isinstance" = none) (mT : X.mg f = none) (hv : bootBuiltins f = some (.type T)) (ha : EV X a σ H x) (ty : TyX X.K H x (.type n)) (hk : kitB n T = some k) (hg : Gl X "isinstance" := by rfl) (hgT : Gl X f := by rfl) (hs : [a, .Name f pf].all noStar = true := by rfl) (hn : f ≠ "__name__" := by decide) (hd : (f == ("__debug__" : Str)) = false := by decide) :
    EV X (.Call (.Name "isinstance" p) [a, .Name f pf] [] pos) σ H (.bl k) :=
  EV.isi m ha (EV.ty mT hv hgT hn hd) (.ty T) ty (kit_ty hk) hg hs
/-- e is True, e is not True -/
theorem EV.isB2 {i j : Bool} (ha : EV X a σ H (.bl i)) (hb : EV X b σ H (.bl j)) : EV X (.Compare a [.Is] [b] pos) σ H (.bl (decide (i = j))) := EV.cmp op_isBl ha hb (fun H1 _ _ q => ⟨i, j, rfl, rfl, q H1 (Ex.refl H1)⟩) (nomark _)
theorem TV.isB2 {i j : Bool} (ha : EV X a σ H (.bl i)) (hb : EV X b σ H (.bl j)) : TV X (.Compare a [.Is] [b] pos) σ H (decide (i = j)) := TV.op op_isBl ha hb (fun H1 _ _ q => ⟨i, j, rfl, rfl, q H1 (Ex.refl H1)⟩) (nomark _)
theorem TV.notB2 {i j : Bool} (ha : EV X a σ H (.bl i)) (hb : EV X b σ H (.bl j)) : TV X (.Compare a [.IsNot] [b] pos) σ H (!decide (i = j)) := TV.op op_notBl ha hb (fun H1 _ _ q => ⟨i, j, rfl, rfl, q H1 (Ex.refl H1)⟩) (nomark _)
end
/-! ### loops -/
section
variable {X : Cx} {e a b c tg iter : Expr} {body rest : List Stmt} {σ : L2.St} {H : Hp} {D : Ends} {v : V} {xs : List V} {pos p p2 pr : Pos} {x : Str}
/-- what stands behind a turn -/
abbrev Ends.turn (X : Cx) (rest : List Stmt) (D : Ends) (N : L2.St → Hp → Prop) : Ends := { D with nx := N, ct := N, bk := BW X rest D }
theorem BW.whl (W : Nat → L2.St → Hp → Prop) (m0 : Nat) (h0 : W m0 σ H)
    (hs : ∀ m σ' H', W m σ' H' → ∃ k, TV X c σ' H' k ∧ (k = true → ∀ H1, Ex H' H1 → BW X body (Ends.turn X rest D fun σ2 H2 => ∃ m', m' < m ∧ W m' σ2 H2) σ' H1) ∧ (k = false → ∀ H1, Ex H' H1 → BW X rest D σ' H1))
    (hp : PassesOwn (model X.prog X.w) X.A X.env X.xe := by first | exact PassesOwn.never | exact passes_of rfl) : BW X (.While c body [] pos :: rest) D σ H :=
  BW.cons (ps_while hp pt_self pss_self) (s_while W m0 h0 fun m σ' H' hw => by
    obtain ⟨k, h1, h2, h3⟩ := hs m σ' H' hw
    exact ⟨k, h1.ev, fun hk H1 e1 => ⟨_, fun σ2 H2 z => z, h2 hk H1 e1⟩, h3⟩)
theorem s_forR {ta : TA} {tu : TS} {j : Nat} {n : Int} (h : EvA ta σ H [.int n]) (hn : -100000 ≤ n ∧ n ≤ 100000) (Pv : Nat → L2.St → Hp → Prop) (h0 : ∀ H1, Ex H H1 → Pv 0 σ H1)
    (hs : ∀ (i : Nat) σ' H', (i : Int) < n → Pv i σ' H' → tu { D with nx := Pv (i + 1), ct := Pv (i + 1), bk := D.nx } (σ'.set j (some (.int (i : Int)))) H') (hd : ∀ σ' H', Pv n.toNat σ' H' → D.nx σ' H') : tFor (iRng1 ta) (gName j) tu D σ H :=
  h H (Ex.refl H) _ fun H1 e => ⟨n, rfl, by omega, by omega, for_range (lo := 0) (n := n.toNat) Pv (h0 H1 e) (fun i σ' H' hi p => by
    have e0 : (0 : Int) + (i : Int) = (i : Int) := Int.zero_add _
    show tu { D with nx := Pv (i + 1), ct := Pv (i + 1), bk := D.nx } (σ'.set j (some (.int ((0 : Int) + (i : Int))))) H'
    rw [e0]
    exact hs i σ' H' (by omega) p) hd⟩
theorem s_forU {xs : List V} {tl : TE} {g : TG} {tu : TS} {K : PySem.W.Frag} (h : EvU tl σ H xs) (Pv : Addr → Nat → L2.St → Hp → Prop) (h0 : ∀ p H1, H p = none → Ex H H1 → H1 p = some (.tup xs) → Pv p 0 σ H1) (hl : ∀ p i σ' H', i ≤ xs.length → Pv p i σ' H' → SqT K H' p xs)
    (hs : ∀ p i x σ' H', xs[i]? = some x → Pv p i σ' H' → g x σ' H' fun σ2 H2 => tu { D with nx := Pv p (i + 1), ct := Pv p (i + 1), bk := D.nx } σ2 H2) (hd : ∀ p σ' H', Pv p xs.length σ' H' → D.nx σ' H') : tFor (iTup K tl) g tu D σ H :=
  h H (Ex.refl H) _ fun p H1 hp e h1 => ⟨p, rfl, ⟨xs, st_of h1⟩, for_tup (Pv p) (h0 p H1 hp e h1) (hl p) (hs p) (hd p)⟩
theorem turn_long {P : Program} {w : World} {K : PySem.W.Frag} {tg : Expr} (it : Addr) (lo : Int) (n : Nat) : Turn P w K tg (Itr lo n) [it] it (fun i h => IsLongIter h it (lo + (i : Nat) * 1) ((n : Int) - (i : Nat)) 1) where
  mem := by simp
  obj := fun i h st b hb => by
    have e : b = it := by simpa using hb
    subst e
    exact ⟨_, st, fun v z => by
      have z' : Data.fields _ = Data.cell v := z
      cases z'⟩
  keep := fun i h h' st k => k it (by simp) _ st
  item := by
    intro X hP hw hK hc i pins s σ H E I hf st hg
    subst hP hw hK
    obtain ⟨f0, f1, f2, f3, f4, f5⟩ := hf it (by simp)
    have W := Walks.longrange (prog := X.prog) (w := X.w) (I.ok.hd hc) it lo 1 n
    refine W.item i s _ _ hg st fun v h' tk hv st' kk => ?_
    obtain ⟨t, rfl⟩ := hv
    have I1 : Inv X pins σ H { s with heap := h', toks := tk } := I.turned (fun b o hb e => kk b o (by simpa using hb) e) f0 f1 f3 f4 f5
    refine ⟨_, rfl, go_of (s := { s with heap := h', toks := tk }) (n := "longrange_iterator") st' rfl rfl (by decide) ⟨.int (lo + i), H, I1, ⟨t, ?_⟩, ⟨rfl, rfl⟩, st', fun b hb => (hf b hb).1⟩⟩
    rw [Int.mul_one]
  done := by
    intro X hP hw hK hc i pins s σ H E I hf st hg
    subst hP hw hK
    obtain ⟨f0, f1, f2, f3, f4, f5⟩ := hf it (by simp)
    exact wpAny_pyNext_long_end (I.ok.hd hc) st (by have : n ≤ i := hg; omega) fun h' eb => ⟨rfl, I.turned (t' := s.toks) (fun b o hb e => eb b o hb e) f0 f1 f3 f4 f5⟩
  self := fun _ _ _ _ _ st h => wpAny_pyIter_longiter st h
/-- a range object just made, of any bounds, walked -/
theorem range_itA {pins : List (Addr × Obj)} {σ : L2.St} {H : Hp} {s : Shared} {R : It → Hp → Prop} {E : Value → Shared → Prop} {lo hi : Int} {t u v : Tok} {tk : Nat} (I : Inv X pins σ H s)
    (q : R (Itr lo (hi - lo).toNat) H) : wpAny (model X.prog X.w) X.A (pyIter (.ref s.heap.objs.size)) (PIE X pins σ tg R) E { s with heap := s.heap.push { cls := .type "range", data := .fields #[.int lo t, .int hi u, .int 1 v] }, toks := tk } := by
  have I1 : Inv X pins σ H { s with heap := s.heap.push { cls := .type "range", data := .fields #[.int lo t, .int hi u, .int 1 v] }, toks := tk } := I.kept fun b o e => Heap.get?_push_of_some _ e
  have e1 : lo + ((0 : Nat) : Int) * 1 = lo := by simp
  have e2 : (((hi - lo).toNat : Nat) : Int) - ((0 : Nat) : Int) = Builtin.Range.rangeSize lo hi 1 := by rw [rangeSize_one]; split <;> omega
  cases hb : Builtin.Range.small lo hi 1 with
  | true =>
    refine wpAny_pyIter_range (IsRange.new ..) hb ?_
    refine ⟨(s.heap.push { cls := .type "range", data := .fields #[.int lo t, .int hi u, .int 1 v] }).objs.size, [(s.heap.push { cls := .type "range", data := .fields #[.int lo t, .int hi u, .int 1 v] }).objs.size], _, _, H, rfl,
      I1.kept (t' := tk) fun b o e => Heap.get?_push_of_some _ e, turn_range _ lo (hi - lo).toNat, ?_, fun b hb => ?_, q⟩
    · show IsRangeIter _ _ (lo + ((0 : Nat) : Int) * 1) ((((hi - lo).toNat : Nat) : Int) - ((0 : Nat) : Int)) 1
      rw [e1, e2]
      exact Heap.get?_push_size _ rfl
    · have e : b = (s.heap.push { cls := .type "range", data := .fields #[.int lo t, .int hi u, .int 1 v] }).objs.size := by simpa using hb
      subst e
      exact I1.fpOk (Nat.le_refl _) (I1.hok.fresh (Nat.le_refl _))
  | false =>
    refine wpAny_pyIter_longrange (IsRange.new ..) hb ?_
    refine ⟨(s.heap.push { cls := .type "range", data := .fields #[.int lo t, .int hi u, .int 1 v] }).objs.size, [(s.heap.push { cls := .type "range", data := .fields #[.int lo t, .int hi u, .int 1 v] }).objs.size], _, _, H, rfl,
      I1.kept (t' := tk) fun b o e => Heap.get?_push_of_some _ e, turn_long _ lo (hi - lo).toNat, ?_, fun b hb => ?_, q⟩
    · show IsLongIter _ _ (lo + ((0 : Nat) : Int) * 1) ((((hi - lo).toNat : Nat) : Int) - ((0 : Nat) : Int)) 1
      rw [e1, e2]
      exact Heap.get?_push_size _ rfl
    · have e : b = (s.heap.push { cls := .type "range", data := .fields #[.int lo t, .int hi u, .int 1 v] }).objs.size := by simpa using hb
      subst e
      exact I1.fpOk (Nat.le_refl _) (I1.hok.fresh (Nat.le_refl _))
def iRng2A (ta : TA) : TI := fun σ H R => ta σ H fun vs H1 => ∃ i j : Int, vs = [.int i, .int j] ∧ R (Itr i (j - i).toNat) H1
theorem pi_range2A {ta : TA} (hg : Gl X "range") (hm : X.mg "range" = none) (ha : PA X [a, b] ta) (hs : starEach [a, b] X.env = [(false, eval a X.env), (false, eval b X.env)]) (hs2 : starEach [b] X.env = [(false, eval b X.env)]) :
    PI X tg (.Call (.Name "range" p) [a, b] [] pos) (iRng2A ta) := by
  refine ⟨fun pins s σ H R I h => ?_⟩
  refine Call_ (ld_blt I hg hm boot_range (PyProof.Rows.callWith_type1 (thn (ha.run pos pins s σ H _ I h) fun us s1 ⟨vs, H1, I1, r1, q1⟩ => ?_) (by rw [hs, hs2]) (by rw [hs2]; rfl)))
  obtain ⟨i, j, e, q⟩ := q1
  subst e
  cases r1 with
  | cons r rr =>
    cases rr with
    | cons r' rr =>
      cases rr
      obtain ⟨t, rfl⟩ := r
      obtain ⟨t', rfl⟩ := r'
      exact call_range_2 (range_itA I1 q)
theorem s_forR2A {ta : TA} {tu : TS} {j : Nat} {lo n : Int} (h : EvA ta σ H [.int lo, .int n]) (Pv : Nat → L2.St → Hp → Prop) (h0 : ∀ H1, Ex H H1 → Pv 0 σ H1)
    (hs : ∀ (i : Nat) σ' H', lo + (i : Int) < n → Pv i σ' H' → tu { D with nx := Pv (i + 1), ct := Pv (i + 1), bk := D.nx } (σ'.set j (some (.int (lo + (i : Int))))) H') (hd : ∀ σ' H', Pv (n - lo).toNat σ' H' → D.nx σ' H') : tFor (iRng2A ta) (gName j) tu D σ H :=
  h H (Ex.refl H) _ fun H1 e => ⟨lo, n, rfl, for_range (lo := lo) (n := (n - lo).toNat) Pv (h0 H1 e) (fun i σ' H' hi p => hs i σ' H' (by omega) p) hd⟩
/-- for x in range(n) -/
theorem BW.forR (j : Nat) {n : Int} (m : X.mg "range" = none) (hN : X.N.Nodup) (h : EV X a σ H (.int n)) (hn : -100000 ≤ n ∧ n ≤ 100000) (Pv : Nat → L2.St → Hp → Prop) (h0 : ∀ H1, Ex H H1 → Pv 0 σ H1)
    (hs : ∀ (i : Nat) σ' H', (i : Int) < n → Pv i σ' H' → BW X body (Ends.turn X rest D (Pv (i + 1))) (σ'.set j (some (.int (i : Int)))) H') (hd : ∀ σ' H', Pv n.toNat σ' H' → BW X rest D σ' H')
    (hj : X.N[j]? = some x := by rfl) (hx : Loc X.env.scope x := by first | exact Or.inl rfl | exact Or.inr rfl) (hf : X.fn x = true ∨ X.env.scope.names.lookup x = some .local := by first | exact .inl rfl | exact .inr rfl) (hg : Gl X "range" := by rfl) (hst : noStar a = true := by rfl) (hc : X.calm = true := by rfl)
    (hp : PassesOwn (model X.prog X.w) X.A X.env X.xe := by first | exact PassesOwn.never | exact passes_of rfl) : BW X (.For (.Name x p) (.Call (.Name "range" pr) [a] [] p2) body [] pos :: rest) D σ H :=
  BW.cons (ps_for hp hc (pi_range1 hg m (pa_all (es := [a]) (by simp [hst])) (star_of hst [])) (pg_name (i := j) hN hj hx hf) pss_self) (s_forR (AV.one h).ev hn Pv h0 hs hd)
/-- for x in range(lo, n) -/
theorem BW.forR2 (j : Nat) {lo n : Int} (m : X.mg "range" = none) (hN : X.N.Nodup) (h : EV X a σ H (.int lo)) (h' : EV X b σ H (.int n)) (Pv : Nat → L2.St → Hp → Prop) (h0 : ∀ H1, Ex H H1 → Pv 0 σ H1)
    (hs : ∀ (i : Nat) σ' H', lo + (i : Int) < n → Pv i σ' H' → BW X body (Ends.turn X rest D (Pv (i + 1))) (σ'.set j (some (.int (lo + (i : Int))))) H') (hd : ∀ σ' H', Pv (n - lo).toNat σ' H' → BW X rest D σ' H')
    (hj : X.N[j]? = some x := by rfl) (hx : Loc X.env.scope x := by first | exact Or.inl rfl | exact Or.inr rfl) (hf : X.fn x = true ∨ X.env.scope.names.lookup x = some .local := by first | exact .inl rfl | exact .inr rfl) (hg : Gl X "range" := by rfl) (hst : noStar a = true := by rfl) (hst2 : noStar b = true := by rfl) (hc : X.calm = true := by rfl)
    (hp : PassesOwn (model X.prog X.w) X.A X.env X.xe := by first | exact PassesOwn.never | exact passes_of rfl) : BW X (.For (.Name x p) (.Call (.Name "range" pr) [a, b] [] p2) body [] pos :: rest) D σ H :=
  BW.cons (ps_for hp hc (pi_range2A hg m (pa_all (es := [a, b]) (by simp [hst, hst2])) (by rw [star_of hst, star_of hst2]; rfl) (star_of hst2 [])) (pg_name (i := j) hN hj hx hf) pss_self) (s_forR2A (AV.two h h').ev Pv h0 hs hd)
/-- for target in xs, a list that stands still; a list made on the way; a tuple made on the way -/
theorem BW.forL {g : TG} {q : Addr} (h : EV X iter σ H (.ref q)) (hq : SqL X.K H q xs) (hg : PG X tg g) (Pv : Nat → L2.St → Hp → Prop) (h0 : ∀ H1, Ex H H1 → Pv 0 σ H1) (hl : ∀ i σ' H', i ≤ xs.length → Pv i σ' H' → SqL X.K H' q xs)
    (hs : ∀ i x σ' H', xs[i]? = some x → Pv i σ' H' → g x σ' H' fun σ2 H2 => BW X body (Ends.turn X rest D (Pv (i + 1))) σ2 H2) (hd : ∀ σ' H', Pv xs.length σ' H' → BW X rest D σ' H')
    (hc : X.calm = true := by rfl) (hp : PassesOwn (model X.prog X.w) X.A X.env X.xe := by first | exact PassesOwn.never | exact passes_of rfl) (hfs : ∀ x, foldedSetIterable iter X.env x = pure x := by intro _; rfl) : BW X (.For tg iter body [] pos :: rest) D σ H :=
  BW.cons (ps_for hp hc (pi_list pe_self) hg pss_self hfs) (s_forL h.ev hq Pv h0 hl hs hd)
theorem BW.forNL {g : TG} (h : EL X iter σ H xs) (hg : PG X tg g) (Pv : Addr → Nat → L2.St → Hp → Prop) (h0 : ∀ p H1, H p = none → Ex H H1 → H1 p = some (.lst xs) → Pv p 0 σ H1) (hl : ∀ p i σ' H', i ≤ xs.length → Pv p i σ' H' → SqL X.K H' p xs)
    (hs : ∀ p i x σ' H', xs[i]? = some x → Pv p i σ' H' → g x σ' H' fun σ2 H2 => BW X body (Ends.turn X rest D (Pv p (i + 1))) σ2 H2) (hd : ∀ p σ' H', Pv p xs.length σ' H' → BW X rest D σ' H')
    (hc : X.calm = true := by rfl) (hp : PassesOwn (model X.prog X.w) X.A X.env X.xe := by first | exact PassesOwn.never | exact passes_of rfl) (hfs : ∀ x, foldedSetIterable iter X.env x = pure x := by intro _; rfl) : BW X (.For tg iter body [] pos :: rest) D σ H :=
  BW.cons (ps_for hp hc (pi_list pe_self) hg pss_self hfs) (s_forNL h.ev Pv h0 hl hs hd)
theorem BW.forNU {g : TG} (h : EU X iter σ H xs) (hg : PG X tg g) (Pv : Addr → Nat → L2.St → Hp → Prop) (h0 : ∀ p H1, H p = none → Ex H H1 → H1 p = some (.tup xs) → Pv p 0 σ H1) (hl : ∀ p i σ' H', i ≤ xs.length → Pv p i σ' H' → SqT X.K H' p xs)
    (hs : ∀ p i x σ' H', xs[i]? = some x → Pv p i σ' H' → g x σ' H' fun σ2 H2 => BW X body (Ends.turn X rest D (Pv p (i + 1))) σ2 H2) (hd : ∀ p σ' H', Pv p xs.length σ' H' → BW X rest D σ' H')
    (hc : X.calm = true := by rfl) (hp : PassesOwn (model X.prog X.w) X.A X.env X.xe := by first | exact PassesOwn.never | exact passes_of rfl) (hfs : ∀ x, foldedSetIterable iter X.env x = pure x := by intro _; rfl) : BW X (.For tg iter body [] pos :: rest) D σ H :=
  BW.cons (ps_for hp hc (pi_tup pe_self) hg pss_self hfs) (s_forU h.ev Pv h0 hl hs hd)
/-- a, b = e1, e2 -/
theorem BW.par (i j : Nat) {y : Str} {x1 x2 : V} {px py pt : Pos} {kt k2 pt2} (hN : X.N.Nodup) (ha : EV X a σ H x1) (hb : EV X b σ H x2) (k : ∀ H1, Ex H H1 → BW X rest D ((σ.set i (some x1)).set j (some x2)) H1)
    (hi : X.N[i]? = some x := by rfl) (hj : X.N[j]? = some y := by rfl) (hij : i ≠ j := by decide) (hx : X.env.scope.names.lookup x = some .local := by rfl) (hy : X.env.scope.names.lookup y = some .local := by rfl) (hc : X.calm = true := by rfl)
    (hw : swappedStores [.Tuple [.Name x px, .Name y py] kt pt] (.Tuple [a, b] k2 pt2) X.env = pure (some [x, y]) := by rfl)
    (hs : swapsWithSole [.Tuple [.Name x px, .Name y py] kt pt] (.Tuple [a, b] k2 pt2) pos.line X.env = pure false := by rfl) (hst : [a, b].all noStar = true := by rfl) :
    BW X (.Assign [.Tuple [.Name x px, .Name y py] kt pt] (.Tuple [a, b] k2 pt2) pos :: rest) D σ H :=
  BW.cons (ps_par hc hN hi hj hij hx hy (pa_all hst) hw hs) ((AV.two ha hb).ev H (Ex.refl H) _ fun H1 e => ⟨x1, x2, rfl, k H1 e⟩)
/-! ### list comprehensions -/
/-- what an element leads to, in the block -/
def EWb (X : Cx) (scope : Scope) (e : Expr) : TE := fun σ H Q => ∀ (s : Shared) (H0 : Hp) (C : Addr) (cl : List (Str × Addr)) (fp : List Addr), EW (X.blk s H0 scope (compEnvC scope cl C X.env) fp) e σ H Q
theorem pe_selfb {scope : Scope} {s : Shared} {H0 : Hp} {C : Addr} {cl : List (Str × Addr)} {fp : List Addr} : PE (X.blk s H0 scope (compEnvC scope cl C X.env) fp) e (EWb X scope e) := ⟨fun pins s' _ _ _ I h => (h s H0 C cl fp).run pins s' I⟩
/-- an element's value, in the block -/
def EVb (X : Cx) (scope : Scope) (e : Expr) (σ : L2.St) (H : Hp) (v : V) : Prop := ∀ (s : Shared) (H0 : Hp) (C : Addr) (cl : List (Str × Addr)) (fp : List Addr), EV (X.blk s H0 scope (compEnvC scope cl C X.env) fp) e σ H v
theorem EVb.ev {scope : Scope} (h : EVb X scope e σ H v) : Ev (EWb X scope e) σ H v := fun H1 e1 Q q s H0 C cl fp => (h s H0 C cl fp).ev H1 e1 Q q
structure LC (X : Cx) (e : Expr) (σ : L2.St) (H : Hp) (xs : List V) : Prop where
  el : EL X e σ H xs
  st : ∀ {i : Nat} {y : Str} {py spos : Pos} {rest : List Stmt} {D : Ends}, X.N[i]? = some y → X.env.scope.names.lookup y = some .local → swapsWith e (some (.Name y py)) spos.line X.env = pure true →
    (∀ q H1, H q = none → Ex H H1 → H1 q = some (.lst xs) → BW X rest D (σ.set i (some (.ref q))) H1) → BW X (.Assign [.Name y py] e spos :: rest) D σ H
theorem lc_of {elt : Expr} {scope : Scope} {own : List (Str × Nat)} {wi : TI} {g : TG} {xs : List V} (hc : X.calm = true) (hN : X.N.Nodup) (hi : PI X tg iter wi) (ok : BlkOk X.N X.env.scope scope own)
    (hg : ∀ (s : Shared) (H : Hp) (C : Addr) (cl : List (Str × Addr)) (fp : List Addr), PG (X.blk s H scope (compEnvC scope cl C X.env) fp) tg g) (hs : ∀ x, foldedSetIterable iter X.env x = pure x)
    (h : EvL (tLc wi g tYes (EWb X scope elt) (own.map (·.2))) σ H xs) : LC X (.ListComp elt [⟨tg, iter, [], 0⟩] scope pos) σ H xs :=
  ⟨EL.of (pe_lc hc hN hi ok hg (fun _ _ _ _ _ => pts_nil) (fun _ _ _ _ _ => pe_selfb) hs) h, fun hy hl hw k =>
    BW.cons (ps_setLc hc hN hy hl hw hi ok hg (fun _ _ _ _ _ => pts_nil) (fun _ _ _ _ _ => pe_selfb) hs) (h H (Ex.refl H) _ k)⟩
theorem BW.asgC (i : Nat) {y : Str} {py spos : Pos} {xs : List V} (h : LC X e σ H xs) (k : ∀ q H1, H q = none → Ex H H1 → H1 q = some (.lst xs) → BW X rest D (σ.set i (some (.ref q))) H1) (hy : X.N[i]? = some y := by rfl) (hl : X.env.scope.names.lookup y = some .local := by rfl)
    (hw : swapsWith e (some (.Name y py)) spos.line X.env = pure true := by exact sw_true rfl rfl rfl (by decide +kernel)) : BW X (.Assign [.Name y py] e spos :: rest) D σ H := h.st hy hl hw k
theorem given_all (n : Nat) (v : Nat → V) : given n (fun _ => true) v = (List.range n).map v := by
  unfold given
  rw [List.filter_eq_self.mpr (fun _ _ => rfl)]
theorem ev_yes {H : Hp} {σ : L2.St} : EvT tYes σ H true := fun H1 _ _ q => q H1 (Ex.refl H1)
/-- [e for x in range(n)] -/
theorem LC.range {elt : Expr} {scope : Scope} {j : Nat} {n : Int} (v : Nat → V) (m : X.mg "range" = none) (hN : X.N.Nodup) (ok : BlkOk X.N X.env.scope scope [(x, j)]) (h : EV X a σ H (.int n)) (hn : 0 ≤ n ∧ n ≤ 40000)
    (he : ∀ (i : Nat) H1, Ex H H1 → (i : Int) < n → EVb X scope elt ((wipe σ [j]).set j (some (.int (i : Int)))) H1 (v i))
    (hw : ∀ z, wipe ((wipe σ [j]).set j (some z)) [j] = wipe σ [j] := by intro _; rfl)
    (hg : ∀ (s : Shared) (H : Hp) (C : Addr) (cl : List (Str × Addr)) (fp : List Addr), PG (X.blk s H scope (compEnvC scope cl C X.env) fp) (.Name x p) (gName j) := by exact fun _ _ _ _ _ => pg_name (i := _) (by assumption) rfl (Or.inl rfl)) (hgl : Gl X "range" := by rfl) (hst : noStar a = true := by rfl) (hc : X.calm = true := by rfl) :
    LC X (.ListComp elt [⟨.Name x p, .Call (.Name "range" pr) [a] [] p2, [], 0⟩] scope pos) σ H ((List.range n.toNat).map v) := by
  refine lc_of (own := [(x, j)]) hc hN (pi_range1 hgl m (pa_all (es := [a]) (by simp [hst])) (star_of hst [])) ok hg (fun _ => rfl) ?_
  rw [← given_all]
  exact el_lcR1 (fun _ => true) v (AV.one h).ev hn hw (fun i H1 e1 hi => ev_yes) (fun i H1 e1 hi _ => (he i H1 e1 hi).ev)
/-- [e for x in xs] -/
theorem LC.list {elt : Expr} {scope : Scope} {j : Nat} {q : Addr} {xs : List V} (v : Nat → V) (hN : X.N.Nodup) (ok : BlkOk X.N X.env.scope scope [(x, j)]) (h : EV X iter σ H (.ref q)) (hq : SqL X.K H q xs) (hz : xs.length ≤ 40000)
    (he : ∀ (i : Nat) (y : V) H1, Ex H H1 → xs[i]? = some y → EVb X scope elt ((wipe σ [j]).set j (some y)) H1 (v i))
    (hw : ∀ z, wipe ((wipe σ [j]).set j (some z)) [j] = wipe σ [j] := by intro _; rfl)
    (hg : ∀ (s : Shared) (H : Hp) (C : Addr) (cl : List (Str × Addr)) (fp : List Addr), PG (X.blk s H scope (compEnvC scope cl C X.env) fp) (.Name x p) (gName j) := by exact fun _ _ _ _ _ => pg_name (i := _) (by assumption) rfl (Or.inl rfl)) (hc : X.calm = true := by rfl) (hfs : ∀ x, foldedSetIterable iter X.env x = pure x := by intro _; rfl) :
    LC X (.ListComp elt [⟨.Name x p, iter, [], 0⟩] scope pos) σ H ((List.range xs.length).map v) := by
  refine lc_of (own := [(x, j)]) hc hN (pi_list pe_self) ok hg hfs ?_
  rw [← given_all]
  exact el_lcL (fun _ => true) v h.ev hq hz hw (fun i y H1 e1 hi => ev_yes) (fun i y H1 e1 hi _ => (he i y H1 e1 hi).ev)
theorem LC.listN {elt : Expr} {scope : Scope} {j : Nat} {xs : List V} (v : Nat → V) (hN : X.N.Nodup) (ok : BlkOk X.N X.env.scope scope [(x, j)]) (h : EL X iter σ H xs) (hz : xs.length ≤ 40000)
    (he : ∀ (i : Nat) (y : V) H1, Ex H H1 → xs[i]? = some y → EVb X scope elt ((wipe σ [j]).set j (some y)) H1 (v i))
    (hw : ∀ z, wipe ((wipe σ [j]).set j (some z)) [j] = wipe σ [j] := by intro _; rfl)
    (hg : ∀ (s : Shared) (H : Hp) (C : Addr) (cl : List (Str × Addr)) (fp : List Addr), PG (X.blk s H scope (compEnvC scope cl C X.env) fp) (.Name x p) (gName j) := by exact fun _ _ _ _ _ => pg_name (i := _) (by assumption) rfl (Or.inl rfl)) (hc : X.calm = true := by rfl) (hfs : ∀ x, foldedSetIterable iter X.env x = pure x := by intro _; rfl) :
    LC X (.ListComp elt [⟨.Name x p, iter, [], 0⟩] scope pos) σ H ((List.range xs.length).map v) := by
  refine lc_of (own := [(x, j)]) hc hN (pi_list pe_self) ok hg hfs ?_
  rw [← given_all]
  exact el_lcNL (fun _ => true) v h.ev hz hw (fun i y H1 e1 hi => ev_yes) (fun i y H1 e1 hi _ => (he i y H1 e1 hi).ev)
end
end QR

namespace QR
open PySem PySem.Spec PyProof.Rows L2 Evl
/-! ### how many different ones a list of ints has -/
def distinct (ns : List Int) : Nat := (PyProof.Rows.firstMet (fun i => ns.getD i 0) ns.length).length
theorem firstMet_mem (f : Nat → Int) (y : Int) : ∀ i, y ∈ PyProof.Rows.firstMet f i ↔ ∃ j, j < i ∧ f j = y
  | 0 => by
    constructor
    · intro h
      cases h
    · rintro ⟨j, hj, _⟩
      omega
  | i + 1 => by
    have ih := firstMet_mem f y i
    rw [PyProof.Rows.firstMet_succ]
    show y ∈ (if (PyProof.Rows.firstMet f i).any (· == f i) then PyProof.Rows.firstMet f i else PyProof.Rows.firstMet f i ++ [f i]) ↔ _
    by_cases hb : (PyProof.Rows.firstMet f i).any (· == f i) = true
    · rw [if_pos hb, ih]
      constructor
      · rintro ⟨j, hj, e⟩
        exact ⟨j, by omega, e⟩
      · rintro ⟨j, hj, e⟩
        by_cases hji : j < i
        · exact ⟨j, hji, e⟩
        · have : j = i := by omega
          subst this
          obtain ⟨z, hz, ez⟩ := List.any_eq_true.mp hb
          have ez2 : z = f j := eq_of_beq ez
          rw [ez2, e] at hz
          exact ih.mp hz
    · rw [if_neg hb, List.mem_append, ih, List.mem_singleton]
      constructor
      · rintro (⟨j, hj, e⟩ | e)
        · exact ⟨j, by omega, e⟩
        · exact ⟨i, by omega, e.symm⟩
      · rintro ⟨j, hj, e⟩
        by_cases hji : j < i
        · exact .inl ⟨j, hji, e⟩
        · have : j = i := by omega
          subst this
          exact .inr e.symm
theorem firstMet_len (f : Nat → Int) : ∀ i, (PyProof.Rows.firstMet f i).length ≤ i ∧ ((PyProof.Rows.firstMet f i).length = i ↔ ∀ j k, j < k → k < i → f j ≠ f k)
  | 0 => ⟨Nat.le_refl _, by
    constructor
    · intro _ j k _ hk
      omega
    · intro _
      rfl⟩
  | i + 1 => by
    obtain ⟨h1, h2⟩ := firstMet_len f i
    have hm := firstMet_mem f (f i) i
    rw [PyProof.Rows.firstMet_succ]
    show (if (PyProof.Rows.firstMet f i).any (· == f i) then PyProof.Rows.firstMet f i else PyProof.Rows.firstMet f i ++ [f i]).length ≤ i + 1 ∧ ((if (PyProof.Rows.firstMet f i).any (· == f i) then PyProof.Rows.firstMet f i else PyProof.Rows.firstMet f i ++ [f i]).length = i + 1 ↔ _)
    by_cases hb : (PyProof.Rows.firstMet f i).any (· == f i) = true
    · rw [if_pos hb]
      refine ⟨by omega, ⟨fun z => by omega, fun z => ?_⟩⟩
      obtain ⟨y, hy, ey⟩ := List.any_eq_true.mp hb
      have ey2 : y = f i := eq_of_beq ey
      rw [ey2] at hy
      obtain ⟨j, hj, e⟩ := hm.mp hy
      exact absurd e (z j i hj (by omega))
    · rw [if_neg hb, List.length_append]
      refine ⟨by simp; omega, ⟨fun z j k hjk hk e => ?_, fun z => ?_⟩⟩
      · have z1 : (PyProof.Rows.firstMet f i).length = i := by simpa using z
        by_cases hki : k < i
        · exact h2.mp z1 j k hjk hki e
        · have : k = i := by omega
          subst this
          exact hb (List.any_eq_true.mpr ⟨f k, hm.mpr ⟨j, hjk, e⟩, by simp⟩)
      · have := h2.mpr fun j k hjk hk => z j k hjk (by omega)
        simp [this]
theorem distinct_le (ns : List Int) : distinct ns ≤ ns.length := (firstMet_len _ _).1
theorem distinct_iff (ns : List Int) : distinct ns = ns.length ↔ ns.Nodup := by
  unfold distinct
  rw [(firstMet_len _ _).2]
  constructor
  · intro h
    rw [List.Nodup, List.pairwise_iff_getElem]
    intro i j hi hj hij e
    refine h i j hij hj ?_
    simp [List.getD_eq_getElem?_getD, List.getElem?_eq_getElem hi, List.getElem?_eq_getElem hj, e]
  · intro h j k hjk hk e
    have hj : j < ns.length := by omega
    have := List.pairwise_iff_getElem.mp h j k hj hk hjk
    refine this ?_
    simpa [List.getD_eq_getElem?_getD, List.getElem?_eq_getElem hj, List.getElem?_eq_getElem hk] using e
def tLenSetA (K : PySem.W.Frag) (ta : TE) : TE := fun σ H Q => ta σ H fun x H1 => ∃ (l : Addr) (ns : List Int), x = .ref l ∧ SqL K H1 l (ns.map V.int) ∧ ns.length ≤ 4000 ∧ Q (.int (distinct ns : Nat)) H1
theorem pe_lenSetA {X : Cx} {a : Expr} {ta : TE} {p p2 q pos : Pos} (hg : Gl X "len") (hm : X.mg "len" = none) (hg2 : Gl X "set") (hm2 : X.mg "set" = none) (ha : PE X a ta) (hc : X.calm = true)
    (na : starEach [a] X.env = (false, eval a X.env) :: starEach [] X.env) : PE X (.Call (.Name "len" p) [.Call (.Name "set" p2) [a] [] q] [] pos) (tLenSetA X.K ta) := by
  refine ⟨fun pins s σ H Q I h => ?_⟩
  refine Call_ (ld_blt I hg hm boot_len ?_)
  refine PyProof.Rows.callWith_builtin1 (PyProof.Rows.args_cons ?_ rfl) rfl rfl
  refine Call_ (ld_blt I hg2 hm2 boot_set ?_)
  refine PyProof.Rows.callWith_type1 (PyProof.Rows.args_cons (thn (ha.run pins s σ H _ I h) fun v s1 ⟨x, H1, I1, r1, q1⟩ => PyProof.Rows.args_nil ?_) na) na rfl
  obtain ⟨l, ns, rfl, hq, hl, q1⟩ := q1
  cases r1
  obtain ⟨its, r, pl, hz⟩ := I1.list hq
  have hlen : its.toArray.size = ns.length := by rw [List.size_toArray, ← r.length, List.length_map]
  refine call_set_list (I1.ok.hd hc) pl.isList (by simpa using RZ.intsAre_vals r) (by rw [hlen]; unfold scanBound; omega) fun h' tk hS hk => ?_
  refine PyProof.Rows.args_nil ?_
  rw [hlen] at hS
  obtain ⟨o, es, ep, t, ho, hex, hd, _, _, _, hf, hn⟩ := hS
  have I2 : Inv X pins σ H1 { s1 with heap := h', toks := tk } := I1.kept fun b o e => hk b o (Heap.lt_size e) e
  have hdl := distinct_le ns
  unfold distinct at hdl
  exact call_len_set ho hex hd hf (by rw [hn] <;> omega) ⟨.int (distinct ns : Nat), H1, I2.tok _, ⟨_, by rw [hn]; rfl⟩, q1⟩
section
variable {X : Cx} {e a b c o : Expr} {es : List Expr} {st : Stmt} {body rest : List Stmt} {σ : L2.St} {H : Hp} {D : Ends} {Q : VK} {v x y z : V} {pos p p2 q2 pr : Pos} {vs xs : List V} {f m : Str}
theorem EV.lenSet {q : Addr} {ns : List Int} (mL : X.mg "len" = none) (mS : X.mg "set" = none) (h : EV X a σ H (.ref q)) (hq : SqL X.K H q (ns.map V.int)) (hl : ns.length ≤ 4000) (hg : Gl X "len" := by rfl) (hg2 : Gl X "set" := by rfl) (hc : X.calm = true := by rfl) (hs : noStar a = true := by rfl) :
    EV X (.Call (.Name "len" p) [.Call (.Name "set" p2) [a] [] q2] [] pos) σ H (.int (distinct ns : Nat)) :=
  EV.of (pe_lenSetA hg mL hg2 mS pe_self hc (star_of hs [])) fun H1 e1 Q k => h.ev H1 e1 _ fun H2 e2 => ⟨q, ns, rfl, ex_l (e1.trans e2) hq, hl, k H2 e2⟩
/-! ### enumerate -/
theorem el_lcE {K : PySem.W.Frag} {ta : TA} {te : TE} {q : Addr} {j1 j2 : Nat} {ws : List Nat} (v : Nat → V) (h : EvA ta σ H [.ref q]) (hx : SqL K H q xs) (hz : xs.length ≤ 40000)
    (hw : ∀ x y, wipe (((wipe σ ws).set j1 (some x)).set j2 (some y)) ws = wipe σ ws)
    (he : ∀ (i : Nat) (y : V) H1, Ex H H1 → xs[i]? = some y → Ev te (((wipe σ ws).set j1 (some (.int (i : Nat)))).set j2 (some y)) H1 (v i)) :
    EvL (tLc (iEnum K ta) (gTup K 2 (gCons (gName j1) (gCons (gName j2) gNil))) tYes te ws) σ H ((List.range xs.length).map v) := fun H0 e Q k => h H0 e _ fun H1 e1 => by
  refine ⟨q, xs, rfl, ex_l (e.trans e1) hx, fun Dl hD => ?_⟩
  rw [← given_all] at k
  refine ⟨fun i m H' => m = xs.length - i ∧ i ≤ xs.length ∧ Cw H1 (fun _ => true) v Dl i H', ⟨xs.length, by simp, Nat.zero_le _, hD, Ex.new hD, upd_same⟩, ?_⟩
  rintro i m H' ⟨rfl, hi, cw⟩
  have hq' := ex_l ((e.trans e1).trans cw.2.1) hx
  by_cases hlt : i < xs.length
  · refine .inr ⟨⟨xs, xs[i], hq', by simp [hlt]⟩, Cw H1 (fun _ => true) v Dl (i + 1), fun H2 c2 => ⟨xs.length - (i + 1), by omega, rfl, hlt, c2⟩, ?_⟩
    rintro x H2 ⟨T, y, rfl, nT, rfl, fy⟩
    have hy := fy xs hq'
    have cw2 : Cw H1 (fun _ => true) v Dl i (upd H' T (.tup [.int (i : Nat), y])) := by
      refine ⟨cw.1, cw.2.1.trans (Ex.new nT), ?_⟩
      rw [upd_ne (ne_of_none cw.2.2 nT)]
      exact cw.2.2
    refine ⟨T, [.int (i : Nat), y], rfl, .inl (.inl upd_same), rfl, .int (i : Nat), [y], rfl, y, [], rfl, rfl, hw _ _, ?_⟩
    exact cw_turn cw2 (by omega) ev_yes (fun _ => he i y H1 (e.trans e1) hy)
  · have : i = xs.length := by omega
    subst this
    exact .inl ⟨⟨xs, hq', Nat.le_refl _⟩, k Dl H' (fresh_back e1 cw.1) (e1.trans cw.2.1) cw.2.2⟩
/-- [e for r, p in enumerate(xs)] -/
theorem LC.enum {elt : Expr} {scope : Scope} {n1 n2 : Str} {j1 j2 : Nat} {q : Addr} {px py pt : Pos} {kt : Nat} (v : Nat → V) (mE : X.mg "enumerate" = none) (hN : X.N.Nodup) (ok : BlkOk X.N X.env.scope scope [(n1, j1), (n2, j2)]) (h : EV X a σ H (.ref q)) (hq : SqL X.K H q xs) (hz : xs.length ≤ 40000)
    (he : ∀ (i : Nat) (y : V) H1, Ex H H1 → xs[i]? = some y → EVb X scope elt (((wipe σ [j1, j2]).set j1 (some (.int (i : Nat)))).set j2 (some y)) H1 (v i))
    (hw : ∀ x y, wipe (((wipe σ [j1, j2]).set j1 (some x)).set j2 (some y)) [j1, j2] = wipe σ [j1, j2] := by intro _ _; rfl)
    (hg : ∀ (s : Shared) (H : Hp) (C : Addr) (cl : List (Str × Addr)) (fp : List Addr), PG (X.blk s H scope (compEnvC scope cl C X.env) fp) (.Tuple [.Name n1 px, .Name n2 py] kt pt) (gTup X.K 2 (gCons (gName j1) (gCons (gName j2) gNil))) := by
      exact fun _ _ _ _ _ => pg_tup rfl (pgs_cons (pg_name (i := _) (by assumption) rfl (Or.inl rfl)) (pgs_cons (pg_name (i := _) (by assumption) rfl (Or.inl rfl)) pgs_nil)))
    (hgl : Gl X "enumerate" := by rfl) (hst : noStar a = true := by rfl) (hc : X.calm = true := by rfl) :
    LC X (.ListComp elt [⟨.Tuple [.Name n1 px, .Name n2 py] kt pt, .Call (.Name "enumerate" pr) [a] [] p2, [], 0⟩] scope pos) σ H ((List.range xs.length).map v) :=
  lc_of (own := [(n1, j1), (n2, j2)]) hc hN (pi_enum hgl mE (pa_all (es := [a]) (by simp [hst])) (star_of hst [])) ok hg (fun _ => rfl) (el_lcE v (AV.one h).ev hq hz hw fun i y H1 e1 hi => (he i y H1 e1 hi).ev)
theorem s_forE {K : PySem.W.Frag} {ta : TA} {tu : TS} {q : Addr} {j1 j2 : Nat} (h : EvA ta σ H [.ref q]) (hx : SqL K H q xs) (Pv : Nat → L2.St → Hp → Prop) (h0 : ∀ H1, Ex H H1 → Pv 0 σ H1) (hl : ∀ i σ' H', i ≤ xs.length → Pv i σ' H' → SqL K H' q xs)
    (hs : ∀ (i : Nat) (y : V) σ' H' H2, xs[i]? = some y → Pv i σ' H' → Ex H' H2 → (∀ b, H2 b = none → H' b = none) → tu { D with nx := Pv (i + 1), ct := Pv (i + 1), bk := D.nx } ((σ'.set j1 (some (.int (i : Nat)))).set j2 (some y)) H2) (hd : ∀ σ' H', Pv xs.length σ' H' → D.nx σ' H') :
    tFor (iEnum K ta) (gTup K 2 (gCons (gName j1) (gCons (gName j2) gNil))) tu D σ H := h H (Ex.refl H) _ fun H1 e => by
  refine ⟨q, xs, rfl, ex_l e hx, fun i m σ' H' => m = xs.length - i ∧ i ≤ xs.length ∧ Pv i σ' H', ⟨xs.length, by simp, Nat.zero_le _, h0 H1 e⟩, ?_⟩
  rintro i m σ' H' ⟨rfl, hi, pv⟩
  have hq' := hl i σ' H' hi pv
  by_cases hlt : i < xs.length
  · refine .inr ⟨⟨xs, xs[i], hq', by simp [hlt]⟩, Pv (i + 1), fun σ2 H2 p2 => ⟨xs.length - (i + 1), by omega, rfl, hlt, p2⟩, ?_⟩
    rintro x H2 ⟨T, y, rfl, nT, rfl, fy⟩
    refine ⟨T, [.int (i : Nat), y], rfl, .inl (.inl upd_same), rfl, .int (i : Nat), [y], rfl, y, [], rfl, rfl, ?_⟩
    refine hs i y σ' H' _ (fy xs hq') pv (Ex.new nT) fun b hb => ?_
    by_cases hbT : b = T
    · rw [hbT]
      exact nT
    · rw [upd_ne hbT] at hb
      exact hb
  · have : i = xs.length := by omega
    subst this
    exact .inl ⟨⟨xs, hq', Nat.le_refl _⟩, hd σ' H' pv⟩
/-- for i, x in enumerate(xs) -/
theorem BW.forE (j1 j2 : Nat) {q : Addr} {n1 n2 : Str} {px py pt : Pos} {kt : Nat} (mE : X.mg "enumerate" = none) (hN : X.N.Nodup) (h : EV X a σ H (.ref q)) (hq : SqL X.K H q xs) (Pv : Nat → L2.St → Hp → Prop) (h0 : ∀ H1, Ex H H1 → Pv 0 σ H1) (hl : ∀ i σ' H', i ≤ xs.length → Pv i σ' H' → SqL X.K H' q xs)
    (hs : ∀ (i : Nat) (y : V) σ' H' H2, xs[i]? = some y → Pv i σ' H' → Ex H' H2 → (∀ b, H2 b = none → H' b = none) → BW X body (Ends.turn X rest D (Pv (i + 1))) ((σ'.set j1 (some (.int (i : Nat)))).set j2 (some y)) H2) (hd : ∀ σ' H', Pv xs.length σ' H' → BW X rest D σ' H')
    (hj1 : X.N[j1]? = some n1 := by rfl) (hx1 : Loc X.env.scope n1 := by first | exact Or.inl rfl | exact Or.inr rfl) (hf1 : X.fn n1 = true ∨ X.env.scope.names.lookup n1 = some .local := by first | exact .inl rfl | exact .inr rfl)
    (hj2 : X.N[j2]? = some n2 := by rfl) (hx2 : Loc X.env.scope n2 := by first | exact Or.inl rfl | exact Or.inr rfl) (hf2 : X.fn n2 = true ∨ X.env.scope.names.lookup n2 = some .local := by first | exact .inl rfl | exact .inr rfl)
    (hg : Gl X "enumerate" := by rfl) (hst : noStar a = true := by rfl) (hc : X.calm = true := by rfl)
    (hp : PassesOwn (model X.prog X.w) X.A X.env X.xe := by first | exact PassesOwn.never | exact passes_of rfl) : BW X (.For (.Tuple [.Name n1 px, .Name n2 py] kt pt) (.Call (.Name "enumerate" pr) [a] [] p2) body [] pos :: rest) D σ H :=
  BW.cons (ps_for hp hc (pi_enum hg mE (pa_all (es := [a]) (by simp [hst])) (star_of hst [])) (pg_tup hc (pgs_cons (pg_name (i := j1) hN hj1 hx1 hf1) (pgs_cons (pg_name (i := j2) hN hj2 hx2 hf2) pgs_nil))) pss_self) (s_forE (AV.one h).ev hq Pv h0 hl hs hd)
/-! ### objects -/
theorem EV.fld {ob C dx : Addr} {fs : List (Str × V)} (h : EV X e σ H (.ref ob)) (ho : H ob = some (.ins C dx fs)) (cl : Cls X.K C) (na : NoAttr X.K C f) (hl : fs.lookup f = some v) (hb : attributeBase e f X.env (eval e X.env) = eval e X.env := by rfl) : EV X (.Attribute e f pos) σ H v :=
  EV.of (pe_fld pe_self hb) fun H1 e1 Q k => h.ev H1 e1 _ fun H2 e2 => ⟨ob, C, dx, fs, v, rfl, e2 _ _ (e1 _ _ ho), cl, na, hl, k H2 e2⟩
/-- a method of the class at C keeps the promise -/
structure Mc (P : Program) (w : World) (K : PySem.W.Frag) (mg : Str → Option Value) (base : Heap) (k : Nat) (C : Addr) (m : Str) (sp : Sp) : Prop where
  ex : ∃ (f : Addr) (fd : FuncData) (ps : List Str), Cls K C ∧ Meth K C m f ∧ FnOk P w K mg base (L2.CX P w) k f fd ps sp ∧ Binds K fd ps []
theorem EV.meth {apos : Pos} {C ob dx : Addr} {fs : List (Str × V)} {sp : Sp} {k j : Nat} {pl : Sem Bool} (M : Mc X.prog X.w X.K X.mg X.base k C m sp) (hr : Room j X.A) (h : EV X o σ H (.ref ob)) (ho : H ob = some (.ins C dx fs)) (hl : fs.lookup m = none) (ha : AV X (e :: es) σ H vs) (hv : SpV sp (.ref ob :: vs) H z)
    (hk : k ≤ j := by decide) (hs : (e :: es).all noStar = true := by rfl)
    (ht : eval (.Call (.Attribute o m apos) (e :: es) [] pos) X.env = (do
      let ov ← eval o X.env
      standAt apos.atName
      let (f, first) ← holding [ov] (getMethod ov m pl)
      callWith pos f first (backTo pos (starEach (e :: es) X.env)) (backToKw pos (keywordEach [] X.env))) := by rfl) : EV X (.Call (.Attribute o m apos) (e :: es) [] pos) σ H z := by
  obtain ⟨f, fd, ps, cl, me, F, bn⟩ := M.ex
  refine EV.of (pe_meth (pl := pl) pe_self cl me F (hr.mono hk) bn .nil passL (pa_all hs) (star_of (List.all_eq_true.mp hs e List.mem_cons_self) es) (back_any es (List.all_eq_true.mpr fun e' he => List.all_eq_true.mp hs e' (List.mem_cons_of_mem _ he))) ht) fun H1 e1 Q kq => ?_
  refine h.ev H1 e1 _ fun H2 e2 => ⟨ob, dx, fs, rfl, e2 _ _ (e1 _ _ ho), hl, ?_⟩
  refine ha.ev H2 (e1.trans e2) _ fun H3 e3 => ?_
  rw [List.append_nil]
  exact hv H3 ((e1.trans e2).trans e3) Q (fun H4 e4 => kq H4 ((e2.trans e3).trans e4)) _
/-- a new instance of C with these fields -/
def EvI (te : TE) (σ : L2.St) (H : Hp) (C : Addr) (fs : List (Str × V)) : Prop := ∀ H1, Ex H H1 → ∀ Q : VK, (∀ q dx H2, H1 q = none → Ex H1 H2 → H2 q = some (.ins C dx fs) → Q (.ref q) H2) → te σ H1 Q
structure EI (X : Cx) (e : Expr) (σ : L2.St) (H : Hp) (C : Addr) (fs : List (Str × V)) : Prop where
  ev : EvI (EW X e) σ H C fs
theorem EI.go {C : Addr} {fs : List (Str × V)} (h : EI X e σ H C fs) (k : ∀ q dx H1, H q = none → Ex H H1 → H1 q = some (.ins C dx fs) → Q (.ref q) H1) : EW X e σ H Q := h.ev H (Ex.refl H) Q k
/-- the class of that name, at C, made by an __init__ that keeps the promise -/
structure Kc (P : Program) (w : World) (K : PySem.W.Frag) (mg : Str → Option Value) (base : Heap) (k : Nat) (x : Str) (C : Addr) (sp : Sp) : Prop where
  ex : ∃ (f : Addr) (fd : FuncData) (ps : List Str), Mk K C f ∧ FnOk P w K mg base (L2.CX P w) k f fd ps sp ∧ mg x = some (.ref C) ∧ Binds K fd ps []
/-- __init__ that sets the fields fs of the new instance -/
def spInit (C : Addr) (names : List Str) : Sp := fun vs H Q _ => ∃ (q dx : Addr) (us : List V), vs = .ref q :: us ∧ us.length = names.length ∧ H q = some (.ins C dx []) ∧
  ∀ H2, (∀ b u, b ≠ q → H b = some u → H2 b = some u) → H2 q = some (.ins C dx (names.zip us)) → Q .non H2
theorem EI.make {x : Str} {C : Addr} {names : List Str} {k j : Nat} (M : Kc X.prog X.w X.K X.mg X.base k x C (spInit C names)) (hr : Room j X.A) (ha : AV X (e :: es) σ H vs) (hl : vs.length = names.length := by rfl) (hk : k + 1 ≤ j := by decide) (hg : Gl X x := by rfl) (hs : (e :: es).all noStar = true := by rfl) (hdb : (x == ("__debug__" : Str)) = false := by decide) :
    EI X (.Call (.Name x p) (e :: es) [] pos) σ H C (names.zip vs) := by
  obtain ⟨f, fd, ps, mk, F, hm, bn⟩ := M.ex
  refine ⟨fun H1 e1 Q q => EW.of (pe_make mk F (hr.mono hk) hg hm bn .nil passL (pa_all hs) hdb (star_of (List.all_eq_true.mp hs e List.mem_cons_self) es) (back_any es (List.all_eq_true.mpr fun e' he => List.all_eq_true.mp hs e' (List.mem_cons_of_mem _ he)))) ?_⟩
  refine ha.ev H1 e1 _ fun H2 e2 => ?_
  intro x dx nx ndx nex
  rw [List.append_nil]
  refine ⟨x, dx, vs, rfl, hl, upd_same, fun H3 keep h3 => ⟨rfl, ?_⟩⟩
  refine q x dx H3 (fresh_back e2 nx) (fun b u hb => ?_) h3
  have hb2 := e2 _ _ hb
  have n1 : b ≠ x := ne_of_none hb2 nx
  refine keep b u n1 ?_
  rw [upd_ne n1, upd_ne (ne_of_none hb2 ndx)]
  exact hb2
/-- self.f = e -/
theorem BW.setF {ob C dx : Addr} {fs : List (Str × V)} {apos : Pos} (hv : EV X e σ H v) (h : EV X o σ H (.ref ob)) (ho : H ob = some (.ins C dx fs)) (cl : Cls X.K C) (na : NoAttr X.K C f) (hl : fs.length < 1000) (k : ∀ H1, Ex H H1 → BW X rest D σ (upd H1 ob (.ins C dx (putF f v fs))))
    (hs : swapsWith e (some (.Attribute o f apos)) pos.line X.env = pure false := by rfl) : BW X (.Assign [.Attribute o f apos] e pos :: rest) D σ H :=
  BW.cons (ps_fld pe_self pe_self hs) (hv.ev H (Ex.refl H) _ fun H1 e1 => h.ev H1 e1 _ fun H2 e2 => ⟨ob, C, dx, fs, rfl, e2 _ _ (e1 _ _ ho), cl, na, hl, k H2 (e1.trans e2)⟩)
/-- x = C(..); return C(..) -/
theorem BW.asgI {n : Str} (i : Nat) {C : Addr} {fs : List (Str × V)} (hN : X.N.Nodup) (h : EI X e σ H C fs) (k : ∀ q dx H1, H q = none → Ex H H1 → H1 q = some (.ins C dx fs) → BW X rest D (σ.set i (some (.ref q))) H1) (hi : X.N[i]? = some n := by rfl) (hx : Loc X.env.scope n := by first | exact Or.inl rfl | exact Or.inr rfl) (hs : swapsWith e (some (.Name n p)) pos.line X.env = pure false := by rfl) (hf : X.fn n = true ∨ X.env.scope.names.lookup n = some .local := by first | exact .inl rfl | exact .inr rfl) : BW X (.Assign [.Name n p] e pos :: rest) D σ H :=
  BW.asgW hN hi hx (h.go k) hs hf
theorem BW.retI {C : Addr} {fs : List (Str × V)} (h : EI X e σ H C fs) (k : ∀ q dx H1, H q = none → Ex H H1 → H1 q = some (.ins C dx fs) → D.rt (.ref q) H1) : BW X (.Return (some e) pos :: rest) D σ H := BW.retW (h.go k)
/-- a call that hands back a new instance -/
def SpI (sp : Sp) (vs : List V) (H : Hp) (C : Addr) (fs : List (Str × V)) : Prop := ∀ H1, Ex H H1 → ∀ Q : VK, (∀ q dx H2, H1 q = none → Ex H1 H2 → H2 q = some (.ins C dx fs) → Q (.ref q) H2) → ∀ E : XK, sp vs H1 Q E
theorem EI.call {x : Str} {C : Addr} {fs : List (Str × V)} {sp : Sp} {k j : Nat} (Cc : Fc X.prog X.w X.K X.mg X.base k x sp) (hr : Room j X.A) (ha : AV X (e :: es) σ H vs) (hv : SpI sp vs H C fs) (hk : k ≤ j := by decide) (hg : Gl X x := by rfl) (hs : (e :: es).all noStar = true := by rfl) (hdb : (x == ("__debug__" : Str)) = false := by decide) :
    EI X (.Call (.Name x p) (e :: es) [] pos) σ H C fs := ⟨fun H1 e1 Q q => EW.of (pe_fc Cc hr hk passL hg hs hdb) (ha.ev H1 e1 _ fun H2 e2 => by
      rw [List.append_nil]
      exact hv H2 (e1.trans e2) Q (fun r dx H3 nr e3 h3 => q r dx H3 (fresh_back e2 nr) (e2.trans e3) h3) _)⟩
/-- what a class of the program has: its instances are told by isinstance -/
structure Ci (K : PySem.W.Frag) (mg : Str → Option Value) (x : Str) (C : Addr) : Prop where
  cl : Cls K C
  mg : mg x = some (.ref C)
  ha : PySem.W.findIn K (.ref C) "__class__" = some (some (.builtin "object.__class__"))
  hn : PySem.W.specialIn K (.builtin "object.__class__") "__get__" = some (some (.builtin "getset_descriptor.__get__"))
  htk : PySem.W.takesIn K (.builtin "object.__class__") = some true
  hm : PySem.W.mroIn K C (.type "object") = some true
theorem Ci.ty {K : PySem.W.Frag} {mg : Str → Option Value} {x : Str} {C q dx : Addr} {fs : List (Str × V)} (c : Ci K mg x C) (h : H q = some (.ins C dx fs)) : TyX K H (.ref q) (.ref C) := .base (.ins h c.cl c.ha c.hn c.htk c.hm)
/-- isinstance(e, D), D a class of the program; e an instance of C -/
theorem EV.isC {x : Str} {C Dc q dx : Addr} {fs : List (Str × V)} {k : Bool} {pf : Pos} {n : Str} (mI : X.mg "isinstance" = none) (c : Ci X.K X.mg n C) (hD : X.mg x = some (.ref Dc)) (ha : EV X a σ H (.ref q)) (hq : H q = some (.ins C dx fs)) (hk : PySem.W.kitOne X.K (.ref C) (.ref Dc) = some k) (hg : Gl X "isinstance" := by rfl) (hgD : Gl X x := by rfl) (hs : [a, .Name x pf].all noStar = true := by rfl) (hd : (x == ("__debug__" : Str)) = false := by decide) :
    EV X (.Call (.Name "isinstance" p) [a, .Name x pf] [] pos) σ H (.bl k) := EV.isi mI ha (EV.glob hD hgD hd) (.own Dc) (c.ty hq) hk hg hs
/-! ### a comprehension over a tuple made on the way -/
theorem el_lcNU {K : PySem.W.Frag} {tl te : TE} {j : Nat} {ws : List Nat} (v : Nat → V) (h : EvU tl σ H xs) (hz : xs.length ≤ 40000) (hw : ∀ x, wipe ((wipe σ ws).set j (some x)) ws = wipe σ ws)
    (he : ∀ (i : Nat) (y : V) H1, Ex H H1 → xs[i]? = some y → Ev te ((wipe σ ws).set j (some y)) H1 (v i)) : EvL (tLc (iTup K tl) (gName j) tYes te ws) σ H ((List.range xs.length).map v) := fun H0 e Q q => h H0 e _ fun r H1 hr e1 hx => by
  rw [← given_all] at q
  exact ⟨r, rfl, ⟨xs, st_of hx⟩, fun Dl hD => lc_tup (xs := xs) (Cw H1 (fun _ => true) v Dl) ⟨hD, Ex.new hD, upd_same⟩ (fun i H' _ p => st_of (p.2.1 r _ hx))
    (fun i y H' hi p => ⟨hw y, cw_turn p (by have := (List.getElem?_eq_some_iff.mp hi).1; omega) ev_yes (fun _ => he i y H1 (e.trans e1) hi)⟩)
    (fun H' p => q Dl H' (fresh_back e1 p.1) (e1.trans p.2.1) p.2.2)⟩
theorem LC.tupN {elt iter : Expr} {scope : Scope} {n : Str} {j : Nat} (v : Nat → V) (hN : X.N.Nodup) (ok : BlkOk X.N X.env.scope scope [(n, j)]) (h : EU X iter σ H xs) (hz : xs.length ≤ 40000)
    (he : ∀ (i : Nat) (y : V) H1, Ex H H1 → xs[i]? = some y → EVb X scope elt ((wipe σ [j]).set j (some y)) H1 (v i))
    (hw : ∀ z, wipe ((wipe σ [j]).set j (some z)) [j] = wipe σ [j] := by intro _; rfl)
    (hg : ∀ (s : Shared) (H : Hp) (C : Addr) (cl : List (Str × Addr)) (fp : List Addr), PG (X.blk s H scope (compEnvC scope cl C X.env) fp) (.Name n p) (gName j) := by exact fun _ _ _ _ _ => pg_name (i := _) (by assumption) rfl (Or.inl rfl)) (hc : X.calm = true := by rfl) (hfs : ∀ x, foldedSetIterable iter X.env x = pure x := by intro _; rfl) :
    LC X (.ListComp elt [⟨.Name n p, iter, [], 0⟩] scope pos) σ H ((List.range xs.length).map v) :=
  lc_of (own := [(n, j)]) hc hN (pi_tup pe_self) ok hg hfs (el_lcNU v h.ev hz hw fun i y H1 e1 hi => (he i y H1 e1 hi).ev)
end
end QR

namespace QR
open PySem PySem.Spec PyProof.Rows L2 Evl
/-! ### data: what == sees -/
mutual
theorem Dp.ex {K : PySem.W.Frag} {H H' : Hp} (e : Ex H H') : ∀ {v : V} {d : PyData}, Dp K H v d → Dp K H' v d
  | _, _, .non => .non
  | _, _, .bl b => .bl b
  | _, _, .int i => .int i
  | _, _, .str x => .str x
  | _, _, .lst h a => .lst (ex_l e h) (DpAll.ex e a)
  | _, _, .tup h a => .tup (ex_t e h) (DpAll.ex e a)
theorem DpAll.ex {K : PySem.W.Frag} {H H' : Hp} (e : Ex H H') : ∀ {vs : List V} {ds : List PyData}, DpAll K H vs ds → DpAll K H' vs ds
  | _, _, .nil => .nil
  | _, _, .cons a b => .cons (Dp.ex e a) (DpAll.ex e b)
end
theorem dp_ints {K : PySem.W.Frag} {H : Hp} : ∀ ns : List Int, DpAll K H (ns.map V.int) (ns.map PyData.int)
  | [] => .nil
  | n :: ns => .cons (.int n) (dp_ints ns)
theorem dp_bls {K : PySem.W.Frag} {H : Hp} : ∀ ns : List Bool, DpAll K H (ns.map V.bl) (ns.map PyData.bool)
  | [] => .nil
  | n :: ns => .cons (.bl n) (dp_bls ns)
/-- a list of whole numbers, of truths, as data -/
abbrev dI (ns : List Int) : PyData := .list (ns.map PyData.int)
abbrev dB (ns : List Bool) : PyData := .list (ns.map PyData.bool)
theorem eqvA_ints : ∀ ns ms : List Int, PyData.eqvAll (ns.map PyData.int) (ms.map PyData.int) = decide (ns = ms)
  | [], [] => by simp [PyData.eqvAll]
  | [], _ :: _ => by simp [PyData.eqvAll]
  | _ :: _, [] => by simp [PyData.eqvAll]
  | n :: ns, m :: ms => by
    simp only [List.map_cons, PyData.eqvAll, PyData.eqv, eqvA_ints ns ms, List.cons.injEq, Bool.beq_eq_decide_eq, Bool.decide_and]
theorem eqvA_bls : ∀ ns ms : List Bool, PyData.eqvAll (ns.map PyData.bool) (ms.map PyData.bool) = decide (ns = ms)
  | [], [] => by simp [PyData.eqvAll]
  | [], _ :: _ => by simp [PyData.eqvAll]
  | _ :: _, [] => by simp [PyData.eqvAll]
  | n :: ns, m :: ms => by
    simp only [List.map_cons, PyData.eqvAll, PyData.eqv, eqvA_bls ns ms, List.cons.injEq, Bool.beq_eq_decide_eq, Bool.decide_and]
theorem eqv_ints (ns ms : List Int) : PyData.eqv (dI ns) (dI ms) = decide (ns = ms) := by
  simp only [PyData.eqv, eqvA_ints]
theorem eqv_bls (ns ms : List Bool) : PyData.eqv (dB ns) (dB ms) = decide (ns = ms) := by
  simp only [PyData.eqv, eqvA_bls]
theorem lay_ints : ∀ ns : List Int, PyData.canLayAll0 (ns.map PyData.int) = true
  | [] => rfl
  | n :: ns => by simp [PyData.canLayAll0, PyData.canLay0, lay_ints ns]
theorem lay_bls : ∀ ns : List Bool, PyData.canLayAll0 (ns.map PyData.bool) = true
  | [] => rfl
  | n :: ns => by simp [PyData.canLayAll0, PyData.canLay0, lay_bls ns]
theorem dep_ints : ∀ ns : List Int, PyData.depthAll (ns.map PyData.int) = 0
  | [] => rfl
  | n :: ns => by simp [PyData.depthAll, PyData.depth, dep_ints ns]
theorem dep_bls : ∀ ns : List Bool, PyData.depthAll (ns.map PyData.bool) = 0
  | [] => rfl
  | n :: ns => by simp [PyData.depthAll, PyData.depth, dep_bls ns]
theorem shaped_ints (ns : List Int) : SeqAt.shaped (dI ns) = true := by
  simp [SeqAt.shaped, PyData.canLay0, PyData.depth, lay_ints, dep_ints]
theorem shaped_bls (ns : List Bool) : SeqAt.shaped (dB ns) = true := by
  simp [SeqAt.shaped, PyData.canLay0, PyData.depth, lay_bls, dep_bls]
section
variable {X : Cx} {e a b c o tg iter : Expr} {es : List Expr} {st : Stmt} {body rest : List Stmt} {σ : L2.St} {H : Hp} {D : Ends} {Q : VK} {v x y z : V} {pos p p2 q2 pr : Pos} {vs xs : List V} {f m : Str}
/-! ### a list, new or not -/
structure ES (X : Cx) (e : Expr) (σ : L2.St) (H : Hp) (xs : List V) : Prop where
  ev : ∀ H1, Ex H H1 → ∀ Q : VK, (∀ p H2, Ex H1 H2 → SqL X.K H2 p xs → Q (.ref p) H2) → EW X e σ H1 Q
theorem ES.new (h : EL X e σ H xs) : ES X e σ H xs := ⟨fun H1 e1 Q q => h.ev H1 e1 Q fun p H2 _ e2 h2 => q p H2 e2 (sq_of h2)⟩
theorem ES.old {q : Addr} (h : EV X e σ H (.ref q)) (hq : SqL X.K H q xs) : ES X e σ H xs := ⟨fun H1 e1 Q k => h.ev H1 e1 Q fun H2 e2 => k q H2 e2 (ex_l (e1.trans e2) hq)⟩
theorem ES.is {ys : List V} (h : ES X e σ H xs) (q : xs = ys) : ES X e σ H ys := q ▸ h
theorem ES.mono {H' : Hp} (h : ES X e σ H xs) (e1 : Ex H H') : ES X e σ H' xs := ⟨fun H1 e2 Q q => h.ev H1 (e1.trans e2) Q q⟩
/-! ### data -/
structure ED (X : Cx) (e : Expr) (σ : L2.St) (H : Hp) (d : PyData) : Prop where
  ev : ∀ H1, Ex H H1 → ∀ Q : VK, (∀ v H2, Ex H1 H2 → Dp X.K H2 v d → Q v H2) → EW X e σ H1 Q
theorem ED.val {d : PyData} (h : EV X e σ H v) (hd : Dp X.K H v d) : ED X e σ H d := ⟨fun H1 e1 Q q => h.ev H1 e1 Q fun H2 e2 => q v H2 e2 (Dp.ex (e1.trans e2) hd)⟩
theorem ED.int {i : Int} (h : EV X e σ H (.int i)) : ED X e σ H (.int i) := ED.val h (.int i)
theorem ED.ints {ns : List Int} (h : ES X e σ H (ns.map V.int)) : ED X e σ H (dI ns) := ⟨fun H1 e1 Q q => h.ev H1 e1 Q fun p H2 e2 h2 => q _ H2 e2 (.lst h2 (dp_ints ns))⟩
theorem ED.bls {ns : List Bool} (h : ES X e σ H (ns.map V.bl)) : ED X e σ H (dB ns) := ⟨fun H1 e1 Q q => h.ev H1 e1 Q fun p H2 e2 h2 => q _ H2 e2 (.lst h2 (dp_bls ns))⟩
theorem EV.eqD {d d' : PyData} {k : Nat} (hr : Room k X.A) (ha : ED X a σ H d) (hb : ED X b σ H d') (s1 : SeqAt.shaped d = true) (s2 : SeqAt.shaped d' = true) : EV X (.Compare a [.Eq] [b] pos) σ H (.bl (PyData.eqv d d')) :=
  EV.of (pe_cmpR (op_eqD hr.units) pe_self pe_self (nomark _)) fun H1 e1 Q q => ha.ev H1 e1 _ fun v H2 e2 dv => hb.ev H2 (e1.trans e2) _ fun w H3 e3 dw => ⟨d, d', Dp.ex e3 dv, dw, s1, s2, q H3 (e2.trans e3)⟩
theorem EV.neD {d d' : PyData} {k : Nat} (hr : Room k X.A) (ha : ED X a σ H d) (hb : ED X b σ H d') (s1 : SeqAt.shaped d = true) (s2 : SeqAt.shaped d' = true) : EV X (.Compare a [.NotEq] [b] pos) σ H (.bl (!PyData.eqv d d')) :=
  EV.of (pe_cmpR (op_neD hr.units) pe_self pe_self (nomark _)) fun H1 e1 Q q => ha.ev H1 e1 _ fun v H2 e2 dv => hb.ev H2 (e1.trans e2) _ fun w H3 e3 dw => ⟨d, d', Dp.ex e3 dv, dw, s1, s2, q H3 (e2.trans e3)⟩
theorem TV.eqD {d d' : PyData} {k : Nat} (hr : Room k X.A) (ha : ED X a σ H d) (hb : ED X b σ H d') (s1 : SeqAt.shaped d = true) (s2 : SeqAt.shaped d' = true) : TV X (.Compare a [.Eq] [b] pos) σ H (PyData.eqv d d') :=
  TV.of (pt_cmpR (op_eqD hr.units) pe_self pe_self (nomark _)) fun H1 e1 Q q => ha.ev H1 e1 _ fun v H2 e2 dv => hb.ev H2 (e1.trans e2) _ fun w H3 e3 dw => ⟨d, d', Dp.ex e3 dv, dw, s1, s2, _, rfl, q H3 (e2.trans e3)⟩
theorem TV.neD {d d' : PyData} {k : Nat} (hr : Room k X.A) (ha : ED X a σ H d) (hb : ED X b σ H d') (s1 : SeqAt.shaped d = true) (s2 : SeqAt.shaped d' = true) : TV X (.Compare a [.NotEq] [b] pos) σ H (!PyData.eqv d d') :=
  TV.of (pt_cmpR (op_neD hr.units) pe_self pe_self (nomark _)) fun H1 e1 Q q => ha.ev H1 e1 _ fun v H2 e2 dv => hb.ev H2 (e1.trans e2) _ fun w H3 e3 dw => ⟨d, d', Dp.ex e3 dv, dw, s1, s2, _, rfl, q H3 (e2.trans e3)⟩
theorem EV.eqL {ns ms : List Int} {k : Nat} (hr : Room k X.A) (ha : ES X a σ H (ns.map V.int)) (hb : ES X b σ H (ms.map V.int)) : EV X (.Compare a [.Eq] [b] pos) σ H (.bl (decide (ns = ms))) := EV.isB (EV.eqD hr (ED.ints ha) (ED.ints hb) (shaped_ints _) (shaped_ints _)) (eqv_ints _ _)
theorem EV.neL {ns ms : List Int} {k : Nat} (hr : Room k X.A) (ha : ES X a σ H (ns.map V.int)) (hb : ES X b σ H (ms.map V.int)) : EV X (.Compare a [.NotEq] [b] pos) σ H (.bl (!decide (ns = ms))) := EV.isB (EV.neD hr (ED.ints ha) (ED.ints hb) (shaped_ints _) (shaped_ints _)) (by rw [eqv_ints])
theorem TV.eqL {ns ms : List Int} {k : Nat} (hr : Room k X.A) (ha : ES X a σ H (ns.map V.int)) (hb : ES X b σ H (ms.map V.int)) : TV X (.Compare a [.Eq] [b] pos) σ H (decide (ns = ms)) := TV.is (TV.eqD hr (ED.ints ha) (ED.ints hb) (shaped_ints _) (shaped_ints _)) (eqv_ints _ _)
theorem TV.neL {ns ms : List Int} {k : Nat} (hr : Room k X.A) (ha : ES X a σ H (ns.map V.int)) (hb : ES X b σ H (ms.map V.int)) : TV X (.Compare a [.NotEq] [b] pos) σ H (!decide (ns = ms)) := TV.is (TV.neD hr (ED.ints ha) (ED.ints hb) (shaped_ints _) (shaped_ints _)) (by rw [eqv_ints])
theorem TV.neLB {ns ms : List Bool} {k : Nat} (hr : Room k X.A) (ha : ES X a σ H (ns.map V.bl)) (hb : ES X b σ H (ms.map V.bl)) : TV X (.Compare a [.NotEq] [b] pos) σ H (!decide (ns = ms)) := TV.is (TV.neD hr (ED.bls ha) (ED.bls hb) (shaped_bls _) (shaped_bls _)) (by rw [eqv_bls])
theorem EV.eqLB {ns ms : List Bool} {k : Nat} (hr : Room k X.A) (ha : ES X a σ H (ns.map V.bl)) (hb : ES X b σ H (ms.map V.bl)) : EV X (.Compare a [.Eq] [b] pos) σ H (.bl (decide (ns = ms))) := EV.isB (EV.eqD hr (ED.bls ha) (ED.bls hb) (shaped_bls _) (shaped_bls _)) (eqv_bls _ _)
/-! ### calls whose first argument is a list, new or not -/
theorem EV.callS {w : Str} {sp : Sp} {k j : Nat} (C : Fc X.prog X.w X.K X.mg X.base k w sp) (hr : Room j X.A) (h : ES X e σ H xs) (ha : AV X es σ H vs) (hv : ∀ p H1, Ex H H1 → SqL X.K H1 p xs → SpV sp (.ref p :: vs) H1 z) (hk : k ≤ j := by decide) (hg : Gl X w := by rfl) (hs : (e :: es).all noStar = true := by rfl) (hdb : (w == ("__debug__" : Str)) = false := by decide) :
    EV X (.Call (.Name w p) (e :: es) [] pos) σ H z := EV.of (pe_fc C hr hk passL hg hs hdb) fun H1 e1 Q q => h.ev H1 e1 _ fun r H2 e2 hr2 => ha.ev H2 (e1.trans e2) _ fun H3 e3 => by
      show sp (V.ref r :: vs ++ []) H3 Q E0
      rw [List.append_nil]
      exact hv r H3 ((e1.trans e2).trans e3) (ex_l e3 hr2) H3 (Ex.refl H3) Q (fun H4 e4 => q H4 ((e2.trans e3).trans e4)) _
/-! ### xs.append(e), xs.count(e) -/
theorem BW.app {l : Addr} {apos : Pos} (hl : H l = some (.lst xs)) (ha : EV X a σ H (.ref l)) (h : EV X e σ H v) (hz : xs.length < 100000) (k : ∀ H1, Ex H H1 → BW X rest D σ (upd H1 l (.lst (xs ++ [v])))) (hs : noStar e = true := by rfl)
    (he : PE X (.Call (.Attribute a "append" apos) [e] [] p) (tBM X.K "list" rAppend (EW X a) (tArgs X [e])) := by exact pe_bm PySem.F.plainAttrs_list PySem.F.slot_list_append PySem.F.type_list_append mt_append pe_self (pa_all rfl))
    (hw : swapsWith (.Call (.Attribute a "append" apos) [e] [] p) none pos.line X.env = pure false := by rfl) : BW X (.Expr (.Call (.Attribute a "append" apos) [e] [] p) pos :: rest) D σ H :=
  BW.cons (ps_expr he hw) (ha.ev H (Ex.refl H) _ fun H1 e1 => ⟨.inl ⟨rfl, xs, sq_of (e1 l _ hl)⟩, (AV.one h).ev H1 e1 _ fun H2 e2 => ⟨l, xs, v, rfl, rfl, e2 l _ (e1 l _ hl), sz_lt hz, k H2 (e1.trans e2)⟩⟩)
end
theorem countP_eqU {x : V} : ∀ {xs : List V} {us : List Value}, Vals xs us → xs.all flatV = true → us.countP (eqU x) = xs.countP fun y => eqV y x
  | _, _, .nil, _ => rfl
  | y :: ys, _, .cons r t, h => by
    have h1 : flatV y = true := List.all_eq_true.mp h y List.mem_cons_self
    have h2 : ys.all flatV = true := List.all_eq_true.mpr fun z hz => List.all_eq_true.mp h z (List.mem_cons_of_mem _ hz)
    rw [List.countP_cons, List.countP_cons, countP_eqU t h2, eqU_of r h1]
def rCntV (K : PySem.W.Frag) : V → List V → Hp → VK → Prop := fun x xs H Q => ∃ (p : Addr) (ys : List V) (y : V), x = .ref p ∧ xs = [y] ∧ SqL K H p ys ∧ flatV y = true ∧ ys.all flatV = true ∧ Q (.int (ys.countP (fun z => eqV z y) : Nat)) H
theorem mt_cntV {X : Cx} : MtR X "list.count" (rCntV X.K) := by
  intro pins s σ H x xs v us Q I rx rxs h
  obtain ⟨p, ys, y, rfl, rfl, hs, hy, hf, q⟩ := h
  cases rx
  obtain ⟨u, rfl, ru⟩ := rxs.one
  obtain ⟨its, rv, ⟨⟨cls, dd, data, sl⟩, n, ho, hc, hdn, hd⟩, hlen⟩ := I.list hs
  simp only at hc hd
  subst hc hd
  refine call_meets PySem.F.slot_list_count ⟨_, ho, rfl⟩ PySem.F.entry_list_count (PySem.F.args_list_count_2 _ _)
    (SeqAt.list_countAt p its.toArray n dd sl u (eqU y)) ⟨ho, fun z hz => mem_eqAt ru hy rv hf z (by simpa using hz), ?_⟩
  have ec : its.toArray.toList.countP (eqU y) = ys.countP (fun z => eqV z y) := countP_eqU rv hf
  refine ⟨.int (ys.countP (fun z => eqV z y) : Nat), H, I.tok _, ⟨s.toks, ?_⟩, q⟩
  show Value.int ((its.toArray.toList.countP (eqU y) : Nat) : Int) s.toks = _
  rw [ec]
section
variable {X : Cx} {e a b c o tg iter : Expr} {es : List Expr} {st : Stmt} {body rest : List Stmt} {σ : L2.St} {H : Hp} {D : Ends} {Q : VK} {v x y z : V} {pos p p2 q2 pr apos : Pos} {vs xs : List V} {f m : Str}
theorem EV.count {l : Addr} (ha : EV X a σ H (.ref l)) (hl : SqL X.K H l xs) (h : EV X e σ H v) (hv : flatV v = true := by rfl) (hf : xs.all flatV = true := by rfl)
    (he : PE X (.Call (.Attribute a "count" apos) [e] [] p) (tBM X.K "list" (rCntV X.K) (EW X a) (tArgs X [e])) := by exact pe_bm PySem.F.plainAttrs_list PySem.F.slot_list_count PySem.F.type_list_count mt_cntV pe_self (pa_all rfl)) :
    EV X (.Call (.Attribute a "count" apos) [e] [] p) σ H (.int (xs.countP (fun z => eqV z v) : Nat)) :=
  EV.of he fun H1 e1 Q q => ha.ev H1 e1 _ fun H2 e2 => ⟨.inl ⟨rfl, xs, ex_l (e1.trans e2) hl⟩, (AV.one h).ev H2 (e1.trans e2) _ fun H3 e3 => ⟨l, xs, v, rfl, rfl, ex_l ((e1.trans e2).trans e3) hl, hv, hf, q H3 (e2.trans e3)⟩⟩
/-! ### for x in range(a, b, c) -/
theorem s_forR3 {ta : TA} {tu : TS} {j n : Nat} {lo hi cc : Int} (h : EvA ta σ H [.int lo, .int hi, .int cc]) (hn : RgC lo hi cc n) (Pv : Nat → L2.St → Hp → Prop) (h0 : ∀ H1, Ex H H1 → Pv 0 σ H1)
    (hs : ∀ (i : Nat) σ' H', i < n → Pv i σ' H' → tu { D with nx := Pv (i + 1), ct := Pv (i + 1), bk := D.nx } (σ'.set j (some (.int (lo + (i : Nat) * cc)))) H') (hd : ∀ σ' H', Pv n σ' H' → D.nx σ' H') : tFor (iRng3 ta) (gName j) tu D σ H :=
  h H (Ex.refl H) _ fun H1 e => ⟨lo, hi, cc, n, rfl, hn, for_rangeC (lo := lo) (c := cc) (n := n) Pv (h0 H1 e) hs hd⟩
theorem BW.forR3 (j n : Nat) {lo hi cc : Int} (mR : X.mg "range" = none) (hN : X.N.Nodup) (h : EV X a σ H (.int lo)) (h' : EV X b σ H (.int hi)) (h'' : EV X c σ H (.int cc)) (hn : RgC lo hi cc n) (Pv : Nat → L2.St → Hp → Prop) (h0 : ∀ H1, Ex H H1 → Pv 0 σ H1)
    (hs : ∀ (i : Nat) σ' H', i < n → Pv i σ' H' → BW X body (Ends.turn X rest D (Pv (i + 1))) (σ'.set j (some (.int (lo + (i : Nat) * cc)))) H') (hd : ∀ σ' H', Pv n σ' H' → BW X rest D σ' H')
    (hj : X.N[j]? = some f := by rfl) (hx : Loc X.env.scope f := by first | exact Or.inl rfl | exact Or.inr rfl) (hf : X.fn f = true ∨ X.env.scope.names.lookup f = some .local := by first | exact .inl rfl | exact .inr rfl) (hg : Gl X "range" := by rfl) (hst : [a, b, c].all noStar = true := by rfl) (hc : X.calm = true := by rfl)
    (hp : PassesOwn (model X.prog X.w) X.A X.env X.xe := by first | exact PassesOwn.never | exact passes_of rfl) : BW X (.For (.Name f p) (.Call (.Name "range" pr) [a, b, c] [] p2) body [] pos :: rest) D σ H :=
  BW.cons (ps_for hp hc (pi_range3 hg mR (pa_all hst) (star_of (List.all_eq_true.mp hst a List.mem_cons_self) [b, c]) (back_any [b, c] (List.all_eq_true.mpr fun e' he => List.all_eq_true.mp hst e' (List.mem_cons_of_mem _ he)))) (pg_name (i := j) hN hj hx hf) pss_self) (s_forR3 (AV.three h h' h'').ev hn Pv h0 hs hd)
theorem EV.and4 {d : Expr} {k1 k2 k3 k4 : Bool} (ha : EV X a σ H (.bl k1)) (hb : k1 = true → EV X b σ H (.bl k2)) (hc : k1 = true → k2 = true → EV X c σ H (.bl k3)) (hd : k1 = true → k2 = true → k3 = true → EV X d σ H (.bl k4)) : EV X (.BoolOp .And [a, b, c, d] pos) σ H (.bl (k1 && (k2 && (k3 && k4)))) := EV.and ha fun h => EV.and3 (hb h) (hc h) (hd h)
end
/-- an if without else whose branch falls through or leaves: what follows once -/
theorem BW.whenJ {X : Cx} {c : Expr} {s1 rest : List Stmt} {σ : L2.St} {H : Hp} {D : Ends} {pos : Pos} {k : Bool} (h : TV X c σ H k) (h2 : ∀ H1, Ex H H1 → BW X rest D σ H1) (h1 : k = true → (∀ H1, Ex H H1 → BW X rest D σ H1) → ∀ H1, Ex H H1 → BW X s1 (Ends.bef X rest D) σ H1) : BW X (.If c s1 [] pos :: rest) D σ H :=
  BW.when h (fun hk => h1 hk h2) (fun _ => h2)
/-! ### slices -/
theorem cut_upto (xs : List V) (k : Nat) : cutV xs none (some (k : Int)) = xs.take k := by
  unfold cutV
  rw [HT.sIx_nat, HT.sIx_none]
  show List.take (min k xs.length - 0) (List.drop 0 xs) = _
  rw [Nat.sub_zero, List.drop_zero]
  rcases Nat.le_total k xs.length with h | h
  · rw [Nat.min_eq_left h]
  · rw [Nat.min_eq_right h, List.take_length, List.take_of_length_le h]
theorem at_ints {ns : List Int} {i : Nat} (h : i < ns.length) : atI (ns.map V.int) (i : Int) = some (.int (ns.getD i 0)) := by
  refine atI_nat ?_
  rw [List.getElem?_map, List.getElem?_eq_getElem h, List.getD_eq_getElem?_getD, List.getElem?_eq_getElem h]
  rfl
end QR

namespace QR
open PySem PySem.Spec PyProof.Rows L2 Evl
/-! ### shapes: what a value looks like, through the heap -/
inductive Sh where
  | v (x : V)
  | lst (xs : List Sh)
  | tup (xs : List Sh)
  | ins (C : Addr) (fs : List (Str × V))
abbrev Sh.i (n : Int) : Sh := .v (.int n)
abbrev Sh.b (k : Bool) : Sh := .v (.bl k)
mutual
inductive Is (K : PySem.W.Frag) (H : Hp) : V → Sh → Prop
  | v (x : V) : Is K H x (.v x)
  | lst {p : Addr} {vs : List V} {xs : List Sh} : SqL K H p vs → IsAll K H vs xs → Is K H (.ref p) (.lst xs)
  | tup {p : Addr} {vs : List V} {xs : List Sh} : SqT K H p vs → IsAll K H vs xs → Is K H (.ref p) (.tup xs)
  | ins {p C dx : Addr} {fs : List (Str × V)} : H p = some (.ins C dx fs) → Is K H (.ref p) (.ins C fs)
inductive IsAll (K : PySem.W.Frag) (H : Hp) : List V → List Sh → Prop
  | nil : IsAll K H [] []
  | cons {v : V} {s : Sh} {vs : List V} {ss : List Sh} : Is K H v s → IsAll K H vs ss → IsAll K H (v :: vs) (s :: ss)
end
mutual
theorem Is.ex {K : PySem.W.Frag} {H H' : Hp} (e : Ex H H') : ∀ {v : V} {s : Sh}, Is K H v s → Is K H' v s
  | _, _, .v x => .v x
  | _, _, .lst h a => .lst (ex_l e h) (IsAll.ex e a)
  | _, _, .tup h a => .tup (ex_t e h) (IsAll.ex e a)
  | _, _, .ins h => .ins (e _ _ h)
theorem IsAll.ex {K : PySem.W.Frag} {H H' : Hp} (e : Ex H H') : ∀ {vs : List V} {ss : List Sh}, IsAll K H vs ss → IsAll K H' vs ss
  | _, _, .nil => .nil
  | _, _, .cons a b => .cons (Is.ex e a) (IsAll.ex e b)
end
theorem Is.vv {K : PySem.W.Frag} {H : Hp} {v x : V} (h : Is K H v (.v x)) : v = x := by cases h; rfl
theorem Is.ofL {K : PySem.W.Frag} {H : Hp} {v : V} {ss : List Sh} (h : Is K H v (.lst ss)) : ∃ p vs, v = .ref p ∧ SqL K H p vs ∧ IsAll K H vs ss := by
  cases h with
  | lst a b => exact ⟨_, _, rfl, a, b⟩
theorem Is.ofU {K : PySem.W.Frag} {H : Hp} {v : V} {ss : List Sh} (h : Is K H v (.tup ss)) : ∃ p vs, v = .ref p ∧ SqT K H p vs ∧ IsAll K H vs ss := by
  cases h with
  | tup a b => exact ⟨_, _, rfl, a, b⟩
theorem Is.ofI {K : PySem.W.Frag} {H : Hp} {v : V} {C : Addr} {fs : List (Str × V)} (h : Is K H v (.ins C fs)) : ∃ p dx, v = .ref p ∧ H p = some (.ins C dx fs) := by
  cases h with
  | ins a => exact ⟨_, _, rfl, a⟩
theorem IsAll.len {K : PySem.W.Frag} {H : Hp} : ∀ {vs : List V} {ss : List Sh}, IsAll K H vs ss → vs.length = ss.length
  | _, _, .nil => rfl
  | _, _, .cons _ b => congrArg (· + 1) b.len
theorem IsAll.at {K : PySem.W.Frag} {H : Hp} : ∀ {vs : List V} {ss : List Sh} {i : Nat} {s : Sh}, IsAll K H vs ss → ss[i]? = some s → ∃ v, vs[i]? = some v ∧ Is K H v s
  | _, _, i, _, .nil, h => by simp at h
  | _, _, 0, _, .cons a _, h => by
    cases Option.some.inj h
    exact ⟨_, rfl, a⟩
  | _, _, i + 1, _, .cons _ b, h => by
    obtain ⟨v, h1, h2⟩ := IsAll.at (i := i) b (by simpa using h)
    exact ⟨v, by simpa using h1, h2⟩
theorem IsAll.at' {K : PySem.W.Frag} {H : Hp} : ∀ {vs : List V} {ss : List Sh} {i : Nat} {v : V}, IsAll K H vs ss → vs[i]? = some v → ∃ s, ss[i]? = some s ∧ Is K H v s
  | _, _, i, _, .nil, h => by simp at h
  | _, _, 0, _, .cons a _, h => by
    cases Option.some.inj h
    exact ⟨_, rfl, a⟩
  | _, _, i + 1, _, .cons _ b, h => by
    obtain ⟨v, h1, h2⟩ := IsAll.at' (i := i) b (by simpa using h)
    exact ⟨v, by simpa using h1, h2⟩
theorem IsAll.append {K : PySem.W.Frag} {H : Hp} : ∀ {vs us : List V} {ss ts : List Sh}, IsAll K H vs ss → IsAll K H us ts → IsAll K H (vs ++ us) (ss ++ ts)
  | _, _, _, _, .nil, h => h
  | _, _, _, _, .cons a b, h => .cons a (IsAll.append b h)
theorem IsAll.take {K : PySem.W.Frag} {H : Hp} : ∀ {vs : List V} {ss : List Sh} (n : Nat), IsAll K H vs ss → IsAll K H (vs.take n) (ss.take n)
  | _, _, 0, _ => by simp; exact .nil
  | _, _, n + 1, .nil => .nil
  | _, _, n + 1, .cons a b => .cons a (IsAll.take n b)
theorem IsAll.vals {K : PySem.W.Frag} {H : Hp} : ∀ vs : List V, IsAll K H vs (vs.map Sh.v)
  | [] => .nil
  | v :: vs => .cons (.v v) (IsAll.vals vs)
theorem IsAll.valsE {K : PySem.W.Frag} {H : Hp} : ∀ {us vs : List V}, IsAll K H us (vs.map Sh.v) → us = vs
  | _, [], .nil => rfl
  | _, v :: vs, .cons a b => by rw [a.vv, IsAll.valsE b]
/-- a list of whole numbers -/
abbrev Sh.ints (ns : List Int) : Sh := .lst (ns.map fun n => .v (.int n))
abbrev Sh.bls (ns : List Bool) : Sh := .lst (ns.map fun n => .v (.bl n))
theorem ints_v (ns : List Int) : (ns.map fun n => Sh.v (V.int n)) = (ns.map V.int).map Sh.v := by rw [List.map_map]; rfl
theorem bls_v (ns : List Bool) : (ns.map fun n => Sh.v (V.bl n)) = (ns.map V.bl).map Sh.v := by rw [List.map_map]; rfl
theorem Is.ints {K : PySem.W.Frag} {H : Hp} {p : Addr} {ns : List Int} (h : SqL K H p (ns.map V.int)) : Is K H (.ref p) (Sh.ints ns) := .lst h (by rw [ints_v]; exact IsAll.vals _)
theorem Is.bls {K : PySem.W.Frag} {H : Hp} {p : Addr} {ns : List Bool} (h : SqL K H p (ns.map V.bl)) : Is K H (.ref p) (Sh.bls ns) := .lst h (by rw [bls_v]; exact IsAll.vals _)
theorem Is.ofInts {K : PySem.W.Frag} {H : Hp} {v : V} {ns : List Int} (h : Is K H v (Sh.ints ns)) : ∃ p, v = .ref p ∧ SqL K H p (ns.map V.int) := by
  obtain ⟨p, vs, rfl, h1, h2⟩ := h.ofL
  rw [ints_v] at h2
  exact ⟨p, rfl, by rw [← h2.valsE]; exact h1⟩
theorem Is.ofBls {K : PySem.W.Frag} {H : Hp} {v : V} {ns : List Bool} (h : Is K H v (Sh.bls ns)) : ∃ p, v = .ref p ∧ SqL K H p (ns.map V.bl) := by
  obtain ⟨p, vs, rfl, h1, h2⟩ := h.ofL
  rw [bls_v] at h2
  exact ⟨p, rfl, by rw [← h2.valsE]; exact h1⟩
/-! ### the judgement -/
structure EX (X : Cx) (e : Expr) (σ : L2.St) (H : Hp) (s : Sh) : Prop where
  ev : ∀ H1, Ex H H1 → ∀ Q : VK, (∀ v H2, Ex H1 H2 → Is X.K H2 v s → Q v H2) → EW X e σ H1 Q
structure AX (X : Cx) (es : List Expr) (σ : L2.St) (H : Hp) (ss : List Sh) : Prop where
  ev : ∀ H1, Ex H H1 → ∀ Q : List V → Hp → Prop, (∀ vs H2, Ex H1 H2 → IsAll X.K H2 vs ss → Q vs H2) → tArgs X es σ H1 Q
/-- a new list of these shapes -/
structure EN (X : Cx) (e : Expr) (σ : L2.St) (H : Hp) (ss : List Sh) : Prop where
  ev : ∀ H1, Ex H H1 → ∀ Q : VK, (∀ p vs H2, H1 p = none → Ex H1 H2 → H2 p = some (.lst vs) → IsAll X.K H2 vs ss → Q (.ref p) H2) → EW X e σ H1 Q
section
variable {X : Cx} {e a b c o tg iter : Expr} {es : List Expr} {st : Stmt} {body rest : List Stmt} {σ : L2.St} {H : Hp} {D : Ends} {Q : VK} {v x y z : V} {pos p p2 q2 pr apos : Pos} {vs xs : List V} {f m : Str} {s t : Sh} {ss ts : List Sh}
theorem EX.is (h : EX X e σ H s) (q : s = t) : EX X e σ H t := q ▸ h
theorem EX.mono {H' : Hp} (h : EX X e σ H s) (e1 : Ex H H') : EX X e σ H' s := ⟨fun H1 a Q q => h.ev H1 (e1.trans a) Q q⟩
theorem EX.go (h : EX X e σ H s) (k : ∀ v H1, Ex H H1 → Is X.K H1 v s → Q v H1) : EW X e σ H Q := h.ev H (Ex.refl H) Q k
theorem EX.val (h : EV X e σ H v) (hv : Is X.K H v s) : EX X e σ H s := ⟨fun H1 e1 Q q => h.ev H1 e1 Q fun H2 e2 => q v H2 e2 (hv.ex (e1.trans e2))⟩
theorem EX.vv (h : EV X e σ H v) : EX X e σ H (.v v) := EX.val h (.v v)
theorem EV.ofX (h : EX X e σ H (.v v)) : EV X e σ H v := ⟨fun H1 e1 Q q => h.ev H1 e1 Q fun u H2 e2 hu => by rw [hu.vv]; exact q H2 e2⟩
theorem EX.var (i : Nat) {n : Str} (h : σ[i]? = some (some v)) (hv : Is X.K H v s) (hN : X.N[i]? = some n := by rfl) (hvs : Vis X.env.scope n := by first | exact Or.inl rfl | exact Or.inr (Or.inl rfl) | exact Or.inr (Or.inr rfl)) (hd : (n == ("__debug__" : Str)) = false := by decide)
    (hcd : (n == ("__classdict__" : Str)) = false := by decide) : EX X (.Name n pos) σ H s := EX.val (EV.var i h hN hvs hd hcd) hv
theorem EX.new (h : EL X e σ H xs) : EX X e σ H (.lst (xs.map Sh.v)) := ⟨fun H1 e1 Q q => h.ev H1 e1 Q fun p H2 _ e2 h2 => q _ H2 e2 (.lst (sq_of h2) (IsAll.vals _))⟩
theorem EX.newA (h : EL X e σ H xs) (ha : IsAll X.K H xs ss) : EX X e σ H (.lst ss) := ⟨fun H1 e1 Q q => h.ev H1 e1 Q fun p H2 _ e2 h2 => q _ H2 e2 (.lst (sq_of h2) (ha.ex (e1.trans e2)))⟩
theorem EX.newI {ns : List Int} (h : EL X e σ H (ns.map V.int)) : EX X e σ H (Sh.ints ns) := (EX.new h).is (by rw [← ints_v])
theorem EX.newB {ns : List Bool} (h : EL X e σ H (ns.map V.bl)) : EX X e σ H (Sh.bls ns) := (EX.new h).is (by rw [← bls_v])
theorem EX.newU (h : EU X e σ H xs) : EX X e σ H (.tup (xs.map Sh.v)) := ⟨fun H1 e1 Q q => h.ev H1 e1 Q fun p H2 _ e2 h2 => q _ H2 e2 (.tup (st_of h2) (IsAll.vals _))⟩
theorem EX.ofN (h : EN X e σ H ss) : EX X e σ H (.lst ss) := ⟨fun H1 e1 Q q => h.ev H1 e1 Q fun p vs H2 _ e2 h2 ha => q _ H2 e2 (.lst (sq_of h2) ha)⟩
theorem EN.ofL (h : EL X e σ H xs) (ha : IsAll X.K H xs ss) : EN X e σ H ss := ⟨fun H1 e1 Q q => h.ev H1 e1 Q fun p H2 np e2 h2 => q p xs H2 np e2 h2 (ha.ex (e1.trans e2))⟩
theorem EN.is (h : EN X e σ H ss) (q : ss = ts) : EN X e σ H ts := q ▸ h
theorem EX.ins {C : Addr} {fs : List (Str × V)} (h : EI X e σ H C fs) : EX X e σ H (.ins C fs) := ⟨fun H1 e1 Q q => h.ev H1 e1 Q fun p dx H2 _ e2 h2 => q _ H2 e2 (.ins h2)⟩
theorem ES.ofX {ns : List Int} (h : EX X e σ H (Sh.ints ns)) : ES X e σ H (ns.map V.int) := ⟨fun H1 e1 Q q => h.ev H1 e1 Q fun v H2 e2 hv => by
  obtain ⟨p, rfl, hp⟩ := hv.ofInts
  exact q p H2 e2 hp⟩
theorem ES.ofXB {ns : List Bool} (h : EX X e σ H (Sh.bls ns)) : ES X e σ H (ns.map V.bl) := ⟨fun H1 e1 Q q => h.ev H1 e1 Q fun v H2 e2 hv => by
  obtain ⟨p, rfl, hp⟩ := hv.ofBls
  exact q p H2 e2 hp⟩
theorem EX.ofS {ns : List Int} (h : ES X e σ H (ns.map V.int)) : EX X e σ H (Sh.ints ns) := ⟨fun H1 e1 Q q => h.ev H1 e1 Q fun p H2 e2 hp => q _ H2 e2 (Is.ints hp)⟩
theorem AX.nil : AX X [] σ H [] := ⟨fun H1 _ _ q => q [] H1 (Ex.refl H1) .nil⟩
theorem AX.cons (h : EX X e σ H s) (hr : AX X es σ H ss) : AX X (e :: es) σ H (s :: ss) := ⟨fun H1 e1 Q q => h.ev H1 e1 _ fun v H2 e2 hv => hr.ev H2 (e1.trans e2) _ fun vs H3 e3 hs => q _ H3 (e2.trans e3) (.cons (hv.ex e3) hs)⟩
theorem AX.one (h : EX X e σ H s) : AX X [e] σ H [s] := AX.cons h AX.nil
theorem EN.lst (h : AX X es σ H ss) (hl : ss.length ≤ 100000 := by exact Nat.le_of_ble_eq_true rfl) (hs : es.all noStar = true := by rfl) : EN X (.List es pos) σ H ss :=
  ⟨fun H1 e1 Q q => EW.of (pe_lst (pa_all hs)) (h.ev H1 e1 _ fun vs H2 e2 ha => ⟨sz_of (by rw [ha.len]; exact hl), fun p hp => q p vs _ (fresh_back e2 hp) (e2.trans (Ex.new hp)) upd_same (ha.ex (Ex.new hp))⟩)⟩
theorem EX.lst (h : AX X es σ H ss) (hl : ss.length ≤ 100000 := by exact Nat.le_of_ble_eq_true rfl) (hs : es.all noStar = true := by rfl) : EX X (.List es pos) σ H (.lst ss) := EX.ofN (EN.lst h hl hs)
theorem EX.tup {x1 : Nat} (h : AX X es σ H ss) (hl : ss.length ≤ 100000 := by exact Nat.le_of_ble_eq_true rfl) (hs : es.all noStar = true := by rfl) : EX X (.Tuple es x1 pos) σ H (.tup ss) :=
  ⟨fun H1 e1 Q q => EW.of (pe_tup (pa_all hs)) (h.ev H1 e1 _ fun vs H2 e2 ha => ⟨sz_of (by rw [ha.len]; exact hl), fun p hp => q _ _ (e2.trans (Ex.new hp)) (.tup (st_of upd_same) (ha.ex (Ex.new hp)))⟩)⟩
/-! ### statements -/
theorem BW.asgX {n : Str} (i : Nat) (hN : X.N.Nodup) (h : EX X e σ H s) (k : ∀ v H1, Ex H H1 → Is X.K H1 v s → BW X rest D (σ.set i (some v)) H1) (hi : X.N[i]? = some n := by rfl) (hx : Loc X.env.scope n := by first | exact Or.inl rfl | exact Or.inr rfl) (hs : swapsWith e (some (.Name n p)) pos.line X.env = pure false := by rfl) (hf : X.fn n = true ∨ X.env.scope.names.lookup n = some .local := by first | exact .inl rfl | exact .inr rfl) : BW X (.Assign [.Name n p] e pos :: rest) D σ H :=
  BW.asgW hN hi hx (h.go k) hs hf
theorem BW.asgN {n : Str} (i : Nat) (hN : X.N.Nodup) (h : EN X e σ H ss) (k : ∀ q vs H1, H q = none → Ex H H1 → H1 q = some (.lst vs) → IsAll X.K H1 vs ss → BW X rest D (σ.set i (some (.ref q))) H1) (hi : X.N[i]? = some n := by rfl) (hx : Loc X.env.scope n := by first | exact Or.inl rfl | exact Or.inr rfl) (hs : swapsWith e (some (.Name n p)) pos.line X.env = pure false := by rfl) (hf : X.fn n = true ∨ X.env.scope.names.lookup n = some .local := by first | exact .inl rfl | exact .inr rfl) : BW X (.Assign [.Name n p] e pos :: rest) D σ H :=
  BW.asgW hN hi hx (h.ev H (Ex.refl H) _ k) hs hf
theorem BW.retX (h : EX X e σ H s) (k : ∀ v H1, Ex H H1 → Is X.K H1 v s → D.rt v H1) : BW X (.Return (some e) pos :: rest) D σ H := BW.retW (h.go k)
theorem BW.retN (h : EN X e σ H ss) (k : ∀ q vs H1, H q = none → Ex H H1 → H1 q = some (.lst vs) → IsAll X.K H1 vs ss → D.rt (.ref q) H1) : BW X (.Return (some e) pos :: rest) D σ H := BW.retW (h.ev H (Ex.refl H) _ k)
/-! ### reading -/
theorem atI_len {xs : List V} {i : Int} {v : V} (h : atI xs i = some v) : ∃ k : Nat, xs[k]? = some v ∧ ∀ ys : List V, ys.length = xs.length → atI ys i = ys[k]? := by
  unfold atI at h ⊢
  cases hk : ixN xs.length i with
  | none => rw [hk] at h; cases h
  | some k =>
    rw [hk] at h
    exact ⟨k, h, fun ys hy => by rw [hy, hk]; rfl⟩
/-- the place i of n -/
def IxAt (n : Nat) (i : Int) (k : Nat) : Prop := ixN n i = some k
theorem EX.ixL {i : Int} {k : Nat} (h : EX X a σ H (.lst ss)) (hi : EV X b σ H (.int i)) (hk : ixN ss.length i = some k) (hs : ss[k]? = some s) (hp : PlainIx b := by exact fun _ _ => rfl) : EX X (.Subscript a b pos) σ H s :=
  ⟨fun H1 e1 Q q => EW.of (pe_ix ix_list pe_self pe_self hp) (h.ev H1 e1 _ fun v H2 e2 hv => by
    obtain ⟨p, vs, rfl, hsq, ha⟩ := hv.ofL
    refine hi.ev H2 (e1.trans e2) _ fun H3 e3 => ?_
    obtain ⟨u, hu, iu⟩ := ha.at hs
    refine ⟨p, vs, i, u, rfl, rfl, ex_l e3 hsq, ?_, q u H3 (e2.trans e3) (iu.ex e3)⟩
    unfold atI
    rw [ha.len, hk]
    exact hu)⟩
theorem EX.ixT {i : Int} {k : Nat} (h : EX X a σ H (.tup ss)) (hi : EV X b σ H (.int i)) (hk : ixN ss.length i = some k) (hs : ss[k]? = some s) (hp : PlainIx b := by exact fun _ _ => rfl) : EX X (.Subscript a b pos) σ H s :=
  ⟨fun H1 e1 Q q => EW.of (pe_ix ix_tup pe_self pe_self hp) (h.ev H1 e1 _ fun v H2 e2 hv => by
    obtain ⟨p, vs, rfl, hsq, ha⟩ := hv.ofU
    refine hi.ev H2 (e1.trans e2) _ fun H3 e3 => ?_
    obtain ⟨u, hu, iu⟩ := ha.at hs
    refine ⟨p, vs, i, u, rfl, rfl, ex_t e3 hsq, ?_, q u H3 (e2.trans e3) (iu.ex e3)⟩
    unfold atI
    rw [ha.len, hk]
    exact hu)⟩
theorem EV.fldX {C : Addr} {fs : List (Str × V)} (h : EX X e σ H (.ins C fs)) (cl : Cls X.K C) (na : NoAttr X.K C f) (hl : fs.lookup f = some v) (hb : attributeBase e f X.env (eval e X.env) = eval e X.env := by rfl) : EV X (.Attribute e f pos) σ H v :=
  EV.of (pe_fld pe_self hb) fun H1 e1 Q k => h.ev H1 e1 _ fun u H2 e2 hu => by
    obtain ⟨ob, dx, rfl, ho⟩ := hu.ofI
    exact ⟨ob, C, dx, fs, v, rfl, ho, cl, na, hl, k H2 e2⟩
theorem EV.lenX (mL : X.mg "len" = none) (h : EX X a σ H (.lst ss)) (hg : Gl X "len" := by rfl) (hs : noStar a = true := by rfl) : EV X (.Call (.Name "len" p) [a] [] pos) σ H (.int (ss.length : Int)) :=
  EV.of (pe_callB call_len_seq hg mL PySem.boot_len (pa_all (es := [a]) (by simp [hs])) (by decide) (by decide) (star_of hs []) rfl) fun H1 e1 Q k => h.ev H1 e1 _ fun u H2 e2 hu => by
    obtain ⟨q, vs, rfl, hq, ha⟩ := hu.ofL
    exact ⟨q, vs, rfl, .inl hq, by rw [ha.len]; exact k H2 e2⟩
/-! ### loops over a list that stands still -/
theorem BW.forX {g : TG} (h : EX X iter σ H (.lst ss)) (hg : PG X tg g) (Pv : Hp → Nat → L2.St → Hp → Prop) (h0 : ∀ H1, Ex H H1 → Pv H1 0 σ H1) (hl : ∀ H1 i σ' H', Pv H1 i σ' H' → Ex H1 H')
    (hs : ∀ H1 i s v σ' H', Ex H H1 → ss[i]? = some s → Is X.K H' v s → Pv H1 i σ' H' → g v σ' H' fun σ2 H2 => BW X body (Ends.turn X rest D (Pv H1 (i + 1))) σ2 H2) (hd : ∀ H1 σ' H', Ex H H1 → Pv H1 ss.length σ' H' → BW X rest D σ' H')
    (hc : X.calm = true := by rfl) (hp : PassesOwn (model X.prog X.w) X.A X.env X.xe := by first | exact PassesOwn.never | exact passes_of rfl) (hfs : ∀ x, foldedSetIterable iter X.env x = pure x := by intro _; rfl) : BW X (.For tg iter body [] pos :: rest) D σ H := by
  refine BW.cons (ps_for hp hc (pi_list pe_self) hg pss_self hfs) (h.ev H (Ex.refl H) _ fun v H1 e1 hv => ?_)
  obtain ⟨q, vs, rfl, hq, ha⟩ := hv.ofL
  have hlen := ha.len
  refine ⟨q, rfl, ⟨vs, hq⟩, for_list (xs := vs) (Pv H1) (h0 H1 e1) (fun i σ' H' _ pv => ex_l (hl H1 i σ' H' pv) hq) (fun i x σ' H' hi pv => ?_) fun σ' H' pv => hd H1 σ' H' e1 (hlen ▸ pv)⟩
  obtain ⟨t, ht, it⟩ := ha.at' hi
  exact hs H1 i t x σ' H' e1 ht (it.ex (hl H1 i σ' H' pv)) pv
theorem el_lcX {K : PySem.W.Frag} {tl te : TE} {j : Nat} {ws : List Nat} (w : Nat → V) (h : ∀ H1, Ex H H1 → ∀ Q : VK, (∀ v H2, Ex H1 H2 → Is K H2 v (.lst ss) → Q v H2) → tl σ H1 Q) (hz : ss.length ≤ 40000) (hw : ∀ x, wipe ((wipe σ ws).set j (some x)) ws = wipe σ ws)
    (he : ∀ (i : Nat) (s : Sh) (y : V) H1, Ex H H1 → ss[i]? = some s → Is K H1 y s → Ev te ((wipe σ ws).set j (some y)) H1 (w i)) : EvL (tLc (iList K tl) (gName j) tYes te ws) σ H ((List.range ss.length).map w) := fun H0 e Q q => h H0 e _ fun u H1 e1 hu => by
  obtain ⟨a, vs, rfl, hx, ha⟩ := hu.ofL
  have hlen := ha.len
  rw [← given_all, ← hlen] at q
  exact ⟨a, rfl, ⟨vs, hx⟩, fun Dl hD => lc_list (xs := vs) (Cw H1 (fun _ => true) w Dl) ⟨hD, Ex.new hD, upd_same⟩ (fun i H' _ p => ex_l p.2.1 hx)
    (fun i y H' hi p => ⟨hw y, cw_turn p (by have := (List.getElem?_eq_some_iff.mp hi).1; omega) ev_yes (fun _ => by
      obtain ⟨s, hs, iy⟩ := ha.at' hi
      exact he i s y H1 (e.trans e1) hs iy)⟩)
    (fun H' p => q Dl H' (fresh_back e1 p.1) (e1.trans p.2.1) p.2.2)⟩
/-- [e for x in xs], xs by its shapes -/
theorem LC.listX {elt iter : Expr} {scope : Scope} {n : Str} {j : Nat} (w : Nat → V) (hN : X.N.Nodup) (ok : BlkOk X.N X.env.scope scope [(n, j)]) (h : EX X iter σ H (.lst ss)) (hz : ss.length ≤ 40000)
    (he : ∀ (i : Nat) (s : Sh) (y : V) H1, Ex H H1 → ss[i]? = some s → Is X.K H1 y s → EVb X scope elt ((wipe σ [j]).set j (some y)) H1 (w i))
    (hw : ∀ z, wipe ((wipe σ [j]).set j (some z)) [j] = wipe σ [j] := by intro _; rfl)
    (hg : ∀ (s : Shared) (H : Hp) (C : Addr) (cl : List (Str × Addr)) (fp : List Addr), PG (X.blk s H scope (compEnvC scope cl C X.env) fp) (.Name n p) (gName j) := by exact fun _ _ _ _ _ => pg_name (i := _) (by assumption) rfl (Or.inl rfl)) (hc : X.calm = true := by rfl) (hfs : ∀ x, foldedSetIterable iter X.env x = pure x := by intro _; rfl) :
    LC X (.ListComp elt [⟨.Name n p, iter, [], 0⟩] scope pos) σ H ((List.range ss.length).map w) :=
  lc_of (own := [(n, j)]) hc hN (pi_list pe_self) ok hg hfs (el_lcX w h.ev hz hw fun i s y H1 e1 hs iy => (he i s y H1 e1 hs iy).ev)
end
end QR

namespace QR
open PySem PySem.Spec PyProof.Rows L2 Evl
/-! ### xs + ys -/
def rCatS (K : PySem.W.Frag) : R2 := fun x y H Q => ∃ l b xs zs, x = .ref l ∧ y = .ref b ∧ SqL K H l xs ∧ SqL K H b zs ∧ xs.length + zs.length ≤ sizeLine ∧ ∀ p, H p = none → Q (.ref p) (upd H p (.lst (xs ++ zs)))
theorem op_catS {X : Cx} : OpR X (binaryOp .Add) (rCatS X.K) := by
  intro pins s σ H x y v u Q I rx ry h
  obtain ⟨l, b, xs, zs, rfl, rfl, hH, hB, hz, q⟩ := h
  cases rx
  cases ry
  obtain ⟨its, r, pl, hz1⟩ := I.list hH
  obtain ⟨its2, r2, pl2, hz2⟩ := I.list hB
  have hl := r.length
  have hl2 := r2.length
  obtain ⟨⟨cls, dd, data, sl⟩, ho, hc, n, hd⟩ := pl.isList
  obtain ⟨⟨cls2, dd2, data2, sl2⟩, ho2, hc2, n2, hd2⟩ := pl2.isList
  simp only at hc hd hc2 hd2
  subst hc hd hc2 hd2
  have e : its.toArray ++ its2.toArray = (its ++ its2).toArray := by simp
  refine concat_meets ⟨_, ho, rfl⟩ ⟨_, ho2, rfl⟩ noFill_list_add seq_list_add PySem.F.slot_list_add PySem.F.entry_list_add (PySem.F.args_list_add_2 _ _) (list_addW l b its.toArray its2.toArray n n2 dd dd2 sl sl2 (by simp; omega)) ⟨ho, ho2, ?_⟩
  rw [e]
  exact ⟨.ref _, _, I.lnew (t' := s.toks) (r.append r2) (by rw [List.length_append]; omega), rfl, q _ I.fresh⟩
/-! ### list(range(..)) -/
theorem vals_ints_of {lo c : Int} : ∀ {us : List Value} {k : Nat}, (∀ j v, us[j]? = some v → ∃ t, v = Value.int (lo + (k + j : Nat) * c) t) → Vals ((List.range' k us.length).map fun i : Nat => V.int (lo + (i : Nat) * c)) us
  | [], k, _ => .nil
  | u :: us, k, h => by
    obtain ⟨t, e⟩ := h 0 u rfl
    rw [List.length_cons, List.range'_succ, List.map_cons]
    refine .cons ⟨t, by rw [e]; simp⟩ (vals_ints_of (k := k + 1) fun j v hj => ?_)
    obtain ⟨t, e⟩ := h (j + 1) v (by simpa using hj)
    exact ⟨t, by rw [e, show k + (j + 1) = k + 1 + j by omega]⟩
def rngV (lo c : Int) (n : Nat) : List V := (List.range n).map fun i : Nat => V.int (lo + (i : Nat) * c)
section
variable {X : Cx} {e a b c o tg iter : Expr} {es : List Expr} {st : Stmt} {body rest : List Stmt} {σ : L2.St} {H : Hp} {D : Ends} {Q : VK} {v x y z : V} {pos p p2 q2 pr apos : Pos} {vs xs : List V} {f m : Str} {s t : Sh} {ss ts : List Sh}
/-- from a new range object on -/
theorem list_of_range {pins : List (Addr × Obj)} {s : Shared} {r : Addr} {lo hi cc : Int} {t u v : Tok} {n : Nat} (hc : X.calm = true) (I : Inv X pins σ H s) (hr : IsRange s.heap r lo hi cc t u v) (hs : Builtin.Range.small lo hi cc = true) (hn : Builtin.Range.rangeSize lo hi cc = n) (hl : n ≤ 100000)
    (q : ∀ p H2, H p = none → Ex H H2 → H2 p = some (.lst (rngV lo cc n)) → Q (.ref p) H2) : wpAny (model X.prog X.w) X.A (call (.type "list") [.ref r]) (EP X pins σ Q) X.xe s := by
  refine call_list_range (I.ok.hd hc) hr hs hn (by omega) fun h' tk acc c' kp e hi => ?_
  have hv : Vals (rngV lo cc n) acc.toList := by
    have := vals_ints_of (lo := lo) (c := cc) (us := acc.toList) (k := 0) (fun j v hj => by
      obtain ⟨t, e⟩ := hi.2 j v (by simpa using hj)
      exact ⟨t, by rw [e]; simp⟩)
    unfold rngV
    rw [List.range_eq_range']
    have hsz : acc.toList.length = n := by simpa using hi.1
    rw [hsz] at this
    exact this
  have hz : (rngV lo cc n).length ≤ sizeLine := by
    unfold rngV
    rw [List.length_map, List.length_range]
    exact Nat.le_trans hl (by decide)
  exact ⟨.ref s.heap.objs.size, _, I.laid (t' := tk) kp (Nat.le_refl _) (show ObjOk X.prog X.w _ h' _ (.lst (rngV lo cc n)) from ⟨hz, acc.toList, c', hv, by simpa using e⟩), rfl, q _ _ (I.hok.fresh (Nat.le_refl _)) (Ex.new (I.hok.fresh (Nat.le_refl _))) upd_same⟩
def tLR (tb : TA) : TE := fun σ H Q => tb σ H fun vs H1 => ∃ (lo hi cc : Int) (n : Nat), (vs = [.int hi] ∧ lo = 0 ∧ cc = 1 ∨ vs = [.int lo, .int hi] ∧ cc = 1 ∨ vs = [.int lo, .int hi, .int cc] ∧ cc ≠ 0 ∧ cc.natAbs < 1073741824) ∧
  Builtin.Range.small lo hi cc = true ∧ Builtin.Range.rangeSize lo hi cc = n ∧ n ≤ 100000 ∧ ∀ p H2, H1 p = none → Ex H1 H2 → H2 p = some (.lst (rngV lo cc n)) → Q (.ref p) H2
theorem pe_listRange {ta : TA} (hg : Gl X "list") (hm : X.mg "list" = none) (hg2 : Gl X "range") (hm2 : X.mg "range" = none) (hc : X.calm = true) (ha : PA X (e :: es) ta) (hs : (e :: es).all noStar = true) :
    PE X (.Call (.Name "list" p) [.Call (.Name "range" p2) (e :: es) [] q2] [] pos) (tLR ta) := by
  refine ⟨fun pins s σ H Q I h => ?_⟩
  refine wpAny_Call_Name_kw (ld_blt (u := .type "list") I hg hm (by decide +kernel) ?_ (by decide) (by decide))
  refine PyProof.Rows.callWith_type1 (PyProof.Rows.args_cons ?_ rfl) rfl rfl
  refine wpAny_Call_Name_kw (ld_blt I hg2 hm2 boot_range ?_ (by decide) (by decide))
  refine PyProof.Rows.callWith_type1 (thn (ha.run q2 pins s σ H _ I h) fun us s1 ⟨vs, H1, I1, r1, q1⟩ => ?_) (star_of (List.all_eq_true.mp hs e List.mem_cons_self) es) (back_any es (List.all_eq_true.mpr fun e' he => List.all_eq_true.mp hs e' (List.mem_cons_of_mem _ he)))
  obtain ⟨lo, hi, cc, n, hcase, hsm, hn, hl, q⟩ := q1
  rcases hcase with ⟨rfl, rfl, rfl⟩ | ⟨rfl, rfl⟩ | ⟨rfl, hc0, hcb⟩
  · cases r1 with
    | cons r rr =>
      cases rr
      obtain ⟨t, rfl⟩ := r
      refine call_range_1 (PyProof.Rows.args_nil ?_)
      have I2 : Inv X pins σ H1 { s1 with heap := s1.heap.push { cls := .type "range", data := .fields #[.int 0 s1.toks, .int hi t, .int 1 (s1.toks + 1)] }, toks := s1.toks + 1 + 1 } := I1.kept fun b o e => Heap.get?_push_of_some _ e
      exact list_of_range hc I2 (IsRange.new ..) hsm hn hl q
  · cases r1 with
    | cons r rr =>
      cases rr with
      | cons r' rr =>
        cases rr
        obtain ⟨t, rfl⟩ := r
        obtain ⟨t', rfl⟩ := r'
        refine call_range_2 (PyProof.Rows.args_nil ?_)
        have I2 : Inv X pins σ H1 { s1 with heap := s1.heap.push { cls := .type "range", data := .fields #[.int lo t, .int hi t', .int 1 s1.toks] }, toks := s1.toks + 1 } := I1.kept fun b o e => Heap.get?_push_of_some _ e
        exact list_of_range hc I2 (IsRange.new ..) hsm hn hl q
  · cases r1 with
    | cons r rr =>
      cases rr with
      | cons r' rr =>
        cases rr with
        | cons r'' rr =>
          cases rr
          obtain ⟨t, rfl⟩ := r
          obtain ⟨t', rfl⟩ := r'
          obtain ⟨t'', rfl⟩ := r''
          refine call_range_3 hc0 (PyProof.Rows.args_nil ?_) (Or.inl (PyProof.noPylong_small (by omega)))
          have I2 : Inv X pins σ H1 { s1 with heap := s1.heap.push { cls := .type "range", data := .fields #[.int lo t, .int hi t', .int cc t''] }, toks := s1.toks } := I1.kept fun b o e => Heap.get?_push_of_some _ e
          exact list_of_range hc I2 (IsRange.new ..) hsm hn hl q
theorem small_of {lo hi : Int} (h1 : -100000 ≤ lo) (h2 : lo ≤ 100000) (h3 : -100000 ≤ hi) (h4 : hi ≤ 100000) : Builtin.Range.small lo hi 1 = true := small_one (by omega) (by omega) (by omega) (by omega)
/-- list(range(n)), list(range(a, b)), list(range(a, b, c)) -/
theorem EL.listR1 {n : Int} (mL : X.mg "list" = none) (mR : X.mg "range" = none) (h : EV X a σ H (.int n)) (hn : 0 ≤ n ∧ n ≤ 100000) (hg : Gl X "list" := by rfl) (hg2 : Gl X "range" := by rfl) (hc : X.calm = true := by rfl) (hs : noStar a = true := by rfl) :
    EL X (.Call (.Name "list" p) [.Call (.Name "range" p2) [a] [] q2] [] pos) σ H ((List.range n.toNat).map fun i : Nat => V.int (i : Int)) :=
  EL.of (pe_listRange hg mL hg2 mR hc (pa_all (es := [a]) (by simp [hs])) (by simp [hs])) fun H1 e1 Q k => (AV.one h).ev H1 e1 _ fun H2 e2 => ⟨0, n, 1, n.toNat, .inl ⟨rfl, rfl, rfl⟩, small_of (by omega) (by omega) (by omega) (by omega), by rw [rangeSize_one]; split <;> omega, by omega, fun p H3 np e3 hp => k p H3 (fresh_back e2 np) (e2.trans e3) (by
    rw [hp]
    unfold rngV
    congr 2
    refine List.map_congr_left fun i _ => ?_
    show V.int (0 + (i : Int) * 1) = _
    rw [Int.mul_one, Int.zero_add])⟩
theorem EL.listR2 {lo n : Int} (mL : X.mg "list" = none) (mR : X.mg "range" = none) (h : EV X a σ H (.int lo)) (h' : EV X b σ H (.int n)) (hn : -1000 ≤ lo ∧ lo ≤ n ∧ n ≤ 90000) (hg : Gl X "list" := by rfl) (hg2 : Gl X "range" := by rfl) (hc : X.calm = true := by rfl) (hs : [a, b].all noStar = true := by rfl) :
    EL X (.Call (.Name "list" p) [.Call (.Name "range" p2) [a, b] [] q2] [] pos) σ H ((List.range (n - lo).toNat).map fun i : Nat => V.int (lo + (i : Int))) :=
  EL.of (pe_listRange hg mL hg2 mR hc (pa_all hs) hs) fun H1 e1 Q k => (AV.two h h').ev H1 e1 _ fun H2 e2 => ⟨lo, n, 1, (n - lo).toNat, .inr (.inl ⟨rfl, rfl⟩), small_of (by omega) (by omega) (by omega) (by omega), by rw [rangeSize_one]; split <;> omega, by omega, fun p H3 np e3 hp => k p H3 (fresh_back e2 np) (e2.trans e3) (by
    rw [hp]
    unfold rngV
    congr 2
    refine List.map_congr_left fun i _ => ?_
    rw [Int.mul_one])⟩
theorem EL.listR3 {lo hi cc : Int} (n : Nat) (mL : X.mg "list" = none) (mR : X.mg "range" = none) (h : EV X a σ H (.int lo)) (h' : EV X b σ H (.int hi)) (h'' : EV X c σ H (.int cc)) (hn : RgC lo hi cc n) (hl : n ≤ 100000) (hg : Gl X "list" := by rfl) (hg2 : Gl X "range" := by rfl) (hc : X.calm = true := by rfl) (hs : [a, b, c].all noStar = true := by rfl) :
    EL X (.Call (.Name "list" p) [.Call (.Name "range" p2) [a, b, c] [] q2] [] pos) σ H (rngV lo cc n) :=
  EL.of (pe_listRange hg mL hg2 mR hc (pa_all hs) hs) fun H1 e1 Q k => (AV.three h h' h'').ev H1 e1 _ fun H2 e2 => ⟨lo, hi, cc, n, .inr (.inr ⟨rfl, hn.1, hn.2.1⟩), hn.2.2.1, hn.2.2.2, hl, fun p H3 np e3 hp => k p H3 (fresh_back e2 np) (e2.trans e3) hp⟩
/-! ### xs + ys, list(xs), xs * k, slices -/
theorem EL.cat {ys : List V} (ha : ES X a σ H xs) (hb : ES X b σ H ys) (hz : xs.length + ys.length ≤ 100000) : EL X (.BinOp a .Add b pos) σ H (xs ++ ys) :=
  EL.of (pe_op op_catS pe_self pe_self) fun H1 e1 Q k => ha.ev H1 e1 _ fun p H2 e2 hp => hb.ev H2 (e1.trans e2) _ fun q H3 e3 hq => ⟨p, q, xs, ys, rfl, rfl, ex_l e3 hp, hq, sz_of hz, fun r hr => k r _ (fresh_back (e2.trans e3) hr) ((e2.trans e3).trans (Ex.new hr)) upd_same⟩
theorem EN.cat (ha : EX X a σ H (.lst ss)) (hb : EX X b σ H (.lst ts)) (hz : ss.length + ts.length ≤ 100000 := by exact Nat.le_of_ble_eq_true rfl) : EN X (.BinOp a .Add b pos) σ H (ss ++ ts) :=
  ⟨fun H1 e1 Q k => EW.of (pe_op op_catS pe_self pe_self) (ha.ev H1 e1 _ fun v H2 e2 hv => hb.ev H2 (e1.trans e2) _ fun u H3 e3 hu => by
    obtain ⟨p, vs, rfl, hp, h1⟩ := hv.ofL
    obtain ⟨q, us, rfl, hq, h2⟩ := hu.ofL
    exact ⟨p, q, vs, us, rfl, rfl, ex_l e3 hp, hq, sz_of (by rw [h1.len, h2.len]; exact hz), fun r hr => k r _ _ (fresh_back (e2.trans e3) hr) ((e2.trans e3).trans (Ex.new hr)) upd_same (((h1.ex e3).append h2).ex (Ex.new hr))⟩)⟩
theorem EL.listOf (mL : X.mg "list" = none) (ha : ES X a σ H xs) (hg : Gl X "list" := by rfl) (hs : noStar a = true := by rfl) : EL X (.Call (.Name "list" p) [a] [] pos) σ H xs :=
  EL.of (pe_callTy call_list_of hg mL (by decide +kernel) (pa_all (es := [a]) (by simp [hs])) (by decide) (by decide) (star_of hs []) rfl) fun H1 e1 Q k => ha.ev H1 e1 _ fun p H2 e2 hp => ⟨p, xs, rfl, .inl hp, fun l hl => k l _ (fresh_back e2 hl) (e2.trans (Ex.new hl)) upd_same⟩
theorem EN.listOf (mL : X.mg "list" = none) (ha : EX X a σ H (.lst ss)) (hg : Gl X "list" := by rfl) (hs : noStar a = true := by rfl) : EN X (.Call (.Name "list" p) [a] [] pos) σ H ss :=
  ⟨fun H1 e1 Q k => EW.of (pe_callTy call_list_of hg mL (by decide +kernel) (pa_all (es := [a]) (by simp [hs])) (by decide) (by decide) (star_of hs []) rfl) (ha.ev H1 e1 _ fun v H2 e2 hv => by
    obtain ⟨p, vs, rfl, hp, h1⟩ := hv.ofL
    exact ⟨p, vs, rfl, .inl hp, fun l hl => k l _ _ (fresh_back e2 hl) (e2.trans (Ex.new hl)) upd_same (h1.ex (Ex.new hl))⟩)⟩
theorem EL.rep {k : Int} (ha : EL X a σ H xs) (hb : EV X b σ H (.int k)) (hk : -(2 ^ 63) ≤ k ∧ k < 2 ^ 63) (hz : xs.length * k.toNat ≤ 100000) : EL X (.BinOp a .Mult b pos) σ H (List.replicate k.toNat xs).flatten :=
  EL.of (pe_op op_rep pe_self pe_self) fun H1 e1 Q q => ha.ev H1 e1 _ fun p H2 np e2 hp => hb.ev H2 (e1.trans e2) _ fun H3 e3 => ⟨p, k, xs, rfl, rfl, e3 _ _ hp, hk.1, hk.2, sz_of hz, fun r hr => q r _ (fresh_back (e2.trans e3) hr) ((e2.trans e3).trans (Ex.new hr)) upd_same⟩
theorem EL.rev {k : Nat} {p1 p3 : Pos} (ha : ES X a σ H xs) : EL X (.Subscript a (.Slice none none (some (.UnaryOp .USub (.Constant (.int 1) k p1) p2)) p3) pos) σ H xs.reverse :=
  EL.of (pe_revL pe_self) fun H1 e1 Q q => ha.ev H1 e1 _ fun p H2 e2 hp => ⟨p, xs, rfl, hp, fun r hr => q r _ (fresh_back e2 hr) (e2.trans (Ex.new hr)) upd_same⟩
theorem IsAll.rev {K : PySem.W.Frag} {H : Hp} : ∀ {vs : List V} {ss : List Sh}, IsAll K H vs ss → IsAll K H vs.reverse ss.reverse
  | _, _, .nil => .nil
  | _, _, .cons a b => by
    rw [List.reverse_cons, List.reverse_cons]
    exact (IsAll.rev b).append (.cons a .nil)
theorem IsAll.drop {K : PySem.W.Frag} {H : Hp} : ∀ {vs : List V} {ss : List Sh} (n : Nat), IsAll K H vs ss → IsAll K H (vs.drop n) (ss.drop n)
  | _, _, 0, h => h
  | _, _, n + 1, .nil => .nil
  | _, _, n + 1, .cons a b => IsAll.drop n b
/-- a slice of shapes -/
def cutS' (ss : List Sh) (lo hi : Option Int) : List Sh := (ss.drop (HT.sIx ss.length 0 lo)).take (HT.sIx ss.length ss.length hi - HT.sIx ss.length 0 lo)
theorem EN.slice {lo hi : Option Expr} {l h : Option Int} {tl th : TO} (ha : EX X a σ H (.lst ss)) (pl : PO X lo tl) (ph : PO X hi th) (hl : EvO tl σ H l) (hh : EvO th σ H h) : EN X (.Subscript a (.Slice lo hi none p2) pos) σ H (cutS' ss l h) :=
  ⟨fun H1 e1 Q k => EW.of (pe_slice sl_list pe_self pl ph) (ha.ev H1 e1 _ fun v H2 e2 hv => hl H2 (e1.trans e2) _ fun H3 e3 => hh H3 ((e1.trans e2).trans e3) _ fun H4 e4 => by
    obtain ⟨q, vs, rfl, hq, h1⟩ := hv.ofL
    refine ⟨q, vs, rfl, ex_l (e3.trans e4) hq, fun r hr => k r _ _ (fresh_back ((e2.trans e3).trans e4) hr) (((e2.trans e3).trans e4).trans (Ex.new hr)) upd_same ?_⟩
    unfold cutV cutS'
    rw [h1.len]
    exact (((h1.ex (e3.trans e4)).drop _).take _).ex (Ex.new hr))⟩
/-- xs[:n] -/
theorem cutS_upto (ss : List Sh) (k : Nat) : cutS' ss none (some (k : Int)) = ss.take k := by
  unfold cutS'
  rw [HT.sIx_nat, HT.sIx_none]
  show List.take (min k ss.length - 0) (List.drop 0 ss) = _
  rw [Nat.sub_zero, List.drop_zero]
  rcases Nat.le_total k ss.length with h | h
  · rw [Nat.min_eq_left h]
  · rw [Nat.min_eq_right h, List.take_length, List.take_of_length_le h]
theorem EN.upto {n : Nat} (ha : EX X a σ H (.lst ss)) (hb : EV X b σ H (.int (n : Int))) : EN X (.Subscript a (.Slice none (some b) none p2) pos) σ H (ss.take n) :=
  (EN.slice ha po_none (po_some pe_self) eo_none (eo_some hb.ev)).is (cutS_upto ss n)
/-! ### x -= e, x += e -/
theorem BW.augS {n : Str} (i : Nat) {u w : Int} (hN : X.N.Nodup) (hx : σ[i]? = some (some (.int u))) (h : EV X e σ H (.int w)) (k : ∀ H1, Ex H H1 → BW X rest D (σ.set i (some (.int (u - w)))) H1)
    (hi : X.N[i]? = some n := by rfl) (hl : Loc X.env.scope n := by first | exact Or.inl rfl | exact Or.inr rfl) (hf : X.fn n = true ∨ X.env.scope.names.lookup n = some .local := by first | exact .inl rfl | exact .inr rfl) : BW X (.AugAssign (.Name n p) .Sub e pos :: rest) D σ H :=
  BW.cons (ps_aug (i := i) hN hi hl pe_self ip_sub hf) ⟨.int u, hx, h.ev H (Ex.refl H) _ fun H1 e1 => ⟨u, w, rfl, rfl, k H1 e1⟩⟩
/-! ### a, b = x over a pair; pairs in loops -/
theorem g_pair {K : PySem.W.Frag} {j1 j2 : Nat} {u w : V} {R : L2.St → Hp → Prop} (h : Is K H v (.tup [.v u, .v w])) (k : R ((σ.set j1 (some u)).set j2 (some w)) H) : gTup K 2 (gCons (gName j1) (gCons (gName j2) gNil)) v σ H R := by
  obtain ⟨p, vs, rfl, hp, ha⟩ := h.ofU
  have e : vs = [u, w] := IsAll.valsE (vs := [u, w]) ha
  subst e
  exact ⟨p, [u, w], rfl, hp, rfl, u, [w], rfl, w, [], rfl, rfl, k⟩
/-! ### xs[i] = e; xs.extend(ys); xs.insert(i, v); xs.index(v) -/
theorem BW.setL {l : Addr} {j : Nat} {apos : Pos} (hl : H l = some (.lst xs)) (h : EV X e σ H v) (ho : EV X a σ H (.ref l)) (hi : EV X b σ H (.int (j : Int))) (hj : j < xs.length) (k : ∀ H1, Ex H H1 → BW X rest D σ (upd H1 l (.lst (xs.set j v))))
    (hg : PG X (.Subscript a b apos) (gSub (EW X a) (EW X b) rSetL) := by exact pg_sub pe_self pe_self set_list) (hs : swapsWithSole [.Subscript a b apos] e pos.line X.env = pure false := by rfl) (hw : swappedStores [.Subscript a b apos] e X.env = pure none := by rfl) : BW X (.Assign [.Subscript a b apos] e pos :: rest) D σ H :=
  BW.cons (ps_asg pe_self hg hs hw) (s_setL (D := { D with nx := BW X rest D }) hl h.ev ho.ev hi.ev hj k)
theorem BW.extend {l q : Addr} {ys : List V} (hl : H l = some (.lst xs)) (ha : EV X a σ H (.ref l)) (h : EL X e σ H ys) (hz : xs.length + ys.length ≤ 100000) (k : ∀ H1, Ex H H1 → BW X rest D σ (upd H1 l (.lst (xs ++ ys)))) (hs : noStar e = true := by rfl)
    (he : PE X (.Call (.Attribute a "extend" apos) [e] [] p) (tBM X.K "list" rExtend (EW X a) (tArgs X [e])) := by exact pe_bm PySem.F.plainAttrs_list PySem.F.slot_list_extend PySem.F.type_list_extend mt_extend pe_self (pa_all rfl))
    (hw : swapsWith (.Call (.Attribute a "extend" apos) [e] [] p) none pos.line X.env = pure false := by rfl) : BW X (.Expr (.Call (.Attribute a "extend" apos) [e] [] p) pos :: rest) D σ H :=
  BW.cons (ps_expr he hw) (ha.ev H (Ex.refl H) _ fun H1 e1 => ⟨.inl ⟨rfl, xs, sq_of (e1 l _ hl)⟩, h.ev H1 e1 _ fun q H2 np e2 hq => ⟨l, q, xs, ys, rfl, rfl, e2 l _ (e1 l _ hl), hq, sz_of hz, k H2 (e1.trans e2)⟩⟩)
/-! ### what follows, once -/
theorem BW.mono {D' : Ends} {st : List Stmt} (h : BW X st D σ H) (hn : ∀ σ' H', D.nx σ' H' → D'.nx σ' H') (hr : ∀ v H', D.rt v H' → D'.rt v H') (hb : ∀ σ' H', D.bk σ' H' → D'.bk σ' H') (hc : ∀ σ' H', D.ct σ' H' → D'.ct σ' H') : BW X st D' σ H :=
  ⟨fun pins s I => thn (h.run pins s I) fun f s1 q => by
    cases f with
    | next =>
      obtain ⟨σ', H', I', q⟩ := q
      exact ⟨σ', H', I', hn _ _ q⟩
    | brk =>
      obtain ⟨σ', H', I', q⟩ := q
      exact ⟨σ', H', I', hb _ _ q⟩
    | cont =>
      obtain ⟨σ', H', I', q⟩ := q
      exact ⟨σ', H', I', hc _ _ q⟩
    | ret u =>
      obtain ⟨v, σ', H', I', r, q⟩ := q
      exact ⟨v, σ', H', I', r, hr _ _ q⟩⟩
/-- an if whose ways meet in Mid -/
theorem BW.iteC {s1 s2 : List Stmt} {k : Bool} (Mid : L2.St → Hp → Prop) (h : TV X c σ H k) (h1 : k = true → ∀ H1, Ex H H1 → BW X s1 { D with nx := Mid } σ H1) (h2 : k = false → ∀ H1, Ex H H1 → BW X s2 { D with nx := Mid } σ H1) (k' : ∀ σ' H', Mid σ' H' → BW X rest D σ' H') : BW X (.If c s1 s2 pos :: rest) D σ H :=
  BW.ite h (fun hk H1 e1 => (h1 hk H1 e1).mono k' (fun _ _ z => z) (fun _ _ z => z) (fun _ _ z => z)) (fun hk H1 e1 => (h2 hk H1 e1).mono k' (fun _ _ z => z) (fun _ _ z => z) (fun _ _ z => z))
theorem BW.whenC {s1 : List Stmt} {k : Bool} (Mid : L2.St → Hp → Prop) (h : TV X c σ H k) (h1 : k = true → ∀ H1, Ex H H1 → BW X s1 { D with nx := Mid } σ H1) (h2 : k = false → ∀ H1, Ex H H1 → Mid σ H1) (k' : ∀ σ' H', Mid σ' H' → BW X rest D σ' H') : BW X (.If c s1 [] pos :: rest) D σ H :=
  BW.iteC Mid h h1 (fun hk H1 e1 => BW.nil (h2 hk H1 e1)) k'
end
end QR

namespace QR
open PySem PySem.Spec PyProof.Rows L2 Evl
/-! ### the heap but for one list that grows -/
def hide (H : Hp) (l : Addr) : Hp := fun b => if b = l then none else H b
theorem hide_at {H : Hp} {l b : Addr} (h : b ≠ l) : hide H l b = H b := if_neg h
theorem hide_ex {H : Hp} {l : Addr} : Ex (hide H l) H := fun b o h => by
  unfold hide at h
  split at h
  · cases h
  · exact h
theorem hide_mono {H H1 : Hp} {l : Addr} (e : Ex H H1) : Ex (hide H l) (hide H1 l) := fun b o h => by
  unfold hide at h ⊢
  split at h
  · cases h
  · rename_i hb
    rw [if_neg hb]
    exact e _ _ h
theorem hide_upd {H : Hp} {l : Addr} {o : HO} : hide (upd H l o) l = hide H l := funext fun b => by
  unfold hide
  split
  · rfl
  · rename_i hb
    rw [upd_ne hb]
/-- a heap that does not know l stays, if l changes -/
theorem ex_hide {H0 H : Hp} {l : Addr} (e : Ex H0 H) (n : H0 l = none) : Ex H0 (hide H l) := fun b o h => by
  rw [hide_at (ne_of_none h n)]
  exact e _ _ h
theorem hide_out {H : Hp} {l : Addr} {o : HO} : Ex (hide H l) (upd H l o) := fun b u h => by
  unfold hide at h
  split at h
  · cases h
  · rename_i hb
    rw [upd_ne hb]
    exact h
theorem Is.hideT {K : PySem.W.Frag} {H : Hp} {l : Addr} {v : V} {us xs : List V} (h : Is K H v (.tup (us.map Sh.v))) (hl : H l = some (.lst xs)) : Is K (hide H l) v (.tup (us.map Sh.v)) := by
  obtain ⟨p, vs, rfl, hp, ha⟩ := h.ofU
  have e := ha.valsE
  subst e
  refine .tup ?_ (IsAll.vals _)
  rcases hp with (h | ⟨o, h⟩) | h
  · refine Or.inl (Or.inl ?_)
    rw [hide_at (by rintro rfl; rw [hl] at h; cases h)]
    exact h
  · refine Or.inl (Or.inr ⟨o, ?_⟩)
    rw [hide_at (by rintro rfl; rw [hl] at h; cases h)]
    exact h
  · exact Or.inr h
theorem Is.hideI {K : PySem.W.Frag} {H : Hp} {l : Addr} {v : V} {C : Addr} {fs : List (Str × V)} {xs : List V} (h : Is K H v (.ins C fs)) (hl : H l = some (.lst xs)) : Is K (hide H l) v (.ins C fs) := by
  obtain ⟨p, dx, rfl, hp⟩ := h.ofI
  refine .ins (dx := dx) ?_
  rw [hide_at (by rintro rfl; rw [hl] at hp; cases hp)]
  exact hp
section
variable {X : Cx} {e a b c o tg iter : Expr} {es : List Expr} {st : Stmt} {body rest : List Stmt} {σ : L2.St} {H : Hp} {D : Ends} {Q : VK} {v x y z : V} {pos p p2 q2 pr apos : Pos} {vs xs : List V} {f m : Str} {s t : Sh} {ss ts : List Sh}
theorem BW.appX {l : Addr} (hl : H l = some (.lst xs)) (ha : EV X a σ H (.ref l)) (h : EX X e σ H s) (hz : xs.length < 100000) (k : ∀ v H1, Ex H H1 → Is X.K H1 v s → BW X rest D σ (upd H1 l (.lst (xs ++ [v])))) (hs : noStar e = true := by rfl)
    (he : PE X (.Call (.Attribute a "append" apos) [e] [] p) (tBM X.K "list" rAppend (EW X a) (tArgs X [e])) := by exact pe_bm PySem.F.plainAttrs_list PySem.F.slot_list_append PySem.F.type_list_append mt_append pe_self (pa_all rfl))
    (hw : swapsWith (.Call (.Attribute a "append" apos) [e] [] p) none pos.line X.env = pure false := by rfl) : BW X (.Expr (.Call (.Attribute a "append" apos) [e] [] p) pos :: rest) D σ H :=
  BW.cons (ps_expr he hw) (ha.ev H (Ex.refl H) _ fun H1 e1 => ⟨.inl ⟨rfl, xs, sq_of (e1 l _ hl)⟩, h.ev H1 e1 _ fun v H2 e2 hv => ⟨l, xs, v, rfl, rfl, e2 l _ (e1 l _ hl), sz_lt hz, k v H2 (e1.trans e2) hv⟩⟩)
/-- the list that is appended is new -/
theorem BW.appL {l : Addr} {ys : List V} (hl : H l = some (.lst xs)) (ha : EV X a σ H (.ref l)) (h : EL X e σ H ys) (hz : xs.length < 100000) (k : ∀ q H1, H q = none → Ex H H1 → H1 q = some (.lst ys) → BW X rest D σ (upd H1 l (.lst (xs ++ [.ref q])))) (hs : noStar e = true := by rfl)
    (he : PE X (.Call (.Attribute a "append" apos) [e] [] p) (tBM X.K "list" rAppend (EW X a) (tArgs X [e])) := by exact pe_bm PySem.F.plainAttrs_list PySem.F.slot_list_append PySem.F.type_list_append mt_append pe_self (pa_all rfl))
    (hw : swapsWith (.Call (.Attribute a "append" apos) [e] [] p) none pos.line X.env = pure false := by rfl) : BW X (.Expr (.Call (.Attribute a "append" apos) [e] [] p) pos :: rest) D σ H :=
  BW.cons (ps_expr he hw) (ha.ev H (Ex.refl H) _ fun H1 e1 => ⟨.inl ⟨rfl, xs, sq_of (e1 l _ hl)⟩, h.ev H1 e1 _ fun q H2 np e2 hq => ⟨l, xs, .ref q, rfl, rfl, e2 l _ (e1 l _ hl), sz_lt hz, k q H2 (fresh_back e1 np) (e1.trans e2) hq⟩⟩)
end
section
variable {X : Cx} {e a b c d o : Expr} {es : List Expr} {σ : L2.St} {H : Hp} {z : V} {pos p : Pos} {xs : List V} {w : Str} {sp : Sp} {k j : Nat} {ss : List Sh}
/-- a call whose arguments are told by their shapes -/
theorem EV.callA (C : Fc X.prog X.w X.K X.mg X.base k w sp) (hr : Room j X.A) (ha : AX X (e :: es) σ H ss) (hv : ∀ vs H1, Ex H H1 → IsAll X.K H1 vs ss → SpV sp vs H1 z) (hk : k ≤ j := by decide) (hg : Gl X w := by rfl) (hs : (e :: es).all noStar = true := by rfl) (hdb : (w == ("__debug__" : Str)) = false := by decide) :
    EV X (.Call (.Name w p) (e :: es) [] pos) σ H z := EV.of (pe_fc C hr hk passL hg hs hdb) fun H1 e1 Q q => ha.ev H1 e1 _ fun vs H2 e2 hvs => by
      show sp (vs ++ []) H2 Q E0
      rw [List.append_nil]
      exact hv vs H2 (e1.trans e2) hvs H2 (Ex.refl H2) Q (fun H3 e3 => q H3 (e2.trans e3)) _
theorem EL.callA (C : Fc X.prog X.w X.K X.mg X.base k w sp) (hr : Room j X.A) (ha : AX X (e :: es) σ H ss) (hv : ∀ vs H1, Ex H H1 → IsAll X.K H1 vs ss → SpL sp vs H1 xs) (hk : k ≤ j := by decide) (hg : Gl X w := by rfl) (hs : (e :: es).all noStar = true := by rfl) (hdb : (w == ("__debug__" : Str)) = false := by decide) :
    EL X (.Call (.Name w p) (e :: es) [] pos) σ H xs := EL.of (pe_fc C hr hk passL hg hs hdb) fun H1 e1 Q q => ha.ev H1 e1 _ fun vs H2 e2 hvs => by
      show sp (vs ++ []) H2 Q E0
      rw [List.append_nil]
      exact hv vs H2 (e1.trans e2) hvs H2 (Ex.refl H2) Q (fun r H3 nr e3 h3 => q r H3 (fresh_back e2 nr) (e2.trans e3) h3) _
theorem EI.callA {C : Addr} {fs : List (Str × V)} (Cc : Fc X.prog X.w X.K X.mg X.base k w sp) (hr : Room j X.A) (ha : AX X (e :: es) σ H ss) (hv : ∀ vs H1, Ex H H1 → IsAll X.K H1 vs ss → SpI sp vs H1 C fs) (hk : k ≤ j := by decide) (hg : Gl X w := by rfl) (hs : (e :: es).all noStar = true := by rfl) (hdb : (w == ("__debug__" : Str)) = false := by decide) :
    EI X (.Call (.Name w p) (e :: es) [] pos) σ H C fs := ⟨fun H1 e1 Q q => EW.of (pe_fc Cc hr hk passL hg hs hdb) (ha.ev H1 e1 _ fun vs H2 e2 hvs => by
      show sp (vs ++ []) H2 Q E0
      rw [List.append_nil]
      exact hv vs H2 (e1.trans e2) hvs H2 (Ex.refl H2) Q (fun r dx H3 nr e3 h3 => q r dx H3 (fresh_back e2 nr) (e2.trans e3) h3) _)⟩
theorem IsAll.two {K : PySem.W.Frag} {H : Hp} {vs : List V} {s t : Sh} (h : IsAll K H vs [s, t]) : ∃ u v, vs = [u, v] ∧ Is K H u s ∧ Is K H v t := by
  cases h with
  | cons a b => cases b with
    | cons b c => cases c with
      | nil => exact ⟨_, _, rfl, a, b⟩
theorem IsAll.one {K : PySem.W.Frag} {H : Hp} {vs : List V} {s : Sh} (h : IsAll K H vs [s]) : ∃ u, vs = [u] ∧ Is K H u s := by
  cases h with
  | cons a b => cases b with
    | nil => exact ⟨_, rfl, a⟩
theorem IsAll.three {K : PySem.W.Frag} {H : Hp} {vs : List V} {s t r : Sh} (h : IsAll K H vs [s, t, r]) : ∃ u v x, vs = [u, v, x] ∧ Is K H u s ∧ Is K H v t ∧ Is K H x r := by
  cases h with
  | cons a b =>
    obtain ⟨u, v, rfl, h1, h2⟩ := IsAll.two b
    exact ⟨_, _, _, rfl, a, h1, h2⟩
theorem AX.two {s t : Sh} (h : EX X a σ H s) (h2 : EX X b σ H t) : AX X [a, b] σ H [s, t] := AX.cons h (AX.one h2)
theorem AX.three {s t r : Sh} (h : EX X a σ H s) (h2 : EX X b σ H t) (h3 : EX X c σ H r) : AX X [a, b, c] σ H [s, t, r] := AX.cons h (AX.two h2 h3)
theorem TV.or4 {k1 k2 k3 k4 : Bool} (h : TV X a σ H k1) (h2 : k1 = false → TV X b σ H k2) (h3 : k1 = false → k2 = false → TV X c σ H k3) (h4 : k1 = false → k2 = false → k3 = false → TV X d σ H k4) : TV X (.BoolOp .Or [a, b, c, d] pos) σ H (k1 || (k2 || (k3 || k4))) := TV.bool (LV.or h fun q => LV.or (h2 q) fun r => LV.or (h3 q r) fun t => LV.or1 (h4 q r t))
end
theorem in0 (a b : Int) : inV (.int a) [.int 0, .int b] = decide (a = 0 ∨ a = b) := by
  have : (∀ x : Int, eqV (.int x) (.int a) = decide (a = x)) := fun x => by simp [eqV, Bool.beq_eq_decide_eq, eq_comm]
  simp only [inV, List.any_cons, List.any_nil, Bool.or_false, this, Bool.decide_or]
end QR

namespace QR
open PySem PySem.Spec PyProof.Rows L2 Evl
/-! ### the end: what the head tells -/
theorem fun_ofD {K : PySem.W.Frag} {x qual : Str} {st : Stmt} {f : Addr} {fd : FuncData} (F : FunD K x qual (defArgs st) (defBody st) (defScope st) [] [] f fd) : Fun K x qual st f fd := by
  obtain ⟨⟨oc, od, dV, kV, doc, pm, an, cdv, ct, osl, e, lk, hcd, hd, _⟩, kp⟩ := F
  rcases hd with ⟨_, rfl⟩ | ⟨hn, _⟩
  · exact ⟨⟨oc, od, kV, doc, pm, an, cdv, ct, osl, e, lk, hcd⟩, kp⟩
  · exact absurd rfl hn
/-- a def of the top, a method of a class -/
def dG (x : Str) (st : Stmt) : He.DefD := ⟨(x, none), x, x, defArgs st, defBody st, defScope st, [], []⟩
def dM (C m q : Str) (st : Stmt) : He.DefD := ⟨(C, some m), m, q, defArgs st, defBody st, defScope st, [], []⟩
abbrev ga (K : PySem.W.Frag) (x : Str) : Addr := He.ga K x
/-- what the kit of classes must say -/
def ciB (K : PySem.W.Frag) (x : Str) : Bool :=
  He.eqO (PySem.W.findIn K (.ref (ga K x)) "__class__") (some (some (.builtin "object.__class__"))) &&
  (He.eqO (PySem.W.specialIn K (.builtin "object.__class__") "__get__") (some (some (.builtin "getset_descriptor.__get__"))) &&
  (decide (PySem.W.takesIn K (.builtin "object.__class__") = some true) && decide (PySem.W.mroIn K (ga K x) (.type "object") = some true)))
def kitBB (K : PySem.W.Frag) (x y : Str) (b : Bool) : Bool := decide (PySem.W.kitOne K (.ref (ga K x)) (.ref (ga K y)) = some b)
theorem ci_ok {K : PySem.W.Frag} {mg : Str → Option Value} {x : Str} (hm : mg x = some (.ref (ga K x))) (hc : (He.Fa.cls x).ok K = true) (h : ciB K x = true) : Ci K mg x (ga K x) := by
  obtain ⟨h1, h⟩ := He.ba h
  obtain ⟨h2, h⟩ := He.ba h
  obtain ⟨h3, h4⟩ := He.ba h
  exact ⟨He.cls_ok hc, hm, He.eqO_ok h1, He.eqO_ok h2, of_decide_eq_true h3, of_decide_eq_true h4⟩
theorem kit_ok {K : PySem.W.Frag} {x y : Str} {b : Bool} (h : kitBB K x y b = true) : PySem.W.kitOne K (.ref (ga K x)) (.ref (ga K y)) = some b := of_decide_eq_true h
/-- the free names -/
def freeL : List Str := ["isinstance", "int", "bool", "list", "len", "all", "any", "abs", "range", "sum", "min", "max", "set", "enumerate", "sorted", "tuple", "str", "ValueError"]
section
variable {K : PySem.W.Frag} {h : Heap} {mg : Str → Option Value} {fa : List He.Fa} {fn : List He.DefD}
theorem fact_of (c : He.SaysD fa fn K) {f : He.Fa} (hf : f ∈ fa) : f.ok K = true := c.facts hf
theorem glo_of (X : K.In h) (G : h.Ns mainGlobals mg) (c : He.SaysD fa fn K) {x : Str} (hf : He.Fa.glo x ∈ fa) : mg x = some (.ref (ga K x)) := He.glo_ok X G (c.facts hf)
theorem free_of (X : K.In h) (G : h.Ns mainGlobals mg) (c : He.SaysD fa fn K) {x : Str} (hf : He.Fa.free x ∈ fa) : mg x = none := He.free_ok X G (c.facts hf)
end
end QR

namespace QR
open PySem PySem.Spec PyProof.Rows L2 Evl
/-! ### C() of a class without an __init__ of its own -/
structure MkN (K : PySem.W.Frag) (C : Addr) : Prop where
  makes : PySem.W.makesIn K C = true
  init : PySem.W.findIn K (.ref C) "__init__" = some (some (.builtin "object.__init__"))
  kp : PySem.W.keepIn K (.ref C) = true
def mkNB (K : PySem.W.Frag) (x : Str) : Bool := PySem.W.makesIn K (ga K x) && (He.eqO (PySem.W.findIn K (.ref (ga K x)) "__init__") (some (some (.builtin "object.__init__"))) && PySem.W.keepIn K (.ref (ga K x)))
theorem mkN_of {K : PySem.W.Frag} {x : Str} (h : mkNB K x = true) : MkN K (ga K x) := by
  obtain ⟨h1, h⟩ := He.ba h
  obtain ⟨h2, h3⟩ := He.ba h
  exact ⟨h1, He.eqO_ok h2, h3⟩
section
variable {X : Cx} {e a b c o : Expr} {es : List Expr} {rest : List Stmt} {D : Ends} {σ : L2.St} {H : Hp} {Q : VK} {v z : V} {pos p : Pos} {vs xs : List V} {x : Str} {C : Addr}
theorem run_makeN {pins : List (Addr × Obj)} {s : Shared} (M : MkN X.K C) (I : Inv X pins σ H s) (h : ∀ x dx, H x = none → H dx = none → dx ≠ x → Q (.ref x) (upd (upd H dx (.own x)) x (.ins C dx []))) :
    wpAny (model X.prog X.w) X.A (call (.ref C) []) (EP X pins σ Q) X.xe s := by
  have hq := h (s.heap.objs.size + 1) s.heap.objs.size (I.hok.fresh (Nat.le_succ _)) (I.hok.fresh (Nat.le_refl _)) (Nat.ne_of_lt (Nat.lt_succ_self _))
  have I2 := Inv.made (C := C) I
  refine wpAny_call (make_map0 I.kIn M.makes M.init (fun self => PySem.W.Looks.of_pure (PySem.W.oi_bind self)) ?_)
  have e2 : ((s.heap.push PySem.W.emptyDict).push (PySem.W.instObj C s.heap.objs.size)).get? (s.heap.objs.size + 1) = some (PySem.W.instObj C s.heap.objs.size) := by
    have := Heap.get?_push_size (s.heap.push PySem.W.emptyDict) (o := PySem.W.instObj C s.heap.objs.size) rfl
    rwa [Heap.size_push] at this
  have Y := PySem.W.makes_of (M := model X.prog X.w) I.kIn M.makes
  have t1 : PySem.W.Looks (model X.prog X.w) ((s.heap.push PySem.W.emptyDict).push (PySem.W.instObj C s.heap.objs.size)) (typeOf (.ref (s.heap.objs.size + 1))) (.ref C) := (PySem.W.Looks.ld e2).andThen .now
  have t2 : PySem.W.Looks (model X.prog X.w) ((s.heap.push PySem.W.emptyDict).push (PySem.W.instObj C s.heap.objs.size)) (isInstance (.ref (s.heap.objs.size + 1)) (.type "object")) true := t1.andThen (Y.top.keeps fun b o e => Heap.get?_push_of_some _ (Heap.get?_push_of_some _ e))
  refine codeAny_call_builtin PySem.W.oi_plain PySem.W.entry_oi (@PySem.W.check_slot (model X.prog X.w) _ _ _ "object.__init__" "object" "__init__" (.ref (s.heap.objs.size + 1)) [] [] _ PySem.W.oi_kind PySem.W.oi_split t2 (PySem.W.oi_args (.ref (s.heap.objs.size + 1))) ?_)
  rw [PySem.W.oi_run]
  exact wpAny_pure (And.intro rfl ⟨V.ref (s.heap.objs.size + 1), _, I2, rfl, hq⟩)
theorem EI.make0 (M : MkN X.K C) (hm : X.mg x = some (.ref C)) (hg : Gl X x := by rfl) (hdb : (x == ("__debug__" : Str)) = false := by decide) : EI X (.Call (.Name x p) [] [] pos) σ H C [] :=
  ⟨fun H1 e1 Q q => ⟨fun pins s I => by
    refine wpAny_Call_Name_kw (ld_glob I hg hm ?_ hdb)
    refine PySem.W.callWith_K0 I.kIn M.kp (run_makeN M I fun x dx nx ndx ne => ?_)
    refine q x dx _ nx (fun b u hb => ?_) upd_same
    rw [upd_ne (ne_of_none hb nx), upd_ne (ne_of_none hb ndx)]
    exact hb⟩⟩
theorem pt_chain3 {d : Expr} {ta tb tc td : TE} {op op' op'' : CmpOp} {r r' r'' : R2} (ho : OpR X (compareOp op) r) (ho' : OpR X (compareOp op') r') (ho'' : OpR X (compareOp op'') r'') (ha : PE X a ta) (hb : PE X b tb) (hc : PE X c tc) (hd : PE X d td)
    (hm : lastMarks [op, op', op''] [b, c, d] = false) : PT X (.Compare a [op, op', op''] [b, c, d] pos) (tTest (tChain3 r r' r'' ta tb tc td)) := by
  refine ⟨fun pins s σ H Q I h => ?_⟩
  refine isTrue_chain (thn (ha.run pins s σ H _ I h) fun v s1 ⟨x, H1, I1, r1, q1⟩ => test_link (thn (hb.run pins s1 σ H1 _ I1 q1) fun u s2 ⟨y, H2, I2, r2, q2⟩ =>
    thn (ho pins s2 σ H2 x y v u _ I2 r1 r2 q2) fun d s3 ⟨z, H3, I3, r3, k, e, q3⟩ => ?_)) hm
  subst e
  cases r3
  refine wpAny_truthy_bool ?_
  cases k with
  | false =>
    obtain ⟨k', e', q'⟩ := q3
    cases e'
    exact ite_ff ⟨H3, I3, q'⟩
  | true =>
    refine ite_tt (test_link (thn (hc.run pins s3 σ H3 _ I3 q3) fun w' s4 ⟨z', H4, I4, r4, q4⟩ => thn (ho' pins s4 σ H4 y z' u w' _ I4 r2 r4 q4) fun d' s5 ⟨z2, H5, I5, r5, k2, e2, q5⟩ => ?_))
    subst e2
    cases r5
    refine wpAny_truthy_bool ?_
    cases k2 with
    | false =>
      obtain ⟨k', e', q'⟩ := q5
      cases e'
      exact ite_ff ⟨H5, I5, q'⟩
    | true =>
      refine ite_tt (test_last (thn (hd.run pins s5 σ H5 _ I5 q5) fun w2 s6 ⟨z3, H6, I6, r6, q6⟩ => thn (ho'' pins s6 σ H6 z' z3 w' w2 _ I6 r4 r6 q6) fun d3 s7 ⟨z4, H7, I7, r7, k3, e3, q7⟩ => ?_))
      subst e3
      cases r7
      exact wpAny_truthy_bool ⟨H7, I7, q7⟩
theorem TV.leLtLt {d : Expr} {i j k l : Int} (ha : EV X a σ H (.int i)) (hb : EV X b σ H (.int j)) (hc : EV X c σ H (.int k)) (hd : EV X d σ H (.int l)) : TV X (.Compare a [.LtE, .Lt, .Lt] [b, c, d] pos) σ H (decide (i ≤ j) && (decide (j < k) && decide (k < l))) := by
  refine TV.of (pt_chain3 op_le op_lt op_lt pe_self pe_self pe_self pe_self (nomark d)) fun H1 e Q q => ?_
  refine ha.ev H1 e _ fun H2 e2 => hb.ev H2 (e.trans e2) _ fun H3 e3 => ⟨i, j, rfl, rfl, decide (i ≤ j), rfl, ?_⟩
  have g4 := e2.trans e3
  cases hk1 : decide (i ≤ j) with
  | false => exact ⟨_, rfl, by rw [hk1] at q; exact q H3 g4⟩
  | true =>
    refine hc.ev H3 (e.trans g4) _ fun H5 e5 => ⟨j, k, rfl, rfl, decide (j < k), rfl, ?_⟩
    have g6 := g4.trans e5
    cases hk2 : decide (j < k) with
    | false => exact ⟨_, rfl, by rw [hk1, hk2] at q; exact q H5 g6⟩
    | true => exact hd.ev H5 (e.trans g6) _ fun H7 e7 => ⟨k, l, rfl, rfl, _, rfl, by rw [hk1, hk2] at q; exact q H7 (g6.trans e7)⟩
/-! ### a call of a def that a slot holds -/
structure Hc (P : Program) (w : World) (K : PySem.W.Frag) (mg : Str → Option Value) (base : Heap) (k : Nat) (f : Addr) (sp : Sp) : Prop where
  ex : ∃ (fd : FuncData) (ps : List Str), FnOk P w K mg base (L2.CX P w) k f fd ps sp ∧ PySem.W.keepIn K (.ref f) = true ∧ Binds K fd ps []
theorem Hc.of {P : Program} {w : World} {K : PySem.W.Frag} {mg : Str → Option Value} {base : Heap} {k : Nat} {x : Str} {sp : Sp} (C : Fc P w K mg base k x sp) : ∃ f, mg x = some (.ref f) ∧ Hc P w K mg base k f sp := by
  obtain ⟨f, fd, ps, F, hm, kp, bn⟩ := C.ex
  exact ⟨f, hm, ⟨fd, ps, F, kp, bn⟩⟩
theorem EV.callL {f : Addr} {sp : Sp} {k j : Nat} (i : Nat) (F : Hc X.prog X.w X.K X.mg X.base k f sp) (hr : Room j X.A) (hi : σ[i]? = some (some (.ref f))) (ha : AV X (e :: es) σ H vs) (hv : SpV sp vs H z) (hk : k ≤ j := by decide)
    (hN : X.N[i]? = some x := by rfl) (hvs : Vis X.env.scope x := by first | exact Or.inl rfl | exact Or.inr (Or.inl rfl) | exact Or.inr (Or.inr rfl)) (hs : (e :: es).all noStar = true := by rfl) (hdb : (x == ("__debug__" : Str)) = false := by decide) (hcd : (x == ("__classdict__" : Str)) = false := by decide) :
    EV X (.Call (.Name x p) (e :: es) [] pos) σ H z := by
  obtain ⟨fd, ps, F, kp, bn⟩ := F.ex
  refine EV.of (pe_callL (i := i) (f := f) (dvs := []) F (hr.mono hk) hN hvs kp bn .nil passL (pa_all hs) hdb hcd (star_of (List.all_eq_true.mp hs e List.mem_cons_self) es) (back_any es (List.all_eq_true.mpr fun e' he => List.all_eq_true.mp hs e' (List.mem_cons_of_mem _ he)))) fun H1 e1 Q q => ⟨hi, ha.ev H1 e1 _ fun H2 e2 => ?_⟩
  rw [List.append_nil]
  exact hv H2 (e1.trans e2) Q (fun H3 e3 => q H3 (e2.trans e3)) _
/-- x = [e, ..], told so that the list may grow -/
theorem BW.asgD {n : Str} {ss : List Sh} (i : Nat) {lp : Pos} (hN : X.N.Nodup) (h : AX X es σ H ss) (k : ∀ q vs H1, H q = none → Ex H (hide H1 q) → H1 q = some (.lst vs) → IsAll X.K (hide H1 q) vs ss → BW X rest D (σ.set i (some (.ref q))) H1) (hl : ss.length ≤ 100000 := by exact Nat.le_of_ble_eq_true rfl) (hs : es.all noStar = true := by rfl)
    (hi : X.N[i]? = some n := by rfl) (hx : Loc X.env.scope n := by first | exact Or.inl rfl | exact Or.inr rfl) (hw : swapsWith (.List es lp) (some (.Name n p)) pos.line X.env = pure false := by rfl) (hf : X.fn n = true ∨ X.env.scope.names.lookup n = some .local := by first | exact .inl rfl | exact .inr rfl) : BW X (.Assign [.Name n p] (.List es lp) pos :: rest) D σ H :=
  BW.asgW hN hi hx (EW.of (pe_lst (pa_all hs)) (h.ev H (Ex.refl H) _ fun vs H2 e2 ha => ⟨sz_of (by rw [ha.len]; exact hl), fun q hq => k q vs _ (fresh_back e2 hq) (ex_hide (e2.trans (Ex.new hq)) (fresh_back e2 hq)) upd_same (ha.ex (ex_hide (Ex.new hq) hq))⟩)) hw hf
/-- xs.insert(i, v) -/
theorem BW.insert {l : Addr} {n : Nat} {apos : Pos} (hl : H l = some (.lst xs)) (ha : EV X a σ H (.ref l)) (h1 : EV X b σ H (.int (n : Int))) (h2 : EV X c σ H v) (hn : n < 2 ^ 62) (hz : xs.length < 100000) (k : ∀ H1, Ex H H1 → BW X rest D σ (upd H1 l (.lst (xs.take n ++ [v] ++ xs.drop n)))) (hs : [b, c].all noStar = true := by rfl)
    (he : PE X (.Call (.Attribute a "insert" apos) [b, c] [] p) (tBM X.K "list" (fun x vs H Q => ∃ (l : Addr) (xs : List V) (i : Int) (y : V), x = .ref l ∧ vs = [.int i, y] ∧ H l = some (.lst xs) ∧ xs.length < sizeLine ∧ 0 ≤ i ∧ i < 2 ^ 63 ∧ Q .non (upd H l (.lst (xs.take i.toNat ++ [y] ++ xs.drop i.toNat)))) (EW X a) (tArgs X [b, c])) := by exact pe_bm PySem.F.plainAttrs_list PySem.F.slot_list_insert PySem.F.type_list_insert mt_insert pe_self (pa_all rfl))
    (hw : swapsWith (.Call (.Attribute a "insert" apos) [b, c] [] p) none pos.line X.env = pure false := by rfl) : BW X (.Expr (.Call (.Attribute a "insert" apos) [b, c] [] p) pos :: rest) D σ H :=
  BW.cons (ps_expr he hw) (ha.ev H (Ex.refl H) _ fun H1 e1 => ⟨.inl ⟨rfl, xs, sq_of (e1 l _ hl)⟩, (AV.two h1 h2).ev H1 e1 _ fun H2 e2 => ⟨l, xs, (n : Int), v, rfl, rfl, e2 l _ (e1 l _ hl), sz_lt hz, by omega, by omega, k H2 (e1.trans e2)⟩⟩)
theorem EL.ite {k : Bool} (ht : TV X c σ H k) (h1 : k = true → EL X a σ H xs) (h2 : k = false → EL X b σ H xs) : EL X (.IfExp c a b pos) σ H xs :=
  ⟨fun H1 e1 Q q => EW.of (pe_ifExp pt_self pe_self pe_self) (ht.ev H1 e1 _ fun H2 e2 => by
    cases k with
    | true => exact (h1 rfl).ev H2 (e1.trans e2) Q fun p H3 np e3 hp => q p H3 (fresh_back e2 np) (e2.trans e3) hp
    | false => exact (h2 rfl).ev H2 (e1.trans e2) Q fun p H3 np e3 hp => q p H3 (fresh_back e2 np) (e2.trans e3) hp)⟩
theorem EI.ite {k : Bool} {fs : List (Str × V)} (ht : TV X c σ H k) (h1 : k = true → EI X a σ H C fs) (h2 : k = false → EI X b σ H C fs) : EI X (.IfExp c a b pos) σ H C fs :=
  ⟨fun H1 e1 Q q => EW.of (pe_ifExp pt_self pe_self pe_self) (ht.ev H1 e1 _ fun H2 e2 => by
    cases k with
    | true => exact (h1 rfl).ev H2 (e1.trans e2) Q fun p dx H3 np e3 hp => q p dx H3 (fresh_back e2 np) (e2.trans e3) hp
    | false => exact (h2 rfl).ev H2 (e1.trans e2) Q fun p dx H3 np e3 hp => q p dx H3 (fresh_back e2 np) (e2.trans e3) hp)⟩
/-- o.m(e, ..), all told by shapes -/
theorem EV.methX {m : Str} {apos : Pos} {fs : List (Str × V)} {ss : List Sh} {sp : Sp} {k j : Nat} {pl : Sem Bool} (M : Mc X.prog X.w X.K X.mg X.base k C m sp) (hr : Room j X.A) (h : EX X o σ H (.ins C fs)) (hl : fs.lookup m = none) (ha : AX X (e :: es) σ H ss)
    (hv : ∀ q dx vs H1, Ex H H1 → H1 q = some (.ins C dx fs) → IsAll X.K H1 vs ss → SpV sp (.ref q :: vs) H1 z) (hk : k ≤ j := by decide) (hs : (e :: es).all noStar = true := by rfl)
    (ht : eval (.Call (.Attribute o m apos) (e :: es) [] pos) X.env = (do
      let ov ← eval o X.env
      standAt apos.atName
      let (f, first) ← holding [ov] (getMethod ov m pl)
      callWith pos f first (backTo pos (starEach (e :: es) X.env)) (backToKw pos (keywordEach [] X.env))) := by rfl) : EV X (.Call (.Attribute o m apos) (e :: es) [] pos) σ H z := by
  obtain ⟨f, fd, ps, cl, me, F, bn⟩ := M.ex
  refine EV.of (pe_meth (pl := pl) pe_self cl me F (hr.mono hk) bn .nil passL (pa_all hs) (star_of (List.all_eq_true.mp hs e List.mem_cons_self) es) (back_any es (List.all_eq_true.mpr fun e' he => List.all_eq_true.mp hs e' (List.mem_cons_of_mem _ he))) ht) fun H1 e1 Q kq => ?_
  refine h.ev H1 e1 _ fun v H2 e2 hi => ?_
  obtain ⟨ob, dx, rfl, ho⟩ := hi.ofI
  refine ⟨ob, dx, fs, rfl, ho, hl, ?_⟩
  refine ha.ev H2 (e1.trans e2) _ fun vs H3 e3 hvs => ?_
  rw [List.append_nil]
  exact hv ob dx vs H3 ((e1.trans e2).trans e3) (e3 _ _ ho) hvs H3 (Ex.refl H3) Q (fun H4 e4 => kq H4 ((e2.trans e3).trans e4)) _
/-! ### a new list of shapes of which only R is known -/
structure EQ (X : Cx) (e : Expr) (σ : L2.St) (H : Hp) (R : List Sh → Prop) : Prop where
  ev : ∀ H1, Ex H H1 → ∀ Q : VK, (∀ ss p vs H2, R ss → H1 p = none → Ex H1 H2 → H2 p = some (.lst vs) → IsAll X.K H2 vs ss → Q (.ref p) H2) → EW X e σ H1 Q
theorem EQ.ofN {ss : List Sh} (h : EN X e σ H ss) : EQ X e σ H (· = ss) := ⟨fun H1 e1 Q q => h.ev H1 e1 Q fun p vs H2 np e2 hp ha => q ss p vs H2 rfl np e2 hp ha⟩
theorem BW.asgQ {n : Str} {R : List Sh → Prop} (i : Nat) (hN : X.N.Nodup) (h : EQ X e σ H R) (k : ∀ ss q vs H1, R ss → H q = none → Ex H H1 → H1 q = some (.lst vs) → IsAll X.K H1 vs ss → BW X rest D (σ.set i (some (.ref q))) H1) (hi : X.N[i]? = some n := by rfl) (hx : Loc X.env.scope n := by first | exact Or.inl rfl | exact Or.inr rfl) (hs : swapsWith e (some (.Name n p)) pos.line X.env = pure false := by rfl) (hf : X.fn n = true ∨ X.env.scope.names.lookup n = some .local := by first | exact .inl rfl | exact .inr rfl) : BW X (.Assign [.Name n p] e pos :: rest) D σ H :=
  BW.asgW hN hi hx (h.ev H (Ex.refl H) _ k) hs hf
theorem EQ.cat {R S : List Sh → Prop} (ha : EQ X a σ H R) (hb : EQ X b σ H S) (hz : ∀ ss ts, R ss → S ts → ss.length + ts.length ≤ 100000) : EQ X (.BinOp a .Add b pos) σ H (fun us => ∃ ss ts, us = ss ++ ts ∧ R ss ∧ S ts) :=
  ⟨fun H1 e1 Q k => EW.of (pe_op op_catS pe_self pe_self) (ha.ev H1 e1 _ fun ss p vs H2 hR np e2 hp h1 => hb.ev H2 (e1.trans e2) _ fun ts q us H3 hS nq e3 hq h2 =>
    ⟨p, q, vs, us, rfl, rfl, sq_of (e3 _ _ hp), sq_of hq, sz_of (by rw [h1.len, h2.len]; exact hz ss ts hR hS), fun r hr => k (ss ++ ts) r _ _ ⟨ss, ts, rfl, hR, hS⟩ (fresh_back (e2.trans e3) hr) ((e2.trans e3).trans (Ex.new hr)) upd_same (((h1.ex e3).append h2).ex (Ex.new hr))⟩)⟩
theorem BW.forQ {tg iter : Expr} {body : List Stmt} {g : TG} {R : List Sh → Prop} (h : EQ X iter σ H R) (hg : PG X tg g) (Pv : List Sh → Hp → Nat → L2.St → Hp → Prop) (h0 : ∀ ss H1, R ss → Ex H H1 → Pv ss H1 0 σ H1) (hl : ∀ ss H1 i σ' H', Pv ss H1 i σ' H' → Ex H1 H')
    (hs : ∀ ss H1 i s v σ' H', R ss → Ex H H1 → ss[i]? = some s → Is X.K H' v s → Pv ss H1 i σ' H' → g v σ' H' fun σ2 H2 => BW X body (Ends.turn X rest D (Pv ss H1 (i + 1))) σ2 H2) (hd : ∀ ss H1 σ' H', R ss → Ex H H1 → Pv ss H1 ss.length σ' H' → BW X rest D σ' H')
    (hc : X.calm = true := by rfl) (hp : PassesOwn (model X.prog X.w) X.A X.env X.xe := by first | exact PassesOwn.never | exact passes_of rfl) (hfs : ∀ x, foldedSetIterable iter X.env x = pure x := by intro _; rfl) : BW X (.For tg iter body [] pos :: rest) D σ H := by
  refine BW.cons (ps_for hp hc (pi_list pe_self) hg pss_self hfs) (h.ev H (Ex.refl H) _ fun ss q vs H1 hR nq e1 hq ha => ?_)
  have hlen := ha.len
  refine ⟨q, rfl, ⟨vs, sq_of hq⟩, for_list (xs := vs) (Pv ss H1) (h0 ss H1 hR e1) (fun i σ' H' _ pv => sq_of (hl ss H1 i σ' H' pv _ _ hq)) (fun i x σ' H' hi pv => ?_) fun σ' H' pv => hd ss H1 σ' H' hR e1 (hlen ▸ pv)⟩
  obtain ⟨t, ht, it⟩ := ha.at' hi
  exact hs ss H1 i t x σ' H' hR e1 ht (it.ex (hl ss H1 i σ' H' pv)) pv
end
end QR

namespace QR
open PySem PySem.Spec PyProof.Rows L2 Evl
/-! ### lists of lists of whole numbers, as data -/
abbrev dLL (Ls : List (List Int)) : PyData := .list (Ls.map dI)
theorem eqvA_lists : ∀ Ls Ms : List (List Int), PyData.eqvAll (Ls.map dI) (Ms.map dI) = decide (Ls = Ms)
  | [], [] => by simp [PyData.eqvAll]
  | [], _ :: _ => by simp [PyData.eqvAll]
  | _ :: _, [] => by simp [PyData.eqvAll]
  | n :: ns, m :: ms => by
    have h := eqv_ints n m
    simp only [List.map_cons, PyData.eqvAll, h, eqvA_lists ns ms, List.cons.injEq, Bool.decide_and]
theorem eqv_lists (Ls Ms : List (List Int)) : PyData.eqv (dLL Ls) (dLL Ms) = decide (Ls = Ms) := by
  simp only [PyData.eqv, eqvA_lists]
theorem lay_lists : ∀ Ls : List (List Int), PyData.canLayAll0 (Ls.map dI) = true
  | [] => rfl
  | n :: ns => by simp [PyData.canLayAll0, PyData.canLay0, lay_ints, lay_lists ns]
theorem dep_lists : ∀ Ls : List (List Int), PyData.depthAll (Ls.map dI) ≤ 1
  | [] => Nat.zero_le _
  | n :: ns => by
    have := dep_lists ns
    simp [PyData.depthAll, PyData.depth, dep_ints]
    omega
theorem shaped_lists (Ls : List (List Int)) : SeqAt.shaped (dLL Ls) = true := by
  have := dep_lists Ls
  simp [SeqAt.shaped, PyData.canLay0, PyData.depth, lay_lists]
  omega
theorem dp_lists {K : PySem.W.Frag} {H : Hp} : ∀ {Ls : List (List Int)} {vs : List V}, IsAll K H vs (Ls.map Sh.ints) → DpAll K H vs (Ls.map dI)
  | [], _, .nil => .nil
  | L :: Ls, _, .cons a b => by
    obtain ⟨p, rfl, hp⟩ := a.ofInts
    exact .cons (.lst hp (dp_ints L)) (dp_lists b)
section
variable {X : Cx} {e a b c o : Expr} {es : List Expr} {rest : List Stmt} {D : Ends} {σ : L2.St} {H : Hp} {Q : VK} {v z : V} {pos p : Pos} {vs xs ys : List V} {x : Str} {C : Addr} {s t : Sh}
theorem ED.lists {Ls : List (List Int)} (h : EX X e σ H (.lst (Ls.map Sh.ints))) : ED X e σ H (dLL Ls) := ⟨fun H1 e1 Q q => h.ev H1 e1 Q fun v H2 e2 hv => by
  obtain ⟨p, vs, rfl, hp, ha⟩ := hv.ofL
  exact q _ H2 e2 (.lst hp (dp_lists ha))⟩
theorem TV.neLL {Ls Ms : List (List Int)} {k : Nat} (hr : Room k X.A) (ha : EX X a σ H (.lst (Ls.map Sh.ints))) (hb : EX X b σ H (.lst (Ms.map Sh.ints))) : TV X (.Compare a [.NotEq] [b] pos) σ H (!decide (Ls = Ms)) := TV.is (TV.neD hr (ED.lists ha) (ED.lists hb) (shaped_lists _) (shaped_lists _)) (by rw [eqv_lists])
/-- x, y = e1, e2, told by shapes -/
theorem BW.parA (i j : Nat) {n m : Str} {px py pt : Pos} {kt k2 pt2} (hN : X.N.Nodup) (ha : AX X [a, b] σ H [s, t]) (k : ∀ v w H1, Ex H H1 → Is X.K H1 v s → Is X.K H1 w t → BW X rest D ((σ.set i (some v)).set j (some w)) H1)
    (hi : X.N[i]? = some n := by rfl) (hj : X.N[j]? = some m := by rfl) (hij : i ≠ j := by decide) (hx : X.env.scope.names.lookup n = some .local := by rfl) (hy : X.env.scope.names.lookup m = some .local := by rfl) (hc : X.calm = true := by rfl)
    (hw : swappedStores [.Tuple [.Name n px, .Name m py] kt pt] (.Tuple [a, b] k2 pt2) X.env = pure (some [n, m]) := by rfl)
    (hs : swapsWithSole [.Tuple [.Name n px, .Name m py] kt pt] (.Tuple [a, b] k2 pt2) pos.line X.env = pure false := by rfl) (hst : [a, b].all noStar = true := by rfl) :
    BW X (.Assign [.Tuple [.Name n px, .Name m py] kt pt] (.Tuple [a, b] k2 pt2) pos :: rest) D σ H :=
  BW.cons (ps_par hc hN hi hj hij hx hy (pa_all hst) hw hs) (ha.ev H (Ex.refl H) _ fun vs H1 e1 hvs => by
    obtain ⟨v, w, rfl, hv, hw⟩ := hvs.two
    exact ⟨v, w, rfl, k v w H1 e1 hv hw⟩)
/-- x, y = e1, e2 by way of a pair (where a name is a cell) -/
theorem BW.parT (i j : Nat) {n m : Str} {px py pt : Pos} {kt k2 pt2} (hN : X.N.Nodup) (ha : AX X [a, b] σ H [s, t]) (k : ∀ v w H1, Ex H H1 → Is X.K H1 v s → Is X.K H1 w t → BW X rest D ((σ.set i (some v)).set j (some w)) H1)
    (hi : X.N[i]? = some n := by rfl) (hj : X.N[j]? = some m := by rfl) (hx : Loc X.env.scope n := by first | exact Or.inl rfl | exact Or.inr rfl) (hy : Loc X.env.scope m := by first | exact Or.inl rfl | exact Or.inr rfl) (hc : X.calm = true := by rfl)
    (hf1 : X.fn n = true ∨ X.env.scope.names.lookup n = some .local := by first | exact .inl rfl | exact .inr rfl) (hf2 : X.fn m = true ∨ X.env.scope.names.lookup m = some .local := by first | exact .inl rfl | exact .inr rfl)
    (hs : swapsWithSole [.Tuple [.Name n px, .Name m py] kt pt] (.Tuple [a, b] k2 pt2) pos.line X.env = pure false := by rfl) (hw : swappedStores [.Tuple [.Name n px, .Name m py] kt pt] (.Tuple [a, b] k2 pt2) X.env = pure none := by rfl) (hst : [a, b].all noStar = true := by rfl)
    (h1 : (assignEach [.Tuple [.Name n px, .Name m py] kt pt] X.env).map (·.2) = [assign (.Tuple [.Name n px, .Name m py] kt pt) X.env] := by rfl) :
    BW X (.Assign [.Tuple [.Name n px, .Name m py] kt pt] (.Tuple [a, b] k2 pt2) pos :: rest) D σ H :=
  BW.cons (ps_asg pe_self (pg_tup hc (pgs_cons (pg_name (i := i) hN hi hx hf1) (pgs_cons (pg_name (i := j) hN hj hy hf2) pgs_nil))) hs hw h1) ((EX.tup ha (Nat.le_of_ble_eq_true rfl) hst).ev H (Ex.refl H) _ fun v H1 e1 hv => by
    obtain ⟨p, vs, rfl, hp, hvs⟩ := hv.ofU
    obtain ⟨u, w, rfl, hu, hw⟩ := hvs.two
    exact ⟨p, [u, w], rfl, hp, rfl, u, [w], rfl, w, [], rfl, rfl, k u w H1 e1 hu hw⟩)
/-- x = [e1, e2], both new lists; their places -/
theorem BW.asgLL {n : Str} (i : Nat) {lp : Pos} (hN : X.N.Nodup) (ha : EL X a σ H xs) (hb : EL X b σ H ys) (k : ∀ l p q H1, H l = none → H p = none → H q = none → p ≠ q → l ≠ p → l ≠ q → Ex H H1 → H1 l = some (.lst [.ref p, .ref q]) → H1 p = some (.lst xs) → H1 q = some (.lst ys) → BW X rest D (σ.set i (some (.ref l))) H1)
    (hs : [a, b].all noStar = true := by rfl) (hi : X.N[i]? = some n := by rfl) (hx : Loc X.env.scope n := by first | exact Or.inl rfl | exact Or.inr rfl) (hw : swapsWith (.List [a, b] lp) (some (.Name n p)) pos.line X.env = pure false := by rfl) (hf : X.fn n = true ∨ X.env.scope.names.lookup n = some .local := by first | exact .inl rfl | exact .inr rfl) : BW X (.Assign [.Name n p] (.List [a, b] lp) pos :: rest) D σ H :=
  BW.asgW hN hi hx (EW.of (pe_lst (pa_all hs)) (ha.ev H (Ex.refl H) _ fun p H1 np e1 hp => hb.ev H1 e1 _ fun q H2 nq e2 hq => ⟨sz_of (Nat.le_of_ble_eq_true rfl), fun l hl => by
    have hp2 := e2 _ _ hp
    have lp : l ≠ p := fun z => by rw [z, hp2] at hl; cases hl
    have lq : l ≠ q := fun z => by rw [z, hq] at hl; cases hl
    have pq : p ≠ q := fun z => by rw [← z, hp] at nq; cases nq
    exact k l p q _ (fresh_back (e1.trans e2) hl) np (fresh_back e1 nq) pq lp lq ((e1.trans e2).trans (Ex.new hl)) upd_same (by rw [upd_ne lp.symm]; exact hp2) (by rw [upd_ne lq.symm]; exact hq)⟩)) hw hf
/-- xs.index(v) -/
theorem EV.index {l : Addr} {ns : List Int} {i : Int} {apos : Pos} (ha : EV X a σ H (.ref l)) (hl : SqL X.K H l (ns.map V.int)) (h : EV X e σ H (.int i)) (hm : i ∈ ns)
    (he : PE X (.Call (.Attribute a "index" apos) [e] [] p) (tBM X.K "list" (rIndex X.K) (EW X a) (tArgs X [e])) := by exact pe_bm PySem.F.plainAttrs_list PySem.F.slot_list_index PySem.F.type_list_index mt_index pe_self (pa_all rfl)) :
    EV X (.Call (.Attribute a "index" apos) [e] [] p) σ H (.int (ns.idxOf i : Nat)) :=
  EV.of he fun H1 e1 Q q => ha.ev H1 e1 _ fun H2 e2 => ⟨.inl ⟨rfl, _, ex_l (e1.trans e2) hl⟩, (AV.one h).ev H2 (e1.trans e2) _ fun H3 e3 => by
    have hlt := List.idxOf_lt_length_of_mem hm
    refine ⟨l, ns.map V.int, .int i, ns.idxOf i, .int i, rfl, rfl, ex_l ((e1.trans e2).trans e3) hl, rfl, ?_, ?_, ?_, ?_, q H3 (e2.trans e3)⟩
    · rw [List.all_map]
      exact List.all_eq_true.mpr fun _ _ => rfl
    · rw [List.getElem?_map, List.getElem?_eq_getElem hlt, List.getElem_idxOf hlt]
      rfl
    · simp [eqV]
    · intro m z' hm' hz
      rw [List.getElem?_map] at hz
      cases hz2 : ns[m]? with
      | none => rw [hz2] at hz; cases hz
      | some c =>
        rw [hz2] at hz
        cases Option.some.inj hz
        have hne : c ≠ i := by
          intro e
          have h1 := List.not_of_lt_findIdx (p := fun x => x == i) (xs := ns) (show m < ns.findIdx (fun x => x == i) from hm')
          have := (List.getElem?_eq_some_iff.mp hz2)
          obtain ⟨hlt2, hc⟩ := this
          rw [hc, e] at h1
          simp at h1
        simp [eqV, hne]⟩
end
end QR

namespace QR
open PySem PySem.Spec PyProof.Rows L2 Evl LamX
/-! ### a def whose code object is known; lambdas handed on -/
section
variable {P : Program} {w : World} {K : PySem.W.Frag} {mg : Str → Option Value} {base : Heap}
theorem fun_code {x qual : Str} {st : Stmt} {p : He.Defn} {fd : FuncData} (F : Fun K x qual st (He.fAd K p) fd) : fd.code = .ref (He.codeOf K p) := by
  obtain ⟨oc, od, kV, doc, pm, an, cdv, ct, osl, e, lk, hcd⟩ := F.ex
  obtain ⟨c, rfl⟩ := He.codeIn_ref hcd
  have e2 : fd.code = .ref c := by rw [e]
  rw [He.codeOf_eq lk e2]
  exact e2
/-- a def from which nothing is let out, its code object known -/
theorem okBc {x qual : Str} {st : Stmt} {f c : Addr} {fd : FuncData} {N ps : List Str} {k : Nat} {sp : Sp} (F : Fun K x qual st f fd) (hcode : fd.code = .ref c) (S : FnScope N ps (defScope st)) (len : ∀ vs H Q E, sp vs H Q E → vs.length = ps.length)
    (hbody : ∀ (A : Around) (outer : List Env) (s : Shared) (H : Hp) (vs : List V) (Q : VK) (E : XK), Room k (A.deeper (envOfC qual (defScope st) s.heap.objs.size f (.ref c))) → sp vs H Q E →
      BW (cxOf (L2.CX P w) P w K mg base N qual (defScope st) f (.ref c) A outer s H E).nox (defBody st) { nx := fun _ H' => Q .non H', rt := Q } (start N vs) H) : FnOk P w K mg base (L2.CX P w) (k + 1) f fd ps sp := by
  obtain ⟨oc, od, kV, doc, pm, an, cdv, ct, osl, rfl, lk, hcd⟩ := F.ex
  have e : cdv = .ref c := hcode
  subst e
  exact fn_of lk hcd S len fun A outer s H vs Q E hr hsp => ⟨_, pss_self.nox, hbody A outer s H vs Q E hr hsp⟩
end
/-- what the lambda's body leads to: σ the maker's slots -/
def LamT (X : Cx) (k : Nat) (body : Expr) (scope : Scope) (f c' : Addr) (E : XK) : TE := fun σ HZ Q => ∀ (A : Around) (outer : List Env) (s : Shared) (H : Hp), Room k (A.deeper (lamEnv X scope s.heap.objs.size f c')) → EW (lamCx X A outer s H E scope f c') body σ HZ Q
/-- x(), x a slot that holds the lambda f of X, in the def that got it (Z, entered at s): what the body raises is taken at these slots -/
theorem EW.act {X : Cx} {pins : List (Addr × Obj)} {σ : L2.St} {H : Hp} {s : Shared} {CXg : CXT} {Eg : XK} {Ng : List Str} {qg : Str} {sg : Scope} {g f c' : Addr} {cdg pm ctv : Value} {params : Arguments} {body : Expr} {scope : Scope} {k i : Nat} {a : Str} {pn : List (Addr × Obj)} {xe : Value → Shared → Prop} {W : WX} {E : XK} {p1 p2 : Pos} {σZ : L2.St} {HZ : Hp} {QZ : VK}
    (I : Inv X pins σ H s) (L : LamS X.env.scope scope) (hf : s.heap.get? f = some (PySem.W.kla_obj "<lambda>" (X.env.qual ++ "<lambda>") params body scope (cloFrom X.env.cells scope.names []) pm c' ctv)) (hfn : H f = none) (hfr : f ∉ frs X.stack)
    (hbind : bindArgs (PySem.W.kla_fn "<lambda>" (X.env.qual ++ "<lambda>") params body scope (cloFrom X.env.cells scope.names []) pm (.ref c') ctv) ⟨[], []⟩ = pure [])
    (tk : Takes ((cxOf CXg X.prog X.w X.K X.mg X.base Ng qg sg g cdg X.A X.stack s H Eg).tr pn xe) W) (hW : ∀ cls d H', E cls d H' → W cls d σZ H') (hr : Room (k + 1) (X.A.deeper (envOfC qg sg s.heap.objs.size g cdg)))
    (hN : Ng[i]? = some a) (hv : Vis sg a) (hs : σZ[i]? = some (some (.ref f))) (hc : HZ c' = some (CodeO c' (X.env.qual ++ "<lambda>"))) (ht : LamT X k body scope f c' E σ HZ QZ)
    (hd : (a == ("__debug__" : Str)) = false := by decide) (hcd : (a == ("__classdict__" : Str)) = false := by decide) :
    EW ((cxOf CXg X.prog X.w X.K X.mg X.base Ng qg sg g cdg X.A X.stack s H Eg).tr pn xe) (.Call (.Name a p1) [] [] p2) σZ HZ QZ := by
  refine ⟨fun pinsZ sZ IZ => wpAny_Call_Name_kw (thn ((pe_var (pos := p1) (i := i) hN hv hd hcd).run pinsZ sZ σZ HZ (fun v H1 => v = .ref f ∧ H1 = HZ) IZ ⟨.ref f, hs, rfl, rfl⟩) fun u s1 ⟨v, H1, I1, r1, ev, eH⟩ => ?_)⟩
  subst ev eH
  obtain rfl : u = Value.ref f := r1
  have of1 := I1.base.keep f _ hf hfn hfr (fun z => nomatch (show f ∈ ([] : List Addr) from z))
  refine PySem.W.callWith_F0 ⟨_, _, _, _, of1⟩ ?_
  obtain ⟨⟨oc, vs, t, hoc, hdc, hvc⟩, _, _⟩ := I1.hok c' _ hc
  have rc : codeAny (model X.prog X.w) (X.A.deeper (envOfC qg sg s.heap.objs.size g cdg)) (.call (.ref f) ⟨[], []⟩) (CR (L2.CX X.prog X.w) (envOfC qg sg s.heap.objs.size g cdg :: X.stack) X.prog X.w H1 s1 QZ E) s1 := by
    refine PySem.W.kla_callFunE hr.depth of1 rfl L.co L.gen rfl ⟨c', oc, vs, t, rfl, hoc, hdc, hvc⟩ ?_
    rw [hbind]
    refine wpAny_pure (wpAny_newFunctionEnv (fun y hy => (L.own y hy).2) (fun y hy => absurd hy (by simp)) (fun h₁ hns hsb => ⟨I1.nolimit.fresh _ hsb, ?_⟩) L.kind)
    have kp : ∀ b o, s1.heap.get? b = some o → h₁.get? b = some o := fun b o e => hsb.extBut b o (Nat.ne_of_lt (Heap.lt_size e)) (Heap.get?_push_of_some _ e)
    have J : Inv (lamCx X (X.A.deeper (envOfC qg sg s.heap.objs.size g cdg)) (envOfC qg sg s.heap.objs.size g cdg :: X.stack) s1 H1 E scope f c') [] σ H1 { s1 with heap := h₁, toks := s1.toks + ([] : List (Str × Value)).length } := lam_start2 I L I1.env0 hr.hd I1.base hns kp
    show codeAny _ _ (.expr body (lamEnv X scope s1.heap.objs.size f c')) _ _
    exact PySem.W.kla_codeExpr (wpAny_mono ((ht _ _ s1 H1 (hr.deeper _)).run [] _ J) (fun v s' ⟨w', H', J', rv, q⟩ => ⟨w', H', J'.os, J'.bare, J'.base, J'.hok, rv, q⟩) fun e s' hq => hq)
  refine wpAny_call (codeAny_mono rc fun r s' hq => ?_)
  cases r with
  | error e => exact tk e s' (XE.of_call I1 (fun cls d H' h => hW cls d H' h) hq)
  | ok fl =>
    cases fl with
    | ret u => exact I1.after hq
    | next => exact False.elim hq
    | brk => exact False.elim hq
    | cont => exact False.elim hq
section
variable {X : Cx} {σ : L2.St} {H : Hp} {Q : VK}
/-- x(lambda: body, i): hw tells what x does with it -/
theorem EW.lam2 {T : List (Addr × Str)} {x a b : Str} {g c P : Addr} {k : Nat} {st : Stmt} {fd : FuncData} {Ng : List Str} {params : Arguments} {body : Expr} {scope : Scope} {i : Int} {j : Nat} {p lpos pc pos : Pos}
    (F : Fun X.K x x st g fd) (hm : X.mg x = some (.ref g)) (hb : L2.Binds X.K fd [a, b] []) (Sg : FnScope Ng [a, b] (defScope st)) (hNg : Ng[0]? = some a) (hva : Vis (defScope st) a)
    (TB : TabB X.base X.mg c P) (hcode : X.env.code = .ref c) (hmT : (P, X.env.qual ++ "<lambda>") ∈ T) (hu : ∀ p ∈ T, p.1 = P → p.2 = X.env.qual ++ "<lambda>") (hr : Room (k + 2) X.A) (hT : Tabs T H) (L : LamS X.env.scope scope)
    (hw : ∀ (f c' : Addr) (H1 : Hp) (cdv : Value) (s : Shared), ExtN H H1 → Tabs T H1 → H1 c' = some (CodeO c' (X.env.qual ++ "<lambda>")) → Room (k + 1) (X.A.deeper (envOfC x (defScope st) s.heap.objs.size g cdv)) →
      (∀ (W : WX) (pn : List (Addr × Obj)) (xe : Value → Shared → Prop) (E : XK) (p1 p2 : Pos), Takes ((cxOf (L2.CX X.prog X.w) X.prog X.w X.K X.mg X.base Ng x (defScope st) g cdv X.A X.stack s H1 E0).tr pn xe) W → ∀ (σZ : L2.St) (HZ : Hp) (QZ : VK), (∀ cls d H', E cls d H' → W cls d σZ H') → σZ[0]? = some (some (.ref f)) → HZ c' = some (CodeO c' (X.env.qual ++ "<lambda>")) → LamT X k body scope f c' E σ HZ QZ →
          EW ((cxOf (L2.CX X.prog X.w) X.prog X.w X.K X.mg X.base Ng x (defScope st) g cdv X.A X.stack s H1 E0).tr pn xe) (.Call (.Name a p1) [] [] p2) σZ HZ QZ) →
      BW (cxOf (L2.CX X.prog X.w) X.prog X.w X.K X.mg X.base Ng x (defScope st) g cdv X.A X.stack s H1 E0).nox (defBody st) { nx := fun _ H' => Q .non H', rt := Q } (start Ng [.ref f, .int i]) H1)
    (hg : Gl X x := by rfl) (hdef : defaultsOf params X.env = ([], []) := by rfl)
    (hbind : ∀ (q : Str) (cl : List (Str × Addr)) (pm cv ctv : Value), bindArgs (PySem.W.kla_fn "<lambda>" q params body scope cl pm cv ctv) ⟨[], []⟩ = pure [] := by intros; rfl)
    (hdb : (x == ("__debug__" : Str)) = false := by decide) (hd : (a == ("__debug__" : Str)) = false := by decide) (hcd : (a == ("__classdict__" : Str)) = false := by decide) :
    EW X (.Call (.Name x p) [.Lambda params body scope lpos, .Constant (.int i) j pc] [] pos) σ H Q := by
  refine ⟨fun pins s I => ?_⟩
  obtain ⟨oc, od, kV, doc, pm, an, cdv, ct, osl, rfl, lk, hcg⟩ := F.ex
  refine wpAny_Call_Name_kw (ld_glob I hg hm ?_ hdb)
  refine PySem.W.callWith_K (h₀ := X.base) I.ok.mod.kin F.kp ?_ (by rfl) (by rfl)
  show wpAny _ _ (spliced ((false, eval (.Lambda params body scope lpos) X.env) :: (false, eval (.Constant (.int i) j pc) X.env) :: backTo pos (starEach [] X.env))) _ _ s
  refine Calls.spliced_cons (lam_make2 I TB hcode hmT hu hT hdef (L.has I.ok) fun f c' pm' ctv H1 s' I1 eN T1 hf hfn hfr hco => ?_)
  refine Calls.spliced_cons (wpAny_Constant_int ?_)
  have I2 := I1.tok (s'.toks + 1)
  refine Calls.spliced_nil ⟨I2.kIn, ?_⟩
  have rc : codeAny (model X.prog X.w) X.A (.call (.ref g) ⟨[.ref f, .int i s'.toks], []⟩) (CR (L2.CX X.prog X.w) X.stack X.prog X.w H1 { s' with toks := s'.toks + 1 } Q E0) { s' with toks := s'.toks + 1 } := by
    refine run_ofS (N := Ng) (ps := [a, b]) (us := [.ref f, .int i s'.toks]) (vs := [.ref f, .int i]) lk hcg Sg hr I2.env0 (hb _ [.ref f, .int i s'.toks] I2.kIn rfl) (.cons rfl (.cons ⟨_, rfl⟩ .nil)) rfl fun hr' => ?_
    refine ⟨_, pss_self.nox, hw f c' H1 cdv _ eN T1 hco hr' fun W pn xe E p1 p2 tk σZ HZ QZ hW h1 h2 h3 => ?_⟩
    exact EW.act (i := 0) (k := k) I2 L hf hfn hfr (hbind _ _ _ _ _) tk hW hr' hNg hva h1 h2 h3 hd hcd
  refine wpAny_call (codeAny_mono rc fun r s2 hq => ?_)
  cases r with
  | error e => exact passL pins σ H1 _ e s2 I2 hq
  | ok fl =>
    cases fl with
    | ret u => exact I2.after hq
    | next => exact False.elim hq
    | brk => exact False.elim hq
    | cont => exact False.elim hq
end
/-! ### try .. except x as n, as a block -/
section
variable {X : Cx} {σ : L2.St} {H : Hp} {D : Ends} {rest body suite : List Stmt} {b₀ : Stmt} {x n : Str} {c : Value} {np pos pos' : Pos} {Wout : WX}
/-- what the clause makes of an exception -/
def tSuite (X : Cx) (st : List Stmt) : Addr → Value → Option Addr → TS := fun a cls d D σ H => ∀ (oe : Obj) (pn : List (Addr × Obj)), Zc cls d oe → (∃ vs, oe.data = .fields vs) → BW (X.suite a ((a, oe) :: pn)) st D σ H
theorem BW.tryAs (i : Nat) (nd : X.N.Nodup) (hc : Names X x c) (tk : Takes X Wout)
    (hb : ∀ (W : WX) (pn : List (Addr × Obj)) (xe : Value → Shared → Prop), W = wAs X.K c i (tSuite X (b₀ :: suite)) Wout (Ends.bef X rest D) → Takes (X.tr pn xe) W → BW (X.tr pn xe) body (Ends.bef X rest D) σ H)
    (hs : X.stack = X.env :: X.outer := by rfl) (hf : X.env.frame = some X.env.locals := by rfl) (hi : X.N[i]? = some n := by rfl) (hln : X.env.kindOf n = some .local := by rfl) :
    BW X (.Try body [.ExceptHandler (some (.Name x np)) (some n) (b₀ :: suite) pos'] [] [] pos :: rest) D σ H := by
  refine BW.cons (ps_try_as (i := i) (tb := fun W D σ H => ∀ (pn : List (Addr × Obj)) (xe : Value → Shared → Prop), Takes (X.tr pn xe) W → BW (X.tr pn xe) body D σ H) (ts := tSuite X (b₀ :: suite)) hs hf nd hi hln hc tk (fun W pn xe tk' _ => ⟨fun pins s σ H D I h => (h pn xe tk').run pins s I⟩)
    (fun a oe cls d pn hz hf => ⟨fun pins s σ H D I h => (h oe pn hz hf).run pins s I⟩)) ?_
  intro pn xe tk'
  exact hb _ pn xe rfl tk'
end
end QR

namespace QR
open PySem PySem.Spec PyProof.Rows L2 Evl LamX
/-! ### lambdas that are kept: known objects of the heap -/
structure LF where
  qual : Str
  params : Arguments
  body : Expr
  scope : Scope
  cl : List (Str × Addr)
  c : Addr
abbrev LF.fd (F : LF) (pm ctv : Value) : FuncData := PySem.W.kla_fn "<lambda>" F.qual F.params F.body F.scope F.cl pm (.ref F.c) ctv
/-- the object at f is the lambda F -/
def LmO (f : Addr) (F : LF) : HO := .ext fun h => ∃ (od : Option Addr) (sl : Array (Option Value)) (pm ctv : Value), h.get? f = some (⟨.type "function", od, .func (F.fd pm ctv), sl⟩ : Obj)
theorem lmO_ne {f : Addr} {F : LF} (ps : Array Value) : LmO f F ≠ .tbl ps := fun z => by
  unfold LmO at z
  cases z
theorem lmO_at {P : Program} {w : World} {H : Hp} {h : Heap} {f : Addr} {F : LF} (hok : HOk P w H h) (e : H f = some (LmO f F)) : ∃ (od : Option Addr) (sl : Array (Option Value)) (pm ctv : Value), h.get? f = some (⟨.type "function", od, .func (F.fd pm ctv), sl⟩ : Obj) := (hok f _ e).1
theorem codeO_rec {P : Program} {w : World} {H : Hp} {h : Heap} {c : Addr} {q : Str} (hok : HOk P w H h) (e : H c = some (CodeO c q)) : h.CodeRec (.ref c) q := by
  obtain ⟨⟨oc, vs, t, h1, h2, h3⟩, _, _⟩ := hok c _ e
  exact ⟨c, oc, vs, t, rfl, h1, h2, h3⟩
section
variable {X : Cx} {pins : List (Addr × Obj)} {σ : L2.St} {H : Hp} {s : Shared}
theorem inv_lam {F : LF} {o : Obj} {t' : Nat} {pm ctv : Value} (I : Inv X pins σ H s) (ho : o = { cls := .type "function", data := .func (F.fd pm ctv) }) :
    Inv X pins σ (upd H s.heap.objs.size (LmO s.heap.objs.size F)) { s with heap := s.heap.push o, toks := t' } := by
  subst ho
  refine I.laid (a := s.heap.objs.size) (fun b u e => Heap.get?_push_of_some _ e) (Nat.le_refl _) ?_
  have e : (s.heap.push ({ cls := .type "function", data := .func (F.fd pm ctv) } : Obj)).get? s.heap.objs.size = some ({ cls := .type "function", data := .func (F.fd pm ctv) } : Obj) := Heap.get?_push_size _ rfl
  exact ⟨⟨_, _, pm, ctv, e⟩, ⟨_, e⟩, fun h1 h2 ⟨od, sl, p, t, z⟩ st => ⟨od, sl, p, t, st _ z⟩⟩
/-- the lambda is made and known: its code object is new, or found in the table -/
theorem lam_make3 {T : List (Addr × Str)} {c P : Addr} {params : Arguments} {body : Expr} {scope : Scope} {pos : Pos} {E : Value → Shared → Prop} {Q : Value → Shared → Prop} (I : Inv X pins σ H s) (TB : TabB X.base X.mg c P) (hcode : X.env.code = .ref c)
    (hm : (P, X.env.qual ++ "<lambda>") ∈ T) (hu : ∀ p ∈ T, p.1 = P → p.2 = X.env.qual ++ "<lambda>") (hT : Tabs T H) (hdef : defaultsOf params X.env = ([], [])) (hfree : ∀ y ∈ scope.names, y.2 = .free → ∃ c, X.env.cells.lookup y.1 = some c)
    (h : ∀ (f c' : Addr) (H1 : Hp) (s' : Shared), Inv X pins σ H1 s' → ExtN H H1 → (∀ b, H1 b = none → H b = none) → Tabs T H1 → H f = none → H1 f = some (LmO f ⟨X.env.qual ++ "<lambda>", params, body, scope, cloFrom X.env.cells scope.names [], c'⟩) → H1 c' = some (CodeO c' (X.env.qual ++ "<lambda>")) → Q (.ref f) s') :
    wpAny (model X.prog X.w) X.A (eval (.Lambda params body scope pos) X.env) Q E s := by
  obtain ⟨ps, hP, ht, ha⟩ := hT _ hm
  refine PySem.W.kla_eval hdef ?_
  have bP : s.heap.BuiltinsAt X.mg P := TB.bm.keeps I.bk
  have hP' : s.heap.get? P = some { cls := .none, data := .fields ps } := I.hok P _ hP
  have un : ∀ {H : Hp} {a b : Addr} {o : HO}, upd H a o b = none → H b = none := fun {H a b o} e => by
    unfold upd at e
    split at e
    · cases e
    · exact e
  cases hc : codeAmong pos ps.toList with
  | none =>
    refine PySem.W.kla_makeFunction (mg := X.mg) (c := c) (P := P) (ps := ps) (closure_ok hfree) I.ok.glob (I.mod.glob.keeps I.bk) hcode (TB.code.keeps I.bk) hP' ht hc TB.gP bP fun c' ctv h' tk hx hge hlt hrec htb => ?_
    obtain ⟨c2, oc, vs, t, e2, hoc, hd, hv⟩ := hrec
    cases e2
    have nC : H c' = none := I.hok.fresh hge
    have I1 := inv_table (t' := tk) (more := #[rawInt pos.line, rawInt pos.col, .ref c']) (h' := h') I hP (fun b o hb e => hx b o hb e) htb hge ⟨oc, vs, t, hoc, hd, hv⟩
    have hE : ExtN H (upd (upd H P (.tbl (ps ++ #[rawInt pos.line, rawInt pos.col, .ref c']))) c' (CodeO c' (X.env.qual ++ "<lambda>"))) := fun b o e n => by
      rw [upd_ne (ne_of_none e nC), upd_ne (fun z => n ps (Option.some.inj (e.symm.trans (by rw [z]; exact hP))))]
      exact e
    have eL : (ps ++ #[rawInt pos.line, rawInt pos.col, .ref c']).toList = ps.toList ++ [rawInt pos.line, rawInt pos.col, .ref c'] := by simp
    have T1 : Tabs T (upd (upd H P (.tbl (ps ++ #[rawInt pos.line, rawInt pos.col, .ref c']))) c' (CodeO c' (X.env.qual ++ "<lambda>"))) := fun p hp => by
      by_cases hb : p.1 = P
      · rw [hu p hp hb, hb]
        refine ⟨_, by rw [upd_ne (ne_of_none hP nC), upd_same], by rw [eL]; exact PySem.TriplesOk_snoc _ _ _ _ ht, fun p' cv hcv => ?_⟩
        rw [eL] at hcv
        rcases among_app _ ht hcv with z | z
        · obtain ⟨c0, e1, e2⟩ := ha p' cv z
          exact ⟨c0, e1, hE _ _ e2 codeO_ne⟩
        · exact ⟨c', z, upd_same⟩
      · obtain ⟨ps', a1, a2, a3⟩ := hT p hp
        refine ⟨ps', by rw [upd_ne (ne_of_none a1 nC), upd_ne hb]; exact a1, a2, fun p' cv hcv => ?_⟩
        obtain ⟨c0, e1, e2⟩ := a3 p' cv hcv
        exact ⟨c0, e1, hE _ _ e2 codeO_ne⟩
    have nF := I1.hok.fresh (Nat.le_refl _)
    have I2 := inv_lam (F := ⟨X.env.qual ++ "<lambda>", params, body, scope, cloFrom X.env.cells scope.names [], c'⟩) (t' := tk) (pm := (X.mg "__name__").getD .none) (ctv := ctv) I1 rfl
    refine h h'.objs.size c' _ _ I2 (fun b o e n => ?_) (fun b e => un (un (un e))) (T1.ext fun b o e => ?_) (I.hok.fresh (Nat.le_trans hge (Nat.le_of_lt hlt))) upd_same ?_
    · have e1 := hE b o e n
      exact (upd_ne (ne_of_none e1 nF)).trans e1
    · exact (upd_ne (ne_of_none e nF)).trans e
    · exact (upd_ne (Nat.ne_of_lt hlt)).trans upd_same
  | some cv =>
    obtain ⟨c', e, hco⟩ := ha pos cv hc
    subst e
    refine PySem.W.kla_makeFunctionHit (mg := X.mg) (c := c) (P := P) (ps := ps) (closure_ok hfree) I.ok.glob (I.mod.glob.keeps I.bk) hcode (TB.code.keeps I.bk) hP' ht hc bP fun ctv h' tk hx hsz => ?_
    have I1 : Inv X pins σ H { s with heap := h', toks := tk } := I.kept hx
    have nF : H h'.objs.size = none := I1.hok.fresh (Nat.le_refl _)
    have I2 := inv_lam (F := ⟨X.env.qual ++ "<lambda>", params, body, scope, cloFrom X.env.cells scope.names [], c'⟩) (t' := tk) (pm := (X.mg "__name__").getD .none) (ctv := ctv) I1 rfl
    refine h h'.objs.size c' _ _ I2 (fun b o e n => ?_) (fun b e => un e) (hT.ext fun b o e => ?_) nF upd_same ?_
    · exact (upd_ne (ne_of_none e nF)).trans e
    · exact (upd_ne (ne_of_none e nF)).trans e
    · exact (upd_ne (ne_of_none hco nF)).trans hco
end
section
variable {X : Cx} {σ : L2.St} {H : Hp} {Q : VK}
/-- lambda ..: e, as a value -/
theorem EW.lam {T : List (Addr × Str)} {c P : Addr} {params : Arguments} {body : Expr} {scope : Scope} {pos : Pos} (TB : TabB X.base X.mg c P) (hcode : X.env.code = .ref c) (hm : (P, X.env.qual ++ "<lambda>") ∈ T) (hu : ∀ p ∈ T, p.1 = P → p.2 = X.env.qual ++ "<lambda>") (hT : Tabs T H)
    (hfree : ∀ y ∈ scope.names, y.2 = .free → X.env.scope.names.lookup y.1 = some .cell ∨ X.env.scope.names.lookup y.1 = some .free)
    (h : ∀ (f c' : Addr) (H1 : Hp), ExtN H H1 → (∀ b, H1 b = none → H b = none) → Tabs T H1 → H f = none → H1 f = some (LmO f ⟨X.env.qual ++ "<lambda>", params, body, scope, cloFrom X.env.cells scope.names [], c'⟩) → H1 c' = some (CodeO c' (X.env.qual ++ "<lambda>")) → Q (.ref f) H1)
    (hdef : defaultsOf params X.env = ([], []) := by rfl) : EW X (.Lambda params body scope pos) σ H Q :=
  ⟨fun pins s I => lam_make3 I TB hcode hm hu hT hdef (fun y hy e => (hfree y hy e).elim (fun k => I.ok.has _ (.inl k)) (fun k => I.ok.has _ (.inr k))) fun f c' H1 s' I1 eN hn T1 nf hf hc => ⟨.ref f, H1, I1, rfl, h f c' H1 eN hn T1 nf hf hc⟩⟩
end
/-! ### called -/
section
variable {P : Program} {w : World} {K : PySem.W.Frag} {mg : Str → Option Value} {base : Heap}
/-- a lambda that captures nothing, called with us -/
theorem run_lam {F : LF} {f : Addr} {N ps : List Str} {k : Nat} {A : Around} {outer : List Env} {s : Shared} {H : Hp} {us : List Value} {vs : List V} {Q : VK} {E : XK} (S : FnScope N ps F.scope) (hr : Room (k + 1) A) (e0 : Env0 P w K mg base A outer s H) (hf : H f = some (LmO f F)) (hc : H F.c = some (CodeO F.c F.qual)) (hcl : F.cl = [])
    (hb : ∀ pm ctv, bindArgs (F.fd pm ctv) ⟨us, []⟩ = pure (ps.zip us)) (r : Vals vs us) (hl : vs.length = ps.length)
    (hbody : Room k (A.deeper (envOfC F.qual F.scope s.heap.objs.size f (.ref F.c))) → EW (cxOf (L2.CX P w) P w K mg base N F.qual F.scope f (.ref F.c) A outer s H E) F.body (start N vs) H Q) :
    codeAny (model P w) A (.call (.ref f) ⟨us, []⟩) (CR (L2.CX P w) outer P w H s Q E) s := by
  obtain ⟨od, sl, pm, ctv, ho⟩ := lmO_at e0.hok hf
  have lim : s.heap.NoLimit := e0.mod.nolimit.keeps fun b o e => (e0.bs b o e).1
  have hkind : ∀ y ∈ ps.zip us, F.scope.names.lookup y.1 = some .local ∨ (F.scope.names.lookup y.1 = some .cell ∧ ((cellsFrom (s.heap.objs.size + 1) F.scope.names []).lookup y.1).isSome = true) := fun ⟨n, v⟩ hy => by
    rcases S.par n (List.of_mem_zip hy).1 with q | q
    · exact .inl q
    · exact .inr ⟨q, PySem.W.cellsFrom_some _ _ _ (.inl q)⟩
  refine PySem.W.kla_callFunE hr.depth ho rfl S.co S.gen rfl (codeO_rec e0.hok hc) ?_
  rw [hb]
  refine wpAny_pure ?_
  show wpAny _ _ (newFunctionEnv F.scope mainGlobals F.cl (ps.zip us) (F.qual ++ ".<locals>.") (some f) (.ref F.c) none builtinsNs) _ _ _
  rw [hcl]
  refine wpAny_newFunctionEnv_cells S.kind hkind fun env he s1 x => ?_
  subst he
  refine ⟨lim.keeps x.toInCall.keep, ?_⟩
  have I : Inv (cxOf (L2.CX P w) P w K mg base N F.qual F.scope f (.ref F.c) A outer s H E) [] (start N vs) H s1 := inv_start S hr.hd e0 hl r x
  exact PySem.W.kla_codeExpr (wpAny_mono ((hbody (hr.deeper _)).run [] _ I) (fun v s' ⟨w', H', J', rv, q⟩ => ⟨w', H', J'.os, J'.bare, J'.base, J'.hok, rv, q⟩) fun e s' hq => hq)
end
section
variable {X : Cx} {e : Expr} {es : List Expr} {σ : L2.St} {H : Hp} {Q : VK} {p pos : Pos} {x : Str} {k j : Nat}
/-- x(e, ..), x a slot that holds such a lambda; what it raises is taken at these slots (W) -/
theorem EW.callLam {F : LF} {f : Addr} {N ps : List Str} {W : WX} (i : Nat) (S : FnScope N ps F.scope) (hr : Room j X.A) (hs : σ[i]? = some (some (.ref f))) (hcl : F.cl = []) (tk : Takes X W)
    (hb : ∀ us pm ctv, us.length = ps.length → bindArgs (F.fd pm ctv) ⟨us, []⟩ = pure (ps.zip us))
    (ha : tArgs X (e :: es) σ H fun vs H1 => vs.length = ps.length ∧ H1 f = some (LmO f F) ∧ H1 F.c = some (CodeO F.c F.qual) ∧ ∀ (A : Around) (outer : List Env) (s : Shared), Room k (A.deeper (envOfC F.qual F.scope s.heap.objs.size f (.ref F.c))) → EW (cxOf (L2.CX X.prog X.w) X.prog X.w X.K X.mg X.base N F.qual F.scope f (.ref F.c) A outer s H1 (fun cls d H' => W cls d σ H')) F.body (start N vs) H1 Q)
    (hf : H f = some (LmO f F)) (hk : k + 1 ≤ j := by decide) (hN : X.N[i]? = some x := by rfl) (hv : Vis X.env.scope x := by first | exact Or.inl rfl | exact Or.inr (Or.inl rfl) | exact Or.inr (Or.inr rfl)) (hst : (e :: es).all noStar = true := by rfl) (hd : (x == ("__debug__" : Str)) = false := by decide) (hcd : (x == ("__classdict__" : Str)) = false := by decide) :
    EW X (.Call (.Name x p) (e :: es) [] pos) σ H Q := by
  have at_ : ∀ {pins : List (Addr × Obj)} {H : Hp} {s : Shared}, Inv X pins σ H s → H f = some (LmO f F) → PySem.W.FnAt f s.heap := fun I e => by
    obtain ⟨od, sl, pm, ctv, ho⟩ := lmO_at I.hok e
    exact ⟨_, od, _, sl, ho⟩
  refine ⟨fun pins s I => wpAny_Call_Name_kw (thn ((pe_var (pos := p) (i := i) hN hv hd hcd).run pins s σ H (fun v H1 => v = .ref f ∧ H1 = H) I ⟨.ref f, hs, rfl, rfl⟩) fun u s1 ⟨v, H1, I1, r1, ev, eH⟩ => ?_)⟩
  subst ev eH
  obtain rfl : u = Value.ref f := r1
  refine PySem.W.callWith_F (first := []) (at_ I1 hf) (thn ((pa_all (X := X) hst).run pos pins s1 σ H1 _ I1 ha) fun us s2 ⟨vs, H2, I2, r, hl, h1, h2, q⟩ => ⟨at_ I2 h1, ?_⟩) (star_of (List.all_eq_true.mp hst e List.mem_cons_self) es) (back_any es (List.all_eq_true.mpr fun e' he => List.all_eq_true.mp hst e' (List.mem_cons_of_mem _ he)))
  show wpAny _ _ (PySem.call (.ref f) us) _ _ _
  refine wpAny_call (codeAny_mono (run_lam (k := k) S (hr.mono hk) I2.env0 h1 h2 hcl (fun pm ctv => hb us pm ctv (by rw [← r.length]; exact hl)) r hl fun hr' => q _ _ _ hr') fun r s' hq => ?_)
  cases r with
  | error e => exact tk e s' (XE.of_call I2 (fun cls d H' h => h) hq)
  | ok fl =>
    cases fl with
    | ret u => exact I2.after hq
    | next => exact False.elim hq
    | brk => exact False.elim hq
    | cont => exact False.elim hq
end
end QR

namespace QR
open PySem PySem.Spec PyProof.Rows L2 Evl LamX
/-! ### tests and values whose heap is not merely more -/
section
variable {X : Cx} {e a b c : Expr} {es : List Expr} {σ : L2.St} {H : Hp} {Q : VK} {R : Bool → Hp → Prop} {pos p p2 pr : Pos} {rest body : List Stmt} {D : Ends} {k : Bool} {xs : List V}
/-- e, a bool -/
theorem TW.val (h : EW X e σ H fun v H1 => ∃ c, v = .bl c ∧ R c H1) (he : ∀ whole, isTrue e X.env whole = (do let v ← whole; standAt e.pos; holding [v] (truthy v)) := by intro _; rfl) : TW X e σ H R := TW.of (pt_val pe_self he) h
theorem TW.not (h : TW X a σ H fun c H1 => R (!c) H1) : TW X (.UnaryOp .Not a pos) σ H R := TW.of (pt_not pt_self) h
/-- a or b, a by its value -/
theorem TW.or2 (ha : TV X a σ H k) (h1 : k = true → ∀ H1, Ex H H1 → R true H1) (hb : k = false → ∀ H1, Ex H H1 → TW X b σ H1 R) : TW X (.BoolOp .Or [a, b] pos) σ H R := by
  refine TW.of (PW.pt (pw_or pt_self (pw_or1 pt_self))) (ha.go fun H1 e1 => ?_)
  cases k with
  | true => exact h1 rfl H1 e1
  | false => exact hb rfl H1 e1
/-- a or b, both leave the heap otherwise -/
theorem TW.or2W (h : TW X a σ H fun c H1 => (c = true → R true H1) ∧ (c = false → TW X b σ H1 R)) : TW X (.BoolOp .Or [a, b] pos) σ H R := by
  refine TW.of (PW.pt (pw_or pt_self (pw_or1 pt_self))) (?_ : TW X a σ H _)
  refine ⟨fun pins s I => thn (h.run pins s I) fun k s1 ⟨H1, I1, q⟩ => ⟨H1, I1, ?_⟩⟩
  cases k with
  | true => exact q.1 rfl
  | false => exact q.2 rfl
/-- a or b as a value -/
theorem EW.or2 (ha : EV X a σ H (.bl k)) (h1 : k = true → ∀ H1, Ex H H1 → Q (.bl true) H1) (hb : k = false → ∀ H1, Ex H H1 → EW X b σ H1 Q) : EW X (.BoolOp .Or [a, b] pos) σ H Q := by
  refine EW.of (pe_or pe_self (pe_one pe_self)) (ha.go fun H1 e1 => ⟨k, rfl, ?_⟩)
  cases k with
  | true => exact h1 rfl H1 e1
  | false => exact hb rfl H1 e1
/-- an if without else whose test comes out false -/
theorem BW.skipW {s1 : List Stmt} (h : TW X c σ H fun k H1 => k = false ∧ BW X rest D σ H1) : BW X (.If c s1 [] pos :: rest) D σ H := by
  refine BW.iteW ⟨fun pins s I => thn (h.run pins s I) fun k s1 ⟨H1, I1, q⟩ => ⟨H1, I1, ?_⟩⟩
  obtain ⟨rfl, q⟩ := q
  exact ⟨(fun z => nomatch z), fun _ => BW.nil q⟩
/-- for i, x in enumerate([..]), the list made on the way -/
theorem BW.forEN (j1 j2 : Nat) {n1 n2 : Str} {px py pt : Pos} {kt : Nat} (mE : X.mg "enumerate" = none) (hN : X.N.Nodup) (h : EL X a σ H xs) (Pv : Addr → Nat → L2.St → Hp → Prop) (h0 : ∀ q H1, H q = none → Ex H H1 → H1 q = some (.lst xs) → Pv q 0 σ H1) (hl : ∀ q i σ' H', i ≤ xs.length → Pv q i σ' H' → SqL X.K H' q xs)
    (hs : ∀ q (i : Nat) (y : V) σ' H' H2, xs[i]? = some y → Pv q i σ' H' → Ex H' H2 → (∀ b, H2 b = none → H' b = none) → BW X body (Ends.turn X rest D (Pv q (i + 1))) ((σ'.set j1 (some (.int (i : Nat)))).set j2 (some y)) H2) (hd : ∀ q σ' H', Pv q xs.length σ' H' → BW X rest D σ' H')
    (hj1 : X.N[j1]? = some n1 := by rfl) (hx1 : Loc X.env.scope n1 := by first | exact Or.inl rfl | exact Or.inr rfl) (hf1 : X.fn n1 = true ∨ X.env.scope.names.lookup n1 = some .local := by first | exact .inl rfl | exact .inr rfl)
    (hj2 : X.N[j2]? = some n2 := by rfl) (hx2 : Loc X.env.scope n2 := by first | exact Or.inl rfl | exact Or.inr rfl) (hf2 : X.fn n2 = true ∨ X.env.scope.names.lookup n2 = some .local := by first | exact .inl rfl | exact .inr rfl)
    (hg : Gl X "enumerate" := by rfl) (hst : noStar a = true := by rfl) (hc : X.calm = true := by rfl)
    (hp : PassesOwn (model X.prog X.w) X.A X.env X.xe := by first | exact PassesOwn.never | exact passes_of rfl) : BW X (.For (.Tuple [.Name n1 px, .Name n2 py] kt pt) (.Call (.Name "enumerate" pr) [a] [] p2) body [] pos :: rest) D σ H := by
  refine BW.cons (ps_for hp hc (pi_enum hg mE (pa_all (es := [a]) (by simp [hst])) (star_of hst [])) (pg_tup hc (pgs_cons (pg_name (i := j1) hN hj1 hx1 hf1) (pgs_cons (pg_name (i := j2) hN hj2 hx2 hf2) pgs_nil))) pss_self) (h.ev H (Ex.refl H) _ fun q H1 nq e1 hq => ?_)
  exact s_forE (K := X.K) (ta := fun σ H Q => Q [.ref q] H) (q := q) (D := { D with nx := BW X rest D }) (fun H2 e2 Q k => k H2 (Ex.refl H2)) (sq_of hq) (fun i σ' H' => Pv q i σ' H') (fun H2 e2 => h0 q H2 nq (e1.trans e2) (e2 _ _ hq)) (hl q) (hs q) (hd q)
end
/-! ### tables of the makers of lambdas -/
def lamQ (x : Str) : Str := x ++ ".<locals>." ++ "<lambda>"
def tabA (K : PySem.W.Frag) (x : Str) : Addr := (He.cT K (x, none)).2
def tabL (K : PySem.W.Frag) (ns : List Str) : List (Addr × Str) := ns.map fun x => (tabA K x, lamQ x)
theorem tabL_mem {K : PySem.W.Frag} {ns : List Str} {x : Str} (h : x ∈ ns) : (tabA K x, lamQ x) ∈ tabL K ns := List.mem_map.mpr ⟨x, h, rfl⟩
theorem tabL_one {K : PySem.W.Frag} : ∀ {ns : List Str} {x : Str}, (ns.map (tabA K)).Nodup → x ∈ ns → ∀ p ∈ tabL K ns, p.1 = tabA K x → p.2 = lamQ x
  | [], x, _, hx, _, _, _ => by cases hx
  | y :: ns, x, nd, hx, p, hp, he => by
    rw [List.map_cons, List.nodup_cons] at nd
    rcases List.mem_cons.mp hp with rfl | hp'
    · rcases List.mem_cons.mp hx with rfl | hx'
      · rfl
      · exact absurd (List.mem_map.mpr ⟨x, hx', he.symm⟩) nd.1
    · rcases List.mem_cons.mp hx with rfl | hx'
      · obtain ⟨z, hz, rfl⟩ := List.mem_map.mp hp'
        exact absurd (List.mem_map.mpr ⟨z, hz, he⟩) nd.1
      · exact tabL_one nd.2 hx' p hp' he
/-- what a maker of lambdas needs of its table -/
structure Tm (K : PySem.W.Frag) (mg : Str → Option Value) (base : Heap) (ns : List Str) (x : Str) : Prop where
  tb : TabB base mg (He.cT K (x, none)).1 (tabA K x)
  mem : (tabA K x, lamQ x) ∈ tabL K ns
  one : ∀ p ∈ tabL K ns, p.1 = tabA K x → p.2 = lamQ x
theorem extN_hide {H0 H H' : Hp} {l : Addr} (e : ExtN H H') (h : Ex H0 H) (ht : ∀ b ps, H0 b ≠ some (.tbl ps)) : Ex H0 H' := fun b o hb => e b o (h b o hb) fun ps z => ht b ps (by rw [hb, z])
theorem ExtN.l {H H' : Hp} {p : Addr} {xs : List V} (e : ExtN H H') (h : H p = some (.lst xs)) : H' p = some (.lst xs) := e p _ h (fun ps z => nomatch z)
end QR

namespace QR
open PySem PySem.Spec PyProof.Rows L2 Evl LamX NdefX
/-! ### captured cells -/
/-- what they held they hold still -/
theorem cellsUn {cl : List (Str × Addr)} {fr : List Str} {ws : List (Option V)} {h h' : Heap} {H H' : Hp} {fs ex : List Addr} (C : CellsAt cl fr ws h H) (u : Un fs ex H H' h h') (hx : ∀ y c, cl.lookup y = some c → c ∉ ex) : CellsAt cl fr ws h' H' := by
  have kp : ∀ y c, cl.lookup y = some c → ∀ v, h.IsCell c v → h'.IsCell c v := fun y c e v ⟨o, ho, hd⟩ => by
    obtain ⟨sl, q⟩ := u.any ho (C.all y c e).1 (hx y c e)
    exact ⟨_, q, hd⟩
  refine ⟨C.len, fun y c e => ?_, C.inj, fun i y e => ?_⟩
  · obtain ⟨n, v, z⟩ := C.all y c e
    obtain ⟨o, ho, hd⟩ := z
    exact ⟨u.free c o ho n (hx y c e), v, kp y c e v ⟨o, ho, hd⟩⟩
  · obtain ⟨c, hc, hv⟩ := C.has i y e
    refine ⟨c, hc, fun v ev => ?_⟩
    obtain ⟨z, r, q⟩ := hv v ev
    exact ⟨z, r, kp y c hc _ q⟩
theorem cells0 {h : Heap} {H : Hp} : CellsAt [] [] [] h H := ⟨rfl, (fun y c e => nomatch e), (fun x y c e => nomatch e), fun i y e => by simp at e⟩
/-! ### a def's promise that sees the state at its entry -/
abbrev SpS := Shared → Sp
structure FnS (P : Program) (w : World) (K : PySem.W.Frag) (mg : Str → Option Value) (base : Heap) (k : Nat) (f : Addr) (fd : FuncData) (ps : List Str) (sp : SpS) : Prop where
  len : ∀ s vs H Q E, sp s vs H Q E → vs.length = ps.length
  run : ∀ (A : Around) (outer : List Env) (s : Shared) (H : Hp) (args : Args) (us : List Value) (vs : List V) (Q : VK) (E : XK), Room k A → Env0 P w K mg base A outer s H → BindsTo s fd args (ps.zip us) → Vals vs us → sp s vs H Q E → codeAny (model P w) A (.call (.ref f) args) (CR (L2.CX P w) outer P w H s Q E) s
structure FcS (P : Program) (w : World) (K : PySem.W.Frag) (mg : Str → Option Value) (base : Heap) (k : Nat) (x : Str) (sp : SpS) : Prop where
  ex : ∃ (f : Addr) (fd : FuncData) (ps : List Str), FnS P w K mg base k f fd ps sp ∧ mg x = some (.ref f) ∧ PySem.W.keepIn K (.ref f) = true ∧ Binds K fd ps []
section
variable {P : Program} {w : World} {K : PySem.W.Frag} {mg : Str → Option Value} {base : Heap}
theorem okS {x qual : Str} {st : Stmt} {f : Addr} {fd : FuncData} {N ps : List Str} {k : Nat} {sp : SpS} (F : Fun K x qual st f fd) (S : FnScope N ps (defScope st)) (len : ∀ s vs H Q E, sp s vs H Q E → vs.length = ps.length)
    (hbody : ∀ (cdv : Value) (A : Around) (outer : List Env) (s : Shared) (H : Hp) (vs : List V) (Q : VK) (E : XK), Room k (A.deeper (envOfC qual (defScope st) s.heap.objs.size f cdv)) → sp s vs H Q E →
      BW (cxOf (L2.CX P w) P w K mg base N qual (defScope st) f cdv A outer s H E).nox (defBody st) { nx := fun _ H' => Q .non H', rt := Q } (start N vs) H) : FnS P w K mg base (k + 1) f fd ps sp := by
  obtain ⟨oc, od, kV, doc, pm, an, cdv, ct, osl, rfl, lk, hcd⟩ := F.ex
  exact ⟨len, fun A outer s H args us vs Q E hr e0 hb r h => run_ofS lk hcd S hr e0 hb r (len s vs H Q E h) fun hr' => ⟨_, pss_self.nox, hbody cdv A outer s H vs Q E hr' h⟩⟩
end
section
variable {X : Cx} {e : Expr} {es : List Expr} {σ : L2.St} {H : Hp} {Q : VK} {p pos : Pos} {x : Str} {k j : Nat}
/-- f(e, ..) of such a def -/
theorem EW.callS {sp : SpS} (C : FcS X.prog X.w X.K X.mg X.base k x sp) (hr : Room j X.A) (h : tArgs X (e :: es) σ H fun vs H1 => ∀ pins s, Inv X pins σ H1 s → sp s vs H1 Q E0) (hk : k ≤ j := by decide) (hg : Gl X x := by rfl) (hs : (e :: es).all noStar = true := by rfl) (hdb : (x == ("__debug__" : Str)) = false := by decide) :
    EW X (.Call (.Name x p) (e :: es) [] pos) σ H Q := by
  obtain ⟨f, fd, ps, F, hm, kp, bn⟩ := C.ex
  refine ⟨fun pins s I => wpAny_Call_Name_kw (ld_glob I hg hm ?_ hdb)⟩
  refine PySem.W.callWith_K (h₀ := X.base) I.ok.mod.kin kp (thn ((pa_all (X := X) hs).run pos pins s σ _ _ I h) fun us s2 ⟨vs, H2, I2, r, q⟩ => ⟨I2.kIn, ?_⟩) (star_of (List.all_eq_true.mp hs e List.mem_cons_self) es) (back_any es (List.all_eq_true.mpr fun e' he => List.all_eq_true.mp hs e' (List.mem_cons_of_mem _ he)))
  have hsp := q pins s2 I2
  have hl : us.length = ps.length := by rw [← r.length]; exact F.len _ _ _ _ _ hsp
  have b := bn s2 us I2.kIn (by rw [List.append_nil]; exact hl)
  rw [List.append_nil] at b
  refine wpAny_call (codeAny_mono (F.run X.A X.stack s2 H2 ⟨us, []⟩ us vs Q E0 (hr.mono hk) I2.env0 b r hsp) fun r s' hq => ?_)
  cases r with
  | error e => exact passL pins σ H2 s2 e s' I2 hq
  | ok fl =>
    cases fl with
    | ret u => exact I2.after hq
    | next => exact False.elim hq
    | brk => exact False.elim hq
    | cont => exact False.elim hq
end
/-! ### a lambda that captures -/
abbrev LF.nf (F : LF) : NF := ⟨"<lambda>", F.qual, F.params, [], F.scope, F.cl, F.c⟩
/-- its promise, the captured names holding ws -/
structure LkC (P : Program) (w : World) (K : PySem.W.Frag) (mg : Str → Option Value) (base : Heap) (k : Nat) (F : LF) (fr : List Str) (ws : List V) (sp : Sp) : Prop where
  ex : ∃ N ps : List Str, NScope N ps fr F.scope ∧ (∀ us pm ctv, us.length = ps.length → bindArgs (F.fd pm ctv) ⟨us, []⟩ = pure (ps.zip us)) ∧ (∀ vs H Q E, sp vs H Q E → vs.length = ps.length) ∧
    ∀ (f : Addr) (A : Around) (outer : List Env) (s : Shared) (H : Hp) (vs : List V) (Q : VK) (E : XK), Room k (A.deeper (envF F.nf f s.heap.objs.size)) → sp vs H Q E → EW (ncx (L2.CX P w) P w K mg base N F.nf f A outer s H E) F.body (startF N vs (ws.map some)) H Q
section
variable {P : Program} {w : World} {K : PySem.W.Frag} {mg : Str → Option Value} {base : Heap}
theorem run_lamC {F : LF} {f : Addr} {fr : List Str} {ws : List V} {sp : Sp} {k : Nat} {A : Around} {outer : List Env} {s : Shared} {H : Hp} {us : List Value} {vs : List V} {Q : VK} {E : XK} (L : LkC P w K mg base k F fr ws sp) (hr : Room (k + 1) A) (e0 : Env0 P w K mg base A outer s H) (hf : H f = some (LmO f F)) (hc : H F.c = some (CodeO F.c F.qual))
    (C : CellsAt F.cl fr (ws.map some) s.heap H) (r : Vals vs us) (hsp : sp vs H Q E) : codeAny (model P w) A (.call (.ref f) ⟨us, []⟩) (CR (L2.CX P w) outer P w H s Q E) s := by
  obtain ⟨N, ps, S, hb, len, hbody⟩ := L.ex
  have hl := len _ _ _ _ hsp
  obtain ⟨od, sl, pm, ctv, ho⟩ := lmO_at e0.hok hf
  have lim : s.heap.NoLimit := e0.mod.nolimit.keeps fun b o e => (e0.bs b o e).1
  refine PySem.W.kla_callFunE hr.depth ho rfl S.co S.gen rfl (codeO_rec e0.hok hc) ?_
  rw [hb us pm ctv (by rw [← r.length]; exact hl)]
  refine wpAny_pure (wpAny_newFunctionEnv S.nocell (fun ⟨n, _⟩ hy => S.par n (List.of_mem_zip hy).1) (fun h₁ hns hsb => ⟨lim.fresh _ hsb, ?_⟩) S.kind)
  have kp : ∀ b o, s.heap.get? b = some o → h₁.get? b = some o := fun b o e => hsb.extBut b o (Nat.ne_of_lt (Heap.lt_size e)) (Heap.get?_push_of_some _ e)
  have I : Inv (ncx (L2.CX P w) P w K mg base N F.nf f A outer s H E) [] (startF N vs (ws.map some)) H { s with heap := h₁, toks := s.toks + (ps.zip us).length } := inv_startN S hr.hd e0 hl r C hns kp
  show codeAny _ _ (.expr F.body (envF F.nf f s.heap.objs.size)) _ _
  exact PySem.W.kla_codeExpr (wpAny_mono ((hbody f A outer s H vs Q E (hr.deeper _) hsp).run [] _ I) (fun v s' ⟨w', H', J', rv, q⟩ => ⟨w', H', J'.os, J'.bare, J'.base, J'.hok, rv, q⟩) fun e s' hq => hq)
end
section
variable {X : Cx} {e : Expr} {es : List Expr} {σ : L2.St} {H : Hp} {Q : VK} {p pos : Pos} {x : Str} {k j : Nat}
/-- x(e, ..), x a slot that holds such a lambda; what it raises is taken at these slots (W); hC: what its cells hold -/
theorem EW.callLamC {F : LF} {f : Addr} {fr : List Str} {ws : List V} {sp : Sp} {W : WX} (i : Nat) (L : LkC X.prog X.w X.K X.mg X.base k F fr ws sp) (hr : Room j X.A) (hs : σ[i]? = some (some (.ref f))) (tk : Takes X W) (hC : ∀ pins H1 s, Inv X pins σ H1 s → CellsAt F.cl fr (ws.map some) s.heap H1)
    (ha : tArgs X (e :: es) σ H fun vs H1 => H1 f = some (LmO f F) ∧ H1 F.c = some (CodeO F.c F.qual) ∧ sp vs H1 Q (fun cls d H' => W cls d σ H'))
    (hf : H f = some (LmO f F)) (hk : k + 1 ≤ j := by decide) (hN : X.N[i]? = some x := by rfl) (hv : Vis X.env.scope x := by first | exact Or.inl rfl | exact Or.inr (Or.inl rfl) | exact Or.inr (Or.inr rfl)) (hst : (e :: es).all noStar = true := by rfl) (hd : (x == ("__debug__" : Str)) = false := by decide) (hcd : (x == ("__classdict__" : Str)) = false := by decide) :
    EW X (.Call (.Name x p) (e :: es) [] pos) σ H Q := by
  have at_ : ∀ {pins : List (Addr × Obj)} {H : Hp} {s : Shared}, Inv X pins σ H s → H f = some (LmO f F) → PySem.W.FnAt f s.heap := fun I e => by
    obtain ⟨od, sl, pm, ctv, ho⟩ := lmO_at I.hok e
    exact ⟨_, od, _, sl, ho⟩
  refine ⟨fun pins s I => wpAny_Call_Name_kw (thn ((pe_var (pos := p) (i := i) hN hv hd hcd).run pins s σ H (fun v H1 => v = .ref f ∧ H1 = H) I ⟨.ref f, hs, rfl, rfl⟩) fun u s1 ⟨v, H1, I1, r1, ev, eH⟩ => ?_)⟩
  subst ev eH
  obtain rfl : u = Value.ref f := r1
  refine PySem.W.callWith_F (first := []) (at_ I1 hf) (thn ((pa_all (X := X) hst).run pos pins s1 σ H1 _ I1 ha) fun us s2 ⟨vs, H2, I2, r, h1, h2, q⟩ => ⟨at_ I2 h1, ?_⟩) (star_of (List.all_eq_true.mp hst e List.mem_cons_self) es) (back_any es (List.all_eq_true.mpr fun e' he => List.all_eq_true.mp hst e' (List.mem_cons_of_mem _ he)))
  show wpAny _ _ (PySem.call (.ref f) us) _ _ _
  refine wpAny_call (codeAny_mono (run_lamC L (hr.mono hk) I2.env0 h1 h2 (hC pins H2 s2 I2) r q) fun r s' hq => ?_)
  cases r with
  | error e => exact tk e s' (XE.of_call I2 (fun cls d H' h => h) hq)
  | ok fl =>
    cases fl with
    | ret u => exact I2.after hq
    | next => exact False.elim hq
    | brk => exact False.elim hq
    | cont => exact False.elim hq
/-- x(), the same -/
theorem EW.callLamC0 {F : LF} {f : Addr} {fr : List Str} {ws : List V} {sp : Sp} {W : WX} (i : Nat) (L : LkC X.prog X.w X.K X.mg X.base k F fr ws sp) (hr : Room j X.A) (hs : σ[i]? = some (some (.ref f))) (tk : Takes X W) (hC : ∀ pins H1 s, Inv X pins σ H1 s → CellsAt F.cl fr (ws.map some) s.heap H1)
    (hf : H f = some (LmO f F)) (hc : H F.c = some (CodeO F.c F.qual)) (ha : sp [] H Q (fun cls d H' => W cls d σ H')) (hk : k + 1 ≤ j := by decide) (hN : X.N[i]? = some x := by rfl) (hv : Vis X.env.scope x := by first | exact Or.inl rfl | exact Or.inr (Or.inl rfl) | exact Or.inr (Or.inr rfl)) (hd : (x == ("__debug__" : Str)) = false := by decide) (hcd : (x == ("__classdict__" : Str)) = false := by decide) :
    EW X (.Call (.Name x p) [] [] pos) σ H Q := by
  refine ⟨fun pins s I => wpAny_Call_Name_kw (thn ((pe_var (pos := p) (i := i) hN hv hd hcd).run pins s σ H (fun v H1 => v = .ref f ∧ H1 = H) I ⟨.ref f, hs, rfl, rfl⟩) fun u s1 ⟨v, H1, I1, r1, ev, eH⟩ => ?_)⟩
  subst ev eH
  obtain rfl : u = Value.ref f := r1
  obtain ⟨od, sl, pm, ctv, ho⟩ := lmO_at I1.hok hf
  refine PySem.W.callWith_F0 ⟨_, od, _, sl, ho⟩ ?_
  refine wpAny_call (codeAny_mono (run_lamC L (hr.mono hk) I1.env0 hf hc (hC pins H1 s1 I1) .nil ha) fun r s' hq => ?_)
  cases r with
  | error e => exact tk e s' (XE.of_call I1 (fun cls d H' h => h) hq)
  | ok fl =>
    cases fl with
    | ret u => exact I1.after hq
    | next => exact False.elim hq
    | brk => exact False.elim hq
    | cont => exact False.elim hq
end
/-! ### a comprehension whose elements may look at what the def's cells hold -/
section
variable {X : Cx}
/-- an element, in the block; Inv: the def's own word at the block's start -/
def EWi (X : Cx) (scope : Scope) (σ : L2.St) (e : Expr) : TE := fun σ' H' Q' => ∀ (pins : List (Addr × Obj)) (s : Shared) (H0 : Hp) (C : Addr) (cl : List (Str × Addr)) (fp : List Addr), Inv X pins σ H0 s → (∀ b ∈ fp, FpOk X pins H0 b) → EW (X.blk s H0 scope (compEnvC scope cl C X.env) fp) e σ' H' Q'
theorem EW.lcI {elt tg iter : Expr} {scope : Scope} {own : List (Str × Nat)} {pos : Pos} {wi : TI} {g : TG} {σ : L2.St} {H : Hp} {Q : VK} (hc : X.calm = true) (hN : X.N.Nodup) (hi : PI X tg iter wi) (ok : BlkOk X.N X.env.scope scope own)
    (hg : ∀ (s : Shared) (H : Hp) (C : Addr) (cl : List (Str × Addr)) (fp : List Addr), PG (X.blk s H scope (compEnvC scope cl C X.env) fp) tg g) (hs : ∀ x, foldedSetIterable iter X.env x = pure x) (h : tLc wi g tYes (EWi X scope σ elt) (own.map (·.2)) σ H Q) :
    EW X (.ListComp elt [⟨tg, iter, [], 0⟩] scope pos) σ H Q := by
  refine ⟨fun pins s I => ?_⟩
  rw [eval_ListComp]
  have hfree : ∀ y ∈ scope.names, y.2 = .free → ∃ c, X.env.cells.lookup y.1 = some c := fun y hy e => (ok.free y hy e).elim (fun k => I.ok.has _ (.inl k)) (fun k => I.ok.has _ (.inr k))
  refine wpAny_comprehension_free rfl hs (closure_ok hfree) ok.kind (fun y hy e => by rw [ok.uniq y hy, e]) (thn (hi.run pins s σ H _ I h) fun xv s1 hx => thn hx fun itv s2 h2 => ?_)
  obtain ⟨it, fp, tn, J, H2, rfl, I2, T, st2, f2, q⟩ := h2
  refine wpAny_newObj_type (newEnv_comp ?_) (by show 0 ≤ sizeLine; decide)
  generalize hD : s2.heap.objs.size = D
  have nD : H2 D = none := I2.hok.fresh (Nat.le_of_eq hD)
  obtain ⟨W, ⟨m0, w0⟩, turn⟩ := q D nD
  generalize hs3 : ({ s2 with heap := s2.heap.push { cls := .type "list", data := .seq ([] : List Value).toArray } } : Shared) = s3
  have h3 : s3.heap = s2.heap.push { cls := .type "list", data := .seq ([] : List Value).toArray } := by rw [← hs3]
  have I3 : Inv X pins σ (upd H2 D (.lst [])) s3 := by
    rw [← hs3]
    exact I2.laid (t' := s2.toks) (fun b o e => Heap.get?_push_of_some _ e) (Nat.le_of_eq hD) ⟨Nat.zero_le _, [], 0, .nil, by rw [← hD]; exact Heap.get?_push_size _ rfl⟩
  have lt2 : ∀ b ∈ fp, b < s2.heap.objs.size := fun b hb => (T.obj _ _ st2 b hb).elim fun o e => Heap.lt_size e.1
  have f3 : ∀ b ∈ fp, FpOk X pins (upd H2 D (.lst [])) b ∧ b < s3.heap.objs.size := fun b hb =>
    ⟨⟨by rw [upd_ne (by rw [← hD]; exact Nat.ne_of_lt (lt2 b hb))]; exact (f2 b hb).1, (f2 b hb).2⟩, by rw [h3, Heap.size_push]; exact Nat.lt_succ_of_lt (lt2 b hb)⟩
  have st3 : tn 0 s3.heap := T.keep _ _ _ st2 fun b _ o e => by rw [h3]; exact Heap.get?_push_of_some _ e
  have I4 := block_start I3 ok hN f3
  have pg := hg s3 (upd H2 D (.lst [])) s3.heap.objs.size (cellsFrom (s3.heap.objs.size + 1) scope.names (cloFrom X.env.cells scope.names [])) fp
  have pe : PE (X.blk s3 (upd H2 D (.lst [])) scope (compEnvC scope (cellsFrom (s3.heap.objs.size + 1) scope.names (cloFrom X.env.cells scope.names [])) s3.heap.objs.size X.env) fp) elt (EWi X scope σ elt) := ⟨fun pins' s' _ _ _ I' h' => (h' pins s3 _ _ _ fp I3 (fun b hb => (f3 b hb).1)).run pins' s' I'⟩
  show codeAny _ _ (.compStart _ 0 (.ref it) (.ref D) (compEnvC scope (cellsFrom (s3.heap.objs.size + 1) scope.names (cloFrom X.env.cells scope.names [])) s3.heap.objs.size X.env)) (compPost (model X.prog X.w) X.A X.xe _ _ (.ref D) s3.heap.objs.size) { s3 with heap := pushCells (s3.heap.push { cls := .type "dict", data := .dict #[] }) scope.names }
  have nit : ∀ b ∈ fp, (upd H2 D (.lst [])) b = none := fun b hb => (f3 b hb).1.1
  generalize hce : compEnvC scope (cellsFrom (s3.heap.objs.size + 1) scope.names (cloFrom X.env.cells scope.names [])) s3.heap.objs.size X.env = ce at I4 pg pe ⊢
  have cL : ce.locals = s3.heap.objs.size := by subst hce; rfl
  generalize hH3 : upd H2 D (.lst []) = H3 at I3 I4 pg pe w0 nit f3
  generalize hs4 : ({ s3 with heap := pushCells (s3.heap.push { cls := .type "dict", data := .dict #[] }) scope.names } : Shared) = s4 at I4 ⊢
  have st4 : tn 0 s4.heap := T.keep _ _ _ st3 fun b _ o e => by rw [← hs4]; exact pushCells_keeps _ _ _ _ (Heap.get?_push_of_some _ e)
  have stat : ∀ {σ' : L2.St} {H' : Hp} {s' : Shared}, Inv (X.blk s3 H3 scope ce fp) [] σ' H' s' → (∀ b ∈ fp, H' b = none) → ∀ b ∈ fp, FpOk (X.blk s3 H3 scope ce fp) [] H' b := fun {σ' H' s'} J hn b hb =>
    ⟨hn b hb, (J.ok.exf b hb).1, J.ok.exfs b hb, .inl hb, fun x c e => (J.ok.exf b hb).2 x c e, fun p hp => absurd (show p ∈ ([] : List (Addr × Obj)) ++ [] from hp) (by simp)⟩
  have loop : codeAny (model X.prog X.w) X.A (.compLoop (.ListComp elt [⟨tg, iter, [], 0⟩] scope pos) 0 (.ref it) (.ref D) ce) (compPost (model X.prog X.w) X.A X.xe none (EP X pins σ Q) (.ref D) s3.heap.objs.size) s4 := by
    refine compLoop_any (fun m s' => ∃ i H', Inv (X.blk s3 H3 scope ce fp) [] (wipe σ (own.map (·.2))) H' s' ∧ tn i s'.heap ∧ (∀ b ∈ fp, H' b = none) ∧ W i m H') ?_ m0 ⟨0, H3, I4, st4, nit, w0⟩
    rintro m s5 ⟨i, H5, I5, st5, n5, w5⟩
    rcases turn i m H5 w5 with ⟨stop, qq⟩ | ⟨go, Nx, hNx, step⟩
    · refine thnF (T.done (X.blk s3 H3 scope ce fp) rfl rfl rfl hc i [] s5 _ H5 (fun _ _ => False) I5 (stat I5 n5) st5 stop) fun r s6 ⟨hr, I6⟩ => ?_
      subst hr
      have I7 : Inv X pins σ H5 s6 := I3.call' (ch := fp) I6.os I6.base I6.hok I6.bare fun b hb => ⟨(f3 b hb).1.2.2.2.1, (f3 b hb).1.2.1, (f3 b hb).1.2.2.2.2.1, (f3 b hb).1.2.2.2.2.2⟩
      have nC : H5 s3.heap.objs.size = none := cL ▸ (show H5 ce.locals = none from I6.free)
      obtain ⟨mm, hn, _⟩ := I6.loc
      have hn' : s6.heap.Ns s3.heap.objs.size mm := cL ▸ (show s6.heap.Ns ce.locals mm from hn)
      obtain ⟨k0, k1, k2, k3, k4, k5⟩ := I3.fpOk (Nat.le_refl _) nC
      exact ⟨mm, hn', fun h'' sb => ⟨.ref D, H5, I7.turned (t' := s6.toks) (fun b o hb e => (sb.2 b hb).trans e) k0 k1 k3 k4 k5, rfl, qq⟩⟩
    · refine thnF (T.item (X.blk s3 H3 scope ce fp) rfl rfl rfl hc i [] s5 _ H5 (fun _ _ => False) I5 (stat I5 n5) st5 go) fun r s6 ⟨u, hr, h6⟩ => ?_
      subst hr
      refine thnF h6 fun _ s7 ⟨x, H7, I7, r7, y7, st7, n7⟩ => ?_
      have I7' := I7.pinned (stat I7 n7) (T.obj _ _ st7)
      refine thnF (pg.run _ s7 _ H7 x u _ I7' r7 (step x H7 y7)) fun _ s8 ⟨σ8, H8, I8, hw8, q8⟩ => ?_
      refine wpAny_tests_nil ?_
      rw [if_pos rfl]
      have q8' : EWi X scope σ elt σ8 H8 fun y H4 => ∃ acc, H4 D = some (.lst acc) ∧ acc.length < sizeLine ∧ Nx (upd H4 D (.lst (acc ++ [y]))) := q8
      refine thnF (pe.run _ s8 σ8 H8 _ I8 q8') fun z s10 ⟨yv, H10, I10, r10, acc, hD10, hz10, nx⟩ => ?_
      refine app_ok (X := X.blk s3 H3 scope ce fp) I10 hD10 hz10 r10 fun s11 I11 => ?_
      obtain ⟨m', hm', w'⟩ := hNx _ nx
      have pz : ∀ b ∈ fp, ∀ o, s7.heap.get? b = some o → s11.heap.get? b = some o ∧ (upd H10 D (.lst (acc ++ [yv]))) b = none := fun b hb o e =>
        let z := I11.pin (b, o) (List.mem_append_right _ (List.mem_append_right _ (mem_pinsAt hb e)))
        ⟨z.1, z.2.1⟩
      refine ⟨m', hm', i + 1, _, (I11.unpinned (pins := [])).weak (by rw [← hw8, wipe_length]) (fun j v e => ?_), T.keep _ _ _ st7 fun b hb o e => (pz b hb o e).1, fun b hb => ?_, w'⟩
      · rw [← hw8] at e
        exact (wipe_some e).1
      · obtain ⟨o, e, _⟩ := T.obj _ _ st7 b hb
        exact (pz b hb o e).2
  exact codeAny_compStart_list loop (T.self X.A 0 _ _ _ st4 loop)
/-- an element's value, in the block -/
def EVi (X : Cx) (scope : Scope) (σ : L2.St) (e : Expr) (σ' : L2.St) (H : Hp) (v : V) : Prop := ∀ (pins : List (Addr × Obj)) (s : Shared) (H0 : Hp) (C : Addr) (cl : List (Str × Addr)) (fp : List Addr), Inv X pins σ H0 s → (∀ b ∈ fp, FpOk X pins H0 b) → EV (X.blk s H0 scope (compEnvC scope cl C X.env) fp) e σ' H v
theorem EVi.ev {scope : Scope} {σ σ' : L2.St} {e : Expr} {H : Hp} {v : V} (h : EVi X scope σ e σ' H v) : Ev (EWi X scope σ e) σ' H v := fun H1 e1 Q q pins s H0 C cl fp I f => (h pins s H0 C cl fp I f).ev H1 e1 Q q
/-- [e for x in xs] -/
theorem EL.listI {elt iter : Expr} {scope : Scope} {x : Str} {j : Nat} {q : Addr} {xs : List V} {σ : L2.St} {H : Hp} {p pos : Pos} (v : Nat → V) (hN : X.N.Nodup) (ok : BlkOk X.N X.env.scope scope [(x, j)]) (h : EV X iter σ H (.ref q)) (hq : SqL X.K H q xs) (hz : xs.length ≤ 40000)
    (he : ∀ (i : Nat) (y : V) H1, Ex H H1 → xs[i]? = some y → EVi X scope σ elt ((wipe σ [j]).set j (some y)) H1 (v i))
    (hw : ∀ z, wipe ((wipe σ [j]).set j (some z)) [j] = wipe σ [j] := by intro _; rfl)
    (hg : ∀ (s : Shared) (H : Hp) (C : Addr) (cl : List (Str × Addr)) (fp : List Addr), PG (X.blk s H scope (compEnvC scope cl C X.env) fp) (.Name x p) (gName j) := by exact fun _ _ _ _ _ => pg_name (i := _) (by assumption) rfl (Or.inl rfl)) (hc : X.calm = true := by rfl) (hfs : ∀ x, foldedSetIterable iter X.env x = pure x := by intro _; rfl) :
    EL X (.ListComp elt [⟨.Name x p, iter, [], 0⟩] scope pos) σ H ((List.range xs.length).map v) := by
  refine ⟨fun H1 e1 Q k => EW.lcI (own := [(x, j)]) hc hN (pi_list pe_self) ok hg hfs ?_⟩
  have := el_lcL (K := X.K) (fun _ => true) v h.ev hq hz hw (fun i y H1 e1 hi => ev_yes) (fun i y H1 e1 hi _ => (he i y H1 e1 hi).ev)
  rw [given_all] at this
  exact this H1 e1 Q k
end
end QR

namespace QR
open PySem PySem.Spec PyProof.Rows L2 Evl LamX NdefX
/-! ### lists of lambdas -/
def Hl (H : Hp) (f : Addr) (F : LF) : Prop := H f = some (LmO f F) ∧ H F.c = some (CodeO F.c F.qual)
theorem Hl.mono {H H' : Hp} {f : Addr} {F : LF} (h : Hl H f F) (e : Ex H H') : Hl H' f F := ⟨e _ _ h.1, e _ _ h.2⟩
theorem Hl.extN {H H' : Hp} {f : Addr} {F : LF} (h : Hl H f F) (e : ExtN H H') : Hl H' f F := ⟨e _ _ h.1 lmO_ne, e _ _ h.2 codeO_ne⟩
abbrev lamF (X : Cx) (params : Arguments) (body : Expr) (scope : Scope) (c' : Addr) : LF := ⟨X.env.qual ++ "<lambda>", params, body, scope, cloFrom X.env.cells scope.names [], c'⟩
structure Mkr (X : Cx) (T : List (Addr × Str)) (c P : Addr) : Prop where
  tb : TabB X.base X.mg c P
  code : X.env.code = .ref c
  mem : (P, X.env.qual ++ "<lambda>") ∈ T
  one : ∀ p ∈ T, p.1 = P → p.2 = X.env.qual ++ "<lambda>"
def freeOk (sc nsc : Scope) : Bool := nsc.names.all fun y => decide (y.2 ≠ .free) || (decide (sc.names.lookup y.1 = some .cell) || decide (sc.names.lookup y.1 = some .free))
theorem freeOk_of {sc nsc : Scope} (h : freeOk sc nsc = true) : ∀ y ∈ nsc.names, y.2 = .free → sc.names.lookup y.1 = some .cell ∨ sc.names.lookup y.1 = some .free := fun y hy e => by
  have := List.all_eq_true.mp h y hy
  simp only [Bool.or_eq_true, decide_eq_true_eq] at this
  rcases this with z | z
  · exact absurd e z
  · exact z
section
variable {X : Cx} {σ : L2.St} {H : Hp} {Q : VK} {D : Ends} {rest : List Stmt} {T : List (Addr × Str)} {c P : Addr} {n : Str} {i : Nat} {q : Addr} {xs : List V}
variable {pa pb pc pd : Arguments} {ba bb bc bd : Expr} {sa sb sc sd : Scope} {la lb lc ld pos p p2 p3 p4 : Pos}
theorem EW.lam2L (M : Mkr X T c P) (hT : Tabs T H) (k : ∀ r f1 c1 f2 c2 H1, ExtN H H1 → Tabs T H1 → H r = none → H1 r = some (.lst [.ref f1, .ref f2]) → Hl H1 f1 (lamF X pa ba sa c1) → Hl H1 f2 (lamF X pb bb sb c2) → Q (.ref r) H1)
    (ha : freeOk X.env.scope sa = true) (hb : freeOk X.env.scope sb = true) (da : defaultsOf pa X.env = ([], [])) (db : defaultsOf pb X.env = ([], [])) : EW X (.List [.Lambda pa ba sa la, .Lambda pb bb sb lb] pos) σ H Q := by
  refine EW.of (pe_lst (pa_all rfl)) ?_
  refine EW.lam M.tb M.code M.mem M.one hT (freeOk_of ha) (fun f1 c1 H1 e1 n1 T1 nf1 hf1 hc1 => ?_) da
  refine EW.lam M.tb M.code M.mem M.one T1 (freeOk_of hb) (fun f2 c2 H2 e2 n2 T2 nf2 hf2 hc2 => ⟨sz_of (Nat.le_of_ble_eq_true rfl), fun r nr => ?_⟩) db
  have x2 : ExtN H2 (upd H2 r (.lst [.ref f1, .ref f2])) := ExtN.of (Ex.new nr)
  exact k r f1 c1 f2 c2 _ ((e1.trans e2).trans x2) (T2.ext (Ex.new nr)) (n1 r (n2 r nr)) upd_same (Hl.extN ⟨hf1, hc1⟩ (e2.trans x2)) (Hl.extN ⟨hf2, hc2⟩ x2)
theorem EW.lam4L (M : Mkr X T c P) (hT : Tabs T H) (k : ∀ r f1 c1 f2 c2 f3 c3 f4 c4 H1, ExtN H H1 → Tabs T H1 → H r = none → H1 r = some (.lst [.ref f1, .ref f2, .ref f3, .ref f4]) → Hl H1 f1 (lamF X pa ba sa c1) → Hl H1 f2 (lamF X pb bb sb c2) → Hl H1 f3 (lamF X pc bc sc c3) → Hl H1 f4 (lamF X pd bd sd c4) → Q (.ref r) H1)
    (ha : freeOk X.env.scope sa = true) (hb : freeOk X.env.scope sb = true) (hc : freeOk X.env.scope sc = true) (hd : freeOk X.env.scope sd = true) (da : defaultsOf pa X.env = ([], [])) (db : defaultsOf pb X.env = ([], [])) (dc : defaultsOf pc X.env = ([], [])) (dd : defaultsOf pd X.env = ([], [])) :
    EW X (.List [.Lambda pa ba sa la, .Lambda pb bb sb lb, .Lambda pc bc sc lc, .Lambda pd bd sd ld] pos) σ H Q := by
  refine EW.of (pe_lst (pa_all rfl)) ?_
  refine EW.lam M.tb M.code M.mem M.one hT (freeOk_of ha) (fun f1 c1 H1 e1 n1 T1 nf1 hf1 hc1 => ?_) da
  refine EW.lam M.tb M.code M.mem M.one T1 (freeOk_of hb) (fun f2 c2 H2 e2 n2 T2 nf2 hf2 hc2 => ?_) db
  refine EW.lam M.tb M.code M.mem M.one T2 (freeOk_of hc) (fun f3 c3 H3 e3 n3 T3 nf3 hf3 hc3 => ?_) dc
  refine EW.lam M.tb M.code M.mem M.one T3 (freeOk_of hd) (fun f4 c4 H4 e4 n4 T4 nf4 hf4 hc4 => ⟨sz_of (Nat.le_of_ble_eq_true rfl), fun r nr => ?_⟩) dd
  have x4 : ExtN H4 (upd H4 r (.lst [.ref f1, .ref f2, .ref f3, .ref f4])) := ExtN.of (Ex.new nr)
  have x3 := e4.trans x4
  have x2 := e3.trans x3
  exact k r f1 c1 f2 c2 f3 c3 f4 c4 _ ((e1.trans e2).trans x2) (T4.ext (Ex.new nr)) (n1 r (n2 r (n3 r (n4 r nr)))) upd_same (Hl.extN ⟨hf1, hc1⟩ (e2.trans x2)) (Hl.extN ⟨hf2, hc2⟩ x2) (Hl.extN ⟨hf3, hc3⟩ x3) (Hl.extN ⟨hf4, hc4⟩ x4)
/-- x = [lambda .., lambda ..] -/
theorem BW.asgLam2 (i : Nat) (hN : X.N.Nodup) (M : Mkr X T c P) (hT : Tabs T H) (k : ∀ r f1 c1 f2 c2 H1, ExtN H H1 → Tabs T H1 → H r = none → H1 r = some (.lst [.ref f1, .ref f2]) → Hl H1 f1 (lamF X pa ba sa c1) → Hl H1 f2 (lamF X pb bb sb c2) → BW X rest D (σ.set i (some (.ref r))) H1)
    (ha : freeOk X.env.scope sa = true := by kernel_rfl) (hb : freeOk X.env.scope sb = true := by kernel_rfl) (da : defaultsOf pa X.env = ([], []) := by rfl) (db : defaultsOf pb X.env = ([], []) := by rfl) (hi : X.N[i]? = some n := by rfl) (hx : Loc X.env.scope n := by first | exact Or.inl rfl | exact Or.inr rfl) (hs : swapsWith (.List [.Lambda pa ba sa la, .Lambda pb bb sb lb] pos) (some (.Name n p)) p2.line X.env = pure false := by rfl) (hf : X.fn n = true ∨ X.env.scope.names.lookup n = some .local := by first | exact .inl rfl | exact .inr rfl) :
    BW X (.Assign [.Name n p] (.List [.Lambda pa ba sa la, .Lambda pb bb sb lb] pos) p2 :: rest) D σ H := BW.asgW hN hi hx (EW.lam2L M hT k ha hb da db) hs hf
theorem BW.asgLam4 (i : Nat) (hN : X.N.Nodup) (M : Mkr X T c P) (hT : Tabs T H) (k : ∀ r f1 c1 f2 c2 f3 c3 f4 c4 H1, ExtN H H1 → Tabs T H1 → H r = none → H1 r = some (.lst [.ref f1, .ref f2, .ref f3, .ref f4]) → Hl H1 f1 (lamF X pa ba sa c1) → Hl H1 f2 (lamF X pb bb sb c2) → Hl H1 f3 (lamF X pc bc sc c3) → Hl H1 f4 (lamF X pd bd sd c4) → BW X rest D (σ.set i (some (.ref r))) H1)
    (ha : freeOk X.env.scope sa = true := by kernel_rfl) (hb : freeOk X.env.scope sb = true := by kernel_rfl) (hc : freeOk X.env.scope sc = true := by kernel_rfl) (hd : freeOk X.env.scope sd = true := by kernel_rfl) (da : defaultsOf pa X.env = ([], []) := by rfl) (db : defaultsOf pb X.env = ([], []) := by rfl) (dc : defaultsOf pc X.env = ([], []) := by rfl) (dd : defaultsOf pd X.env = ([], []) := by rfl)
    (hi : X.N[i]? = some n := by rfl) (hx : Loc X.env.scope n := by first | exact Or.inl rfl | exact Or.inr rfl) (hs : swapsWith (.List [.Lambda pa ba sa la, .Lambda pb bb sb lb, .Lambda pc bc sc lc, .Lambda pd bd sd ld] pos) (some (.Name n p)) p2.line X.env = pure false := by rfl) (hf : X.fn n = true ∨ X.env.scope.names.lookup n = some .local := by first | exact .inl rfl | exact .inr rfl) :
    BW X (.Assign [.Name n p] (.List [.Lambda pa ba sa la, .Lambda pb bb sb lb, .Lambda pc bc sc lc, .Lambda pd bd sd ld] pos) p2 :: rest) D σ H := BW.asgW hN hi hx (EW.lam4L M hT k ha hb hc hd da db dc dd) hs hf
/-- x = x + [lambda .., lambda ..] -/
theorem BW.catLam2 (i : Nat) (hN : X.N.Nodup) (M : Mkr X T c P) (hT : Tabs T H) (hv : σ[i]? = some (some (.ref q))) (hq : H q = some (.lst xs)) (hz : xs.length ≤ 1000) (k : ∀ r f1 c1 f2 c2 H1, ExtN H H1 → Tabs T H1 → H1 r = some (.lst (xs ++ [.ref f1, .ref f2])) → Hl H1 f1 (lamF X pa ba sa c1) → Hl H1 f2 (lamF X pb bb sb c2) → BW X rest D (σ.set i (some (.ref r))) H1)
    (ha : freeOk X.env.scope sa = true := by kernel_rfl) (hb : freeOk X.env.scope sb = true := by kernel_rfl) (da : defaultsOf pa X.env = ([], []) := by rfl) (db : defaultsOf pb X.env = ([], []) := by rfl) (hi : X.N[i]? = some n := by rfl) (hx : Loc X.env.scope n := by first | exact Or.inl rfl | exact Or.inr rfl) (hs : swapsWith (.BinOp (.Name n p3) .Add (.List [.Lambda pa ba sa la, .Lambda pb bb sb lb] pos) p4) (some (.Name n p)) p2.line X.env = pure false := by rfl) (hf : X.fn n = true ∨ X.env.scope.names.lookup n = some .local := by first | exact .inl rfl | exact .inr rfl)
    (hvs : Vis X.env.scope n := by first | exact Or.inl rfl | exact Or.inr (Or.inl rfl) | exact Or.inr (Or.inr rfl)) (hd1 : (n == ("__debug__" : Str)) = false := by decide) (hcd : (n == ("__classdict__" : Str)) = false := by decide) :
    BW X (.Assign [.Name n p] (.BinOp (.Name n p3) .Add (.List [.Lambda pa ba sa la, .Lambda pb bb sb lb] pos) p4) p2 :: rest) D σ H := by
  refine BW.asgW hN hi hx (EW.of (pe_op op_catS pe_self pe_self) ((EV.var (pos := p3) i hv hi hvs hd1 hcd).ev H (Ex.refl H) _ fun H0 e0 => EW.lam2L M (hT.ext e0) (fun r f1 c1 f2 c2 H1 e1 T1 nr hr l1 l2 => ?_) ha hb da db)) hs hf
  refine ⟨q, r, xs, _, rfl, rfl, sq_of (ExtN.l e1 (e0 _ _ hq)), sq_of hr, sz_of (by simp; omega), fun z nz => ?_⟩
  have x1 : ExtN H1 (upd H1 z (.lst (xs ++ [.ref f1, .ref f2]))) := ExtN.of (Ex.new nz)
  exact k z f1 c1 f2 c2 _ (((ExtN.of e0).trans e1).trans x1) (T1.ext (Ex.new nz)) upd_same (Hl.extN l1 x1) (Hl.extN l2 x1)
end
section
variable {X : Cx} {e : Expr} {es : List Expr} {σ : L2.St} {H : Hp} {z : V} {vs : List V} {p pos : Pos} {x : Str} {k j : Nat}
theorem EV.callZ {sp : SpS} (C : FcS X.prog X.w X.K X.mg X.base k x sp) (hr : Room j X.A) (ha : AV X (e :: es) σ H vs) (hv : ∀ H1, Ex H H1 → ∀ pins s, Inv X pins σ H1 s → ∀ Q : VK, (∀ H2, Ex H1 H2 → Q z H2) → sp s vs H1 Q E0) (hk : k ≤ j := by decide) (hg : Gl X x := by rfl) (hs : (e :: es).all noStar = true := by rfl) (hdb : (x == ("__debug__" : Str)) = false := by decide) :
    EV X (.Call (.Name x p) (e :: es) [] pos) σ H z := ⟨fun H1 e1 Q q => EW.callS C hr (ha.ev H1 e1 _ fun H2 e2 pins s I => hv H2 (e1.trans e2) pins s I Q fun H3 e3 => q H3 (e2.trans e3)) hk hg hs hdb⟩
end
/-- what the cells of a lambda made in X hold, seen from a block of X -/
theorem cells_blk {X : Cx} {pins pins' : List (Addr × Obj)} {σ σ' : L2.St} {H0 H' : Hp} {s s' : Shared} {scope nsc : Scope} {C : Addr} {cl : List (Str × Addr)} {fp : List Addr} {fr : List Str} {js : List Nat} {ws : List V} (I : Inv X pins σ H0 s) (hfp : ∀ b ∈ fp, FpOk X pins H0 b) (J : Inv (X.blk s H0 scope (compEnvC scope cl C X.env) fp) pins' σ' H' s')
    (hfree : freeOk X.env.scope nsc = true) (hfr : fr.all (fun y => decide ((y, NameKind.free) ∈ nsc.names)) = true) (hjs : js.map (fun j => X.N[j]?) = fr.map some) (hws : js.map (slotAt σ) = ws.map some) : CellsAt (cloFrom X.env.cells nsc.names []) fr (ws.map some) s'.heap H' := by
  have C0 := cells_of I (Caps.made (scope := nsc) (fr := fr) (js := js) I.ok (freeOk_of hfree) (fun y hy => of_decide_eq_true (List.all_eq_true.mp hfr y hy)) hjs)
  rw [hws] at C0
  refine cellsUn C0 J.base fun y c e hc => ?_
  have hf : ∀ y ∈ nsc.names, y.2 = .free → ∃ c, X.env.cells.lookup y.1 = some c := fun y hy e => (freeOk_of hfree y hy e).elim (fun z => I.ok.has _ (.inl z)) fun z => I.ok.has _ (.inr z)
  exact (hfp c hc).2.2.2.2.1 y c (clo_cm hf e) rfl
end QR

namespace QR
open PySem PySem.Spec PyProof.Rows L2 Evl
/-! ### values of which only C is known -/
abbrev PC := Hp → V → Prop
/-- C stays as the heap grows -/
def Up (C : PC) : Prop := ∀ H H' v, Ex H H' → C H v → C H' v
structure EC (X : Cx) (e : Expr) (σ : L2.St) (H : Hp) (C : PC) : Prop where
  ev : ∀ H1, Ex H H1 → ∀ Q : VK, (∀ v H2, Ex H1 H2 → C H2 v → Q v H2) → EW X e σ H1 Q
structure AC (X : Cx) (es : List Expr) (σ : L2.St) (H : Hp) (C : PC) (n : Nat) : Prop where
  ev : ∀ H1, Ex H H1 → ∀ Q : List V → Hp → Prop, (∀ vs H2, Ex H1 H2 → vs.length = n → (∀ v ∈ vs, C H2 v) → Q vs H2) → tArgs X es σ H1 Q
/-- a new list of n values, all C -/
def RetC (C : PC) (n : Nat) (H : Hp) (Q : VK) : Prop := ∀ p vs H2, H p = none → Ex H H2 → H2 p = some (.lst vs) → vs.length = n → (∀ v ∈ vs, C H2 v) → Q (.ref p) H2
structure NC (X : Cx) (e : Expr) (σ : L2.St) (H : Hp) (C : PC) (n : Nat) : Prop where
  ev : ∀ H1, Ex H H1 → ∀ Q : VK, RetC C n H1 Q → EW X e σ H1 Q
section
variable {X : Cx} {e a b c : Expr} {es : List Expr} {σ : L2.St} {H : Hp} {C : PC} {n m : Nat} {v : V} {xs : List V} {s : Sh} {pos p : Pos} {Q : VK} {x : Str} {sp : Sp} {k j : Nat} {rest : List Stmt} {D : Ends}
theorem EC.val (h : EV X e σ H v) (hc : ∀ H1, Ex H H1 → C H1 v) : EC X e σ H C := ⟨fun H1 e1 Q q => h.ev H1 e1 Q fun H2 e2 => q v H2 e2 (hc H2 (e1.trans e2))⟩
theorem EC.sh (h : EX X e σ H s) (hc : ∀ v H1, Ex H H1 → Is X.K H1 v s → C H1 v) : EC X e σ H C := ⟨fun H1 e1 Q q => h.ev H1 e1 Q fun v H2 e2 hv => q v H2 e2 (hc v H2 (e1.trans e2) hv)⟩
theorem EC.el (h : EL X e σ H xs) (hc : ∀ r H1, Ex H H1 → H1 r = some (.lst xs) → C H1 (.ref r)) : EC X e σ H C := ⟨fun H1 e1 Q q => h.ev H1 e1 Q fun r H2 _ e2 hr => q _ H2 e2 (hc r H2 (e1.trans e2) hr)⟩
theorem EC.eu (h : EU X e σ H xs) (hc : ∀ r H1, Ex H H1 → H1 r = some (.tup xs) → C H1 (.ref r)) : EC X e σ H C := ⟨fun H1 e1 Q q => h.ev H1 e1 Q fun r H2 _ e2 hr => q _ H2 e2 (hc r H2 (e1.trans e2) hr)⟩
theorem EC.nc {C' : PC} (h : NC X e σ H C' n) (hc : ∀ r vs H1, Ex H H1 → H1 r = some (.lst vs) → vs.length = n → (∀ v ∈ vs, C' H1 v) → C H1 (.ref r)) : EC X e σ H C := ⟨fun H1 e1 Q q => h.ev H1 e1 Q fun r vs H2 _ e2 hr hl ha => q _ H2 e2 (hc r vs H2 (e1.trans e2) hr hl ha)⟩
/-- {} -/
theorem EC.d0 (hc : ∀ r H1, Ex H H1 → H1 r = some (.dK []) → C H1 (.ref r)) : EC X (.Dict [] [] pos) σ H C := ⟨fun H1 e1 Q q => EW.of pe_dnewK fun r nr => q _ _ (Ex.new nr) (hc r _ (e1.trans (Ex.new nr)) upd_same)⟩
theorem AC.nil : AC X [] σ H C 0 := ⟨fun H1 _ _ q => q [] H1 (Ex.refl H1) rfl (fun v hv => nomatch hv)⟩
theorem AC.cons (up : Up C) (h : EC X e σ H C) (hr : AC X es σ H C n) : AC X (e :: es) σ H C (n + 1) := ⟨fun H1 e1 Q q => h.ev H1 e1 _ fun v H2 e2 hv => hr.ev H2 (e1.trans e2) _ fun vs H3 e3 hl ha => q (v :: vs) H3 (e2.trans e3) (congrArg (· + 1) hl) fun u hu => by
  rcases List.mem_cons.mp hu with rfl | hu
  · exact up _ _ _ e3 hv
  · exact ha u hu⟩
theorem NC.lst (up : Up C) (h : AC X es σ H C n) (hn : n ≤ 100000 := by exact Nat.le_of_ble_eq_true rfl) (hs : es.all noStar = true := by rfl) : NC X (.List es pos) σ H C n :=
  ⟨fun H1 e1 Q q => EW.of (pe_lst (pa_all hs)) (h.ev H1 e1 _ fun vs H2 e2 hl ha => ⟨sz_of (by rw [hl]; exact hn), fun r hr => q r vs _ (fresh_back e2 hr) (e2.trans (Ex.new hr)) upd_same hl fun v hv => up _ _ _ (Ex.new hr) (ha v hv)⟩)⟩
theorem NC.cat (up : Up C) (ha : NC X a σ H C n) (hb : NC X b σ H C m) (hn : n + m ≤ 100000 := by exact Nat.le_of_ble_eq_true rfl) : NC X (.BinOp a .Add b pos) σ H C (n + m) :=
  ⟨fun H1 e1 Q q => EW.of (pe_op op_catS pe_self pe_self) (ha.ev H1 e1 _ fun r vs H2 nr e2 hr l1 c1 => hb.ev H2 (e1.trans e2) _ fun t us H3 nt e3 ht l2 c2 =>
    ⟨r, t, vs, us, rfl, rfl, sq_of (e3 _ _ hr), sq_of ht, sz_of (by rw [l1, l2]; exact hn), fun z hz => q z _ _ (fresh_back (e2.trans e3) hz) ((e2.trans e3).trans (Ex.new hz)) upd_same (by rw [List.length_append, l1, l2]) fun v hv => by
      rcases List.mem_append.mp hv with h | h
      · exact up _ _ _ (e3.trans (Ex.new hz)) (c1 v h)
      · exact up _ _ _ (Ex.new hz) (c2 v h)⟩)⟩
/-- a list that stands, all C -/
theorem NC.oldCat {q : Addr} {vs : List V} (up : Up C) (ha : EV X a σ H (.ref q)) (hq : SqL X.K H q vs) (hl : vs.length = n) (hc : ∀ v ∈ vs, C H v) (hb : NC X b σ H C m) (hn : n + m ≤ 100000 := by exact Nat.le_of_ble_eq_true rfl) : NC X (.BinOp a .Add b pos) σ H C (n + m) :=
  ⟨fun H1 e1 Q k => EW.of (pe_op op_catS pe_self pe_self) (ha.ev H1 e1 _ fun H2 e2 => hb.ev H2 (e1.trans e2) _ fun t us H3 nt e3 ht l2 c2 =>
    ⟨q, t, vs, us, rfl, rfl, ex_l ((e1.trans e2).trans e3) hq, sq_of ht, sz_of (by rw [hl, l2]; exact hn), fun z hz => k z _ _ (fresh_back (e2.trans e3) hz) ((e2.trans e3).trans (Ex.new hz)) upd_same (by rw [List.length_append, hl, l2]) fun v hv => by
      rcases List.mem_append.mp hv with h | h
      · exact up _ _ _ (((e1.trans e2).trans e3).trans (Ex.new hz)) (hc v h)
      · exact up _ _ _ (Ex.new hz) (c2 v h)⟩)⟩
theorem BW.asgNC {y : Str} (i : Nat) (hN : X.N.Nodup) (h : NC X e σ H C n) (k : ∀ q vs H1, H q = none → Ex H H1 → H1 q = some (.lst vs) → vs.length = n → (∀ v ∈ vs, C H1 v) → BW X rest D (σ.set i (some (.ref q))) H1) (hi : X.N[i]? = some y := by rfl) (hx : Loc X.env.scope y := by first | exact Or.inl rfl | exact Or.inr rfl) (hs : swapsWith e (some (.Name y p)) pos.line X.env = pure false := by rfl) (hf : X.fn y = true ∨ X.env.scope.names.lookup y = some .local := by first | exact .inl rfl | exact .inr rfl) : BW X (.Assign [.Name y p] e pos :: rest) D σ H :=
  BW.asgW hN hi hx (h.ev H (Ex.refl H) _ k) hs hf
theorem BW.retNC (h : NC X e σ H C n) (k : RetC C n H D.rt) : BW X (.Return (some e) pos :: rest) D σ H := BW.retW (h.ev H (Ex.refl H) _ k)
/-- a if c else b, with what follows -/
theorem EW.ite {t : Bool} (ht : TV X c σ H t) (h1 : t = true → ∀ H1, Ex H H1 → EW X a σ H1 Q) (h2 : t = false → ∀ H1, Ex H H1 → EW X b σ H1 Q) : EW X (.IfExp c a b pos) σ H Q :=
  EW.of (pe_ifExp pt_self pe_self pe_self) (ht.go fun H1 e1 => by
    cases t with
    | true => exact h1 rfl H1 e1
    | false => exact h2 rfl H1 e1)
/-- x(e, ..), x a slot that holds a def; what it raises is taken at these slots -/
theorem EW.callLX {f : Addr} {W : WX} (i : Nat) (F : Hc X.prog X.w X.K X.mg X.base k f sp) (hr : Room j X.A) (tk : Takes X W) (hi : σ[i]? = some (some (.ref f))) (h : tArgs X (e :: es) σ H fun vs H1 => sp vs H1 Q (fun cls d H' => W cls d σ H')) (hk : k ≤ j := by decide)
    (hN : X.N[i]? = some x := by rfl) (hvs : Vis X.env.scope x := by first | exact Or.inl rfl | exact Or.inr (Or.inl rfl) | exact Or.inr (Or.inr rfl)) (hst : (e :: es).all noStar = true := by rfl) (hdb : (x == ("__debug__" : Str)) = false := by decide) (hcd : (x == ("__classdict__" : Str)) = false := by decide) :
    EW X (.Call (.Name x p) (e :: es) [] pos) σ H Q := by
  obtain ⟨fd, ps, F, kp, bn⟩ := F.ex
  refine ⟨fun pins s I => wpAny_Call_Name_kw (thn ((pe_var (pos := p) hN hvs hdb hcd).run pins s σ H (fun v H1 => v = .ref f ∧ H1 = H) I ⟨.ref f, hi, rfl, rfl⟩) fun u s1 ⟨v, H1, I1, r1, q1⟩ => ?_)⟩
  obtain ⟨rfl, rfl⟩ := q1
  obtain rfl : u = Value.ref f := r1
  refine PySem.W.callWith_K (h₀ := X.base) I.ok.mod.kin kp (thn ((pa_all (X := X) hst).run pos pins s1 σ _ _ I1 h) fun us s2 ⟨vs, H2, I2, r, q⟩ => ⟨I2.kIn, ?_⟩) (star_of (List.all_eq_true.mp hst e List.mem_cons_self) es) (back_any es (List.all_eq_true.mpr fun e' he => List.all_eq_true.mp hst e' (List.mem_cons_of_mem _ he)))
  exact run_fnS (E := WE W) F (hr.mono hk) bn (passAt tk σ) I2 r q
/-- things: a def that gives a new list of n values, all C -/
def spT (C : PC) (n : Nat) : Sp := fun vs H Q _ => ∃ c : Int, vs = [.int c] ∧ 0 ≤ c ∧ RetC C n H Q
theorem NC.callL {f : Addr} {c : Int} (i : Nat) (F : Hc X.prog X.w X.K X.mg X.base k f (spT C n)) (hr : Room j X.A) (hi : σ[i]? = some (some (.ref f))) (ha : EV X e σ H (.int c)) (hc : 0 ≤ c) (hk : k ≤ j := by decide)
    (hN : X.N[i]? = some x := by rfl) (hvs : Vis X.env.scope x := by first | exact Or.inl rfl | exact Or.inr (Or.inl rfl) | exact Or.inr (Or.inr rfl)) (hs : [e].all noStar = true := by rfl) (hdb : (x == ("__debug__" : Str)) = false := by decide) (hcd : (x == ("__classdict__" : Str)) = false := by decide) :
    NC X (.Call (.Name x p) [e] [] pos) σ H C n := by
  obtain ⟨fd, ps, F, kp, bn⟩ := F.ex
  refine ⟨fun H1 e1 Q q => EW.of (pe_callL (i := i) (f := f) (dvs := []) F (hr.mono hk) hN hvs kp bn .nil passL (pa_all hs) hdb hcd (star_of (List.all_eq_true.mp hs e List.mem_cons_self) []) (back_any [] rfl)) ⟨hi, (AV.one ha).ev H1 e1 _ fun H2 e2 => ⟨c, rfl, hc, fun r vs H3 nr e3 hr hl ha => q r vs H3 (fresh_back e2 nr) (e2.trans e3) hr hl ha⟩⟩⟩
/-- [e for x in xs], xs a new list of n values that are C; each e is z -/
theorem LC.listC {elt iter : Expr} {scope : Scope} {y : Str} {i : Nat} {z : V} (up : Up C) (hN : X.N.Nodup) (ok : BlkOk X.N X.env.scope scope [(y, i)]) (h : NC X iter σ H C n) (hz : n ≤ 40000)
    (he : ∀ (u : V) H1, Ex H H1 → C H1 u → EVb X scope elt ((wipe σ [i]).set i (some u)) H1 z)
    (hw : ∀ z, wipe ((wipe σ [i]).set i (some z)) [i] = wipe σ [i] := by intro _; rfl)
    (hg : ∀ (s : Shared) (H : Hp) (C : Addr) (cl : List (Str × Addr)) (fp : List Addr), PG (X.blk s H scope (compEnvC scope cl C X.env) fp) (.Name y p) (gName i) := by exact fun _ _ _ _ _ => pg_name (i := _) (by assumption) rfl (Or.inl rfl)) (hc : X.calm = true := by rfl) (hfs : ∀ x, foldedSetIterable iter X.env x = pure x := by intro _; rfl) :
    LC X (.ListComp elt [⟨.Name y p, iter, [], 0⟩] scope pos) σ H ((List.range n).map fun _ => z) := by
  refine lc_of (own := [(y, i)]) hc hN (pi_list pe_self) ok hg hfs ?_
  rw [← given_all]
  exact fun H0 e Q q => h.ev H0 e _ fun r vs H1 nr e1 hr hl ha => ⟨r, rfl, ⟨vs, sq_of hr⟩, fun Dl hD => lc_list (xs := vs) (Cw H1 (fun _ => true) (fun _ => z) Dl) ⟨hD, Ex.new hD, upd_same⟩ (fun i H' _ p => ex_l p.2.1 (sq_of hr))
    (fun i u H' hi p => ⟨hw u, cw_turn p (by have := (List.getElem?_eq_some_iff.mp hi).1; omega) ev_yes (fun _ => (he u H1 (e.trans e1) (ha u (List.mem_of_getElem? hi))).ev)⟩)
    (fun H' p => q Dl H' (fresh_back e1 p.1) (e1.trans p.2.1) (by rw [← hl]; exact p.2.2))⟩
/-- xs[i], xs a new list of n values that are C -/
theorem EC.ixN {t : Nat} (up : Up C) (h : NC X a σ H C n) (hi : EV X b σ H (.int (t : Int))) (ht : t < n) (hp : PlainIx b := by exact fun _ _ => rfl) : EC X (.Subscript a b pos) σ H C :=
  ⟨fun H1 e1 Q q => EW.of (pe_ix ix_list pe_self pe_self hp) (h.ev H1 e1 _ fun r vs H2 nr e2 hr hl ha => hi.ev H2 (e1.trans e2) _ fun H3 e3 => by
    have htl : t < vs.length := by omega
    exact ⟨r, vs, (t : Int), vs[t], rfl, rfl, sq_of (e3 _ _ hr), atI_nat (List.getElem?_eq_getElem htl), q _ H3 (e2.trans e3) (up _ _ _ e3 (ha _ (List.getElem_mem htl)))⟩)⟩
/-- xs[j] = e, of e only C is known -/
theorem BW.setLC {l : Addr} {t : Nat} {apos : Pos} (up : Up C) (hl : H l = some (.lst xs)) (h : EC X e σ H C) (ho : EV X a σ H (.ref l)) (hi : EV X b σ H (.int (t : Int))) (ht : t < xs.length) (k : ∀ v H1, Ex H H1 → C H1 v → BW X rest D σ (upd H1 l (.lst (xs.set t v))))
    (hg : PG X (.Subscript a b apos) (gSub (EW X a) (EW X b) rSetL) := by exact pg_sub pe_self pe_self set_list) (hs : swapsWithSole [.Subscript a b apos] e pos.line X.env = pure false := by rfl) (hw : swappedStores [.Subscript a b apos] e X.env = pure none := by rfl) : BW X (.Assign [.Subscript a b apos] e pos :: rest) D σ H :=
  BW.cons (ps_asg pe_self hg hs hw) (h.ev H (Ex.refl H) _ fun v H1 e1 hv => ho.ev H1 e1 _ fun H2 e2 => hi.ev H2 (e1.trans e2) _ fun H3 e3 => ⟨l, xs, (t : Int), t, rfl, rfl, ((e1.trans e2).trans e3) l _ hl, ixN_nat ht, k v H3 ((e1.trans e2).trans e3) (up _ _ _ (e2.trans e3) hv)⟩)
end
end QR

namespace QR
open PySem PySem.Spec PyProof.Rows L2 Evl
/-! ### [(a, b) for x in xs]: each turn makes a tuple -/
def tupsOf (n : Nat) (us : Nat → List V) : List Sh := (List.range n).map fun i => .tup ((us i).map Sh.v)
theorem tupsOf_succ (n : Nat) (us : Nat → List V) : tupsOf (n + 1) us = tupsOf n us ++ [.tup ((us n).map Sh.v)] := by
  unfold tupsOf
  rw [List.range_succ, List.map_append]
  rfl
section
variable {X : Cx} {σ : L2.St} {H : Hp} {elt iter : Expr} {scope : Scope} {x : Str} {j : Nat} {q : Addr} {xs : List V} {p pos : Pos}
theorem en_lcT {tl : TE} (us : Nat → List V) (h : Ev tl σ H (.ref q)) (hq : SqL X.K H q xs) (hz : xs.length ≤ 40000) (hw : ∀ z, wipe ((wipe σ [j]).set j (some z)) [j] = wipe σ [j])
    (he : ∀ (i : Nat) (y : V) H1, Ex H H1 → xs[i]? = some y → ∀ (s : Shared) (H0 : Hp) (C : Addr) (cl : List (Str × Addr)) (fp : List Addr), EX (X.blk s H0 scope (compEnvC scope cl C X.env) fp) elt ((wipe σ [j]).set j (some y)) H1 (.tup ((us i).map Sh.v))) :
    ∀ H1, Ex H H1 → ∀ Q : VK, (∀ r vs H2, H1 r = none → Ex H1 H2 → H2 r = some (.lst vs) → IsAll X.K H2 vs (tupsOf xs.length us) → Q (.ref r) H2) → tLc (iList X.K tl) (gName j) tYes (EWb X scope elt) [j] σ H1 Q := fun H1 e1 Q k => h H1 e1 _ fun H2 e2 => by
  refine ⟨q, rfl, ⟨xs, ex_l (e1.trans e2) hq⟩, fun Dl hD => ?_⟩
  refine lc_list (xs := xs) (fun i H' => Ex H2 (hide H' Dl) ∧ ∃ vs, H' Dl = some (.lst vs) ∧ vs.length = i ∧ IsAll X.K (hide H' Dl) vs (tupsOf i us)) ⟨ex_hide (Ex.new hD) hD, [], upd_same, rfl, .nil⟩ (fun i H' _ pv => ex_l ((e1.trans e2).trans (pv.1.trans hide_ex)) hq) ?_ ?_
  · rintro i y H3 hi ⟨x3, vs, hv, hvl, ha⟩
    refine ⟨hw y, ?_⟩
    intro s0 H0 C0 cl fp
    have il : i < xs.length := (List.getElem?_eq_some_iff.mp hi).1
    refine (he i y H3 ((e1.trans e2).trans (x3.trans hide_ex)) hi s0 H0 C0 cl fp).go fun u H4 e4 hu => ⟨vs, e4 _ _ hv, Nat.lt_of_le_of_lt (show vs.length ≤ 40000 by omega) (by decide), ?_⟩
    refine ⟨?_, vs ++ [u], upd_same, by rw [List.length_append, hvl]; rfl, ?_⟩
    · rw [hide_upd]
      exact x3.trans (hide_mono e4)
    · rw [hide_upd, tupsOf_succ]
      exact (ha.ex (hide_mono e4)).append (.cons (hu.hideT (e4 _ _ hv)) .nil)
  · rintro H3 ⟨x3, vs, hv, hvl, ha⟩
    exact k Dl vs H3 (fresh_back e2 hD) (e2.trans (x3.trans hide_ex)) hv (ha.ex hide_ex)
theorem BW.asgLcT {n : Str} {py spos : Pos} {rest : List Stmt} {D : Ends} (i : Nat) (us : Nat → List V) (hN : X.N.Nodup) (ok : BlkOk X.N X.env.scope scope [(x, j)]) (h : EV X iter σ H (.ref q)) (hq : SqL X.K H q xs) (hz : xs.length ≤ 40000)
    (he : ∀ (i : Nat) (y : V) H1, Ex H H1 → xs[i]? = some y → ∀ (s : Shared) (H0 : Hp) (C : Addr) (cl : List (Str × Addr)) (fp : List Addr), EX (X.blk s H0 scope (compEnvC scope cl C X.env) fp) elt ((wipe σ [j]).set j (some y)) H1 (.tup ((us i).map Sh.v)))
    (k : ∀ r vs H1, H r = none → Ex H H1 → H1 r = some (.lst vs) → IsAll X.K H1 vs (tupsOf xs.length us) → BW X rest D (σ.set i (some (.ref r))) H1)
    (hw : ∀ z, wipe ((wipe σ [j]).set j (some z)) [j] = wipe σ [j] := by intro _; rfl)
    (hg : ∀ (s : Shared) (H : Hp) (C : Addr) (cl : List (Str × Addr)) (fp : List Addr), PG (X.blk s H scope (compEnvC scope cl C X.env) fp) (.Name x p) (gName j) := by exact fun _ _ _ _ _ => pg_name (i := _) (by assumption) rfl (Or.inl rfl)) (hc : X.calm = true := by rfl) (hfs : ∀ x, foldedSetIterable iter X.env x = pure x := by intro _; rfl)
    (hy : X.N[i]? = some n := by rfl) (hl : X.env.scope.names.lookup n = some .local := by rfl) (hsw : swapsWith (.ListComp elt [⟨.Name x p, iter, [], 0⟩] scope pos) (some (.Name n py)) spos.line X.env = pure true := by exact sw_true rfl rfl rfl (by decide +kernel)) :
    BW X (.Assign [.Name n py] (.ListComp elt [⟨.Name x p, iter, [], 0⟩] scope pos) spos :: rest) D σ H :=
  BW.cons (ps_setLc (own := [(x, j)]) hc hN hy hl hsw (pi_list pe_self) ok hg (fun _ _ _ _ _ => pts_nil) (fun _ _ _ _ _ => pe_selfb) hfs) (en_lcT us h.ev hq hz hw he H (Ex.refl H) _ k)
end
/-- [e for (target) in xs], any target -/
theorem LC.listG {X : Cx} {σ : L2.St} {H : Hp} {elt iter tg : Expr} {scope : Scope} {own : List (Str × Nat)} {g : TG} {q : Addr} {xs : List V} {pos : Pos} (v : Nat → V) (σ2 : Nat → L2.St) (hN : X.N.Nodup) (ok : BlkOk X.N X.env.scope scope own) (h : EV X iter σ H (.ref q)) (hq : SqL X.K H q xs) (hz : xs.length ≤ 40000)
    (hw : ∀ i, wipe (σ2 i) (own.map (·.2)) = wipe σ (own.map (·.2))) (hgt : ∀ (i : Nat) (y : V) H' (R : L2.St → Hp → Prop), Ex H H' → xs[i]? = some y → R (σ2 i) H' → g y (wipe σ (own.map (·.2))) H' R)
    (he : ∀ (i : Nat) (y : V) H1, Ex H H1 → xs[i]? = some y → EVb X scope elt (σ2 i) H1 (v i))
    (hg : ∀ (s : Shared) (H : Hp) (C : Addr) (cl : List (Str × Addr)) (fp : List Addr), PG (X.blk s H scope (compEnvC scope cl C X.env) fp) tg g) (hc : X.calm = true := by rfl) (hfs : ∀ x, foldedSetIterable iter X.env x = pure x := by intro _; rfl) :
    LC X (.ListComp elt [⟨tg, iter, [], 0⟩] scope pos) σ H ((List.range xs.length).map v) := by
  refine lc_of (own := own) hc hN (pi_list pe_self) ok hg hfs ?_
  rw [← given_all]
  exact fun H0 e Q k => h.ev H0 e _ fun H1 e1 => ⟨q, rfl, ⟨xs, ex_l (e.trans e1) hq⟩, fun Dl hD =>
    lc_list (xs := xs) (Cw H1 (fun _ => true) v Dl) ⟨hD, Ex.new hD, upd_same⟩ (fun i H' _ p => ex_l ((e.trans e1).trans p.2.1) hq) (fun i x H' hi p => hgt i x H' _ ((e.trans e1).trans p.2.1) hi ⟨hw i, cw_turn p (by have := (List.getElem?_eq_some_iff.mp hi).1; omega) ev_yes (fun _ => (he i x H1 (e.trans e1) hi).ev)⟩)
      (fun H' p => k Dl H' (fresh_back e1 p.1) (e1.trans p.2.1) p.2.2)⟩
end QR

namespace QR
open PySem PySem.Spec PyProof.Rows L2 Evl
/-! ### set(xs), xs a list of ints; sorted(set(xs)) -/
section
variable {P : Program} {w : World} {A : Around} {E : Value → Shared → Prop} {s : Shared}
/-- the new set's object -/
abbrev nSet (w : World) : Obj := { cls := .type "set", dict := none, data := .set #[] 0 (.fresh 0 0 (!w.params.followText "set-order")) }
theorem call_set_ints {l : Addr} {its : Array Value} (ns : List Int) {Q : Value → Shared → Prop} (hh : A.handled = none) (hl : s.heap.IsList l its) (hit : IntsAre its.toList ns) (hb : ns.length + 1 < scanBound)
    (h : ∀ (h' : Heap) (tk c : Nat), SetR w h' s.heap.objs.size (fun j => decide (j ∈ ns)) c → c ≤ ns.length → (∀ b o, s.heap.get? b = some o → h'.get? b = some o) → Q (.ref s.heap.objs.size) { s with heap := h', toks := tk }) :
    wpAny (model P w) A (call (.type "set") [.ref l]) Q E s := by
  have hsz : its.size = ns.length := (Array.length_toList (xs := its)).symm.trans (IntsAre.length hit)
  have z1 := F.called_set.mro
  have z2 := F.called_set.made
  have z3 := F.called_set.sub
  have z4 := F.called_set.notType
  have z5 := F.called_set.canCreate
  have z6 := F.typeCall_set_1 (.ref l)
  obtain ⟨c, tl, z1⟩ := z1
  refine wpAny_call (codeAny_of_tree ?_)
  show wpAny _ _ (callAny (.type "set") _) _ _ _
  refine wpAny_pure ⟨Code.quiet_builtin _ (by decide +kernel), codeAny_builtin F.entry_type_call ?_⟩
  rw [Around.under_plain (weight_type_call_type "set" [.ref l] []) rfl]
  repeat (any_goals (first | assumption | wp_step))
  refine codeAny_mono (code_set_led1 (.ref l) (E := E) (Q₁ := fun obj t => obj = .ref s.heap.objs.size ∧ t = { s with heap := s.heap.push (nSet w) }) ⟨rfl, rfl⟩) fun r t hr => ?_
  match r, hr with
  | .error e, hr => exact hr
  | .ok .next, hr => exact hr.elim
  | .ok .brk, hr => exact hr.elim
  | .ok .cont, hr => exact hr.elim
  | .ok (.ret obj), hr =>
    obtain ⟨rfl, rfl⟩ := hr
    have hS : (s.heap.push (nSet w)).get? s.heap.objs.size = some (nSet w) := Heap.get?_push_size _ rfl
    have hT : Shared.TypeIs { s with heap := s.heap.push (nSet w) } (.ref s.heap.objs.size) "set" := ⟨_, hS, rfl⟩
    have y1 := F.called_set.init.lookup
    have y2 := F.called_set.init.bind (.ref s.heap.objs.size)
    repeat (any_goals (first | assumption | wp_step))
    refine codeAny_mono (codeAny_call_builtin (R := wants (fun r t => r = .none ∧ ∃ h' tk c, t = { s with heap := h', toks := tk } ∧ SetR w h' s.heap.objs.size (fun j => decide (j ∈ ns)) c ∧ c ≤ ns.length ∧ (∀ b o, s.heap.get? b = some o → h'.get? b = some o)) E) F.called_set.init.plain F.entry_set_init (check_set_init_1 hT ?_)) fun r₂ s₂ hr₂ => ?_
    · obtain ⟨⟨oc, od, oda, osl⟩, hol, hcl, nl, hdl⟩ := hl
      simp only at hcl hdl
      subst hcl; subst hdl
      have hol' : (s.heap.push (nSet w)).get? l = some { cls := .type "list", dict := od, data := .seq its nl, slots := osl } := Heap.get?_push_of_some _ hol
      have x1 := F.sub_list_set
      have x2 := F.sub_list_frozenset
      have x3 : (Value.type "list" == Value.type "dict") = false := by decide
      have hl1 : (s.heap.push (nSet w)).IsList l its := ⟨_, hol', rfl, nl, rfl⟩
      unfold Builtin.«set.__init__» noKeywords Builtin.Frozenset.updateFrom
      generalize hPI : pyIter = PI
      wp_walk
      subst hPI
      refine wpAny_pyIter_list hl1 (wpAny_bind (wpAny_runValue ?_))
      have hlS : l < s.heap.objs.size := Heap.lt_size hol
      have hne : l ≠ (s.heap.push (nSet w)).objs.size := by rw [Heap.size_push]; exact Nat.ne_of_lt (Nat.lt_succ_of_lt hlS)
      have hSf : s.heap.objs.size ∉ [(s.heap.push (nSet w)).objs.size, l] := by
        rw [Heap.size_push]
        simp only [List.mem_cons, List.not_mem_nil, or_false, not_or]
        exact ⟨Nat.ne_of_lt (Nat.lt_succ_self _), Nat.ne_of_gt hlS⟩
      refine set_update_ints ((Walks.list (A := A.in1.in1.in1) (by simp [hh]) _ l hne its).toS) s.heap.objs.size hSf ns hsz hb (fun i v hv => ?_) (its.size - 0) 0 _ (by omega) (Nat.zero_le _) ⟨⟨_, Heap.get?_push_size _ rfl, rfl, rfl⟩, (hl1.push _)⟩ ⟨0, Nat.le_refl 0, setR_new_at (Heap.get?_push_of_some _ hS)⟩ ?_
      · have hi : i < ns.length := by rw [← hsz]; exact (Array.getElem?_eq_some_iff.mp hv).1
        obtain ⟨t, e⟩ := IntsAre.int_at hit i v (by rw [Array.getElem?_toList]; exact hv)
        refine ⟨ns[i], t, List.getElem?_eq_getElem hi, ?_⟩
        rw [e, List.getD_eq_getElem?_getD, List.getElem?_eq_getElem hi] <;> rfl
      · rintro ⟨h', g2, d', tk', os'⟩ c' hm hc' hS'
        have eg : g2 = s.gens := hm.gens
        have ed : d' = s.drawn := hm.drawn
        have eo : os' = s.os := hm.os
        subst eg; subst ed; subst eo
        show wpAny _ _ _ _ _ _
        refine wpAny_pure ?_
        show wpAny _ _ (ret Value.none) _ _ _
        rw [hsz] at hc'
        refine wpAny_pure ⟨rfl, h', tk', c', rfl, hS', hc', fun b o e => hm.heap b o ?_ (Heap.get?_push_of_some _ (Heap.get?_push_of_some _ e))⟩
        have hb0 : b < s.heap.objs.size := Heap.lt_size e
        rw [Heap.size_push]
        simp only [List.mem_cons, List.not_mem_nil, or_false, not_or]
        exact ⟨Nat.ne_of_lt hb0, Nat.ne_of_lt (Nat.lt_succ_of_lt hb0)⟩
    · match r₂, hr₂ with
      | .error e, hr₂ => exact hr₂
      | .ok .next, hr₂ => exact hr₂.elim
      | .ok .brk, hr₂ => exact hr₂.elim
      | .ok .cont, hr₂ => exact hr₂.elim
      | .ok (.ret r), hr₂ =>
        obtain ⟨rfl, h', tk, c', rfl, hS', hc', hk'⟩ := hr₂
        repeat (any_goals (first | assumption | wp_step))
        exact h _ _ _ hS' hc' hk'
end
section
variable {X : Cx} {a : Expr} {σ : L2.St} {H : Hp} {p p2 pos pos2 : Pos} {ns : List Int}
def rSetI (K : PySem.W.Frag) (w : World) : List V → Hp → VK → Prop := fun xs H Q => ∃ (l : Addr) (ns : List Int), xs = [.ref l] ∧ SqL K H l (ns.map V.int) ∧ ns.length ≤ 1000 ∧ ∀ p c, c ≤ ns.length → H p = none → Q (.ref p) (upd H p (SetO w p (fun j => decide (j ∈ ns)) c))
theorem ints_of_vals : ∀ {ns : List Int} {us : List Value}, Vals (ns.map V.int) us → IntsAre us ns
  | [], _, .nil => .nil
  | n :: ns, _, .cons r t => by
    obtain ⟨k, rfl⟩ := r
    exact .cons n k (ints_of_vals t)
theorem cr_setI (hc : X.calm = true) : CallR X (.type "set") (rSetI X.K X.w) := by
  intro pins s σ H vs us Q I r h
  obtain ⟨l, ns, rfl, hq, hl, q⟩ := h
  rw [Vals.ref1 r]
  obtain ⟨its, r', pl, hz⟩ := I.list hq
  refine call_set_ints ns (I.ok.hd hc) pl.isList (by simpa using ints_of_vals r') (by unfold scanBound; omega) fun h' tk c hS hc' hk => ?_
  exact ⟨.ref _, _, I.laid (t' := tk) (a := s.heap.objs.size) hk (Nat.le_refl _) (setO_new hS), rfl, q _ c hc' (I.hok.fresh (Nat.le_refl _))⟩
end
end QR

namespace QR
open PySem PySem.Spec PyProof.Rows L2 Evl
section
variable {X : Cx} {a : Expr} {σ : L2.St} {H : Hp} {p p2 pos pos2 : Pos} {ns : List Int}
/-- sorted(set(xs)): some list, ordered, of the same members -/
structure ESt (X : Cx) (e : Expr) (σ : L2.St) (H : Hp) (ns : List Int) : Prop where
  ev : ∀ H1, Ex H H1 → ∀ Q : VK, (∀ (q : Addr) (ms : List Int) (H2 : Hp), H1 q = none → Ex H1 H2 → H2 q = some (.lst (ms.map V.int)) → ms.Pairwise (· < ·) → (∀ k, k ∈ ms ↔ k ∈ ns) → ms.length ≤ ns.length → Q (.ref q) H2) → EW X e σ H1 Q
theorem ESt.of (mS : X.mg "sorted" = none) (mT : X.mg "set" = none) (h : EL X a σ H (ns.map V.int)) (hn : ns.length < 64) (hg : Gl X "sorted" := by rfl) (hg2 : Gl X "set" := by rfl) (hs : noStar a = true := by rfl) (hc : X.calm = true := by rfl) : ESt X (.Call (.Name "sorted" p) [.Call (.Name "set" p2) [a] [] pos2] [] pos) σ H ns := by
  refine ⟨fun H1 e1 Q k => ?_⟩
  refine EW.of (pe_callB (cr_sortedSet hc) hg mS (by decide +kernel) (pa_all (es := [.Call (.Name "set" p2) [a] [] pos2]) rfl) (by decide) (by decide) rfl rfl) ?_
  refine EW.of (pe_callTy (cr_setI hc) hg2 mT (by decide +kernel) (pa_all (es := [a]) (by simp [hs])) (by decide) (by decide) (star_of hs []) rfl) (h.ev H1 e1 _ fun q H2 nq e2 hq => ⟨q, ns, rfl, sq_of hq, by omega, fun r c hc' nr => ⟨r, _, c, rfl, upd_same, by omega, fun ms t h1 h2 h3 nt => ?_⟩⟩)
  have x := (Ex.new nr (o := SetO X.w r (fun j => decide (j ∈ ns)) c)).trans (Ex.new nt (o := .lst (ms.map V.int)))
  refine k t ms _ (fresh_back e2 ?_) (e2.trans x) upd_same h1 (fun z => by rw [h2 z]; simp) (by omega)
  exact fresh_back (Ex.new nr) nt
end
end QR

namespace QR
open PySem PySem.Spec PyProof.Rows L2 Evl
section
variable {X : Cx} {σ : L2.St} {H : Hp} {elt iter tg : Expr} {scope : Scope} {x : Str} {j : Nat} {q : Addr} {xs : List V} {p pos : Pos} {C : PC} {D : Ends} {rest body : List Stmt} {ns : List Int}
/-- [e for x in xs]: each turn makes a list -/
theorem NC.lcNew (us : Nat → List V) (hN : X.N.Nodup) (ok : BlkOk X.N X.env.scope scope [(x, j)]) (h : EV X iter σ H (.ref q)) (hq : SqL X.K H q xs) (hz : xs.length ≤ 40000)
    (he : ∀ (i : Nat) (y : V) H1, Ex H H1 → xs[i]? = some y → ∀ (s : Shared) (H0 : Hp) (C : Addr) (cl : List (Str × Addr)) (fp : List Addr), EL (X.blk s H0 scope (compEnvC scope cl C X.env) fp) elt ((wipe σ [j]).set j (some y)) H1 (us i))
    (hC : ∀ i r H1, Ex H H1 → i < xs.length → H1 r = some (.lst (us i)) → C H1 (.ref r))
    (hw : ∀ z, wipe ((wipe σ [j]).set j (some z)) [j] = wipe σ [j] := by intro _; rfl)
    (hg : ∀ (s : Shared) (H : Hp) (C : Addr) (cl : List (Str × Addr)) (fp : List Addr), PG (X.blk s H scope (compEnvC scope cl C X.env) fp) (.Name x p) (gName j) := by exact fun _ _ _ _ _ => pg_name (i := _) (by assumption) rfl (Or.inl rfl)) (hc : X.calm = true := by rfl) (hfs : ∀ x, foldedSetIterable iter X.env x = pure x := by intro _; rfl) :
    NC X (.ListComp elt [⟨.Name x p, iter, [], 0⟩] scope pos) σ H C xs.length := by
  refine ⟨fun H1 e1 Q k => EW.of (pe_lc (own := [(x, j)]) hc hN (pi_list pe_self) ok hg (fun _ _ _ _ _ => pts_nil) (fun _ _ _ _ _ => pe_selfb) hfs) (h.ev H1 e1 _ fun H2 e2 => ⟨q, rfl, ⟨xs, ex_l (e1.trans e2) hq⟩, fun Dl hD => ?_⟩)⟩
  refine lc_list (xs := xs) (fun i H' => Ex H2 (hide H' Dl) ∧ ∃ vs, H' Dl = some (.lst vs) ∧ vs.length = i ∧ ∀ k v, vs[k]? = some v → ∃ a, v = .ref a ∧ a ≠ Dl ∧ H' a = some (.lst (us k))) ⟨ex_hide (Ex.new hD) hD, [], upd_same, rfl, fun k v z => by simp at z⟩ (fun i H' _ pv => ex_l ((e1.trans e2).trans (pv.1.trans hide_ex)) hq) ?_ ?_
  · rintro i y H3 hi ⟨x3, vs, hv, hvl, ha⟩
    refine ⟨hw y, ?_⟩
    intro s0 H0 C0 cl fp
    have il : i < xs.length := (List.getElem?_eq_some_iff.mp hi).1
    refine (he i y H3 ((e1.trans e2).trans (x3.trans hide_ex)) hi s0 H0 C0 cl fp).go fun u H4 nu e4 hu => ⟨vs, e4 _ _ hv, Nat.lt_of_le_of_lt (show vs.length ≤ 40000 by omega) (by decide), ?_⟩
    refine ⟨?_, vs ++ [.ref u], upd_same, by rw [List.length_append, hvl]; rfl, fun k v hk => ?_⟩
    · rw [hide_upd]
      exact x3.trans (hide_mono e4)
    · by_cases hkl : k < vs.length
      · rw [List.getElem?_append_left hkl] at hk
        obtain ⟨a, rfl, na, h3⟩ := ha k v hk
        exact ⟨a, rfl, na, by rw [upd_ne na]; exact e4 _ _ h3⟩
      · rw [List.getElem?_append_right (by omega)] at hk
        have hk0 : k = i := by
          have := (List.getElem?_eq_some_iff.mp hk).1
          simp at this
          omega
        subst hk0
        rw [hvl, Nat.sub_self] at hk
        cases hk
        have nu' : u ≠ Dl := fun z => by rw [z, hv] at nu; cases nu
        exact ⟨u, rfl, nu', by rw [upd_ne nu']; exact hu⟩
  · rintro H3 ⟨x3, vs, hv, hvl, ha⟩
    refine k Dl vs H3 (fresh_back e2 hD) (e2.trans (x3.trans hide_ex)) hv hvl fun v hv' => ?_
    obtain ⟨i, hi, hiv⟩ := List.getElem_of_mem hv'
    obtain ⟨a, rfl, na, h3⟩ := ha i v (by rw [← hiv]; exact List.getElem?_eq_getElem hi)
    exact hC i a H3 ((e1.trans e2).trans (x3.trans hide_ex)) (by omega) h3
/-- for x in sorted(set(..)) -/
theorem BW.forSt {g : TG} (h : ESt X iter σ H ns) (hg : PG X tg g) (Pv : Addr → List Int → Nat → L2.St → Hp → Prop) (h0 : ∀ q ms H1, H q = none → Ex H H1 → H1 q = some (.lst (ms.map V.int)) → (∀ k, k ∈ ms ↔ k ∈ ns) → ms.length ≤ ns.length → Pv q ms 0 σ H1) (hl : ∀ q ms i σ' H', i ≤ ms.length → Pv q ms i σ' H' → SqL X.K H' q (ms.map V.int))
    (hs : ∀ q (ms : List Int) i y σ' H', ms[i]? = some y → Pv q ms i σ' H' → g (.int y) σ' H' fun σ2 H2 => BW X body (Ends.turn X rest D (Pv q ms (i + 1))) σ2 H2) (hd : ∀ q ms σ' H', Pv q ms ms.length σ' H' → BW X rest D σ' H')
    (hc : X.calm = true := by rfl) (hp : PassesOwn (model X.prog X.w) X.A X.env X.xe := by first | exact PassesOwn.never | exact passes_of rfl) (hfs : ∀ x, foldedSetIterable iter X.env x = pure x := by intro _; rfl) : BW X (.For tg iter body [] pos :: rest) D σ H :=
  BW.cons (ps_for hp hc (pi_list pe_self) hg pss_self hfs) (h.ev H (Ex.refl H) _ fun q ms H1 nq e1 hq _ hm hlen => s_forL (K := X.K) (tl := fun σ H Q => Q (.ref q) H) (a := q) (xs := ms.map V.int) (D := { D with nx := BW X rest D }) (fun H2 e2 Q k => k H2 (Ex.refl H2)) (sq_of hq) (fun i σ' H' => Pv q ms i σ' H') (fun H2 e2 => h0 q ms H2 nq (e1.trans e2) (e2 _ _ hq) hm hlen) (fun i σ' H' hi pv => hl q ms i σ' H' (by simpa using hi) pv)
    (fun i x σ' H' hx pv => by
      rw [List.getElem?_map] at hx
      cases hy : ms[i]? with
      | none => rw [hy] at hx; cases hx
      | some y => rw [hy] at hx; cases hx; exact hs q ms i y σ' H' hy pv) (fun σ' H' pv => hd q ms σ' H' (by simpa using pv)))
end
end QR

namespace QR
/-! ### the mathematics of the told setting -/
def colE (m r : Int) : Int := if m % 6 ≠ 2 then (if r < m / 2 then 2 * r + 1 else 2 * (r - m / 2)) else if r < m / 2 then (2 * r + m / 2 - 1) % m else m - 1 - (2 * (m - 1 - r) + m / 2 - 1) % m
def rowE (m c : Int) : Int := if m % 6 ≠ 2 then (if c % 2 = 1 then c / 2 else m / 2 + c / 2) else if (c - m / 2 + 1) % m % 2 = 0 then (c - m / 2 + 1) % m / 2 else m - 1 - (m - c - m / 2) % m / 2
def colF (n r : Int) : Int := if n % 2 = 1 then (if r = n - 1 then r else colE (n - 1) r) else colE n r
def rowF (n c : Int) : Int := if n % 2 = 1 then (if c = n - 1 then c else rowE (n - 1) c) else rowE n c
theorem mod_lo {x m : Int} (h0 : 0 ≤ x) (h1 : x < m) : x % m = x := Int.emod_eq_of_lt h0 h1
theorem mod_hi {x m : Int} (h0 : m ≤ x) (h1 : x < 2 * m) : x % m = x - m := by
  have : x % m = (x - m) % m := by rw [Int.sub_emod_right]
  rw [this]
  exact Int.emod_eq_of_lt (by omega) (by omega)
theorem mod_neg {x m : Int} (h0 : -m ≤ x) (h1 : x < 0) : x % m = x + m := by
  have : x % m = (x + m) % m := by rw [Int.add_emod_right]
  rw [this]
  exact Int.emod_eq_of_lt (by omega) (by omega)
/-- the column, by cases -/
def ColC (m r c : Int) : Prop := (m % 6 ≠ 2 ∧ (r < m / 2 ∧ c = 2 * r + 1 ∨ m / 2 ≤ r ∧ c = 2 * (r - m / 2))) ∨
  (m % 6 = 2 ∧ (r < m / 2 ∧ (c = 2 * r + m / 2 - 1 ∧ c < m ∨ c = 2 * r + m / 2 - 1 - m ∧ 0 ≤ c) ∨ m / 2 ≤ r ∧ (c = m - 1 - (2 * (m - 1 - r) + m / 2 - 1) ∧ 0 ≤ c ∨ c = m - 1 - (2 * (m - 1 - r) + m / 2 - 1 - m) ∧ c < m)))
theorem col_c {m r : Int} (he : m % 2 = 0) (h0 : 0 ≤ r) (h1 : r < m) : ColC m r (colE m r) := by
  unfold colE ColC
  by_cases h6 : m % 6 = 2
  · right
    refine ⟨h6, ?_⟩
    rw [if_neg (by omega)]
    by_cases hr : r < m / 2
    · left
      refine ⟨hr, ?_⟩
      rw [if_pos hr]
      by_cases hx : 2 * r + m / 2 - 1 < m
      · left
        rw [mod_lo (by omega) hx]
        omega
      · right
        rw [mod_hi (by omega) (by omega)]
        omega
    · right
      refine ⟨by omega, ?_⟩
      rw [if_neg hr]
      by_cases hx : 2 * (m - 1 - r) + m / 2 - 1 < m
      · left
        rw [mod_lo (by omega) hx]
        omega
      · right
        rw [mod_hi (by omega) (by omega)]
        omega
  · left
    refine ⟨h6, ?_⟩
    rw [if_pos h6]
    by_cases hr : r < m / 2
    · left
      rw [if_pos hr]
      omega
    · right
      rw [if_neg hr]
      omega
theorem colE_bounds {m r : Int} (he : m % 2 = 0) (h0 : 0 ≤ r) (h1 : r < m) : 0 ≤ colE m r ∧ colE m r < m := by
  have h := col_c he h0 h1
  unfold ColC at h
  omega
theorem colE_off {m r : Int} (he : m % 2 = 0) (h2 : m ≠ 2) (h0 : 0 ≤ r) (h1 : r < m) : colE m r ≠ r := by
  have h := col_c he h0 h1
  unfold ColC at h
  omega
theorem colE_peace {m r s : Int} (he : m % 2 = 0) (h2 : m ≠ 2) (h0 : 0 ≤ r) (h1 : r < s) (h3 : s < m) : colE m r ≠ colE m s ∧ colE m r - colE m s ≠ s - r ∧ colE m s - colE m r ≠ s - r := by
  have a := col_c he h0 (by omega : r < m)
  have b := col_c he (by omega : 0 ≤ s) h3
  generalize colE m r = c at a ⊢
  generalize colE m s = d at b ⊢
  unfold ColC at a b
  rcases a with ⟨a6, a | a⟩ | ⟨a6, ⟨ar, a | a⟩ | ⟨ar, a | a⟩⟩ <;> rcases b with ⟨b6, b | b⟩ | ⟨b6, ⟨br, b | b⟩ | ⟨br, b | b⟩⟩ <;> first | (exfalso; omega) | (refine ⟨?_, ?_, ?_⟩ <;> omega)
theorem rowE_col {m r : Int} (he : m % 2 = 0) (h0 : 0 ≤ r) (h1 : r < m) : rowE m (colE m r) = r := by
  have h := col_c he h0 h1
  generalize colE m r = c at h ⊢
  unfold ColC at h
  unfold rowE
  rcases h with ⟨h6, h | h⟩ | ⟨h6, ⟨hr, h | h⟩ | ⟨hr, h | h⟩⟩
  · rw [if_pos h6, if_pos (by omega)]
    omega
  · rw [if_pos h6, if_neg (by omega)]
    omega
  · rw [if_neg (by omega)]
    have e : (c - m / 2 + 1) % m = 2 * r := by rw [mod_lo (by omega) (by omega)]; omega
    rw [e, if_pos (by omega)]
    omega
  · rw [if_neg (by omega)]
    have e : (c - m / 2 + 1) % m = 2 * r := by rw [mod_neg (by omega) (by omega)]; omega
    rw [e, if_pos (by omega)]
    omega
  · rw [if_neg (by omega)]
    have e : (c - m / 2 + 1) % m % 2 = 1 := by
      by_cases hx : 0 ≤ c - m / 2 + 1
      · rw [mod_lo hx (by omega)]
        omega
      · rw [mod_neg (x := c - m / 2 + 1) (m := m) (by omega) (by omega)]
        omega
    rw [if_neg (by omega)]
    have e2 : (m - c - m / 2) % m = 2 * (m - 1 - r) := by rw [mod_lo (by omega) (by omega)]; omega
    rw [e2]
    omega
  · rw [if_neg (by omega)]
    have e : (c - m / 2 + 1) % m % 2 = 1 := by
      by_cases hx : 0 ≤ c - m / 2 + 1
      · rw [mod_lo hx (by omega)]
        omega
      · rw [mod_neg (x := c - m / 2 + 1) (m := m) (by omega) (by omega)]
        omega
    rw [if_neg (by omega)]
    have e2 : (m - c - m / 2) % m = 2 * (m - 1 - r) := by rw [mod_neg (by omega) (by omega)]; omega
    rw [e2]
    omega
theorem rowE_c {m c : Int} (he : m % 2 = 0) (h2 : m ≠ 2) (h0 : 0 ≤ c) (h1 : c < m) : 0 ≤ rowE m c ∧ rowE m c < m ∧ colE m (rowE m c) = c := by
  unfold rowE
  by_cases h6 : m % 6 = 2
  · rw [if_neg (by omega)]
    by_cases hx : 0 ≤ c - m / 2 + 1
    · rw [mod_lo hx (by omega)]
      by_cases hp : (c - m / 2 + 1) % 2 = 0
      · rw [if_pos hp]
        refine ⟨by omega, by omega, ?_⟩
        unfold colE
        rw [if_neg (by omega), if_pos (by omega), mod_lo (by omega) (by omega)]
        omega
      · rw [if_neg hp]
        by_cases hy : 0 ≤ m - c - m / 2
        · rw [mod_lo hy (by omega)]
          refine ⟨by omega, by omega, ?_⟩
          unfold colE
          rw [if_neg (by omega), if_neg (by omega), mod_lo (by omega) (by omega)]
          omega
        · rw [mod_neg (by omega) (by omega)]
          refine ⟨by omega, by omega, ?_⟩
          unfold colE
          rw [if_neg (by omega), if_neg (by omega), mod_hi (by omega) (by omega)]
          omega
    · rw [mod_neg (x := c - m / 2 + 1) (m := m) (by omega) (by omega)]
      by_cases hp : (c - m / 2 + 1 + m) % 2 = 0
      · rw [if_pos hp]
        refine ⟨by omega, by omega, ?_⟩
        unfold colE
        rw [if_neg (by omega), if_pos (by omega), mod_hi (by omega) (by omega)]
        omega
      · rw [if_neg hp]
        by_cases hy : 0 ≤ m - c - m / 2
        · rw [mod_lo hy (by omega)]
          refine ⟨by omega, by omega, ?_⟩
          unfold colE
          rw [if_neg (by omega), if_neg (by omega), mod_lo (by omega) (by omega)]
          omega
        · rw [mod_neg (by omega) (by omega)]
          refine ⟨by omega, by omega, ?_⟩
          unfold colE
          rw [if_neg (by omega), if_neg (by omega), mod_hi (by omega) (by omega)]
          omega
  · rw [if_pos h6]
    by_cases hp : c % 2 = 1
    · rw [if_pos hp]
      refine ⟨by omega, by omega, ?_⟩
      unfold colE
      rw [if_pos h6, if_pos (by omega)]
      omega
    · rw [if_neg hp]
      refine ⟨by omega, by omega, ?_⟩
      unfold colE
      rw [if_pos h6, if_neg (by omega)]
      omega
theorem colF_bounds {n r : Int} (h0 : 0 ≤ r) (h1 : r < n) : 0 ≤ colF n r ∧ colF n r < n := by
  unfold colF
  split
  · split
    · omega
    · have := colE_bounds (m := n - 1) (r := r) (by omega) h0 (by omega)
      omega
  · exact colE_bounds (by omega) h0 h1
theorem rowF_col {n r : Int} (h0 : 0 ≤ r) (h1 : r < n) : rowF n (colF n r) = r := by
  unfold colF rowF
  split
  · split
    · omega
    · have := colE_bounds (m := n - 1) (r := r) (by omega) h0 (by omega)
      rw [if_neg (by omega)]
      exact rowE_col (by omega) h0 (by omega)
  · exact rowE_col (by omega) h0 h1
theorem rowF_c {n c : Int} (h2 : n ≠ 2) (h3 : n ≠ 3) (h0 : 0 ≤ c) (h1 : c < n) : 0 ≤ rowF n c ∧ rowF n c < n ∧ colF n (rowF n c) = c := by
  unfold rowF
  split
  · rename_i hn
    split
    · rename_i hc
      refine ⟨by omega, by omega, ?_⟩
      unfold colF
      rw [if_pos hn, if_pos hc]
    · obtain ⟨a, b, d⟩ := rowE_c (m := n - 1) (c := c) (by omega) (by omega) h0 (by omega)
      refine ⟨a, by omega, ?_⟩
      unfold colF
      rw [if_pos hn, if_neg (by omega)]
      exact d
  · rename_i hn
    obtain ⟨a, b, d⟩ := rowE_c (m := n) (c := c) (by omega) h2 h0 h1
    refine ⟨a, b, ?_⟩
    unfold colF
    rw [if_neg hn]
    exact d
theorem colF_peace' {n r s : Int} (h2 : n ≠ 2) (h3 : n ≠ 3) (h0 : 0 ≤ r) (h1 : r < s) (hs : s < n) : colF n r ≠ colF n s ∧ colF n r - colF n s ≠ s - r ∧ colF n s - colF n r ≠ s - r := by
  unfold colF
  split
  · rw [if_neg (by omega)]
    split
    · rename_i hl
      have := colE_bounds (m := n - 1) (r := r) (by omega) h0 (by omega)
      have := colE_off (m := n - 1) (r := r) (by omega) (by omega) h0 (by omega)
      omega
    · exact colE_peace (by omega) (by omega) h0 h1 (by omega)
  · exact colE_peace (by omega) h2 h0 h1 hs
/-- no two take one another -/
theorem colF_peace {n r s : Int} (h2 : n ≠ 2) (h3 : n ≠ 3) (h0 : 0 ≤ r) (h0' : r < n) (h1 : 0 ≤ s) (h1' : s < n) (hne : r ≠ s) : (colF n r - colF n s).natAbs ≠ 0 ∧ (colF n r - colF n s).natAbs ≠ (r - s).natAbs := by
  rcases Int.lt_or_gt_of_ne hne with h | h
  · have := colF_peace' h2 h3 h0 h h1'
    omega
  · have := colF_peace' h2 h3 h1 h h0'
    omega
end QR

namespace QR
open PySem PySem.Spec PyProof.Rows L2 Evl

def topS (i : Nat) : Stmt := PySem.Challenge.pw_queenrows_k07_one_reason.main.body.getD i (.Pass ⟨0, 0, 0, 0⟩)
/-! is_number : 0:thing 1:least -/
abbrev s_is_number : Stmt := topS 9
abbrev n_is_number : List Str := ["thing", "least"]
theorem sc_is_number : FnScope n_is_number ["thing", "least"] (defScope s_is_number) := ⟨rfl, rfl, rfl, by decide +kernel, rfl, by decide +kernel, by decide +kernel⟩
/-! check_size : 0:size -/
abbrev s_check_size : Stmt := topS 10
abbrev n_check_size : List Str := ["size"]
theorem sc_check_size : FnScope n_check_size ["size"] (defScope s_check_size) := ⟨rfl, rfl, rfl, by decide +kernel, rfl, by decide +kernel, by decide +kernel⟩
/-! check_setting : 0:setting 1:column -/
abbrev s_check_setting : Stmt := topS 11
abbrev n_check_setting : List Str := ["setting", "column"]
theorem sc_check_setting : FnScope n_check_setting ["setting"] (defScope s_check_setting) := ⟨rfl, rfl, rfl, by decide +kernel, rfl, by decide +kernel, by decide +kernel⟩
/-! take : 0:setting 1:one 2:other 3:apart -/
abbrev s_take : Stmt := topS 12
abbrev n_take : List Str := ["setting", "one", "other", "apart"]
theorem sc_take : FnScope n_take ["setting", "one", "other"] (defScope s_take) := ⟨rfl, rfl, rfl, by decide +kernel, rfl, by decide +kernel, by decide +kernel⟩
/-! take_joined : 0:setting 1:one 2:other 3:size 4:on -/
abbrev s_take_joined : Stmt := topS 13
abbrev n_take_joined : List Str := ["setting", "one", "other", "size", "on"]
theorem sc_take_joined : FnScope n_take_joined ["setting", "one", "other"] (defScope s_take_joined) := ⟨rfl, rfl, rfl, by decide +kernel, rfl, by decide +kernel, by decide +kernel⟩
/-! first_taking : 0:setting 1:taking 2:other 3:one -/
abbrev s_first_taking : Stmt := topS 14
abbrev n_first_taking : List Str := ["setting", "taking", "other", "one"]
theorem sc_first_taking : FnScope n_first_taking ["setting", "taking"] (defScope s_first_taking) := ⟨rfl, rfl, rfl, by decide +kernel, rfl, by decide +kernel, by decide +kernel⟩
/-! common : 0:one 1:other -/
abbrev s_common : Stmt := topS 15
abbrev n_common : List Str := ["one", "other"]
theorem sc_common : FnScope n_common ["one", "other"] (defScope s_common) := ⟨rfl, rfl, rfl, by decide +kernel, rfl, by decide +kernel, by decide +kernel⟩
/-! column_of : 0:size 1:row 2:half -/
abbrev s_column_of : Stmt := topS 17
abbrev n_column_of : List Str := ["size", "row", "half"]
theorem sc_column_of : FnScope n_column_of ["size", "row"] (defScope s_column_of) := ⟨rfl, rfl, rfl, by decide +kernel, rfl, by decide +kernel, by decide +kernel⟩
/-! row_at : 0:size 1:column 2:half 3:on -/
abbrev s_row_at : Stmt := topS 18
abbrev n_row_at : List Str := ["size", "column", "half", "on"]
theorem sc_row_at : FnScope n_row_at ["size", "column"] (defScope s_row_at) := ⟨rfl, rfl, rfl, by decide +kernel, rfl, by decide +kernel, by decide +kernel⟩
/-! check_peaceful : 0:size -/
abbrev s_check_peaceful : Stmt := topS 19
abbrev n_check_peaceful : List Str := ["size"]
theorem sc_check_peaceful : FnScope n_check_peaceful ["size"] (defScope s_check_peaceful) := ⟨rfl, rfl, rfl, by decide +kernel, rfl, by decide +kernel, by decide +kernel⟩
/-! check_place : 0:size 1:place -/
abbrev s_check_place : Stmt := topS 20
abbrev n_check_place : List Str := ["size", "place"]
theorem sc_check_place : FnScope n_check_place ["size", "place"] (defScope s_check_place) := ⟨rfl, rfl, rfl, by decide +kernel, rfl, by decide +kernel, by decide +kernel⟩
/-! column : 0:size 1:row -/
abbrev s_column : Stmt := topS 21
abbrev n_column : List Str := ["size", "row"]
theorem sc_column : FnScope n_column ["size", "row"] (defScope s_column) := ⟨rfl, rfl, rfl, by decide +kernel, rfl, by decide +kernel, by decide +kernel⟩
/-! row_of : 0:size 1:column -/
abbrev s_row_of : Stmt := topS 22
abbrev n_row_of : List Str := ["size", "column"]
theorem sc_row_of : FnScope n_row_of ["size", "column"] (defScope s_row_of) := ⟨rfl, rfl, rfl, by decide +kernel, rfl, by decide +kernel, by decide +kernel⟩
/-! setting : 0:size 1:row -/
abbrev s_setting : Stmt := topS 23
abbrev n_setting : List Str := ["size", "row"]
theorem sc_setting : FnScope n_setting ["size"] (defScope s_setting) := ⟨rfl, rfl, rfl, by decide +kernel, rfl, by decide +kernel, by decide +kernel⟩
/-! Peace.shows : 0:self 1:setting -/
abbrev s_Peace_shows : Stmt := inClass (topS 26) 0
abbrev n_Peace_shows : List Str := ["self", "setting"]
theorem sc_Peace_shows : FnScope n_Peace_shows ["self", "setting"] (defScope s_Peace_shows) := ⟨rfl, rfl, rfl, by decide +kernel, rfl, by decide +kernel, by decide +kernel⟩
/-! JoinedPeace.shows : 0:self 1:setting -/
abbrev s_JoinedPeace_shows : Stmt := inClass (topS 27) 0
abbrev n_JoinedPeace_shows : List Str := ["self", "setting"]
theorem sc_JoinedPeace_shows : FnScope n_JoinedPeace_shows ["self", "setting"] (defScope s_JoinedPeace_shows) := ⟨rfl, rfl, rfl, by decide +kernel, rfl, by decide +kernel, by decide +kernel⟩
/-! Take.__init__ : 0:self 1:one 2:other -/
abbrev s_Take___init__ : Stmt := inClass (topS 28) 0
abbrev n_Take___init__ : List Str := ["self", "one", "other"]
theorem sc_Take___init__ : FnScope n_Take___init__ ["self", "one", "other"] (defScope s_Take___init__) := ⟨rfl, rfl, rfl, by decide +kernel, rfl, by decide +kernel, by decide +kernel⟩
/-! Take.shows : 0:self 1:setting -/
abbrev s_Take_shows : Stmt := inClass (topS 28) 1
abbrev n_Take_shows : List Str := ["self", "setting"]
theorem sc_Take_shows : FnScope n_Take_shows ["self", "setting"] (defScope s_Take_shows) := ⟨rfl, rfl, rfl, by decide +kernel, rfl, by decide +kernel, by decide +kernel⟩
/-! JoinedTake.__init__ : 0:self 1:one 2:other -/
abbrev s_JoinedTake___init__ : Stmt := inClass (topS 29) 0
abbrev n_JoinedTake___init__ : List Str := ["self", "one", "other"]
theorem sc_JoinedTake___init__ : FnScope n_JoinedTake___init__ ["self", "one", "other"] (defScope s_JoinedTake___init__) := ⟨rfl, rfl, rfl, by decide +kernel, rfl, by decide +kernel, by decide +kernel⟩
/-! JoinedTake.shows : 0:self 1:setting -/
abbrev s_JoinedTake_shows : Stmt := inClass (topS 29) 1
abbrev n_JoinedTake_shows : List Str := ["self", "setting"]
theorem sc_JoinedTake_shows : FnScope n_JoinedTake_shows ["self", "setting"] (defScope s_JoinedTake_shows) := ⟨rfl, rfl, rfl, by decide +kernel, rfl, by decide +kernel, by decide +kernel⟩
/-! Step.__init__ : 0:self 1:step -/
abbrev s_Step___init__ : Stmt := inClass (topS 30) 0
abbrev n_Step___init__ : List Str := ["self", "step"]
theorem sc_Step___init__ : FnScope n_Step___init__ ["self", "step"] (defScope s_Step___init__) := ⟨rfl, rfl, rfl, by decide +kernel, rfl, by decide +kernel, by decide +kernel⟩
/-! Step.shows : 0:self 1:size 2:more -/
abbrev s_Step_shows : Stmt := inClass (topS 30) 1
abbrev n_Step_shows : List Str := ["self", "size", "more"]
theorem sc_Step_shows : FnScope n_Step_shows ["self", "size"] (defScope s_Step_shows) := ⟨rfl, rfl, rfl, by decide +kernel, rfl, by decide +kernel, by decide +kernel⟩
/-! Barred.__init__ : 0:self 1:by -/
abbrev s_Barred___init__ : Stmt := inClass (topS 31) 0
abbrev n_Barred___init__ : List Str := ["self", "by"]
theorem sc_Barred___init__ : FnScope n_Barred___init__ ["self", "by"] (defScope s_Barred___init__) := ⟨rfl, rfl, rfl, by decide +kernel, rfl, by decide +kernel, by decide +kernel⟩
/-! Barred.shows : 0:self 1:size -/
abbrev s_Barred_shows : Stmt := inClass (topS 31) 1
abbrev n_Barred_shows : List Str := ["self", "size"]
theorem sc_Barred_shows : FnScope n_Barred_shows ["self", "size"] (defScope s_Barred_shows) := ⟨rfl, rfl, rfl, by decide +kernel, rfl, by decide +kernel, by decide +kernel⟩
/-! told : 0:setting 1:found -/
abbrev s_told : Stmt := topS 33
abbrev n_told : List Str := ["setting", "found"]
theorem sc_told : FnScope n_told ["setting"] (defScope s_told) := ⟨rfl, rfl, rfl, by decide +kernel, rfl, by decide +kernel, by decide +kernel⟩
/-! told_joined : 0:setting 1:found -/
abbrev s_told_joined : Stmt := topS 34
abbrev n_told_joined : List Str := ["setting", "found"]
theorem sc_told_joined : FnScope n_told_joined ["setting"] (defScope s_told_joined) := ⟨rfl, rfl, rfl, by decide +kernel, rfl, by decide +kernel, by decide +kernel⟩
/-! step : 0:size 1:by -/
abbrev s_step : Stmt := topS 35
abbrev n_step : List Str := ["size", "by"]
theorem sc_step : FnScope n_step ["size"] (defScope s_step) := ⟨rfl, rfl, rfl, by decide +kernel, rfl, by decide +kernel, by decide +kernel⟩
/-! mirrored : 0:setting 1:column -/
abbrev s_mirrored : Stmt := topS 37
abbrev n_mirrored : List Str := ["setting", "column"]
theorem sc_mirrored : FnScope n_mirrored ["setting"] (defScope s_mirrored) := ⟨rfl, rfl, rfl, by decide +kernel, rfl, by decide +kernel, by decide +kernel⟩
/-! upended : 0:setting -/
abbrev s_upended : Stmt := topS 38
abbrev n_upended : List Str := ["setting"]
theorem sc_upended : FnScope n_upended ["setting"] (defScope s_upended) := ⟨rfl, rfl, rfl, by decide +kernel, rfl, by decide +kernel, by decide +kernel⟩
/-! exchanged : 0:setting 1:row -/
abbrev s_exchanged : Stmt := topS 39
abbrev n_exchanged : List Str := ["setting", "row"]
theorem sc_exchanged : FnScope n_exchanged ["setting"] (defScope s_exchanged) := ⟨rfl, rfl, rfl, by decide +kernel, rfl, by decide +kernel, by decide +kernel⟩
/-! product : 0:outer 1:inner 2:found 3:high 4:low -/
abbrev s_product : Stmt := topS 40
abbrev n_product : List Str := ["outer", "inner", "found", "high", "low"]
theorem sc_product : FnScope n_product ["outer", "inner"] (defScope s_product) := ⟨rfl, rfl, rfl, by decide +kernel, rfl, by decide +kernel, by decide +kernel⟩
/-! _law_refused : 0:_law_ask 1:_law_due 2:_law_found 3:error 4:_law_one -/
abbrev s_law_refused : Stmt := topS 42
abbrev n_law_refused : List Str := ["_law_ask", "_law_due", "_law_found", "error", "_law_one"]
theorem sc_law_refused : FnScope n_law_refused ["_law_ask", "_law_due"] (defScope s_law_refused) := ⟨rfl, rfl, rfl, by decide +kernel, rfl, by decide +kernel, by decide +kernel⟩
/-! _law_sound : 0:_law_thing 1:_law_waiting 2:_law_one -/
abbrev s_law_sound : Stmt := topS 43
abbrev n_law_sound : List Str := ["_law_thing", "_law_waiting", "_law_one"]
theorem sc_law_sound : FnScope n_law_sound ["_law_thing"] (defScope s_law_sound) := ⟨rfl, rfl, rfl, by decide +kernel, rfl, by decide +kernel, by decide +kernel⟩
/-! _law_spoiled : 0:_law_good 1:_law_more 2:_law_odd 3:_law_found 4:_law_at 5:_law_bad -/
abbrev s_law_spoiled : Stmt := topS 44
abbrev n_law_spoiled : List Str := ["_law_good", "_law_more", "_law_odd", "_law_found", "_law_at", "_law_bad"]
theorem sc_law_spoiled : FnScope n_law_spoiled ["_law_good", "_law_more", "_law_odd"] (defScope s_law_spoiled) := ⟨rfl, rfl, rfl, by decide +kernel, rfl, by decide +kernel, by decide +kernel⟩
/-! _law_doors : 0:_law_some 1:_law_asks -/
abbrev s_law_doors : Stmt := topS 45
abbrev n_law_doors : List Str := ["_law_some", "_law_asks"]
theorem sc_law_doors : FnScope n_law_doors ["_law_some"] (defScope s_law_doors) := ⟨rfl, rfl, rfl, by decide +kernel, rfl, by decide +kernel, by decide +kernel⟩
/-! _law_bad_right : 0:_law_more 1:_law_good 2:_law_at 3:_law_odd 4:_law_some 5:_law_ask 6:_law_size 7:_law_asks 8:_law_bad -/
abbrev s_law_bad_right : Stmt := topS 46
abbrev n_law_bad_right : List Str := ["_law_more", "_law_good", "_law_at", "_law_odd", "_law_some", "_law_ask", "_law_size", "_law_asks", "_law_bad"]
theorem sc_law_bad_right : FnScope n_law_bad_right ["_law_more"] (defScope s_law_bad_right) := ⟨rfl, rfl, rfl, by decide +kernel, rfl, by decide +kernel, by decide +kernel⟩
/-! _law_great_right : 0:_law_more 1:_law_great 2:_law_rest 3:_law_size 4:_law_row 5:_law_place 6:_law_found -/
abbrev s_law_great_right : Stmt := topS 47
abbrev n_law_great_right : List Str := ["_law_more", "_law_great", "_law_rest", "_law_size", "_law_row", "_law_place", "_law_found"]
theorem sc_law_great_right : FnScope n_law_great_right ["_law_more"] (defScope s_law_great_right) := ⟨rfl, rfl, rfl, by decide +kernel, rfl, by decide +kernel, by decide +kernel⟩
/-! _law_steps_right : 0:_law_four 1:_law_five 2:_law_rows 3:_law_built 4:_law_size 5:_law_due -/
abbrev s_law_steps_right : Stmt := topS 48
abbrev n_law_steps_right : List Str := ["_law_four", "_law_five", "_law_rows", "_law_built", "_law_size", "_law_due"]
theorem sc_law_steps_right : FnScope n_law_steps_right ["_law_four", "_law_five"] (defScope s_law_steps_right) := ⟨rfl, rfl, rfl, by decide +kernel, rfl, by decide +kernel, by decide +kernel⟩
/-! _law_hand_right : 0:_law_four 1:_law_five 2:_law_rows 3:_law_built 4:_law_some 5:_law_due -/
abbrev s_law_hand_right : Stmt := topS 49
abbrev n_law_hand_right : List Str := ["_law_four", "_law_five", "_law_rows", "_law_built", "_law_some", "_law_due"]
theorem sc_law_hand_right : FnScope n_law_hand_right [] (defScope s_law_hand_right) := ⟨rfl, rfl, rfl, by decide +kernel, rfl, by decide +kernel, by decide +kernel⟩
/-! _law_changed_right : 0:_law_at 1:_law_mine 2:_law_kept 3:_law_first 4:_law_second 5:_law_third 6:_law_row 7:_law_place -/
abbrev s_law_changed_right : Stmt := topS 50
abbrev n_law_changed_right : List Str := ["_law_at", "_law_mine", "_law_kept", "_law_first", "_law_second", "_law_third", "_law_row", "_law_place"]
theorem sc_law_changed_right : FnScope n_law_changed_right ["_law_at"] (defScope s_law_changed_right) := ⟨rfl, rfl, rfl, by decide +kernel, rfl, by decide +kernel, by decide +kernel⟩
/-! law : 0:_law_script 1:_law_more -/
abbrev s_law : Stmt := topS 51
abbrev n_law : List Str := ["_law_script", "_law_more"]
theorem sc_law : FnScope n_law ["_law_script"] (defScope s_law) := ⟨rfl, rfl, rfl, by decide +kernel, rfl, by decide +kernel, by decide +kernel⟩
end QR

namespace QR
open PySem PySem.Spec PyProof.Rows L2 Evl
/-- the built-ins' names are the built-ins' -/
structure Bl (mg : Str → Option Value) : Prop where
  isinstance : mg "isinstance" = none
  int : mg "int" = none
  bool : mg "bool" = none
  list : mg "list" = none
  len : mg "len" = none
  all : mg "all" = none
  any : mg "any" = none
  abs : mg "abs" = none
  range : mg "range" = none
  sum : mg "sum" = none
  min : mg "min" = none
  max : mg "max" = none
  set : mg "set" = none
  enumerate : mg "enumerate" = none
  sorted : mg "sorted" = none
  tuple : mg "tuple" = none
  str : mg "str" = none
  valueError : mg "ValueError" = none
def numB : V → Int → Bool
  | .int i, l => decide (l ≤ i)
  | _, _ => false
def kinds : List String := ["NoneType", "bool", "int", "str", "list", "tuple", "dict"]
theorem num_kit {K : PySem.W.Frag} {H : Hp} {x : V} {n : String} (ty : TyX K H x (.type n)) (hn : n ∈ kinds) :
    (∃ i, x = .int i ∧ n = "int") ∨ (∃ b, x = .bl b ∧ n = "bool") ∨ ((∀ l, numB x l = false) ∧ kitB n "int" = some false) := by
  cases ty with
  | base b =>
    cases b with
    | non => exact .inr (.inr ⟨fun _ => rfl, by decide +kernel⟩)
    | bl b => exact .inr (.inl ⟨b, rfl, rfl⟩)
    | int i => exact .inl ⟨i, rfl, rfl⟩
    | str x => exact .inr (.inr ⟨fun _ => rfl, by decide +kernel⟩)
    | flt x => exact absurd hn (by decide)
    | lst h => exact .inr (.inr ⟨fun _ => rfl, by decide +kernel⟩)
    | frz h => exact .inr (.inr ⟨fun _ => rfl, by decide +kernel⟩)
    | tup h => exact .inr (.inr ⟨fun _ => rfl, by decide +kernel⟩)
    | dK h => exact .inr (.inr ⟨fun _ => rfl, by decide +kernel⟩)
    | dT h => exact .inr (.inr ⟨fun _ => rfl, by decide +kernel⟩)
  | byt b => exact absurd hn (by decide)
  | set h => exact absurd hn (by decide)
  | kList h c => exact .inr (.inr ⟨fun _ => rfl, by decide +kernel⟩)
  | kTuple h c => exact .inr (.inr ⟨fun _ => rfl, by decide +kernel⟩)
  | kDict h c => exact .inr (.inr ⟨fun _ => rfl, by decide +kernel⟩)
  | fTuple h => exact .inr (.inr ⟨fun _ => rfl, by decide +kernel⟩)
  | fDict h => exact .inr (.inr ⟨fun _ => rfl, by decide +kernel⟩)
theorem boot_int' : bootBuiltins "int" = some (.type "int") := by decide +kernel
theorem boot_bool' : bootBuiltins "bool" = some (.type "bool") := by decide +kernel
theorem boot_list' : bootBuiltins "list" = some (.type "list") := by decide +kernel
section
variable {P : Program} {w : World} {K : PySem.W.Frag} {mg : Str → Option Value} {base : Heap}
/-! ### is_number -/
def spIsNum (K : PySem.W.Frag) : Sp := fun vs H Q _ => ∃ (x : V) (l : Int) (n : String), vs = [x, .int l] ∧ TyX K H x (.type n) ∧ n ∈ kinds ∧ RetV (.bl (numB x l)) H Q
theorem ok_is_number {f : Addr} {fd : FuncData} (F : Fun K "is_number" "is_number" s_is_number f fd) (B : Bl mg) : FnOk P w K mg base (L2.CX P w) 1 f fd ["thing", "least"] (spIsNum K) := by
  refine okB F sc_is_number (fun vs H Q E h => ?_) (fun cdv A outer s H vs Q E hr h => ?_)
  · obtain ⟨x, l, n, rfl, _⟩ := h
    rfl
  · obtain ⟨x, l, n, rfl, ty, hn, q⟩ := h
    rcases num_kit ty hn with ⟨i, rfl, rfl⟩ | ⟨b, rfl, rfl⟩ | ⟨hf, hk⟩
    · exact BW.ret (EV.isB (EV.and3 (EV.isT B.isinstance B.int boot_int' (EV.var 0 rfl) ty (k := true) (by decide +kernel)) (fun _ => EV.not (EV.isT B.isinstance B.bool boot_bool' (EV.var 0 rfl) ty (k := false) (by decide +kernel))) (fun _ _ => EV.ge (EV.var 0 rfl) (EV.var 1 rfl))) (by simp [numB])) q
    · exact BW.ret (EV.isB (EV.and3 (k3 := false) (EV.isT B.isinstance B.int boot_int' (EV.var 0 rfl) ty (k := true) (by decide +kernel)) (fun _ => EV.not (EV.isT B.isinstance B.bool boot_bool' (EV.var 0 rfl) ty (k := true) (by decide +kernel))) (fun _ z => nomatch z)) (by simp [numB])) q
    · exact BW.ret (EV.isB (EV.and3 (k2 := false) (k3 := false) (EV.isT B.isinstance B.int boot_int' (EV.var 0 rfl) ty hk) (fun z => nomatch z) (fun z => nomatch z)) (by simp [hf])) q
theorem sv_isnum {H : Hp} {x : V} {l : Int} {n : String} (ty : TyX K H x (.type n)) (hn : n ∈ kinds := by decide) : SpV (spIsNum K) [x, .int l] H (.bl (numB x l)) := fun H1 e1 Q q _ => ⟨x, l, n, rfl, TyX.ex ty e1, hn, q⟩
end
end QR

namespace QR
open PySem PySem.Spec PyProof.Rows L2 Evl
/-! ### the refusals -/
inductive Ek where
  | size | place | setting | none | peace
  deriving DecidableEq
def Ek.name : Ek → Str
  | .size => "BadSize"
  | .place => "BadPlace"
  | .setting => "BadSetting"
  | .none => "NoSetting"
  | .peace => "NoPeace"
structure Xc (K : PySem.W.Frag) (mg : Str → Option Value) (x : Str) (C : Addr) : Prop where
  xP : PySem.W.excIn K C He.veBase "ValueError.__new__" = true
  gP : mg x = some (.ref C)
  kP : PySem.W.keepIn K (.ref C) = true
  bP : PySem.W.subIn K (.ref C) (.type "BaseException") = some true
  tP : PySem.W.typeIn K (.ref C) = some (.type "type")
section
variable {X : Cx} {e a b c : Expr} {es : List Expr} {σ : L2.St} {H : Hp} {D : Ends} {rest : List Stmt} {pos p p2 pos' : Pos} {vs : List V} {x : Str} {W : WX} {C : Addr}
theorem BW.raise {m : Str} {j : Nat} (ec : Xc X.K X.mg x C) (tk : Takes X W) (h : W (.ref C) none σ H) (hc : X.calm = true := by rfl) (hg : Gl X x := by rfl) (hdb : (x == ("__debug__" : Str)) = false := by decide) :
    BW X (.Raise (some (.Call (.Name x p) [.Constant (.str m) j p2] [] pos)) none pos' :: rest) D σ H :=
  BW.cons (ps_raise hc tk (pmk_own PySem.F.excBase_ValueError ec.xP ec.gP ec.kP (raises_own ec.bP ec.tP) hg hdb)) h
/-- f(e, ..) as a statement, f may refuse -/
theorem BW.exprX {sp : Sp} {k j : Nat} {E : XK} (C : Fc X.prog X.w X.K X.mg X.base k x sp) (hr : Room j X.A) (tk : Takes X (fun cls d _ H => E cls d H)) (ha : AV X (e :: es) σ H vs) (hv : ∀ H1, Ex H H1 → sp vs H1 (fun _ H2 => BW X rest D σ H2) E)
    (hk : k ≤ j := by decide) (hg : Gl X x := by rfl) (hs : (e :: es).all noStar = true := by rfl) (hdb : (x == ("__debug__" : Str)) = false := by decide) (hw : swapsWith (.Call (.Name x p) (e :: es) [] pos) none pos'.line X.env = pure false := by rfl) :
    BW X (.Expr (.Call (.Name x p) (e :: es) [] pos) pos' :: rest) D σ H :=
  BW.exprW (EW.callX C hr tk (ha.ev H (Ex.refl H) _ fun H1 e1 => hv H1 e1) hk hg hs hdb) hw
end
/-- what a looking def does: nothing, or a refusal -/
def Res (xa : Ek → Addr) (o : Option Ek) (v : V) (H : Hp) (Q : VK) (E : XK) : Prop := match o with
  | none => RetV v H Q
  | some k => ∀ H2, Ex H H2 → E (.ref (xa k)) none H2
theorem Res.good {xa : Ek → Addr} {o : Option Ek} {v : V} {H : Hp} {Q : VK} {E : XK} (h : Res xa o v H Q E) (ho : o = none) : RetV v H Q := by subst ho; exact h
theorem Res.bad {xa : Ek → Addr} {o : Option Ek} {v : V} {H : Hp} {Q : VK} {E : XK} {k : Ek} (h : Res xa o v H Q E) (ho : o = some k) : ∀ H2, Ex H H2 → E (.ref (xa k)) none H2 := by subst ho; exact h
/-- a def that refuses or gives v -/
def SpX (sp : Sp) (xa : Ek → Addr) (vs : List V) (H : Hp) (o : Option Ek) (v : V) : Prop := ∀ H1, Ex H H1 → ∀ (Q : VK) (E : XK), Res xa o v H1 Q E → sp vs H1 Q E
theorem SpX.v {sp : Sp} {xa : Ek → Addr} {vs : List V} {H : Hp} {v : V} (h : SpX sp xa vs H none v) : SpV sp vs H v := fun H1 e1 Q q E => h H1 e1 Q E q
section
variable {P : Program} {w : World} {K : PySem.W.Frag} {mg : Str → Option Value} {base : Heap} {xa : Ek → Addr}
/-- a value of the kinds that are handed in -/
def Kd? (K : PySem.W.Frag) (H : Hp) (x : V) : Prop := ∃ n : String, TyX K H x (.type n) ∧ n ∈ kinds
theorem Kd?.ex {H H' : Hp} {x : V} (h : Kd? K H x) (e : Ex H H') : Kd? K H' x := let ⟨n, h1, h2⟩ := h; ⟨n, TyX.ex h1 e, h2⟩
theorem Kd?.int {H : Hp} {i : Int} : Kd? K H (.int i) := ⟨"int", .base (.int i), by decide⟩
theorem Kd?.bl {H : Hp} {i : Bool} : Kd? K H (.bl i) := ⟨"bool", .base (.bl i), by decide⟩
theorem Kd?.non {H : Hp} : Kd? K H .non := ⟨"NoneType", .base .non, by decide⟩
theorem Kd?.str {H : Hp} {z : Str} : Kd? K H (.str z) := ⟨"str", .base (.str z), by decide⟩
theorem Kd?.lst {H : Hp} {p : Addr} {xs : List V} (h : SqL K H p xs) : Kd? K H (.ref p) := ⟨"list", ty_list h, by decide⟩
theorem Kd?.tup {H : Hp} {p : Addr} {xs : List V} (h : SqT K H p xs) : Kd? K H (.ref p) := ⟨"tuple", ty_tup h, by decide⟩
theorem sv_isnum' {H : Hp} {x : V} {l : Int} (h : Kd? K H x) : SpV (spIsNum K) [x, .int l] H (.bl (numB x l)) := by
  obtain ⟨n, ty, hn⟩ := h
  exact sv_isnum ty hn
theorem numB_int {x : V} {l : Int} (h : numB x l = true) : ∃ i, x = .int i ∧ l ≤ i := by
  cases x with
  | int i => exact ⟨i, rfl, of_decide_eq_true h⟩
  | _ => exact nomatch h
end
end QR

namespace QR
open PySem PySem.Spec PyProof.Rows L2 Evl
section
variable {P : Program} {w : World} {K : PySem.W.Frag} {mg : Str → Option Value} {base : Heap} {xa : Ek → Addr}
/-! ### check_size -/
def ckSize (x : V) : Option Ek := if numB x 1 = true then none else some .size
def spCkSize (K : PySem.W.Frag) (xa : Ek → Addr) : Sp := fun vs H Q E => ∃ x, vs = [x] ∧ Kd? K H x ∧ Res xa (ckSize x) .non H Q E
theorem ok_check_sizeX {f : Addr} {fd : FuncData} (F : Fun K "check_size" "check_size" s_check_size f fd) (Cn : Fc P w K mg base 1 "is_number" (spIsNum K)) (xS : Xc K mg "BadSize" (xa .size)) : FnOk P w K mg base (L2.CX P w) 2 f fd ["size"] (spCkSize K xa) := by
  refine okR F sc_check_size (fun vs H Q E h => ?_) (fun cdv A outer s H vs Q E hr h => ?_)
  · obtain ⟨n, rfl, _⟩ := h
    rfl
  · obtain ⟨x, rfl, kd, q⟩ := h
    refine BW.when (TV.not (TV.val (EV.call Cn hr (AV.two (EV.var 0 rfl) EV.int) (sv_isnum' kd)))) (fun hk H1 e1 => ?_) (fun hk H1 e1 => ?_)
    · exact BW.raise xS (takes_of rfl rfl rfl rfl) (q.bad (by unfold ckSize; rw [if_neg (by simpa using hk)]) H1 e1)
    · exact BW.nil (q.good (by unfold ckSize; rw [if_pos (by simpa using hk)]) H1 e1)
theorem sx_size {H : Hp} {x : V} (h : Kd? K H x) : SpX (spCkSize K xa) xa [x] H (ckSize x) .non := fun H1 e1 Q E r => ⟨x, rfl, h.ex e1, r⟩
end
end QR

namespace QR
open PySem PySem.Spec PyProof.Rows L2 Evl
/-- the refusals' classes as the head tells them -/
theorem xc_of {K : PySem.W.Frag} {h : Heap} {mg : Str → Option Value} (X : K.In h) (G : h.Ns mainGlobals mg) {x : Str} (g : (He.Fa.glo x).ok K = true) (e : (He.Fa.exc x).ok K = true) : Xc K mg x (ga K x) := by
  obtain ⟨h1, h2, h3, h4⟩ := He.exc_ok e
  exact ⟨h1, He.glo_ok X G g, h2, h3, h4⟩
def excB (ks : List Ek) (K : PySem.W.Frag) : Bool := ks.all fun k => (He.Fa.glo k.name).ok K && (He.Fa.exc k.name).ok K
theorem exc_of {K : PySem.W.Frag} {h : Heap} {mg : Str → Option Value} {ks : List Ek} (X : K.In h) (G : h.Ns mainGlobals mg) (hb : excB ks K = true) (k : Ek) (hk : k ∈ ks) : Xc K mg k.name (ga K k.name) := by
  obtain ⟨h1, h2⟩ := He.ba (List.all_eq_true.mp hb k hk)
  exact xc_of X G h1 h2
abbrev xaOf (K : PySem.W.Frag) : Ek → Addr := fun k => ga K k.name
end QR

namespace QR
open PySem PySem.Spec PyProof.Rows L2 Evl LamX
/-! ### caught refusals -/
structure Xi (K : PySem.W.Frag) (mg : Str → Option Value) (xa : Ek → Addr) (QE : Addr) : Prop where
  exc : ∀ k, ExcC K (xa k)
  kit : ∀ k j, PySem.W.kitOne K (.ref (xa k)) (.ref (xa j)) = some (decide (k = j))
  exm : ∀ k, PySem.W.exmOne K (.ref (xa k)) (.ref QE) = some true
  gQ : mg "QueenError" = some (.ref QE)
  xs : ∀ k, Xc K mg k.name (xa k)
def allEk : List Ek := [.size, .place, .setting, .none, .peace]
theorem mem_allEk (k : Ek) : k ∈ allEk := by cases k <;> decide
def excCB (K : PySem.W.Frag) (D : Addr) : Bool :=
  He.eqO (PySem.W.findIn K (.ref D) "__getattribute__") (some (some (.builtin "BaseException.__getattribute__"))) && (He.eqO (PySem.W.findIn K (.ref D) "__getattr__") (some none) && (decide (PySem.W.subIn K (.ref D) (.type "BaseException") = some true) && (PySem.W.hasDictIn K D &&
    (He.eqO (PySem.W.findIn K (.ref D) "__class__") (some (some (.builtin "object.__class__"))) && (He.eqO (PySem.W.specialIn K (.builtin "object.__class__") "__get__") (some (some (.builtin "getset_descriptor.__get__"))) && (decide (PySem.W.takesIn K (.builtin "object.__class__") = some true) && decide (PySem.W.mroIn K D (.type "object") = some true)))))))
theorem excC_of {K : PySem.W.Frag} {D : Addr} (h : excCB K D = true) : ExcC K D := by
  obtain ⟨h1, h⟩ := He.ba h
  obtain ⟨h2, h⟩ := He.ba h
  obtain ⟨h3, h⟩ := He.ba h
  obtain ⟨h4, h⟩ := He.ba h
  obtain ⟨h5, h⟩ := He.ba h
  obtain ⟨h6, h⟩ := He.ba h
  obtain ⟨h7, h8⟩ := He.ba h
  exact ⟨He.eqO_ok h1, He.eqO_ok h2, of_decide_eq_true h3, h4, He.eqO_ok h5, He.eqO_ok h6, of_decide_eq_true h7, of_decide_eq_true h8⟩
def xiB (K : PySem.W.Frag) : Bool := excB allEk K && ((He.Fa.glo "QueenError").ok K && allEk.all fun k => excCB K (xaOf K k) && (decide (PySem.W.exmOne K (.ref (xaOf K k)) (.ref (ga K "QueenError")) = some true) && allEk.all fun j => decide (PySem.W.kitOne K (.ref (xaOf K k)) (.ref (xaOf K j)) = some (decide (k = j)))))
theorem xi_of {K : PySem.W.Frag} {h : Heap} {mg : Str → Option Value} (X : K.In h) (G : h.Ns mainGlobals mg) (hb : xiB K = true) : Xi K mg (xaOf K) (ga K "QueenError") := by
  obtain ⟨h1, h2⟩ := He.ba hb
  obtain ⟨h3, h4⟩ := He.ba h2
  have key : ∀ k, (excCB K (xaOf K k) && (decide (PySem.W.exmOne K (.ref (xaOf K k)) (.ref (ga K "QueenError")) = some true) && allEk.all fun j => decide (PySem.W.kitOne K (.ref (xaOf K k)) (.ref (xaOf K j)) = some (decide (k = j))))) = true := fun k => List.all_eq_true.mp h4 k (mem_allEk k)
  exact ⟨fun k => excC_of (He.ba (key k)).1, fun k j => of_decide_eq_true (List.all_eq_true.mp (He.ba (He.ba (key k)).2).2 j (mem_allEk j)), fun k => of_decide_eq_true (He.ba (He.ba (key k)).2).1, He.glo_ok X G h3, fun k => exc_of X G h1 k (mem_allEk k)⟩
/-- isinstance(error, class), in the suite -/
theorem EV.isE {X : Cx} {e : Expr} {σ : L2.St} {H : Hp} {a : Addr} {oe : Obj} {pn : List (Addr × Obj)} {xa : Ek → Addr} {QE : Addr} {k : Ek} {x : Str} {p p2 pos : Pos} (j : Ek) (hx : Xi X.K X.mg xa QE) (hz : Zc (.ref (xa k)) none oe) (hf : ∃ vs, oe.data = .fields vs) (m : X.mg "isinstance" = none)
    (he : EV (X.suite a ((a, oe) :: pn)) e σ H (.ref a)) (hn : j.name = x := by rfl) (hg : Gl (X.suite a ((a, oe) :: pn)) "isinstance" := by rfl) (hg2 : Gl (X.suite a ((a, oe) :: pn)) x := by rfl) (hs : noStar e = true := by rfl) (hdb : (x == ("__debug__" : Str)) = false := by decide) :
    EV (X.suite a ((a, oe) :: pn)) (.Call (.Name "isinstance" p) [e, .Name x p2] [] pos) σ H (.bl (decide (k = j))) := by
  subst hn
  refine EV.callB (call_isE (hx.exc k) hz hf) m (by decide +kernel) (AV.two he (EV.glob (hx.xs j).gP hg2 hdb)) (fun H1 e1 Q q => ⟨_, _, _, rfl, (fun u h => h), hx.kit k j, q H1 (Ex.refl H1)⟩) hg (hs := by rw [List.all_cons, hs]; rfl)
theorem bls_range {n : Nat} {i : Nat} {f : Nat → Bool} (h : ∀ r < n, f r = decide (r = i)) : (List.range n).map f = (List.range n).map fun r => decide (r = i) := List.map_congr_left fun r hr => h r (List.mem_range.mp hr)
end QR

namespace QR
open PySem PySem.Spec PyProof.Rows L2 Evl
/-- a class of the program, its fields -/
structure Cs (K : PySem.W.Frag) (mg : Str → Option Value) (x : Str) (C : Addr) (flds : List Str) : Prop extends Ci K mg x C where
  na : ∀ f ∈ flds, NoAttr K C f
end QR

namespace QR
open PySem PySem.Spec PyProof.Rows L2 Evl
section
variable {P : Program} {w : World} {K : PySem.W.Frag} {mg : Str → Option Value} {base : Heap}
/-! ### common -/
def spCommon : Sp := fun vs H Q _ => ∃ a b : Nat, vs = [.int (a : Int), .int (b : Int)] ∧ RetV (.int (Nat.gcd a b : Nat)) H Q
theorem ok_common {f : Addr} {fd : FuncData} (F : Fun K "common" "common" s_common f fd) : FnOk P w K mg base (L2.CX P w) 1 f fd ["one", "other"] spCommon := by
  refine okB F sc_common (fun vs H Q E h => ?_) (fun cdv A outer s H vs Q E hr h => ?_)
  · obtain ⟨a, b, rfl, _⟩ := h
    rfl
  · obtain ⟨a, b, rfl, q⟩ := h
    refine BW.whl (fun m σ' H' => ∃ x y : Nat, σ' = [some (.int (x : Int)), some (.int (y : Int))] ∧ m = y ∧ Nat.gcd x y = Nat.gcd a b ∧ Ex H H') b ⟨a, b, rfl, rfl, rfl, Ex.refl H⟩ ?_
    rintro m σ' H' ⟨x, y, rfl, hm, hg, e⟩
    refine ⟨_, TV.gt (EV.var 1 rfl) EV.int, fun hk H1 e1 => ?_, fun hk H1 e1 => ?_⟩
    · have hy : 0 < (y : Int) := of_decide_eq_true hk
      refine BW.par 0 1 sc_common.nd (EV.var 1 rfl) (EV.mod (EV.var 0 rfl) (EV.var 1 rfl) hy) fun H2 e2 => BW.nil ?_
      refine ⟨x % y, by rw [hm]; exact Nat.mod_lt _ (by omega), y, x % y, ?_, rfl, ?_, (e.trans e1).trans e2⟩
      · show [some (V.int (y : Int)), some (V.int ((x : Int) % (y : Int)))] = _
        rw [Int.natCast_emod]
      · rw [← hg, Nat.gcd_comm x y, Nat.gcd_rec y x, Nat.gcd_comm]
    · have hy : y = 0 := by
        have := of_decide_eq_false hk
        omega
      subst hy
      rw [Nat.gcd_zero_right] at hg
      subst hg
      exact BW.ret (EV.var 0 rfl) fun H2 e2 => q H2 ((e.trans e1).trans e2)
theorem sv_common {H : Hp} {a b : Int} (ha : 0 ≤ a) (hb : 0 ≤ b) : SpV spCommon [.int a, .int b] H (.int (Int.gcd a b : Nat)) := fun H1 e1 Q q _ => by
  obtain ⟨x, rfl⟩ := Int.eq_ofNat_of_zero_le ha
  obtain ⟨y, rfl⟩ := Int.eq_ofNat_of_zero_le hb
  exact ⟨x, y, rfl, q⟩
end
end QR

namespace QR
open PySem PySem.Spec PyProof.Rows L2 Evl
section
variable {P : Program} {w : World} {K : PySem.W.Frag} {mg : Str → Option Value} {base : Heap}
/-! ### __init__ -/
theorem ok_Step_init {f C : Addr} {fd : FuncData} (F : Fun K "__init__" "Step.__init__" s_Step___init__ f fd) (c : Cs K mg "Step" C ["step"]) : FnOk P w K mg base (L2.CX P w) 1 f fd ["self", "step"] (spInit C ["step"]) := by
  refine okB F sc_Step___init__ (fun vs H Q E h => ?_) (fun cdv A outer s H vs Q E hr h => ?_)
  · obtain ⟨q, dx, us, rfl, hl, _⟩ := h
    simpa using hl
  · obtain ⟨q, dx, us, rfl, hl, hq, k⟩ := h
    obtain ⟨v, rfl⟩ : ∃ v, us = [v] := List.length_eq_one_iff.mp hl
    refine BW.setF (EV.var 1 rfl) (EV.var 0 rfl) hq c.cl (c.na _ (by decide)) (by decide) fun H1 e1 => BW.nil (k _ (fun b u hb hu => ?_) upd_same)
    rw [upd_ne hb]
    exact e1 _ _ hu
theorem ok_Barred_init {f C : Addr} {fd : FuncData} (F : Fun K "__init__" "Barred.__init__" s_Barred___init__ f fd) (c : Cs K mg "Barred" C ["by"]) : FnOk P w K mg base (L2.CX P w) 1 f fd ["self", "by"] (spInit C ["by"]) := by
  refine okB F sc_Barred___init__ (fun vs H Q E h => ?_) (fun cdv A outer s H vs Q E hr h => ?_)
  · obtain ⟨q, dx, us, rfl, hl, _⟩ := h
    simpa using hl
  · obtain ⟨q, dx, us, rfl, hl, hq, k⟩ := h
    obtain ⟨v, rfl⟩ : ∃ v, us = [v] := List.length_eq_one_iff.mp hl
    refine BW.setF (EV.var 1 rfl) (EV.var 0 rfl) hq c.cl (c.na _ (by decide)) (by decide) fun H1 e1 => BW.nil (k _ (fun b u hb hu => ?_) upd_same)
    rw [upd_ne hb]
    exact e1 _ _ hu
/-! ### Step.shows, Barred.shows -/
def stepB (t n : Int) : Bool := decide (0 ≤ t) && decide (t < n) && ([-1, 0, 1].all fun m : Int => decide (((Int.gcd n (t + m) : Nat) : Int) = 1))
def barB (b n : Int) : Bool := (decide (b = 2) || decide (b = 3)) && decide (n % b = 0)
def spStepShows (C : Addr) : Sp := fun vs H Q _ => ∃ (q dx : Addr) (t n : Int), vs = [.ref q, .int n] ∧ H q = some (.ins C dx [("step", .int t)]) ∧ 0 ≤ n ∧ RetV (.bl (stepB t n)) H Q
def spBarShows (C : Addr) : Sp := fun vs H Q _ => ∃ (q dx : Addr) (t n : Int), vs = [.ref q, .int n] ∧ H q = some (.ins C dx [("by", .int t)]) ∧ RetV (.bl (barB t n)) H Q
theorem gcd_abs (n x : Int) : Int.gcd n ((x.natAbs : Nat) : Int) = Int.gcd n x := by simp [Int.gcd]
theorem ok_Step_shows {f C : Addr} {fd : FuncData} (F : Fun K "shows" "Step.shows" s_Step_shows f fd) (B : Bl mg) (c : Cs K mg "Step" C ["step"]) (c_is_number : Fc P w K mg base 1 "is_number" (spIsNum K)) (c_common : Fc P w K mg base 1 "common" spCommon) : FnOk P w K mg base (L2.CX P w) 2 f fd ["self", "size"] (spStepShows C) := by
  refine okB F sc_Step_shows (fun vs H Q E h => ?_) (fun cdv A outer s H vs Q E hr h => ?_)
  · obtain ⟨q, dx, t, n, rfl, _⟩ := h
    rfl
  · obtain ⟨q, dx, t, n, rfl, hq, hn, k⟩ := h
    have nd := sc_Step_shows.nd
    have hl : List.lookup ("step" : Str) [(("step" : Str), V.int t)] = some (.int t) := rfl
    have na := c.na "step" (by decide)
    refine BW.when (TV.or2 (TV.not (TV.val (EV.call c_is_number hr (AV.two (EV.fld (EV.var 0 rfl) hq c.cl na hl) EV.int) (sv_isnum (.base (.int t)))))) (fun h1 => (TV.ge (EV.fld (EV.var 0 rfl) hq c.cl na hl) (EV.var 1 rfl)))) (fun hk H1 e1 => ?_) (fun hk H1 e1 => ?_)
    · refine BW.ret EV.bl fun H2 e2 => ?_
      have : stepB t n = false := by
        simp only [numB, Bool.or_eq_true, Bool.not_eq_true', decide_eq_false_iff_not, decide_eq_true_eq] at hk
        unfold stepB
        rcases hk with hk | hk
        · simp [decide_eq_false hk]
        · simp [decide_eq_false (show ¬ t < n by omega)]
      have q := k H2 (e1.trans e2)
      rw [this] at q
      exact q
    · refine BW.ret (EV.isB (EV.allN (bs := [-1, 0, 1].map fun m : Int => decide (((Int.gcd n (t + m) : Nat) : Int) = 1)) B.all (EL.is (LC.tupN (xs := [.int (-1), .int 0, .int 1]) (j := 2) (fun i => .bl (decide (((Int.gcd n (t + [-1, 0, 1].getD i 0) : Nat) : Int) = 1))) nd (blkOk_by (N := n_Step_shows) (sc := defScope s_Step_shows) (by decide +kernel)) (EU.tup (AV.cons (EV.neg EV.int) (AV.cons EV.int (AV.cons EV.int AV.nil)))) (by decide) (fun i y H2 e2 hi s0 H0 C0 cl fp => ?_)).el rfl)) ?_) fun H2 e2 => k H2 (e1.trans e2)
      · obtain ⟨m, rfl, hm⟩ : ∃ m : Int, y = .int m ∧ [-1, 0, 1].getD i 0 = m := by
          match i, hi with
          | 0, hi => exact ⟨-1, (Option.some.inj hi).symm, rfl⟩
          | 1, hi => exact ⟨0, (Option.some.inj hi).symm, rfl⟩
          | 2, hi => exact ⟨1, (Option.some.inj hi).symm, rfl⟩
        rw [hm, ← gcd_abs]
        exact (EV.eq (EV.call c_common hr (AV.two (EV.var 1 rfl) (EV.abs B.abs (EV.add (EV.fld (EV.var 0 rfl) (e2 _ _ (e1 _ _ hq)) c.cl na hl) (EV.var 2 rfl)))) (sv_common hn (by omega))) EV.int)
      · simp only [numB, Bool.or_eq_false_iff, Bool.not_eq_false', decide_eq_true_eq, decide_eq_false_iff_not] at hk
        unfold stepB
        rw [decide_eq_true hk.1, decide_eq_true (show t < n by omega)]
        simp
theorem in23 (b : Int) : inV (.int b) [.int 2, .int 3] = (decide (b = 2) || decide (b = 3)) := by
  simp only [inV, eqV, List.any_cons, List.any_nil, Bool.or_false]
  congr 1 <;> simp [Bool.beq_eq_decide_eq, eq_comm]
theorem ok_Barred_shows {f C : Addr} {fd : FuncData} (F : Fun K "shows" "Barred.shows" s_Barred_shows f fd) (c : Cs K mg "Barred" C ["by"]) : FnOk P w K mg base (L2.CX P w) 2 f fd ["self", "size"] (spBarShows C) := by
  refine okB F sc_Barred_shows (fun vs H Q E h => ?_) (fun cdv A outer s H vs Q E hr h => ?_)
  · obtain ⟨q, dx, t, n, rfl, _⟩ := h
    rfl
  · obtain ⟨q, dx, t, n, rfl, hq, k⟩ := h
    have nd := sc_Barred_shows.nd
    have hl : List.lookup ("by" : Str) [(("by" : Str), V.int t)] = some (.int t) := rfl
    have na := c.na "by" (by decide)
    refine BW.ret (EV.isB (EV.and2 (EV.inU (EV.fld (EV.var 0 rfl) hq c.cl na hl) (EU.tup (AV.cons EV.int (AV.cons EV.int AV.nil)))) (fun h1 => (EV.eq (EV.mod (EV.var 1 rfl) (EV.fld (EV.var 0 rfl) hq c.cl na hl) ?_) EV.int))) ?_) k
    · rw [in23] at h1
      simp at h1
      omega
    · rw [in23]
      rfl
end
end QR

namespace QR
open PySem PySem.Spec PyProof.Rows L2 Evl
/-! ### the classes of the answers -/
inductive Kd where
  | S | B | P | JP | T | JT
  deriving DecidableEq
def Kd.name : Kd → Str
  | .S => "Step"
  | .B => "Barred"
  | .P => "Peace"
  | .JP => "JoinedPeace"
  | .T => "Take"
  | .JT => "JoinedTake"
def Kd.flds : Kd → List Str
  | .S => ["step"]
  | .B => ["by"]
  | .T => ["one", "other"]
  | .JT => ["one", "other"]
  | _ => []
structure Ans (K : PySem.W.Frag) (mg : Str → Option Value) (ad : Kd → Addr) (CA : Addr) : Prop where
  cs : ∀ k, Cs K mg k.name (ad k) k.flds
  kit : ∀ a b, PySem.W.kitOne K (.ref (ad a)) (.ref (ad b)) = some (decide (a = b))
  kitA : ∀ a, PySem.W.kitOne K (.ref (ad a)) (.ref CA) = some true
  gA : mg "Answer" = some (.ref CA)
section
variable {X : Cx} {e a b c o : Expr} {σ : L2.St} {H : Hp} {pos p pf : Pos} {ad : Kd → Addr} {CA : Addr}
/-- isinstance(e, C) of an answer -/
theorem EV.isK (A : Ans X.K X.mg ad CA) (mI : X.mg "isinstance" = none) {k : Kd} (d : Kd) {x : Str} {q dx : Addr} {fs : List (Str × V)} (ha : EV X a σ H (.ref q)) (hq : H q = some (.ins (ad k) dx fs)) (hx : x = d.name := by rfl) (hg : Gl X "isinstance" := by rfl) (hgD : Gl X x := by rfl) (hs : [a, .Name x pf].all noStar = true := by rfl) (hd : (x == ("__debug__" : Str)) = false := by decide) :
    EV X (.Call (.Name "isinstance" p) [a, .Name x pf] [] pos) σ H (.bl (decide (k = d))) :=
  EV.isC mI (A.cs k).toCi (by rw [hx]; exact (A.cs d).mg) ha hq (A.kit k d) hg hgD hs hd
theorem EV.isA (A : Ans X.K X.mg ad CA) (mI : X.mg "isinstance" = none) {k : Kd} {q dx : Addr} {fs : List (Str × V)} (ha : EV X a σ H (.ref q)) (hq : H q = some (.ins (ad k) dx fs)) (hg : Gl X "isinstance" := by rfl) (hgD : Gl X "Answer" := by rfl) (hs : [a, .Name "Answer" pf].all noStar = true := by rfl) :
    EV X (.Call (.Name "isinstance" p) [a, .Name "Answer" pf] [] pos) σ H (.bl true) :=
  EV.isC mI (A.cs k).toCi A.gA ha hq (A.kitA k) hg hgD hs
/-- a field of an answer -/
theorem EV.fldK (A : Ans X.K X.mg ad CA) {k : Kd} {f : Str} {v : V} {q dx : Addr} {fs : List (Str × V)} (h : EV X e σ H (.ref q)) (hq : H q = some (.ins (ad k) dx fs)) (hl : fs.lookup f = some v) (hf : f ∈ k.flds := by decide) (hb : attributeBase e f X.env (eval e X.env) = eval e X.env := by rfl) : EV X (.Attribute e f pos) σ H v :=
  EV.fld h hq (A.cs k).cl ((A.cs k).na f hf) hl hb
/-- isinstance of an answer told by its shape -/
theorem EV.isKX (A : Ans X.K X.mg ad CA) (mI : X.mg "isinstance" = none) {k : Kd} (d : Kd) {x : Str} {fs : List (Str × V)} (ha : EX X a σ H (.ins (ad k) fs)) (hx : x = d.name := by rfl) (hg : Gl X "isinstance" := by rfl) (hgD : Gl X x := by rfl) (hs : [a, .Name x pf].all noStar = true := by rfl) (hd : (x == ("__debug__" : Str)) = false := by decide) :
    EV X (.Call (.Name "isinstance" p) [a, .Name x pf] [] pos) σ H (.bl (decide (k = d))) := by
  have hb : EX X (.Name x pf) σ H (.v (.ref (ad d))) := EX.vv (EV.glob (by rw [hx]; exact (A.cs d).mg) hgD hd)
  refine EV.of (pe_callB call_isi hg mI (by decide +kernel) (pa_all hs) (by decide) (by decide) (star_of (List.all_eq_true.mp hs a List.mem_cons_self) _) (back_any _ (List.all_eq_true.mpr fun e' he => List.all_eq_true.mp hs e' (List.mem_cons_of_mem _ he)))) fun H1 e1 Q q => (AX.two ha hb).ev H1 e1 _ fun vs H2 e2 hvs => ?_
  obtain ⟨u, v, rfl, hu, hv⟩ := hvs.two
  obtain ⟨r, dx, rfl, hr⟩ := hu.ofI
  cases hv.vv
  exact ⟨.ref r, .ref (ad d), .ref (ad k), .ref (ad d), _, rfl, .own _, (A.cs k).toCi.ty hr, A.kit k d, q H2 e2⟩
end
end QR

namespace QR
open PySem PySem.Spec PyProof.Rows L2 Evl
def allKd : List Kd := [.S, .B, .P, .JP, .T, .JT]
theorem allKd_mem (k : Kd) : k ∈ allKd := by cases k <;> decide
def ansB (K : PySem.W.Frag) : Bool := (He.Fa.glo "Answer").ok K && allKd.all fun a => (He.Fa.glo a.name).ok K && ((He.Fa.cls a.name).ok K && (ciB K a.name && ((a.flds.all fun f => (He.Fa.noat a.name f).ok K) && (kitBB K a.name "Answer" true && allKd.all fun b => kitBB K a.name b.name (decide (a = b))))))
theorem ans_of {K : PySem.W.Frag} {h : Heap} {mg : Str → Option Value} (X : K.In h) (G : h.Ns mainGlobals mg) (hb : ansB K = true) : Ans K mg (fun k => ga K k.name) (ga K "Answer") := by
  obtain ⟨h1, h2⟩ := He.ba hb
  have key : ∀ k : Kd, _ := fun k => List.all_eq_true.mp h2 k (allKd_mem k)
  refine ⟨fun k => ?_, fun a b => ?_, fun a => ?_, He.glo_ok X G h1⟩
  · obtain ⟨g, z⟩ := He.ba (key k)
    obtain ⟨c, z⟩ := He.ba z
    obtain ⟨i, z⟩ := He.ba z
    obtain ⟨n, z⟩ := He.ba z
    exact ⟨ci_ok (He.glo_ok X G g) c i, fun f hf => He.noat_ok (List.all_eq_true.mp n f hf)⟩
  · obtain ⟨_, z⟩ := He.ba (key a)
    obtain ⟨_, z⟩ := He.ba z
    obtain ⟨_, z⟩ := He.ba z
    obtain ⟨_, z⟩ := He.ba z
    obtain ⟨_, z⟩ := He.ba z
    exact kit_ok (List.all_eq_true.mp z b (allKd_mem b))
  · obtain ⟨_, z⟩ := He.ba (key a)
    obtain ⟨_, z⟩ := He.ba z
    obtain ⟨_, z⟩ := He.ba z
    obtain ⟨_, z⟩ := He.ba z
    obtain ⟨z, _⟩ := He.ba z
    exact kit_ok z
end QR

namespace QR
open PySem PySem.Spec PyProof.Rows L2 Evl
theorem at_map {ns : List Int} {i : Nat} {y : V} (h : (ns.map V.int)[i]? = some y) : y = .int (ns.getD i 0) ∧ i < ns.length := by
  rw [List.getElem?_map] at h
  have hi : i < ns.length := by
    rcases Nat.lt_or_ge i ns.length with g | g
    · exact g
    · rw [List.getElem?_eq_none g] at h
      cases h
  rw [List.getElem?_eq_getElem hi] at h
  refine ⟨?_, hi⟩
  rw [List.getD_eq_getElem?_getD, List.getElem?_eq_getElem hi]
  exact (Option.some.inj h).symm
/-! ### _law_peace -/
def byOf (n : Int) (j : Bool) : Int := if j = true then n else 5 * n
def upsOf (ns : List Int) (m : Int) : List Int := (List.range ns.length).map fun i : Nat => (ns.getD i 0 + (i : Int)) % m
def downsOf (ns : List Int) (m : Int) : List Int := (List.range ns.length).map fun i : Nat => (ns.getD i 0 - (i : Int)) % m
def peaceB (ns : List Int) (j : Bool) : Bool :=
  decide (((distinct ns : Nat) : Int) = (ns.length : Int)) && (decide (((distinct (upsOf ns (byOf ns.length j)) : Nat) : Int) = (ns.length : Int)) && decide (((distinct (downsOf ns (byOf ns.length j)) : Nat) : Int) = (ns.length : Int)))
theorem ups_len (ns : List Int) (m : Int) : (upsOf ns m).length = ns.length := by simp [upsOf]
theorem downs_len (ns : List Int) (m : Int) : (downsOf ns m).length = ns.length := by simp [downsOf]
end QR

namespace QR
/-! ### peace by columns and slopes, and by two and two -/
def takeB (ns : List Int) (i k : Nat) : Bool := decide ((((ns.getD i 0 - ns.getD k 0).natAbs : Nat) : Int) = 0) || decide ((((ns.getD i 0 - ns.getD k 0).natAbs : Nat) : Int) = ((((i : Int) - (k : Int)).natAbs : Nat) : Int))
def takeJB (ns : List Int) (i k : Nat) : Bool := decide (ns.getD i 0 - ns.getD k 0 = 0) || (decide ((ns.getD i 0 - ns.getD k 0 - (i : Int) + (k : Int)) % (ns.length : Int) = 0) || decide ((ns.getD i 0 - ns.getD k 0 + (i : Int) - (k : Int)) % (ns.length : Int) = 0))
def takes (j : Bool) (ns : List Int) (i k : Nat) : Bool := if j = true then takeJB ns i k else takeB ns i k
theorem nodup_getD (xs : List Int) : xs.Nodup ↔ ∀ i k, i < k → k < xs.length → xs.getD i 0 ≠ xs.getD k 0 := by
  rw [List.Nodup, List.pairwise_iff_getElem]
  constructor
  · intro h i k hik hk
    have := h i k (by omega) hk hik
    simpa [List.getD_eq_getElem?_getD, List.getElem?_eq_getElem hk, List.getElem?_eq_getElem (show i < xs.length by omega)] using this
  · intro h i k hi hk hik
    have := h i k hik hk
    simpa [List.getD_eq_getElem?_getD, List.getElem?_eq_getElem hk, List.getElem?_eq_getElem hi] using this
theorem ups_getD {ns : List Int} {m : Int} {i : Nat} (h : i < ns.length) : (upsOf ns m).getD i 0 = (ns.getD i 0 + (i : Int)) % m := by
  unfold upsOf
  simp [List.getD_eq_getElem?_getD, h]
theorem downs_getD {ns : List Int} {m : Int} {i : Nat} (h : i < ns.length) : (downsOf ns m).getD i 0 = (ns.getD i 0 - (i : Int)) % m := by
  unfold downsOf
  simp [List.getD_eq_getElem?_getD, h]
theorem mod_zero_small {x m : Int} (h1 : -m < x) (h2 : x < m) : x % m = 0 ↔ x = 0 := by
  constructor
  · intro h
    by_cases hx : 0 ≤ x
    · rw [Int.emod_eq_of_lt hx h2] at h
      exact h
    · have : x % m = x + m := by
        have e : x % m = (x + m) % m := by rw [Int.add_emod_right]
        rw [e]
        exact Int.emod_eq_of_lt (by omega) (by omega)
      omega
  · intro h
    subst h
    exact Int.zero_emod m
theorem mod_eq_iff {a b m : Int} : a % m = b % m ↔ (a - b) % m = 0 := Int.emod_eq_emod_iff_emod_sub_eq_zero
theorem peaceB_iff (ns : List Int) (j : Bool) : peaceB ns j = true ↔ ∀ i k : Nat, i < k → k < ns.length → ns.getD i 0 ≠ ns.getD k 0 ∧ (ns.getD i 0 + (i : Int) - (ns.getD k 0 + (k : Int))) % byOf ns.length j ≠ 0 ∧ (ns.getD i 0 - (i : Int) - (ns.getD k 0 - (k : Int))) % byOf ns.length j ≠ 0 := by
  unfold peaceB
  simp only [Bool.and_eq_true, decide_eq_true_eq]
  have c : ∀ xs : List Int, xs.length = ns.length → ((((distinct xs : Nat) : Int) = (ns.length : Int)) ↔ xs.Nodup) := fun xs hl => by
    rw [← distinct_iff, hl]
    omega
  rw [c ns rfl, c _ (ups_len _ _), c _ (downs_len _ _), nodup_getD, nodup_getD, nodup_getD, ups_len, downs_len]
  constructor
  · rintro ⟨h1, h2, h3⟩ i k hik hk
    have a := h2 i k hik hk
    have b := h3 i k hik hk
    rw [ups_getD (by omega), ups_getD hk] at a
    rw [downs_getD (by omega), downs_getD hk] at b
    exact ⟨h1 i k hik hk, fun z => a (mod_eq_iff.mpr z), fun z => b (mod_eq_iff.mpr z)⟩
  · intro h
    refine ⟨fun i k hik hk => (h i k hik hk).1, fun i k hik hk => ?_, fun i k hik hk => ?_⟩
    · rw [ups_getD (by omega), ups_getD hk]
      exact fun z => (h i k hik hk).2.1 (mod_eq_iff.mp z)
    · rw [downs_getD (by omega), downs_getD hk]
      exact fun z => (h i k hik hk).2.2 (mod_eq_iff.mp z)
theorem getD_mem {ns : List Int} {i : Nat} (h : i < ns.length) : ns.getD i 0 ∈ ns := by
  rw [List.getD_eq_getElem?_getD, List.getElem?_eq_getElem h]
  exact List.getElem_mem h
/-- at peace on the board: no two take one another -/
theorem peaceB_false {ns : List Int} (hb : ∀ c ∈ ns, 0 ≤ c ∧ c < (ns.length : Int)) : peaceB ns false = true ↔ ∀ i k : Nat, i < k → k < ns.length → takeB ns i k = false := by
  rw [peaceB_iff]
  refine forall_congr' fun i => forall_congr' fun k => forall_congr' fun hik => forall_congr' fun hk => ?_
  have b1 := hb _ (getD_mem (show i < ns.length by omega))
  have b2 := hb _ (getD_mem hk)
  have m : byOf ns.length false = 5 * (ns.length : Int) := rfl
  unfold takeB
  rw [m, Ne, Ne, Ne, mod_zero_small (by omega) (by omega), mod_zero_small (by omega) (by omega)]
  simp only [Bool.or_eq_false_iff, decide_eq_false_iff_not]
  omega
theorem neg_mod_zero {x m : Int} : (-x) % m = 0 ↔ x % m = 0 := by
  constructor
  · intro h
    exact Int.emod_eq_zero_of_dvd (Int.dvd_neg.mp (Int.dvd_of_emod_eq_zero h))
  · intro h
    exact Int.emod_eq_zero_of_dvd (Int.dvd_neg.mpr (Int.dvd_of_emod_eq_zero h))
theorem peaceB_true {ns : List Int} : peaceB ns true = true ↔ ∀ i k : Nat, i < k → k < ns.length → takeJB ns i k = false := by
  rw [peaceB_iff]
  refine forall_congr' fun i => forall_congr' fun k => forall_congr' fun hik => forall_congr' fun hk => ?_
  have m : byOf ns.length true = (ns.length : Int) := rfl
  unfold takeJB
  rw [m]
  simp only [Bool.or_eq_false_iff, decide_eq_false_iff_not]
  have e1 : ns.getD i 0 + (i : Int) - (ns.getD k 0 + (k : Int)) = ns.getD i 0 - ns.getD k 0 + (i : Int) - (k : Int) := by omega
  have e2 : ns.getD i 0 - (i : Int) - (ns.getD k 0 - (k : Int)) = ns.getD i 0 - ns.getD k 0 - (i : Int) + (k : Int) := by omega
  rw [e1, e2]
  constructor
  · rintro ⟨h1, h2, h3⟩
    exact ⟨by omega, h3, h2⟩
  · rintro ⟨h1, h2, h3⟩
    exact ⟨by omega, h3, h2⟩
theorem peaceB_takes {ns : List Int} (hb : ∀ c ∈ ns, 0 ≤ c ∧ c < (ns.length : Int)) (j : Bool) : peaceB ns j = true ↔ ∀ i k : Nat, i < k → k < ns.length → takes j ns i k = false := by
  cases j with
  | true => exact peaceB_true
  | false => exact peaceB_false hb
end QR

namespace QR
/-! ### the first two that take one another -/
def NoTake (j : Bool) (ns : List Int) : Prop := ∀ b, b < ns.length → ∀ a, a < b → takes j ns a b = false
def IsFirst (j : Bool) (ns : List Int) (a b : Nat) : Prop := (a < b ∧ b < ns.length) ∧ takes j ns a b = true ∧ (∀ b', b' < b → ∀ a', a' < b' → takes j ns a' b' = false) ∧ ∀ a', a' < a → takes j ns a' b = false
def FirstIs (j : Bool) (ns : List Int) : Option (Nat × Nat) → Prop
  | none => NoTake j ns
  | some (a, b) => IsFirst j ns a b
theorem first_in (t : Nat → Bool) : ∀ n, (∀ a, a < n → t a = false) ∨ ∃ a, a < n ∧ t a = true ∧ ∀ a', a' < a → t a' = false
  | 0 => .inl fun a h => by omega
  | n + 1 => by
    rcases first_in t n with h | ⟨a, h1, h2, h3⟩
    · cases ht : t n with
      | true => exact .inr ⟨n, by omega, ht, fun a' ha => h a' ha⟩
      | false =>
        refine .inl fun a ha => ?_
        by_cases han : a < n
        · exact h a han
        · have : a = n := by omega
          subst this
          exact ht
    · exact .inr ⟨a, by omega, h2, h3⟩
theorem first_to (t : Nat → Nat → Bool) : ∀ n, (∀ b, b < n → ∀ a, a < b → t a b = false) ∨ ∃ a b, (a < b ∧ b < n) ∧ t a b = true ∧ (∀ b', b' < b → ∀ a', a' < b' → t a' b' = false) ∧ ∀ a', a' < a → t a' b = false
  | 0 => .inl fun a h => by omega
  | n + 1 => by
    rcases first_to t n with h | ⟨a, b, h1, h2, h3, h4⟩
    · rcases first_in (fun a => t a n) n with g | ⟨a, g1, g2, g3⟩
      · refine .inl fun b hb a ha => ?_
        by_cases hbn : b < n
        · exact h b hbn a ha
        · have : b = n := by omega
          subst this
          exact g a ha
      · exact .inr ⟨a, n, ⟨g1, by omega⟩, g2, h, g3⟩
    · exact .inr ⟨a, b, ⟨h1.1, by omega⟩, h2, h3, h4⟩
theorem first_ex (j : Bool) (ns : List Int) : ∃ o, FirstIs j ns o := by
  rcases first_to (takes j ns) ns.length with h | ⟨a, b, h1, h2, h3, h4⟩
  · exact ⟨none, h⟩
  · exact ⟨some (a, b), h1, h2, h3, h4⟩
theorem first_one {j : Bool} {ns : List Int} {a b a' b' : Nat} (h : IsFirst j ns a b) (g : IsFirst j ns a' b') : a = a' ∧ b = b' := by
  obtain ⟨h1, h2, h3, h4⟩ := h
  obtain ⟨g1, g2, g3, g4⟩ := g
  have hb : b = b' := by
    rcases Nat.lt_trichotomy b b' with z | z | z
    · have := g3 b z a h1.1
      rw [h2] at this
      cases this
    · exact z
    · have := h3 b' z a' g1.1
      rw [g2] at this
      cases this
  subst hb
  refine ⟨?_, rfl⟩
  rcases Nat.lt_trichotomy a a' with z | z | z
  · have := g4 a z
    rw [h2] at this
    cases this
  · exact z
  · have := h4 a' z
    rw [g2] at this
    cases this
theorem first_none {j : Bool} {ns : List Int} {o : Option (Nat × Nat)} (h : FirstIs j ns o) (g : NoTake j ns) : o = none := by
  cases o with
  | none => rfl
  | some p =>
    obtain ⟨h1, h2, _, _⟩ := (h : IsFirst j ns p.1 p.2)
    have := g p.2 h1.2 p.1 h1.1
    rw [h2] at this
    cases this
theorem first_some {j : Bool} {ns : List Int} {o : Option (Nat × Nat)} {a b : Nat} (h : FirstIs j ns o) (g : IsFirst j ns a b) : o = some (a, b) := by
  cases o with
  | none =>
    obtain ⟨g1, g2, _, _⟩ := g
    have := (h : NoTake j ns) b g1.2 a g1.1
    rw [g2] at this
    cases this
  | some p =>
    obtain ⟨e1, e2⟩ := first_one (h : IsFirst j ns p.1 p.2) g
    obtain ⟨p1, p2⟩ := p
    simp only at e1 e2
    rw [e1, e2]
theorem first_peace {j : Bool} {ns : List Int} {o : Option (Nat × Nat)} (hb : ∀ c ∈ ns, 0 ≤ c ∧ c < (ns.length : Int)) (h : FirstIs j ns o) : o.isNone = peaceB ns j := by
  cases o with
  | none =>
    have : peaceB ns j = true := (peaceB_takes hb j).mpr fun i k hik hk => (h : NoTake j ns) k hk i hik
    rw [this]
    rfl
  | some p =>
    obtain ⟨h1, h2, _, _⟩ := (h : IsFirst j ns p.1 p.2)
    cases hp : peaceB ns j with
    | false => rfl
    | true =>
      have := (peaceB_takes hb j).mp hp p.1 p.2 h1.1 h1.2
      rw [h2] at this
      cases this
/-- the search as a function, to be run -/
def firstF (j : Bool) (ns : List Int) : Option (Nat × Nat) := (List.range ns.length).findSome? fun b => ((List.range b).find? fun a => takes j ns a b).map fun a => (a, b)
end QR

namespace QR
/-! ### settings made of others -/
def Bd (ns : List Int) : Prop := ∀ c ∈ ns, 0 ≤ c ∧ c < (ns.length : Int)
def mirL (ns : List Int) : List Int := ns.map fun c => (ns.length : Int) - 1 - c
def exL (ns : List Int) : List Int := (List.range ns.length).map fun r : Nat => ((ns.idxOf (r : Int) : Nat) : Int)
def prodL (o i : List Int) : List Int := (List.range (o.length * i.length)).map fun r : Nat => o.getD (r / i.length) 0 * (i.length : Int) + i.getD (r % i.length) 0
theorem mirL_len (ns : List Int) : (mirL ns).length = ns.length := by simp [mirL]
theorem mirL_bd {ns : List Int} (h : Bd ns) : Bd (mirL ns) := by
  intro c hc
  rw [mirL_len]
  obtain ⟨d, hd, rfl⟩ := List.mem_map.mp hc
  have := h d hd
  omega
theorem rev_bd {ns : List Int} (h : Bd ns) : Bd ns.reverse := fun c hc => by
  rw [List.length_reverse]
  exact h c (List.mem_reverse.mp hc)
theorem prodL_len (o i : List Int) : (prodL o i).length = o.length * i.length := by simp [prodL]
theorem prodL_getD {o i : List Int} {r : Nat} (h : r < o.length * i.length) : (prodL o i).getD r 0 = o.getD (r / i.length) 0 * (i.length : Int) + i.getD (r % i.length) 0 := by
  unfold prodL
  simp [List.getD_eq_getElem?_getD, h]
theorem bd_getD {ns : List Int} (h : Bd ns) {i : Nat} (hi : i < ns.length) : 0 ≤ ns.getD i 0 ∧ ns.getD i 0 < (ns.length : Int) := h _ (getD_mem hi)
theorem prodL_bd {o i : List Int} (ho : Bd o) (hi : Bd i) (h1 : 0 < i.length) : Bd (prodL o i) := by
  intro c hc
  rw [prodL_len]
  unfold prodL at hc
  obtain ⟨r, hr, rfl⟩ := List.mem_map.mp hc
  have hr := List.mem_range.mp hr
  have a := bd_getD ho (i := r / i.length) (Nat.div_lt_of_lt_mul (by rw [Nat.mul_comm]; exact hr))
  have b := bd_getD hi (i := r % i.length) (Nat.mod_lt _ h1)
  generalize o.getD (r / i.length) 0 = x at a
  generalize i.getD (r % i.length) 0 = y at b
  rw [Int.natCast_mul]
  constructor
  · have := Int.mul_nonneg a.1 (show (0 : Int) ≤ (i.length : Int) by omega)
    omega
  · have h2 : (x + 1) * (i.length : Int) ≤ (o.length : Int) * (i.length : Int) := Int.mul_le_mul_of_nonneg_right (by omega) (by omega)
    rw [Int.add_mul, Int.one_mul] at h2
    omega
/-- taking one another, by places -/
theorem takeB_iff (ns : List Int) (a b : Nat) : takeB ns a b = true ↔ ns.getD a 0 = ns.getD b 0 ∨ ns.getD a 0 - ns.getD b 0 = (a : Int) - (b : Int) ∨ ns.getD a 0 - ns.getD b 0 = (b : Int) - (a : Int) := by
  unfold takeB
  rw [Bool.or_eq_true, decide_eq_true_eq, decide_eq_true_eq]
  omega
theorem takeJB_iff (ns : List Int) (a b : Nat) : takeJB ns a b = true ↔ ns.getD a 0 = ns.getD b 0 ∨ (ns.getD a 0 - ns.getD b 0 - ((a : Int) - (b : Int))) % (ns.length : Int) = 0 ∨ (ns.getD a 0 - ns.getD b 0 + ((a : Int) - (b : Int))) % (ns.length : Int) = 0 := by
  unfold takeJB
  rw [Bool.or_eq_true, Bool.or_eq_true, decide_eq_true_eq, decide_eq_true_eq, decide_eq_true_eq]
  rw [show ns.getD a 0 - ns.getD b 0 - (a : Int) + (b : Int) = ns.getD a 0 - ns.getD b 0 - ((a : Int) - (b : Int)) by omega, show ns.getD a 0 - ns.getD b 0 + (a : Int) - (b : Int) = ns.getD a 0 - ns.getD b 0 + ((a : Int) - (b : Int)) by omega]
  constructor
  · rintro (h | h | h)
    · exact .inl (by omega)
    · exact .inr (.inl h)
    · exact .inr (.inr h)
  · rintro (h | h | h)
    · exact .inl (by omega)
    · exact .inr (.inl h)
    · exact .inr (.inr h)
theorem takeJB_symm {ns : List Int} {a b : Nat} (h : takeJB ns a b = true) : takeJB ns b a = true := by
  rw [takeJB_iff] at h ⊢
  rcases h with h | h | h
  · exact .inl h.symm
  · refine .inr (.inl ?_)
    rw [← neg_mod_zero, show -(ns.getD b 0 - ns.getD a 0 - ((b : Int) - (a : Int))) = ns.getD a 0 - ns.getD b 0 - ((a : Int) - (b : Int)) by omega]
    exact h
  · refine .inr (.inr ?_)
    rw [← neg_mod_zero, show -(ns.getD b 0 - ns.getD a 0 + ((b : Int) - (a : Int))) = ns.getD a 0 - ns.getD b 0 + ((a : Int) - (b : Int)) by omega]
    exact h
theorem takeB_symm {ns : List Int} {a b : Nat} (h : takeB ns a b = true) : takeB ns b a = true := by
  rw [takeB_iff] at h ⊢
  omega
theorem noTake_ne {j : Bool} {ns : List Int} (h : NoTake j ns) {a b : Nat} (ha : a < ns.length) (hb : b < ns.length) (ht : takes j ns a b = true) : a = b := by
  rcases Nat.lt_trichotomy a b with z | z | z
  · rw [h b hb a z] at ht
    cases ht
  · exact z
  · have : takes j ns b a = true := by
      cases j with
      | true => exact takeJB_symm ht
      | false => exact takeB_symm ht
    rw [h a ha b z] at this
    cases this
theorem mul_add_mod {x y w : Int} : (x * w + y) % w = y % w := by
  rw [Int.add_comm, Int.add_mul_emod_self_right]
theorem mul_mod_zero {x n w : Int} (hw : 0 < w) : (x * w) % (n * w) = 0 ↔ x % n = 0 := by
  rw [Int.mul_comm x w, Int.mul_comm n w, Int.mul_emod_mul_of_pos _ _ hw]
  constructor
  · intro h
    rcases Int.mul_eq_zero.mp h with z | z
    · omega
    · exact z
  · intro h
    rw [h, Int.mul_zero]
/-- two places of the product: the inner ones are one -/
theorem prod_inner {i : List Int} (hi : NoTake true i) {b b' : Nat} (hb : b < i.length) (hb' : b' < i.length) {z : Int} (h : (i.getD b 0 - i.getD b' 0 - ((b : Int) - (b' : Int))) % (i.length : Int) = 0 ∨ (i.getD b 0 - i.getD b' 0 + ((b : Int) - (b' : Int))) % (i.length : Int) = 0) : b = b' :=
  noTake_ne hi hb hb' ((takeJB_iff i b b').mpr (.inr h))
theorem div_split {r n w : Nat} (hw : 0 < w) (h : r < n * w) : r / w < n ∧ r % w < w ∧ (r : Int) = ((r / w : Nat) : Int) * (w : Int) + ((r % w : Nat) : Int) := by
  refine ⟨Nat.div_lt_of_lt_mul (by rw [Nat.mul_comm]; exact h), Nat.mod_lt _ hw, ?_⟩
  have := Nat.div_add_mod r w
  rw [← Int.natCast_mul, ← Int.natCast_add]
  rw [Nat.mul_comm] at this
  omega
theorem prod_peace {o i : List Int} (ho : NoTake false o) (hi : NoTake true i) (bo : Bd o) (bi : Bd i) (h1 : 0 < i.length) : NoTake false (prodL o i) := by
  intro s hs r hrs
  rw [prodL_len] at hs
  cases ht : takes false (prodL o i) r s with
  | false => rfl
  | true =>
    exfalso
    have hr : r < o.length * i.length := by omega
    have ht' := (takeB_iff _ _ _).mp ht
    rw [prodL_getD hr, prodL_getD hs] at ht'
    obtain ⟨a1, b1, e1⟩ := div_split h1 hr
    obtain ⟨a2, b2, e2⟩ := div_split h1 hs
    have ba := bd_getD bi b1
    have bb := bd_getD bi b2
    have hw : (0 : Int) < (i.length : Int) := by omega
    -- the inner places
    have hin : r % i.length = s % i.length := by
      generalize hq1 : r / i.length = a at *
      generalize hq2 : s / i.length = a' at *
      generalize hq3 : r % i.length = b at *
      generalize hq4 : s % i.length = b' at *
      rw [e1, e2] at ht'
      generalize o.getD a 0 = x at *
      generalize o.getD a' 0 = x' at *
      rcases ht' with h | h | h
      · have := congrArg (· % (i.length : Int)) h
        simp only [mul_add_mod] at this
        rw [Int.emod_eq_of_lt ba.1 ba.2, Int.emod_eq_of_lt bb.1 bb.2] at this
        exact noTake_ne hi b1 b2 ((takeJB_iff i b b').mpr (.inl this))
      · refine prod_inner (z := 0) hi b1 b2 (.inl ?_)
        have e : i.getD b 0 - i.getD b' 0 - ((b : Int) - (b' : Int)) = (-(x - x' - ((a : Int) - (a' : Int)))) * (i.length : Int) + 0 := by
          rw [Int.neg_mul, Int.sub_mul, Int.sub_mul, Int.sub_mul]
          omega
        rw [e, mul_add_mod]
        rfl
      · refine prod_inner (z := 0) hi b1 b2 (.inr ?_)
        have e : i.getD b 0 - i.getD b' 0 + ((b : Int) - (b' : Int)) = (-(x - x' + ((a : Int) - (a' : Int)))) * (i.length : Int) + 0 := by
          rw [Int.neg_mul, Int.add_mul, Int.sub_mul, Int.sub_mul]
          omega
        rw [e, mul_add_mod]
        rfl
    have hout : r / i.length = s / i.length := by
      rw [hin] at ht' e1
      generalize hq1 : r / i.length = a at *
      generalize hq2 : s / i.length = a' at *
      generalize s % i.length = b' at *
      refine noTake_ne ho a1 a2 ((takeB_iff o a a').mpr ?_)
      rw [e1, e2] at ht'
      generalize o.getD a 0 = x at *
      generalize o.getD a' 0 = x' at *
      rcases ht' with h | h | h
      · refine .inl (Int.eq_of_mul_eq_mul_right (show (i.length : Int) ≠ 0 by omega) (by omega))
      · refine .inr (.inl (Int.eq_of_mul_eq_mul_right (show (i.length : Int) ≠ 0 by omega) ?_))
        rw [Int.sub_mul, Int.sub_mul]
        omega
      · refine .inr (.inr (Int.eq_of_mul_eq_mul_right (show (i.length : Int) ≠ 0 by omega) ?_))
        rw [Int.sub_mul, Int.sub_mul]
        omega
    have : r = s := by
      have := Nat.div_add_mod r i.length
      have := Nat.div_add_mod s i.length
      rw [hin, hout] at *
      omega
    omega
theorem prod_joined {o i : List Int} (hi : NoTake true i) (bi : Bd i) (h1 : 0 < i.length) (ho1 : 0 < o.length) : NoTake true (prodL o i) ↔ NoTake true o := by
  have hw : (0 : Int) < (i.length : Int) := by omega
  constructor
  · intro h
    intro b hb a hab
    cases ht : takes true o a b with
    | false => rfl
    | true =>
      exfalso
      have hb' : b * i.length < o.length * i.length := Nat.mul_lt_mul_of_pos_right hb h1
      have ha' : a * i.length < o.length * i.length := Nat.mul_lt_mul_of_pos_right (by omega) h1
      have hlt : a * i.length < b * i.length := Nat.mul_lt_mul_of_pos_right hab h1
      have key : takes true (prodL o i) (a * i.length) (b * i.length) = true := by
        refine (takeJB_iff _ _ _).mpr ?_
        rw [prodL_getD ha', prodL_getD hb', prodL_len, Nat.mul_div_cancel _ h1, Nat.mul_div_cancel _ h1, Nat.mul_mod_left, Nat.mul_mod_left, Int.natCast_mul, Int.natCast_mul, Int.natCast_mul]
        have ht' := (takeJB_iff _ _ _).mp ht
        generalize o.getD a 0 = x at *
        generalize o.getD b 0 = y at *
        rcases ht' with h | h | h
        · exact .inl (by rw [h])
        · refine .inr (.inl ?_)
          rw [show x * (i.length : Int) + i.getD 0 0 - (y * (i.length : Int) + i.getD 0 0) - ((a : Int) * (i.length : Int) - (b : Int) * (i.length : Int)) = (x - y - ((a : Int) - (b : Int))) * (i.length : Int) by rw [Int.sub_mul, Int.sub_mul, Int.sub_mul]; omega, mul_mod_zero hw]
          exact h
        · refine .inr (.inr ?_)
          rw [show x * (i.length : Int) + i.getD 0 0 - (y * (i.length : Int) + i.getD 0 0) + ((a : Int) * (i.length : Int) - (b : Int) * (i.length : Int)) = (x - y + ((a : Int) - (b : Int))) * (i.length : Int) by rw [Int.add_mul, Int.sub_mul, Int.sub_mul]; omega, mul_mod_zero hw]
          exact h
      have := h (b * i.length) (by rw [prodL_len]; exact hb') (a * i.length) hlt
      rw [key] at this
      cases this
  · intro ho
    intro s hs r hrs
    rw [prodL_len] at hs
    cases ht : takes true (prodL o i) r s with
    | false => rfl
    | true =>
      exfalso
      have hr : r < o.length * i.length := by omega
      have ht' := (takeJB_iff _ _ _).mp ht
      rw [prodL_getD hr, prodL_getD hs, prodL_len, Int.natCast_mul] at ht'
      obtain ⟨a1, b1, e1⟩ := div_split h1 hr
      obtain ⟨a2, b2, e2⟩ := div_split h1 hs
      have ba := bd_getD bi b1
      have bb := bd_getD bi b2
      have red : ∀ x : Int, x % ((o.length : Int) * (i.length : Int)) = 0 → x % (i.length : Int) = 0 := fun x hx => Int.emod_eq_zero_of_dvd (Int.dvd_trans (Int.dvd_mul_left _ _) (Int.dvd_of_emod_eq_zero hx))
      have hin : r % i.length = s % i.length := by
        generalize hq1 : r / i.length = a at *
        generalize hq2 : s / i.length = a' at *
        generalize hq3 : r % i.length = b at *
        generalize hq4 : s % i.length = b' at *
        rw [e1, e2] at ht'
        generalize o.getD a 0 = x at *
        generalize o.getD a' 0 = x' at *
        rcases ht' with h | h | h
        · have := congrArg (· % (i.length : Int)) h
          simp only [mul_add_mod] at this
          rw [Int.emod_eq_of_lt ba.1 ba.2, Int.emod_eq_of_lt bb.1 bb.2] at this
          exact noTake_ne hi b1 b2 ((takeJB_iff i b b').mpr (.inl this))
        · refine prod_inner (z := 0) hi b1 b2 (.inl ?_)
          have h := red _ h
          rw [show x * (i.length : Int) + i.getD b 0 - (x' * (i.length : Int) + i.getD b' 0) - ((a : Int) * (i.length : Int) + (b : Int) - ((a' : Int) * (i.length : Int) + (b' : Int))) = (x - x' - ((a : Int) - (a' : Int))) * (i.length : Int) + (i.getD b 0 - i.getD b' 0 - ((b : Int) - (b' : Int))) by rw [Int.sub_mul, Int.sub_mul, Int.sub_mul]; omega, mul_add_mod] at h
          exact h
        · refine prod_inner (z := 0) hi b1 b2 (.inr ?_)
          have h := red _ h
          rw [show x * (i.length : Int) + i.getD b 0 - (x' * (i.length : Int) + i.getD b' 0) + ((a : Int) * (i.length : Int) + (b : Int) - ((a' : Int) * (i.length : Int) + (b' : Int))) = (x - x' + ((a : Int) - (a' : Int))) * (i.length : Int) + (i.getD b 0 - i.getD b' 0 + ((b : Int) - (b' : Int))) by rw [Int.add_mul, Int.sub_mul, Int.sub_mul]; omega, mul_add_mod] at h
          exact h
      have hout : r / i.length = s / i.length := by
        rw [hin] at ht' e1
        generalize hq1 : r / i.length = a at *
        generalize hq2 : s / i.length = a' at *
        generalize s % i.length = b' at *
        refine noTake_ne ho a1 a2 ((takeJB_iff o a a').mpr ?_)
        rw [e1, e2] at ht'
        generalize o.getD a 0 = x at *
        generalize o.getD a' 0 = x' at *
        rcases ht' with h | h | h
        · exact .inl (Int.eq_of_mul_eq_mul_right (show (i.length : Int) ≠ 0 by omega) (by omega))
        · refine .inr (.inl ?_)
          rw [show x * (i.length : Int) + i.getD b' 0 - (x' * (i.length : Int) + i.getD b' 0) - ((a : Int) * (i.length : Int) + (b' : Int) - ((a' : Int) * (i.length : Int) + (b' : Int))) = (x - x' - ((a : Int) - (a' : Int))) * (i.length : Int) by rw [Int.sub_mul, Int.sub_mul, Int.sub_mul]; omega, mul_mod_zero hw] at h
          exact h
        · refine .inr (.inr ?_)
          rw [show x * (i.length : Int) + i.getD b' 0 - (x' * (i.length : Int) + i.getD b' 0) + ((a : Int) * (i.length : Int) + (b' : Int) - ((a' : Int) * (i.length : Int) + (b' : Int))) = (x - x' + ((a : Int) - (a' : Int))) * (i.length : Int) by rw [Int.add_mul, Int.sub_mul, Int.sub_mul]; omega, mul_mod_zero hw] at h
          exact h
      have : r = s := by
        have := Nat.div_add_mod r i.length
        have := Nat.div_add_mod s i.length
        rw [hin, hout] at *
        omega
      omega
/-! ### every row is some column -/
theorem nodup_sub : ∀ (l m : List Int), l.Nodup → (∀ x ∈ l, x ∈ m) → l.length ≤ m.length
  | [], _, _, _ => Nat.zero_le _
  | x :: l, m, hn, hs => by
    have hx : x ∈ m := hs x List.mem_cons_self
    rw [List.nodup_cons] at hn
    have := nodup_sub l (m.erase x) hn.2 fun y hy => (List.mem_erase_of_ne (fun e : y = x => hn.1 (by rw [← e]; exact hy))).mpr (hs y (List.mem_cons_of_mem _ hy))
    rw [List.length_erase_of_mem hx] at this
    have : 0 < m.length := List.length_pos_of_mem hx
    rw [List.length_cons]
    omega
theorem all_cols {ns : List Int} (hp : NoTake false ns) (hb : Bd ns) {r : Nat} (hr : r < ns.length) : (r : Int) ∈ ns := by
  have hn : ns.Nodup := by
    rw [nodup_getD]
    intro i k hik hk e
    have := hp k hk i hik
    have ht : takes false ns i k = true := (takeB_iff ns i k).mpr (.inl e)
    rw [ht] at this
    cases this
  apply Classical.byContradiction
  intro hm
  have h := nodup_sub ns (((List.range ns.length).map fun i : Nat => (i : Int)).erase (r : Int)) hn fun x hx => by
    refine (List.mem_erase_of_ne (fun e : x = (r : Int) => hm (by rw [← e]; exact hx))).mpr ?_
    have := hb x hx
    exact List.mem_map.mpr ⟨x.toNat, List.mem_range.mpr (by omega), by omega⟩
  rw [List.length_erase_of_mem (List.mem_map.mpr ⟨r, List.mem_range.mpr hr, rfl⟩)] at h
  simp at h
  omega
theorem exL_len (ns : List Int) : (exL ns).length = ns.length := by simp [exL]
theorem exL_bd {ns : List Int} (hp : NoTake false ns) (hb : Bd ns) : Bd (exL ns) := by
  intro c hc
  rw [exL_len]
  unfold exL at hc
  obtain ⟨r, hr, rfl⟩ := List.mem_map.mp hc
  have := List.idxOf_lt_length_of_mem (all_cols hp hb (List.mem_range.mp hr))
  omega
end QR

namespace QR
open PySem PySem.Spec PyProof.Rows L2 Evl
section
variable {P : Program} {w : World} {K : PySem.W.Frag} {mg : Str → Option Value} {base : Heap} {xa : Ek → Addr}
/-! ### take, take_joined -/
def spTk (K : PySem.W.Frag) (j : Bool) : Sp := fun vs H Q _ => ∃ (q : Addr) (ns : List Int) (a b : Nat), vs = [.ref q, .int (a : Int), .int (b : Int)] ∧ SqL K H q (ns.map V.int) ∧ a < ns.length ∧ b < ns.length ∧ RetV (.bl (takes j ns a b)) H Q
theorem ok_take {f : Addr} {fd : FuncData} (F : Fun K "take" "take" s_take f fd) (B : Bl mg) : FnOk P w K mg base (L2.CX P w) 1 f fd ["setting", "one", "other"] (spTk K false) := by
  refine okB F sc_take (fun vs H Q E h => ?_) (fun cdv A outer s H vs Q E hr h => ?_)
  · obtain ⟨q, ns, a, b, rfl, _⟩ := h
    rfl
  · obtain ⟨q, ns, a, b, rfl, hq, ha, hb, k⟩ := h
    have nd := sc_take.nd
    refine BW.asg 3 nd (EV.abs B.abs (EV.sub (EV.ixL (EV.var 0 rfl) (EV.var 1 rfl) hq (at_ints ha)) (EV.ixL (EV.var 0 rfl) (EV.var 2 rfl) hq (at_ints hb)))) fun H1 e1 => ?_
    exact BW.ret (EV.or2 (EV.eq (EV.var 3 rfl) EV.int) (fun _ => EV.eq (EV.var 3 rfl) (EV.abs B.abs (EV.sub (EV.var 1 rfl) (EV.var 2 rfl))))) fun H2 e2 => k H2 (e1.trans e2)
theorem ok_take_joined {f : Addr} {fd : FuncData} (F : Fun K "take_joined" "take_joined" s_take_joined f fd) (B : Bl mg) : FnOk P w K mg base (L2.CX P w) 1 f fd ["setting", "one", "other"] (spTk K true) := by
  refine okB F sc_take_joined (fun vs H Q E h => ?_) (fun cdv A outer s H vs Q E hr h => ?_)
  · obtain ⟨q, ns, a, b, rfl, _⟩ := h
    rfl
  · obtain ⟨q, ns, a, b, rfl, hq, ha, hb, k⟩ := h
    have nd := sc_take_joined.nd
    have hlen : ((ns.map V.int).length : Int) = (ns.length : Int) := by simp
    refine BW.asg 3 nd (EV.isI (EV.len B.len (EV.var 0 rfl) hq) hlen) fun H1 e1 => ?_
    refine BW.asg 4 nd (EV.sub (EV.ixL (EV.var 0 rfl) (EV.var 1 rfl) (ex_l e1 hq) (at_ints ha)) (EV.ixL (EV.var 0 rfl) (EV.var 2 rfl) (ex_l e1 hq) (at_ints hb))) fun H2 e2 => ?_
    exact BW.ret (EV.or3 (EV.eq (EV.var 4 rfl) EV.int) (fun _ => EV.eq (EV.mod (EV.add (EV.sub (EV.var 4 rfl) (EV.var 1 rfl)) (EV.var 2 rfl)) (EV.var 3 rfl) (by omega)) EV.int) (fun _ _ => EV.eq (EV.mod (EV.sub (EV.add (EV.var 4 rfl) (EV.var 1 rfl)) (EV.var 2 rfl)) (EV.var 3 rfl) (by omega)) EV.int)) fun H3 e3 => k H3 ((e1.trans e2).trans e3)
theorem sv_tk {H : Hp} {j : Bool} {q : Addr} {ns : List Int} {a b : Nat} (hq : SqL K H q (ns.map V.int)) (ha : a < ns.length) (hb : b < ns.length) : SpV (spTk K j) [.ref q, .int (a : Int), .int (b : Int)] H (.bl (takes j ns a b)) := fun H1 e1 Q k _ => ⟨q, ns, a, b, rfl, ex_l e1 hq, ha, hb, k⟩
/-! ### first_taking -/
def RetF (o : Option (Nat × Nat)) (H : Hp) (Q : VK) : Prop := (o = none → RetV .non H Q) ∧ ∀ a b, o = some (a, b) → ∀ p H2, H p = none → Ex H H2 → H2 p = some (.tup [.int (a : Int), .int (b : Int)]) → Q (.ref p) H2
def spFirst (P : Program) (w : World) (K : PySem.W.Frag) (mg : Str → Option Value) (base : Heap) : Sp := fun vs H Q _ => ∃ (q f : Addr) (ns : List Int) (j : Bool) (o : Option (Nat × Nat)), vs = [.ref q, .ref f] ∧ SqL K H q (ns.map V.int) ∧ ns.length ≤ 1000 ∧ Hc P w K mg base 1 f (spTk K j) ∧ FirstIs j ns o ∧ RetF o H Q
theorem ok_first_taking {f : Addr} {fd : FuncData} (F : Fun K "first_taking" "first_taking" s_first_taking f fd) (B : Bl mg) : FnOk P w K mg base (L2.CX P w) 2 f fd ["setting", "taking"] (spFirst P w K mg base) := by
  refine okB F sc_first_taking (fun vs H Q E h => ?_) (fun cdv A outer s H vs Q E hr h => ?_)
  · obtain ⟨q, g, ns, j, o, rfl, _⟩ := h
    rfl
  · obtain ⟨q, g, ns, j, o, rfl, hq, hl, hc, ho, k⟩ := h
    have nd := sc_first_taking.nd
    have hlen : ((ns.map V.int).length : Int) = (ns.length : Int) := by simp
    refine BW.forR 2 B.range nd (EV.isI (EV.len B.len (EV.var 0 rfl) hq) hlen) ⟨by omega, by omega⟩ (fun i σ' H' => Ex H H' ∧ (∀ b, b < i → ∀ a, a < b → takes j ns a b = false) ∧ ∃ y2 y3, σ' = [some (.ref q), some (.ref g), y2, y3]) (fun H1 e1 => ⟨e1, fun b hb => by omega, _, _, rfl⟩) ?_ ?_
    · rintro i σ' H' hi ⟨ex, hf, y2, y3, rfl⟩
      refine BW.forR 3 B.range nd (EV.var 2 rfl) ⟨by omega, by omega⟩ (fun i2 σ' H' => Ex H H' ∧ (∀ a, a < i2 → takes j ns a i = false) ∧ ∃ y3, σ' = [some (.ref q), some (.ref g), some (.int (i : Int)), y3]) (fun H1 e1 => ⟨ex.trans e1, fun b hb => by omega, _, rfl⟩) ?_ ?_
      · rintro i2 σ2 H2 hi2 ⟨ex2, hf2, y3, rfl⟩
        refine BW.when (TV.val (EV.callL 1 hc hr rfl (AV.three (EV.var 0 rfl) (EV.var 3 rfl) (EV.var 2 rfl)) (sv_tk (ex_l ex2 hq) (by omega) (by omega)))) (fun hk H3 e3 => ?_) (fun hk H3 e3 => ?_)
        · have hfi : IsFirst j ns i2 i := ⟨⟨by omega, by omega⟩, hk, hf, hf2⟩
          have e : o = some (i2, i) := first_some ho hfi
          refine BW.retU (EU.tup (AV.two (EV.var 3 rfl) (EV.var 2 rfl))) fun p H4 np e4 hp => k.2 i2 i e p H4 (fresh_back (ex2.trans e3) np) ((ex2.trans e3).trans e4) hp
        · refine BW.nil ⟨ex2.trans e3, fun a ha => ?_, _, rfl⟩
          by_cases h : a < i2
          · exact hf2 a h
          · have : a = i2 := by omega
            subst this
            exact hk
      · rintro σ2 H2 ⟨ex2, hf2, y3, rfl⟩
        refine BW.nil ⟨ex2, fun b hb a ha => ?_, _, _, rfl⟩
        by_cases h : b < i
        · exact hf b h a ha
        · have : b = i := by omega
          subst this
          exact hf2 a (by omega)
    · rintro σ' H' ⟨ex, hf, y2, y3, rfl⟩
      have e : o = none := first_none ho fun b hb a ha => hf b (by omega) a ha
      exact BW.ret EV.non fun H2 e2 => k.1 e H2 (ex.trans e2)
end
section
variable {P : Program} {w : World} {K : PySem.W.Frag} {mg : Str → Option Value} {base : Heap} {xa : Ek → Addr}
/-- o is None of what first_taking tells -/
theorem EV.firstN {X : Cx} {e a b : Expr} {σ : L2.St} {H : Hp} {p pos pos2 : Pos} {k : Nat} {o : Option (Nat × Nat)} {ns : List Int} {j : Bool} {q g : Addr} (C : Fc X.prog X.w X.K X.mg X.base 2 "first_taking" (spFirst X.prog X.w X.K X.mg X.base)) (hr : Room k X.A)
    (ha : EV X a σ H (.ref q)) (hb : EV X b σ H (.ref g)) (hc : Hc X.prog X.w X.K X.mg X.base 1 g (spTk X.K j)) (hq : SqL X.K H q (ns.map V.int)) (hl : ns.length ≤ 1000) (ho : FirstIs j ns o) (hn : EV X e σ H .non) (hk : 2 ≤ k := by decide) (hg : Gl X "first_taking" := by rfl) (hs : [a, b].all noStar = true := by rfl) :
    EV X (.Compare (.Call (.Name "first_taking" p) [a, b] [] pos2) [.Is] [e] pos) σ H (.bl o.isNone) := by
  refine EV.of (pe_cmpR op_isN pe_self pe_self (nomark _)) fun H1 e1 Q kq => ?_
  refine EW.call C hr (AV.ev (AV.two ha hb) H1 e1 _ fun H2 e2 => ⟨q, g, ns, j, o, rfl, ex_l (e1.trans e2) hq, hl, hc, ho, ?_, ?_⟩) hk hg hs
  · intro h H3 e3
    refine hn.ev H3 ((e1.trans e2).trans e3) _ fun H4 e4 => ⟨rfl, ?_⟩
    subst h
    exact kq H4 ((e2.trans e3).trans e4)
  · intro x y h r H3 nr e3 hr3
    refine hn.ev H3 ((e1.trans e2).trans e3) _ fun H4 e4 => ⟨rfl, ?_⟩
    subst h
    exact kq H4 ((e2.trans e3).trans e4)
end
end QR

namespace QR
open PySem PySem.Spec PyProof.Rows L2 Evl
section
variable {P : Program} {w : World} {K : PySem.W.Frag} {mg : Str → Option Value} {base : Heap} {xa : Ek → Addr} {ad : Kd → Addr} {CA : Addr}
/-! ### the answers' shows -/
def spPeaceShows (K : PySem.W.Frag) (j : Bool) (C : Addr) : Sp := fun vs H Q _ => ∃ (p dx q : Addr) (ns : List Int) (o : Option (Nat × Nat)), vs = [.ref p, .ref q] ∧ H p = some (.ins C dx []) ∧ SqL K H q (ns.map V.int) ∧ ns.length ≤ 1000 ∧ FirstIs j ns o ∧ RetV (.bl o.isNone) H Q
theorem ok_Peace_shows {f C : Addr} {fd : FuncData} (F : Fun K "shows" "Peace.shows" s_Peace_shows f fd) (c_first : Fc P w K mg base 2 "first_taking" (spFirst P w K mg base)) (c_take : Fc P w K mg base 1 "take" (spTk K false)) : FnOk P w K mg base (L2.CX P w) 3 f fd ["self", "setting"] (spPeaceShows K false C) := by
  obtain ⟨g, gm, hc⟩ := Hc.of c_take
  refine okB F sc_Peace_shows (fun vs H Q E h => ?_) (fun cdv A outer s H vs Q E hr h => ?_)
  · obtain ⟨p, dx, q, ns, o, rfl, _⟩ := h
    rfl
  · obtain ⟨p, dx, q, ns, o, rfl, hp, hq, hl, ho, k⟩ := h
    exact BW.ret (EV.firstN c_first hr (EV.var 1 rfl) (EV.glob gm) hc hq hl ho EV.non) k
theorem ok_JoinedPeace_shows {f C : Addr} {fd : FuncData} (F : Fun K "shows" "JoinedPeace.shows" s_JoinedPeace_shows f fd) (c_first : Fc P w K mg base 2 "first_taking" (spFirst P w K mg base)) (c_take : Fc P w K mg base 1 "take_joined" (spTk K true)) : FnOk P w K mg base (L2.CX P w) 3 f fd ["self", "setting"] (spPeaceShows K true C) := by
  obtain ⟨g, gm, hc⟩ := Hc.of c_take
  refine okB F sc_JoinedPeace_shows (fun vs H Q E h => ?_) (fun cdv A outer s H vs Q E hr h => ?_)
  · obtain ⟨p, dx, q, ns, o, rfl, _⟩ := h
    rfl
  · obtain ⟨p, dx, q, ns, o, rfl, hp, hq, hl, ho, k⟩ := h
    exact BW.ret (EV.firstN c_first hr (EV.var 1 rfl) (EV.glob gm) hc hq hl ho EV.non) k
theorem ok_Take_init {f C : Addr} {fd : FuncData} {x : Str} (F : Fun K "__init__" "Take.__init__" s_Take___init__ f fd) (c : Cs K mg x C ["one", "other"]) : FnOk P w K mg base (L2.CX P w) 1 f fd ["self", "one", "other"] (spInit C ["one", "other"]) := by
  refine okB F sc_Take___init__ (fun vs H Q E h => ?_) (fun cdv A outer s H vs Q E hr h => ?_)
  · obtain ⟨q, dx, us, rfl, hl, _⟩ := h
    simpa using hl
  · obtain ⟨q, dx, us, rfl, hl, hq, k⟩ := h
    obtain ⟨u, v, rfl⟩ : ∃ u v, us = [u, v] := match us, hl with | [u, v], _ => ⟨u, v, rfl⟩
    refine BW.setF (EV.var 1 rfl) (EV.var 0 rfl) hq c.cl (c.na _ (by decide)) (by decide) fun H1 e1 => ?_
    refine BW.setF (EV.var 2 rfl) (EV.var 0 rfl) upd_same c.cl (c.na _ (by decide)) (Nat.le_of_ble_eq_true rfl) fun H2 e2 => BW.nil (k _ (fun b u hb hu => ?_) upd_same)
    rw [upd_ne hb]
    refine e2 _ _ ?_
    rw [upd_ne hb]
    exact e1 _ _ hu
theorem ok_JoinedTake_init {f C : Addr} {fd : FuncData} {x : Str} (F : Fun K "__init__" "JoinedTake.__init__" s_JoinedTake___init__ f fd) (c : Cs K mg x C ["one", "other"]) : FnOk P w K mg base (L2.CX P w) 1 f fd ["self", "one", "other"] (spInit C ["one", "other"]) := by
  refine okB F sc_JoinedTake___init__ (fun vs H Q E h => ?_) (fun cdv A outer s H vs Q E hr h => ?_)
  · obtain ⟨q, dx, us, rfl, hl, _⟩ := h
    simpa using hl
  · obtain ⟨q, dx, us, rfl, hl, hq, k⟩ := h
    obtain ⟨u, v, rfl⟩ : ∃ u v, us = [u, v] := match us, hl with | [u, v], _ => ⟨u, v, rfl⟩
    refine BW.setF (EV.var 1 rfl) (EV.var 0 rfl) hq c.cl (c.na _ (by decide)) (by decide) fun H1 e1 => ?_
    refine BW.setF (EV.var 2 rfl) (EV.var 0 rfl) upd_same c.cl (c.na _ (by decide)) (Nat.le_of_ble_eq_true rfl) fun H2 e2 => BW.nil (k _ (fun b u hb hu => ?_) upd_same)
    rw [upd_ne hb]
    refine e2 _ _ ?_
    rw [upd_ne hb]
    exact e1 _ _ hu
/-- whether the two rows are in order and take one another -/
def tkShows (j : Bool) (ns : List Int) (a b : Int) : Bool := (decide (0 ≤ a) && (decide (a < b) && decide (b < (ns.length : Int)))) && takes j ns a.toNat b.toNat
def fsT (a b : Int) : List (Str × V) := [("one", .int a), ("other", .int b)]
def spTakeShows (K : PySem.W.Frag) (j : Bool) (C : Addr) : Sp := fun vs H Q _ => ∃ (p dx q : Addr) (ns : List Int) (a b : Int), vs = [.ref p, .ref q] ∧ H p = some (.ins C dx (fsT a b)) ∧ SqL K H q (ns.map V.int) ∧ RetV (.bl (tkShows j ns a b)) H Q
theorem ok_Take_shows {f C : Addr} {fd : FuncData} {x : Str} (F : Fun K "shows" "Take.shows" s_Take_shows f fd) (B : Bl mg) (c : Cs K mg x C ["one", "other"]) (c_take : Fc P w K mg base 1 "take" (spTk K false)) : FnOk P w K mg base (L2.CX P w) 2 f fd ["self", "setting"] (spTakeShows K false C) := by
  refine okB F sc_Take_shows (fun vs H Q E h => ?_) (fun cdv A outer s H vs Q E hr h => ?_)
  · obtain ⟨p, dx, q, ns, a, b, rfl, _⟩ := h
    rfl
  · obtain ⟨p, dx, q, ns, a, b, rfl, hp, hq, k⟩ := h
    have n1 := c.na "one" (by decide)
    have n2 := c.na "other" (by decide)
    have l1 : (fsT a b).lookup ("one" : Str) = some (V.int a) := rfl
    have l2 : (fsT a b).lookup ("other" : Str) = some (V.int b) := rfl
    have hlen : ((ns.map V.int).length : Int) = (ns.length : Int) := by simp
    refine BW.ret (EV.and2 (EV.leLtLt EV.int (EV.fld (EV.var 0 rfl) hp c.cl n1 l1) (EV.fld (EV.var 0 rfl) hp c.cl n2 l2) (EV.isI (EV.len B.len (EV.var 1 rfl) hq) hlen)) (fun h1 => ?_)) k
    simp only [Bool.and_eq_true, decide_eq_true_eq] at h1
    have ea : a = ((a.toNat : Nat) : Int) := by omega
    have eb : b = ((b.toNat : Nat) : Int) := by omega
    exact EV.call c_take hr (AV.three (EV.var 1 rfl) (EV.is (EV.fld (EV.var 0 rfl) hp c.cl n1 l1) (congrArg V.int ea)) (EV.is (EV.fld (EV.var 0 rfl) hp c.cl n2 l2) (congrArg V.int eb))) (sv_tk hq (by omega) (by omega))
theorem ok_JoinedTake_shows {f C : Addr} {fd : FuncData} {x : Str} (F : Fun K "shows" "JoinedTake.shows" s_JoinedTake_shows f fd) (B : Bl mg) (c : Cs K mg x C ["one", "other"]) (c_take : Fc P w K mg base 1 "take_joined" (spTk K true)) : FnOk P w K mg base (L2.CX P w) 2 f fd ["self", "setting"] (spTakeShows K true C) := by
  refine okB F sc_JoinedTake_shows (fun vs H Q E h => ?_) (fun cdv A outer s H vs Q E hr h => ?_)
  · obtain ⟨p, dx, q, ns, a, b, rfl, _⟩ := h
    rfl
  · obtain ⟨p, dx, q, ns, a, b, rfl, hp, hq, k⟩ := h
    have n1 := c.na "one" (by decide)
    have n2 := c.na "other" (by decide)
    have l1 : (fsT a b).lookup ("one" : Str) = some (V.int a) := rfl
    have l2 : (fsT a b).lookup ("other" : Str) = some (V.int b) := rfl
    have hlen : ((ns.map V.int).length : Int) = (ns.length : Int) := by simp
    refine BW.ret (EV.and2 (EV.leLtLt EV.int (EV.fld (EV.var 0 rfl) hp c.cl n1 l1) (EV.fld (EV.var 0 rfl) hp c.cl n2 l2) (EV.isI (EV.len B.len (EV.var 1 rfl) hq) hlen)) (fun h1 => ?_)) k
    simp only [Bool.and_eq_true, decide_eq_true_eq] at h1
    have ea : a = ((a.toNat : Nat) : Int) := by omega
    have eb : b = ((b.toNat : Nat) : Int) := by omega
    exact EV.call c_take hr (AV.three (EV.var 1 rfl) (EV.is (EV.fld (EV.var 0 rfl) hp c.cl n1 l1) (congrArg V.int ea)) (EV.is (EV.fld (EV.var 0 rfl) hp c.cl n2 l2) (congrArg V.int eb))) (sv_tk hq (by omega) (by omega))
end
end QR

namespace QR
open PySem PySem.Spec PyProof.Rows L2 Evl
/-! ### the answers' own words -/
structure Sw (P : Program) (w : World) (K : PySem.W.Frag) (mg : Str → Option Value) (base : Heap) (ad : Kd → Addr) : Prop where
  sS : Mc P w K mg base 2 (ad .S) "shows" (spStepShows (ad .S))
  sB : Mc P w K mg base 2 (ad .B) "shows" (spBarShows (ad .B))
  sP : Mc P w K mg base 3 (ad .P) "shows" (spPeaceShows K false (ad .P))
  sJP : Mc P w K mg base 3 (ad .JP) "shows" (spPeaceShows K true (ad .JP))
  sT : Mc P w K mg base 2 (ad .T) "shows" (spTakeShows K false (ad .T))
  sJT : Mc P w K mg base 2 (ad .JT) "shows" (spTakeShows K true (ad .JT))
/-- how they are made -/
structure Mw (P : Program) (w : World) (K : PySem.W.Frag) (mg : Str → Option Value) (base : Heap) (ad : Kd → Addr) : Prop where
  kS : Kc P w K mg base 1 "Step" (ad .S) (spInit (ad .S) ["step"])
  kB : Kc P w K mg base 1 "Barred" (ad .B) (spInit (ad .B) ["by"])
  kT : Kc P w K mg base 1 "Take" (ad .T) (spInit (ad .T) ["one", "other"])
  kJT : Kc P w K mg base 1 "JoinedTake" (ad .JT) (spInit (ad .JT) ["one", "other"])
  kP : MkN K (ad .P)
  kJP : MkN K (ad .JP)
section
variable {P : Program} {w : World} {K : PySem.W.Frag} {mg : Str → Option Value} {base : Heap} {ad : Kd → Addr}
theorem sv_tkShows {j : Bool} {C : Addr} {H : Hp} {p dx q : Addr} {ns : List Int} {a b : Int} (hp : H p = some (.ins C dx (fsT a b))) (hq : SqL K H q (ns.map V.int)) : SpV (spTakeShows K j C) [.ref p, .ref q] H (.bl (tkShows j ns a b)) := fun H1 e1 Q k _ => ⟨p, dx, q, ns, a, b, rfl, e1 _ _ hp, ex_l e1 hq, k⟩
theorem sv_pcShows {j : Bool} {C : Addr} {H : Hp} {p dx q : Addr} {ns : List Int} {o : Option (Nat × Nat)} (hp : H p = some (.ins C dx [])) (hq : SqL K H q (ns.map V.int)) (hl : ns.length ≤ 1000) (ho : FirstIs j ns o) : SpV (spPeaceShows K j C) [.ref p, .ref q] H (.bl o.isNone) := fun H1 e1 Q k _ => ⟨p, dx, q, ns, o, rfl, e1 _ _ hp, ex_l e1 hq, hl, ho, k⟩
theorem sv_stepShows {C : Addr} {H : Hp} {q dx : Addr} {t n : Int} (hq : H q = some (.ins C dx [("step", .int t)])) (hn : 0 ≤ n) : SpV (spStepShows C) [.ref q, .int n] H (.bl (stepB t n)) := fun H1 e1 Q k _ => ⟨q, dx, t, n, rfl, e1 _ _ hq, hn, k⟩
theorem sv_barShows {C : Addr} {H : Hp} {q dx : Addr} {t n : Int} (hq : H q = some (.ins C dx [("by", .int t)])) : SpV (spBarShows C) [.ref q, .int n] H (.bl (barB t n)) := fun H1 e1 Q k _ => ⟨q, dx, t, n, rfl, e1 _ _ hq, k⟩
end
section
variable {X : Cx} {e a b c o : Expr} {es : List Expr} {σ : L2.St} {H : Hp} {pos p pf apos : Pos} {ad : Kd → Addr} {j k : Nat} {ns : List Int} {i l n t : Int}
/-- a call of shows; pl is found by rfl -/
theorem EV.shT {jd : Bool} {C : Addr} {pl : Sem Bool} (M : Mc X.prog X.w X.K X.mg X.base 2 C "shows" (spTakeShows X.K jd C)) (hr : Room j X.A) (h : EX X o σ H (.ins C (fsT i l))) (ha : EX X a σ H (Sh.ints ns)) (hk : 2 ≤ j := by decide) (hs : noStar a = true := by rfl)
    (ht : eval (.Call (.Attribute o "shows" apos) [a] [] pos) X.env = (do
      let ov ← eval o X.env
      standAt apos.atName
      let (f, first) ← holding [ov] (getMethod ov "shows" pl)
      callWith pos f first (backTo pos (starEach [a] X.env)) (backToKw pos (keywordEach [] X.env))) := by rfl) : EV X (.Call (.Attribute o "shows" apos) [a] [] pos) σ H (.bl (tkShows jd ns i l)) :=
  EV.methX (pl := pl) M hr h rfl (AX.one ha) (fun q dx vs H1 e1 hq hvs => by
    obtain ⟨u, rfl, hu⟩ := hvs.one
    obtain ⟨r, rfl, hr⟩ := hu.ofInts
    exact sv_tkShows hq hr) hk (by simp [hs]) ht
theorem EV.shP {jd : Bool} {C : Addr} {oo : Option (Nat × Nat)} {pl : Sem Bool} (M : Mc X.prog X.w X.K X.mg X.base 3 C "shows" (spPeaceShows X.K jd C)) (hr : Room j X.A) (h : EX X o σ H (.ins C [])) (ha : EX X a σ H (Sh.ints ns)) (hl : ns.length ≤ 1000) (ho : FirstIs jd ns oo) (hk : 3 ≤ j := by decide) (hs : noStar a = true := by rfl)
    (ht : eval (.Call (.Attribute o "shows" apos) [a] [] pos) X.env = (do
      let ov ← eval o X.env
      standAt apos.atName
      let (f, first) ← holding [ov] (getMethod ov "shows" pl)
      callWith pos f first (backTo pos (starEach [a] X.env)) (backToKw pos (keywordEach [] X.env))) := by rfl) : EV X (.Call (.Attribute o "shows" apos) [a] [] pos) σ H (.bl oo.isNone) :=
  EV.methX (pl := pl) M hr h rfl (AX.one ha) (fun q dx vs H1 e1 hq hvs => by
    obtain ⟨u, rfl, hu⟩ := hvs.one
    obtain ⟨r, rfl, hr⟩ := hu.ofInts
    exact sv_pcShows hq hr hl ho) hk (by simp [hs]) ht
theorem EV.shS {C : Addr} {pl : Sem Bool} (M : Mc X.prog X.w X.K X.mg X.base 2 C "shows" (spStepShows C)) (hr : Room j X.A) (h : EX X o σ H (.ins C [("step", .int t)])) (ha : EV X a σ H (.int n)) (hn : 0 ≤ n) (hk : 2 ≤ j := by decide) (hs : noStar a = true := by rfl)
    (ht : eval (.Call (.Attribute o "shows" apos) [a] [] pos) X.env = (do
      let ov ← eval o X.env
      standAt apos.atName
      let (f, first) ← holding [ov] (getMethod ov "shows" pl)
      callWith pos f first (backTo pos (starEach [a] X.env)) (backToKw pos (keywordEach [] X.env))) := by rfl) : EV X (.Call (.Attribute o "shows" apos) [a] [] pos) σ H (.bl (stepB t n)) :=
  EV.methX (pl := pl) M hr h rfl (AX.one (EX.vv ha)) (fun q dx vs H1 e1 hq hvs => by
    obtain ⟨u, rfl, hu⟩ := hvs.one
    cases hu.vv
    exact sv_stepShows hq hn) hk (by simp [hs]) ht
theorem EV.shB {C : Addr} {pl : Sem Bool} (M : Mc X.prog X.w X.K X.mg X.base 2 C "shows" (spBarShows C)) (hr : Room j X.A) (h : EX X o σ H (.ins C [("by", .int t)])) (ha : EV X a σ H (.int n)) (hk : 2 ≤ j := by decide) (hs : noStar a = true := by rfl)
    (ht : eval (.Call (.Attribute o "shows" apos) [a] [] pos) X.env = (do
      let ov ← eval o X.env
      standAt apos.atName
      let (f, first) ← holding [ov] (getMethod ov "shows" pl)
      callWith pos f first (backTo pos (starEach [a] X.env)) (backToKw pos (keywordEach [] X.env))) := by rfl) : EV X (.Call (.Attribute o "shows" apos) [a] [] pos) σ H (.bl (barB t n)) :=
  EV.methX (pl := pl) M hr h rfl (AX.one (EX.vv ha)) (fun q dx vs H1 e1 hq hvs => by
    obtain ⟨u, rfl, hu⟩ := hvs.one
    cases hu.vv
    exact sv_barShows hq) hk (by simp [hs]) ht
theorem EX.mkT (M : Mw X.prog X.w X.K X.mg X.base ad) (hr : Room j X.A) (ha : EV X a σ H (.int i)) (hb : EV X b σ H (.int l)) (hk : 2 ≤ j := by decide) (hg : Gl X "Take" := by rfl) (hs : [a, b].all noStar = true := by rfl) : EX X (.Call (.Name "Take" p) [a, b] [] pos) σ H (.ins (ad .T) (fsT i l)) := EX.ins (EI.make M.kT hr (AV.two ha hb) rfl hk hg hs)
theorem EX.mkJT (M : Mw X.prog X.w X.K X.mg X.base ad) (hr : Room j X.A) (ha : EV X a σ H (.int i)) (hb : EV X b σ H (.int l)) (hk : 2 ≤ j := by decide) (hg : Gl X "JoinedTake" := by rfl) (hs : [a, b].all noStar = true := by rfl) : EX X (.Call (.Name "JoinedTake" p) [a, b] [] pos) σ H (.ins (ad .JT) (fsT i l)) := EX.ins (EI.make M.kJT hr (AV.two ha hb) rfl hk hg hs)
theorem EX.mkS (M : Mw X.prog X.w X.K X.mg X.base ad) (hr : Room j X.A) (ha : EV X a σ H (.int i)) (hk : 2 ≤ j := by decide) (hg : Gl X "Step" := by rfl) (hs : [a].all noStar = true := by rfl) : EX X (.Call (.Name "Step" p) [a] [] pos) σ H (.ins (ad .S) [("step", .int i)]) := EX.ins (EI.make M.kS hr (AV.one ha) rfl hk hg hs)
theorem EX.mkB (M : Mw X.prog X.w X.K X.mg X.base ad) (hr : Room j X.A) (ha : EV X a σ H (.int i)) (hk : 2 ≤ j := by decide) (hg : Gl X "Barred" := by rfl) (hs : [a].all noStar = true := by rfl) : EX X (.Call (.Name "Barred" p) [a] [] pos) σ H (.ins (ad .B) [("by", .int i)]) := EX.ins (EI.make M.kB hr (AV.one ha) rfl hk hg hs)
theorem EX.mkP (M : Mw X.prog X.w X.K X.mg X.base ad) {CA : Addr} (A : Ans X.K X.mg ad CA) (hg : Gl X "Peace" := by rfl) : EX X (.Call (.Name "Peace" p) [] [] pos) σ H (.ins (ad .P) []) := EX.ins (EI.make0 M.kP (A.cs .P).mg hg)
theorem EX.mkJP (M : Mw X.prog X.w X.K X.mg X.base ad) {CA : Addr} (A : Ans X.K X.mg ad CA) (hg : Gl X "JoinedPeace" := by rfl) : EX X (.Call (.Name "JoinedPeace" p) [] [] pos) σ H (.ins (ad .JP) []) := EX.ins (EI.make0 M.kJP (A.cs .JP).mg hg)
end
end QR

namespace QR
open PySem PySem.Spec PyProof.Rows L2 Evl
/-! ### check_setting -/
def colB (n : Nat) : V → Bool
  | .int i => decide (0 ≤ i) && decide (i < (n : Int))
  | _ => false
def ckList (xs : List V) : Option Ek := if (1 ≤ xs.length ∧ xs.length ≤ 200) ∧ xs.all (colB xs.length) = true then none else some .setting
inductive SetIs (K : PySem.W.Frag) (H : Hp) : V → Option Ek → Prop
  | lst {p : Addr} {xs : List V} : SqL K H p xs → (∀ y ∈ xs, Kd? K H y) → SetIs K H (.ref p) (ckList xs)
  | oth {x : V} {n : String} : TyX K H x (.type n) → n ∈ kinds → n ≠ "list" → SetIs K H x (some .setting)
theorem SetIs.ex {K : PySem.W.Frag} {H H' : Hp} {x : V} {o : Option Ek} (h : SetIs K H x o) (e : Ex H H') : SetIs K H' x o := by
  cases h with
  | lst a b => exact .lst (ex_l e a) fun y hy => (b y hy).ex e
  | oth a b c => exact .oth (TyX.ex a e) b c
theorem SetIs.no {K : PySem.W.Frag} {H : Hp} {x : V} {o : Option Ek} (h : SetIs K H x o) : o = none ∨ o = some .setting := by
  cases h with
  | lst a b =>
    unfold ckList
    split
    · exact .inl rfl
    · exact .inr rfl
  | oth a b c => exact .inr rfl
theorem nolist : ∀ n ∈ kinds, n ≠ "list" → kitB n "list" = some false := by decide +kernel
theorem ckList_ints {ns : List Int} (h1 : 1 ≤ ns.length) (h2 : ns.length ≤ 200) (hb : ∀ c ∈ ns, 0 ≤ c ∧ c < (ns.length : Int)) : ckList (ns.map V.int) = none := by
  unfold ckList
  rw [if_pos]
  refine ⟨by rw [List.length_map]; exact ⟨h1, h2⟩, List.all_eq_true.mpr fun x hx => ?_⟩
  obtain ⟨c, hc, rfl⟩ := List.mem_map.mp hx
  have := hb c hc
  simp [colB, this]
theorem SetIs.ints {K : PySem.W.Frag} {H : Hp} {p : Addr} {ns : List Int} (h : SqL K H p (ns.map V.int)) (h1 : 1 ≤ ns.length) (h2 : ns.length ≤ 200) (hb : ∀ c ∈ ns, 0 ≤ c ∧ c < (ns.length : Int)) : SetIs K H (.ref p) none := by
  rw [← ckList_ints h1 h2 hb]
  exact .lst h fun y hy => by
    obtain ⟨c, hc, rfl⟩ := List.mem_map.mp hy
    exact Kd?.int
def spCkSetting (K : PySem.W.Frag) (xa : Ek → Addr) : Sp := fun vs H Q E => ∃ x o, vs = [x] ∧ SetIs K H x o ∧ Res xa o .non H Q E
section
variable {P : Program} {w : World} {K : PySem.W.Frag} {mg : Str → Option Value} {base : Heap} {xa : Ek → Addr}
theorem ok_check_setting {f : Addr} {fd : FuncData} (F : Fun K "check_setting" "check_setting" s_check_setting f fd) (B : Bl mg) (Cn : Fc P w K mg base 1 "is_number" (spIsNum K)) (xS : Xc K mg "BadSetting" (xa .setting)) (gM : ∃ t, mg "MOST" = some (.int 200 t)) : FnOk P w K mg base (L2.CX P w) 2 f fd ["setting"] (spCkSetting K xa) := by
  obtain ⟨tM, gM⟩ := gM
  refine okR F sc_check_setting (fun vs H Q E h => ?_) (fun cdv A outer s H vs Q E hr h => ?_)
  · obtain ⟨x, o, rfl, _⟩ := h
    rfl
  · obtain ⟨x, o, rfl, hx, q⟩ := h
    have nd := sc_check_setting.nd
    cases hx with
    | oth ty hk hn =>
      refine BW.take (TV.is (TV.or2 (k2 := false) (TV.not (TV.val (EV.isT B.isinstance B.list boot_list' (EV.var 0 rfl) ty (k := false) (nolist _ hk hn)))) (fun z => nomatch z)) rfl) fun H1 e1 => ?_
      exact BW.raise xS (takes_of rfl rfl rfl rfl) (q H1 e1)
    | @lst p xs hp hk =>
      refine BW.when (TV.or2 (TV.not (TV.val (EV.isT B.isinstance B.list boot_list' (EV.var 0 rfl) (ty_list hp) (k := true) (by decide +kernel)))) (fun _ => TV.not (TV.leLe EV.int (EV.len B.len (EV.var 0 rfl) hp) (EV.globI gM)))) (fun hk1 H1 e1 => ?_) (fun hk1 H1 e1 => ?_)
      · refine BW.raise xS (takes_of rfl rfl rfl rfl) (q.bad ?_ H1 e1)
        unfold ckList
        rw [if_neg]
        rintro ⟨⟨z1, z2⟩, _⟩
        simp only [Bool.not_true, Bool.false_or, Bool.not_eq_true', Bool.and_eq_false_iff, decide_eq_false_iff_not] at hk1
        omega
      · have hl : 1 ≤ (xs.length : Int) ∧ (xs.length : Int) ≤ 200 := by
          have hk2 := hk1
          simp only [Bool.not_true, Bool.false_or, Bool.not_eq_false', Bool.and_eq_true, decide_eq_true_eq] at hk2
          exact hk2
        refine BW.when (TV.not (TV.val (EV.allN (bs := xs.map (colB xs.length)) B.all (EL.is (LC.list (j := 1) (fun i => .bl (colB xs.length (xs.getD i .non))) nd (blkOk_by (N := n_check_setting) (sc := defScope s_check_setting) (by decide +kernel)) (EV.var 0 rfl) (ex_l e1 hp) (by omega) (fun i y H2 e2 hi s0 H0 C0 cl fp => ?_)).el ?_)))) (fun hk2 H2 e2 => ?_) (fun hk2 H2 e2 => ?_)
        · have hm : y ∈ xs := List.mem_of_getElem? hi
          have hg : xs.getD i .non = y := by rw [List.getD_eq_getElem?_getD, hi]; rfl
          rw [hg]
          have e12 := e1.trans e2
          have kd := (hk y hm).ex e12
          by_cases hb : numB y 0 = true
          · obtain ⟨c, rfl, hc⟩ := numB_int hb
            refine EV.isB (EV.and2 (EV.call Cn hr (AV.two (EV.var 1 rfl) EV.int) (sv_isnum' kd)) (fun _ => EV.lt (EV.var 1 rfl) (EV.len B.len (EV.var 0 rfl) (ex_l e12 hp)))) ?_
            simp [numB, colB]
          · refine EV.isB (EV.and2 (k2 := false) (EV.call Cn hr (AV.two (EV.var 1 rfl) EV.int) (sv_isnum' kd)) (fun z => absurd z hb)) ?_
            have h0 : numB y 0 = false := by simpa using hb
            rw [h0]
            cases y with
            | int c =>
              have : ¬ 0 ≤ c := of_decide_eq_false h0
              simp [colB, this]
            | _ => rfl
        · apply List.ext_getElem
          · simp
          · intro i h1 h2
            simp at h1 h2 ⊢
            rw [List.getElem?_eq_getElem h1]
            rfl
        · refine BW.raise xS (takes_of rfl rfl rfl rfl) (q.bad ?_ H2 (e1.trans e2))
          unfold ckList
          rw [if_neg]
          rintro ⟨_, z⟩
          have : ¬ xs.all (colB xs.length) = true := by
            intro z2
            rw [List.all_map] at hk2
            have : (xs.all (id ∘ colB xs.length)) = true := z2
            rw [this] at hk2
            cases hk2
          exact this z
        · refine BW.nil (q.good ?_ H2 (e1.trans e2))
          unfold ckList
          rw [if_pos]
          refine ⟨by omega, ?_⟩
          rw [List.all_map] at hk2
          have : (xs.all (id ∘ colB xs.length)) = true := by simpa using hk2
          exact this
theorem sx_setg {H : Hp} {x : V} {o : Option Ek} (h : SetIs K H x o) : SpX (spCkSetting K xa) xa [x] H o .non := fun H1 e1 Q E r => ⟨x, o, rfl, h.ex e1, r⟩
end
end QR

namespace QR
open PySem PySem.Spec PyProof.Rows L2 Evl
def RetI' (C : Addr) (fs : List (Str × V)) (H : Hp) (Q : VK) : Prop := ∀ q dx H2, H q = none → Ex H H2 → H2 q = some (.ins C dx fs) → Q (.ref q) H2
/-- what is told -/
def kdT : Bool → Option (Nat × Nat) → Kd
  | false, none => .P
  | false, some _ => .T
  | true, none => .JP
  | true, some _ => .JT
def fsO : Option (Nat × Nat) → List (Str × V)
  | none => []
  | some (a, b) => fsT a b
def spTold (K : PySem.W.Frag) (xa : Ek → Addr) (ad : Kd → Addr) (j : Bool) : Sp := fun vs H Q E => ∃ x o, vs = [x] ∧ SetIs K H x o ∧ (∀ k, o = some k → ∀ H2, Ex H H2 → E (.ref (xa k)) none H2) ∧
  (o = none → ∃ p ns fo, x = .ref p ∧ SqL K H p (ns.map V.int) ∧ ns.length ≤ 200 ∧ FirstIs j ns fo ∧ RetI' (ad (kdT j fo)) (fsO fo) H Q)
section
variable {P : Program} {w : World} {K : PySem.W.Frag} {mg : Str → Option Value} {base : Heap} {xa : Ek → Addr} {ad : Kd → Addr} {CA : Addr}
/-- found = first_taking(setting, g) -/
theorem BW.asgF {X : Cx} {a b : Expr} {rest : List Stmt} {D : Ends} {σ : L2.St} {H : Hp} {p p0 pos pos2 : Pos} {n : Str} {k : Nat} {o : Option (Nat × Nat)} {ns : List Int} {j : Bool} {q g : Addr} (i : Nat) (hN : X.N.Nodup) (C : Fc X.prog X.w X.K X.mg X.base 2 "first_taking" (spFirst X.prog X.w X.K X.mg X.base)) (hr : Room k X.A)
    (ha : EV X a σ H (.ref q)) (hb : EV X b σ H (.ref g)) (hc : Hc X.prog X.w X.K X.mg X.base 1 g (spTk X.K j)) (hq : SqL X.K H q (ns.map V.int)) (hl : ns.length ≤ 1000) (ho : FirstIs j ns o)
    (h1 : o = none → ∀ H1, Ex H H1 → BW X rest D (σ.set i (some .non)) H1) (h2 : ∀ x y, o = some (x, y) → ∀ r H1, Ex H H1 → H1 r = some (.tup [.int (x : Int), .int (y : Int)]) → BW X rest D (σ.set i (some (.ref r))) H1)
    (hk : 2 ≤ k := by decide) (hg : Gl X "first_taking" := by rfl) (hs : [a, b].all noStar = true := by rfl)
    (hi : X.N[i]? = some n := by rfl) (hx : Loc X.env.scope n := by first | exact Or.inl rfl | exact Or.inr rfl) (hw : swapsWith (.Call (.Name "first_taking" p) [a, b] [] pos2) (some (.Name n p0)) pos.line X.env = pure false := by rfl) (hf : X.fn n = true ∨ X.env.scope.names.lookup n = some .local := by first | exact .inl rfl | exact .inr rfl) :
    BW X (.Assign [.Name n p0] (.Call (.Name "first_taking" p) [a, b] [] pos2) pos :: rest) D σ H :=
  BW.asgW hN hi hx (EW.call C hr ((AV.two ha hb).ev H (Ex.refl H) _ fun H2 e2 => ⟨q, g, ns, j, o, rfl, ex_l e2 hq, hl, hc, ho, fun h H3 e3 => h1 h H3 (e2.trans e3), fun x y h r H3 nr e3 hr3 => h2 x y h r H3 (e2.trans e3) hr3⟩) hk hg hs) hw hf
theorem EI.made {X : Cx} {e : Expr} {σ : L2.St} {H : Hp} {C C' : Addr} {fs fs' : List (Str × V)} (h : EI X e σ H C fs) (q : C = C') (r : fs = fs') : EI X e σ H C' fs' := by subst q r; exact h
theorem ok_told {f : Addr} {fd : FuncData} (F : Fun K "told" "told" s_told f fd) (A : Ans K mg ad CA) (M : Mw P w K mg base ad) (Cs : Fc P w K mg base 2 "check_setting" (spCkSetting K xa)) (Cf : Fc P w K mg base 2 "first_taking" (spFirst P w K mg base)) (Ct : Fc P w K mg base 1 "take" (spTk K false)) : FnOk P w K mg base (L2.CX P w) 3 f fd ["setting"] (spTold K xa ad false) := by
  obtain ⟨g, gm, hc⟩ := Hc.of Ct
  refine okR F sc_told (fun vs H Q E h => ?_) (fun cdv Ar outer s H vs Q E hr h => ?_)
  · obtain ⟨x, o, rfl, _⟩ := h
    rfl
  · obtain ⟨x, o, rfl, hx, hE, hG⟩ := h
    have nd := sc_told.nd
    refine BW.exprX Cs hr (takes_of (E := E) rfl rfl rfl rfl) (AV.one (EV.var 0 rfl)) fun H1 e1 => sx_setg hx H1 e1 _ E ?_
    cases o with
    | some k0 => exact fun H2 e2 => hE k0 rfl H2 (e1.trans e2)
    | none =>
      obtain ⟨p, ns, fo, rfl, hp, hl, ho, hQ⟩ := hG rfl
      intro H2 e2
      have e12 := e1.trans e2
      refine BW.asgF 1 nd Cf hr (EV.var 0 rfl) (EV.glob gm) hc (ex_l e12 hp) (by omega) ho (fun hn H3 e3 => ?_) (fun x y hs r H3 e3 hr3 => ?_)
      · refine BW.retI (EI.made (C' := ad (kdT false fo)) (fs' := fsO fo) (EI.ite (TV.isN (EV.var 1 rfl) EV.non) (fun _ => EI.make0 M.kP (A.cs .P).mg) (fun z => by simp at z)) (by rw [hn]; rfl) (by rw [hn]; rfl)) fun r dx H4 nr e4 h4 => hQ r dx H4 (fresh_back (e12.trans e3) nr) ((e12.trans e3).trans e4) h4
      · refine BW.retI (EI.made (C' := ad (kdT false fo)) (fs' := fsO fo) (EI.ite (TV.isN (EV.var 1 rfl) EV.non) (fun z => by simp at z) (fun _ => EI.make M.kT hr (AV.two (EV.ixT (EV.var 1 rfl) EV.int (st_of hr3) (show atI _ (0 : Int) = some _ from rfl)) (EV.ixT (EV.var 1 rfl) EV.int (st_of hr3) (show atI _ (1 : Int) = some _ from rfl))))) (by rw [hs]; rfl) (by rw [hs]; rfl)) fun r dx H4 nr e4 h4 => hQ r dx H4 (fresh_back (e12.trans e3) nr) ((e12.trans e3).trans e4) h4
theorem ok_told_joined {f : Addr} {fd : FuncData} (F : Fun K "told_joined" "told_joined" s_told_joined f fd) (A : Ans K mg ad CA) (M : Mw P w K mg base ad) (Cs : Fc P w K mg base 2 "check_setting" (spCkSetting K xa)) (Cf : Fc P w K mg base 2 "first_taking" (spFirst P w K mg base)) (Ct : Fc P w K mg base 1 "take_joined" (spTk K true)) : FnOk P w K mg base (L2.CX P w) 3 f fd ["setting"] (spTold K xa ad true) := by
  obtain ⟨g, gm, hc⟩ := Hc.of Ct
  refine okR F sc_told_joined (fun vs H Q E h => ?_) (fun cdv Ar outer s H vs Q E hr h => ?_)
  · obtain ⟨x, o, rfl, _⟩ := h
    rfl
  · obtain ⟨x, o, rfl, hx, hE, hG⟩ := h
    have nd := sc_told_joined.nd
    refine BW.exprX Cs hr (takes_of (E := E) rfl rfl rfl rfl) (AV.one (EV.var 0 rfl)) fun H1 e1 => sx_setg hx H1 e1 _ E ?_
    cases o with
    | some k0 => exact fun H2 e2 => hE k0 rfl H2 (e1.trans e2)
    | none =>
      obtain ⟨p, ns, fo, rfl, hp, hl, ho, hQ⟩ := hG rfl
      intro H2 e2
      have e12 := e1.trans e2
      refine BW.asgF 1 nd Cf hr (EV.var 0 rfl) (EV.glob gm) hc (ex_l e12 hp) (by omega) ho (fun hn H3 e3 => ?_) (fun x y hs r H3 e3 hr3 => ?_)
      · refine BW.retI (EI.made (C' := ad (kdT true fo)) (fs' := fsO fo) (EI.ite (TV.isN (EV.var 1 rfl) EV.non) (fun _ => EI.make0 M.kJP (A.cs .JP).mg) (fun z => by simp at z)) (by rw [hn]; rfl) (by rw [hn]; rfl)) fun r dx H4 nr e4 h4 => hQ r dx H4 (fresh_back (e12.trans e3) nr) ((e12.trans e3).trans e4) h4
      · refine BW.retI (EI.made (C' := ad (kdT true fo)) (fs' := fsO fo) (EI.ite (TV.isN (EV.var 1 rfl) EV.non) (fun z => by simp at z) (fun _ => EI.make M.kJT hr (AV.two (EV.ixT (EV.var 1 rfl) EV.int (st_of hr3) (show atI _ (0 : Int) = some _ from rfl)) (EV.ixT (EV.var 1 rfl) EV.int (st_of hr3) (show atI _ (1 : Int) = some _ from rfl))))) (by rw [hs]; rfl) (by rw [hs]; rfl)) fun r dx H4 nr e4 h4 => hQ r dx H4 (fresh_back (e12.trans e3) nr) ((e12.trans e3).trans e4) h4
/-- a good setting told -/
theorem si_told {H : Hp} {j : Bool} {p : Addr} {ns : List Int} {fo : Option (Nat × Nat)} (hp : SqL K H p (ns.map V.int)) (h1 : 1 ≤ ns.length) (h2 : ns.length ≤ 200) (hb : ∀ c ∈ ns, 0 ≤ c ∧ c < (ns.length : Int)) (ho : FirstIs j ns fo) : SpI (spTold K xa ad j) [.ref p] H (ad (kdT j fo)) (fsO fo) := fun H1 e1 Q q E =>
  ⟨.ref p, none, rfl, SetIs.ints (ex_l e1 hp) h1 h2 hb, (fun k z => nomatch z), fun _ => ⟨p, ns, fo, rfl, ex_l e1 hp, h2, ho, q⟩⟩
end
section
variable {X : Cx} {e a b c o : Expr} {es : List Expr} {σ : L2.St} {H : Hp} {pos p pf apos : Pos} {ad : Kd → Addr} {xa : Ek → Addr} {j k : Nat} {ns : List Int}
/-- told(xs), told_joined(xs) of a list given by its shape -/
theorem EX.told {x : Str} {jd : Bool} {fo : Option (Nat × Nat)} (C : Fc X.prog X.w X.K X.mg X.base 3 x (spTold X.K xa ad jd)) (hr : Room j X.A) (ha : EX X a σ H (Sh.ints ns)) (h1 : 1 ≤ ns.length) (h2 : ns.length ≤ 200) (hb : ∀ c ∈ ns, 0 ≤ c ∧ c < (ns.length : Int)) (ho : FirstIs jd ns fo) (hk : 3 ≤ j := by decide) (hg : Gl X x := by rfl) (hs : [a].all noStar = true := by rfl) (hdb : (x == ("__debug__" : Str)) = false := by decide) :
    EX X (.Call (.Name x p) [a] [] pos) σ H (.ins (ad (kdT jd fo)) (fsO fo)) :=
  EX.ins (EI.callA C hr (AX.one ha) (fun vs H1 e1 hvs => by
    obtain ⟨u, rfl, hu⟩ := hvs.one
    obtain ⟨r, rfl, hr⟩ := hu.ofInts
    exact si_told hr h1 h2 hb ho) hk hg hs hdb)
/-- whether the answer is due of the setting ns -/
def dueT (jd : Bool) (fo : Option (Nat × Nat)) (ns : List Int) : Bool := match fo with
  | none => peaceB ns jd
  | some (a, b) => tkShows jd ns a b
theorem EV.shD {jd : Bool} {fo : Option (Nat × Nat)} {pl : Sem Bool} (S : Sw X.prog X.w X.K X.mg X.base ad) (hr : Room j X.A) (h : EX X o σ H (.ins (ad (kdT jd fo)) (fsO fo))) (ha : EX X a σ H (Sh.ints ns)) (hl : ns.length ≤ 1000) (hb : ∀ c ∈ ns, 0 ≤ c ∧ c < (ns.length : Int)) (hk : 3 ≤ j := by decide) (hs : noStar a = true := by rfl)
    (ht : eval (.Call (.Attribute o "shows" apos) [a] [] pos) X.env = (do
      let ov ← eval o X.env
      standAt apos.atName
      let (f, first) ← holding [ov] (getMethod ov "shows" pl)
      callWith pos f first (backTo pos (starEach [a] X.env)) (backToKw pos (keywordEach [] X.env))) := by rfl) : EV X (.Call (.Attribute o "shows" apos) [a] [] pos) σ H (.bl (dueT jd fo ns)) := by
  obtain ⟨o', ho'⟩ := first_ex jd ns
  have hp := first_peace hb ho'
  have hk2 : 2 ≤ j := by omega
  match jd, fo, h with
  | false, none, h => exact EV.isB (EV.shP (pl := pl) S.sP hr h ha hl ho' hk hs ht) hp
  | true, none, h => exact EV.isB (EV.shP (pl := pl) S.sJP hr h ha hl ho' hk hs ht) hp
  | false, some (x, y), h => exact EV.shT (pl := pl) S.sT hr h ha hk2 hs ht
  | true, some (x, y), h => exact EV.shT (pl := pl) S.sJT hr h ha hk2 hs ht
end
/-- the told answer is due of the setting itself -/
theorem due_self {jd : Bool} {ns : List Int} {fo : Option (Nat × Nat)} (hb : ∀ c ∈ ns, 0 ≤ c ∧ c < (ns.length : Int)) (ho : FirstIs jd ns fo) : dueT jd fo ns = true := by
  cases fo with
  | none =>
    have := first_peace hb ho
    exact this.symm
  | some p =>
    obtain ⟨⟨h1, h2⟩, h3, _, _⟩ := (ho : IsFirst jd ns p.1 p.2)
    show tkShows jd ns p.1 p.2 = true
    unfold tkShows
    rw [decide_eq_true (show (0 : Int) ≤ (p.1 : Int) by omega), decide_eq_true (show (p.1 : Int) < (p.2 : Int) by omega), decide_eq_true (show (p.2 : Int) < (ns.length : Int) by omega)]
    simpa using h3
end QR

namespace QR
open PySem PySem.Spec PyProof.Rows L2 Evl
section
variable {P : Program} {w : World} {K : PySem.W.Frag} {mg : Str → Option Value} {base : Heap} {xa : Ek → Addr}
/-! ### column_of, row_at -/
def spColOf : Sp := fun vs H Q _ => ∃ n r : Int, vs = [.int n, .int r] ∧ 0 ≤ r ∧ r < n ∧ RetV (.int (colF n r)) H Q
theorem ok_column_of {f : Addr} {fd : FuncData} (F : Fun K "column_of" "column_of" s_column_of f fd) : FnOk P w K mg base (L2.CX P w) 1 f fd ["size", "row"] spColOf := by
  refine okB F sc_column_of (fun vs H Q E h => ?_) (fun cdv A outer s H vs Q E hr h => ?_)
  · obtain ⟨n, r, rfl, _⟩ := h
    rfl
  · obtain ⟨n, r, rfl, h0, h1, k⟩ := h
    have nd := sc_column_of.nd
    refine BW.whenC (fun σ' H' => Ex H H' ∧ ∃ m : Int, σ' = [some (.int m), some (.int r), none] ∧ r < m ∧ colF n r = colE m r) (TV.eq (EV.mod (EV.var 0 rfl) EV.int (by decide)) EV.int) (fun hk H1 e1 => ?_) (fun hk H1 e1 => ?_) ?_
    · have hk' : n % 2 = 1 := of_decide_eq_true hk
      refine BW.when (TV.eq (EV.var 1 rfl) (EV.sub (EV.var 0 rfl) EV.int)) (fun hj H2 e2 => ?_) (fun hj H2 e2 => ?_)
      · have hj' : r = n - 1 := of_decide_eq_true hj
        refine BW.ret (EV.var 1 rfl) fun H3 e3 => ?_
        have q := k H3 ((e1.trans e2).trans e3)
        unfold colF at q
        rw [if_pos hk', if_pos hj'] at q
        exact q
      · have hj' : r ≠ n - 1 := of_decide_eq_false hj
        refine BW.augS 0 nd rfl EV.int fun H3 e3 => BW.nil ⟨(e1.trans e2).trans e3, n - 1, rfl, by omega, ?_⟩
        unfold colF
        rw [if_pos hk', if_neg hj']
    · have hk' : n % 2 ≠ 1 := of_decide_eq_false hk
      refine ⟨e1, n, rfl, h1, ?_⟩
      unfold colF
      rw [if_neg hk']
    · rintro σ' H' ⟨ex, m, rfl, hm, hc⟩
      refine BW.asg 2 nd (EV.fdiv (EV.var 0 rfl) EV.int (by decide)) fun H2 e2 => ?_
      refine BW.when (TV.ne (EV.mod (EV.var 0 rfl) EV.int (by decide)) EV.int) (fun hk H3 e3 => ?_) (fun hk H3 e3 => ?_)
      · refine BW.ret (EV.isI (j := colF n r) (EV.iteI (TV.lt (EV.var 1 rfl) (EV.var 2 rfl)) (fun h1 => (EV.add (EV.mul EV.int (EV.var 1 rfl) (mul_small (.inl ⟨by decide, by decide⟩))) EV.int)) (fun h1 => (EV.mul EV.int (EV.sub (EV.var 1 rfl) (EV.var 2 rfl)) (mul_small (.inl ⟨by decide, by decide⟩))))) ?_) fun H4 e4 => k H4 (((ex.trans e2).trans e3).trans e4)
        rw [hc]
        unfold colE
        rw [if_pos (show m % 6 ≠ 2 from of_decide_eq_true hk)]
        simp only [decide_eq_true_eq]
      · refine BW.when (TV.lt (EV.var 1 rfl) (EV.var 2 rfl)) (fun hj H4 e4 => ?_) (fun hj H4 e4 => ?_)
        · refine BW.ret (EV.isI (j := colF n r) (EV.mod (EV.sub (EV.add (EV.mul EV.int (EV.var 1 rfl) (mul_small (.inl ⟨by decide, by decide⟩))) (EV.var 2 rfl)) EV.int) (EV.var 0 rfl) (by omega)) ?_) fun H5 e5 => k H5 ((((ex.trans e2).trans e3).trans e4).trans e5)
          rw [hc]
          unfold colE
          rw [if_neg (show ¬ m % 6 ≠ 2 from of_decide_eq_false hk), if_pos (show r < m / 2 from of_decide_eq_true hj)]
        · refine BW.ret (EV.isI (j := colF n r) (EV.sub (EV.sub (EV.var 0 rfl) EV.int) (EV.mod (EV.sub (EV.add (EV.mul EV.int (EV.sub (EV.sub (EV.var 0 rfl) EV.int) (EV.var 1 rfl)) (mul_small (.inl ⟨by decide, by decide⟩))) (EV.var 2 rfl)) EV.int) (EV.var 0 rfl) (by omega))) ?_) fun H5 e5 => k H5 ((((ex.trans e2).trans e3).trans e4).trans e5)
          rw [hc]
          unfold colE
          rw [if_neg (show ¬ m % 6 ≠ 2 from of_decide_eq_false hk), if_neg (show ¬ r < m / 2 from of_decide_eq_false hj)]
theorem sv_colOf {H : Hp} {n r : Int} (h0 : 0 ≤ r) (h1 : r < n) : SpV spColOf [.int n, .int r] H (.int (colF n r)) := fun H1 e1 Q q _ => ⟨n, r, rfl, h0, h1, q⟩
/-! ### check_peaceful -/
def ckPeace (x : V) : Option Ek := if numB x 1 = true then (if x = .int 2 ∨ x = .int 3 then some .none else none) else some .size
def spCkPeace (K : PySem.W.Frag) (xa : Ek → Addr) : Sp := fun vs H Q E => ∃ x, vs = [x] ∧ Kd? K H x ∧ Res xa (ckPeace x) .non H Q E
theorem in23v (b : Int) : inV (.int b) [.int 2, .int 3] = decide (b = 2 ∨ b = 3) := by
  have : (∀ x : Int, eqV (.int x) (.int b) = decide (b = x)) := fun x => by simp [eqV, Bool.beq_eq_decide_eq, eq_comm]
  simp only [inV, List.any_cons, List.any_nil, Bool.or_false, this, Bool.decide_or]
theorem ok_check_peacefulX {f : Addr} {fd : FuncData} (F : Fun K "check_peaceful" "check_peaceful" s_check_peaceful f fd) (Cs : Fc P w K mg base 2 "check_size" (spCkSize K xa)) (xN : Xc K mg "NoSetting" (xa .none)) : FnOk P w K mg base (L2.CX P w) 3 f fd ["size"] (spCkPeace K xa) := by
  refine okR F sc_check_peaceful (fun vs H Q E h => ?_) (fun cdv A outer s H vs Q E hr h => ?_)
  · obtain ⟨n, rfl, _⟩ := h
    rfl
  · obtain ⟨x, rfl, kd, q⟩ := h
    refine BW.exprX Cs hr (takes_of (E := E) rfl rfl rfl rfl) (AV.one (EV.var 0 rfl)) fun H1 e1 => sx_size kd H1 e1 _ E ?_
    by_cases hx : numB x 1 = true
    · have ho : ckSize x = none := by unfold ckSize; rw [if_pos hx]
      rw [ho]
      intro H2 e2
      obtain ⟨i, rfl, hi⟩ := numB_int hx
      refine BW.when (TV.inU (EV.var 0 rfl) (EU.tup (AV.cons EV.int (AV.cons EV.int AV.nil)))) (fun hk H3 e3 => ?_) (fun hk H3 e3 => ?_)
      · rw [in23v] at hk
        refine BW.raise xN (takes_of (E := E) rfl rfl rfl rfl) (q.bad ?_ H3 ((e1.trans e2).trans e3))
        unfold ckPeace
        rw [if_pos hx, if_pos (by simpa using of_decide_eq_true hk)]
      · rw [in23v] at hk
        refine BW.nil (q.good ?_ H3 ((e1.trans e2).trans e3))
        unfold ckPeace
        rw [if_pos hx, if_neg (by simpa using of_decide_eq_false hk)]
    · have ho : ckSize x = some .size := by unfold ckSize; rw [if_neg hx]
      rw [ho]
      exact fun H2 e2 => q.bad (by unfold ckPeace; rw [if_neg hx]) H2 (e1.trans e2)
theorem sx_peace {H : Hp} {x : V} (h : Kd? K H x) : SpX (spCkPeace K xa) xa [x] H (ckPeace x) .non := fun H1 e1 Q E r => ⟨x, rfl, h.ex e1, r⟩
def intV : V → Int
  | .int i => i
  | _ => 0
theorem ckPeace_none {x : V} (h : ckPeace x = none) : ∃ n, x = .int n ∧ 1 ≤ n ∧ n ≠ 2 ∧ n ≠ 3 := by
  unfold ckPeace at h
  by_cases hx : numB x 1 = true
  · obtain ⟨i, rfl, hi⟩ := numB_int hx
    rw [if_pos hx] at h
    by_cases h2 : V.int i = .int 2 ∨ V.int i = .int 3
    · rw [if_pos h2] at h
      cases h
    · refine ⟨i, rfl, hi, fun z => h2 (.inl (by rw [z])), fun z => h2 (.inr (by rw [z]))⟩
  · rw [if_neg hx] at h
    cases h
theorem ckPeace_ok {n : Int} (h1 : 1 ≤ n) (h2 : n ≠ 2) (h3 : n ≠ 3) : ckPeace (.int n) = none := by
  unfold ckPeace
  rw [if_pos (by simp [numB, h1]), if_neg (by simp [h2, h3])]
end
end QR

namespace QR
open PySem PySem.Spec PyProof.Rows L2 Evl
section
variable {P : Program} {w : World} {K : PySem.W.Frag} {mg : Str → Option Value} {base : Heap} {xa : Ek → Addr}
/-! ### check_place -/
def ltV : V → V → Bool
  | .int a, .int b => decide (a < b)
  | _, _ => false
def ckPlace (x y : V) : Option Ek := match ckPeace x with
  | some k => some k
  | none => if numB y 0 = true ∧ ltV y x = true then none else some .place
def spCkPlace (K : PySem.W.Frag) (xa : Ek → Addr) : Sp := fun vs H Q E => ∃ x y, vs = [x, y] ∧ Kd? K H x ∧ Kd? K H y ∧ Res xa (ckPlace x y) .non H Q E
theorem ok_check_placeX {f : Addr} {fd : FuncData} (F : Fun K "check_place" "check_place" s_check_place f fd) (Cn : Fc P w K mg base 1 "is_number" (spIsNum K)) (Cs : Fc P w K mg base 3 "check_peaceful" (spCkPeace K xa)) (xP : Xc K mg "BadPlace" (xa .place)) : FnOk P w K mg base (L2.CX P w) 4 f fd ["size", "place"] (spCkPlace K xa) := by
  refine okR F sc_check_place (fun vs H Q E h => ?_) (fun cdv A outer s H vs Q E hr h => ?_)
  · obtain ⟨n, r, rfl, _⟩ := h
    rfl
  · obtain ⟨x, y, rfl, kd, kd2, q⟩ := h
    refine BW.exprX Cs hr (takes_of (E := E) rfl rfl rfl rfl) (AV.one (EV.var 0 rfl)) fun H1 e1 => sx_peace kd H1 e1 _ E ?_
    cases ho : ckPeace x with
    | some k0 => exact fun H2 e2 => q.bad (by unfold ckPlace; rw [ho]) H2 (e1.trans e2)
    | none =>
      intro H2 e2
      obtain ⟨n, rfl, hn, _, _⟩ := ckPeace_none ho
      have e12 := e1.trans e2
      by_cases hy : numB y 0 = true
      · obtain ⟨i, rfl, hi⟩ := numB_int hy
        refine BW.when (TV.or2 (TV.not (TV.val (EV.call Cn hr (AV.two (EV.var 1 rfl) EV.int) (sv_isnum' (kd2.ex e12))))) (fun _ => TV.ge (EV.var 1 rfl) (EV.var 0 rfl))) (fun hk H3 e3 => ?_) (fun hk H3 e3 => ?_)
        · refine BW.raise xP (takes_of (E := E) rfl rfl rfl rfl) (q.bad ?_ H3 (e12.trans e3))
          rw [hy] at hk
          have : n ≤ i := by simpa using hk
          unfold ckPlace
          rw [ho]
          show (if numB (.int i) 0 = true ∧ ltV (.int i) (.int n) = true then none else some Ek.place) = _
          rw [if_neg (by intro z; have := of_decide_eq_true z.2; omega)]
        · refine BW.nil (q.good ?_ H3 (e12.trans e3))
          rw [hy] at hk
          have : i < n := by simpa using hk
          unfold ckPlace
          rw [ho]
          show (if numB (.int i) 0 = true ∧ ltV (.int i) (.int n) = true then none else some Ek.place) = _
          rw [if_pos ⟨hy, decide_eq_true this⟩]
      · refine BW.take (TV.is (TV.or2 (k2 := false) (TV.not (TV.val (EV.call Cn hr (AV.two (EV.var 1 rfl) EV.int) (sv_isnum' (kd2.ex e12))))) (fun z => absurd z (by simp [hy]))) (by simp [hy])) fun H3 e3 => ?_
        refine BW.raise xP (takes_of (E := E) rfl rfl rfl rfl) (q.bad ?_ H3 (e12.trans e3))
        unfold ckPlace
        rw [ho]
        show (if numB y 0 = true ∧ ltV y (.int n) = true then none else some Ek.place) = _
        rw [if_neg (fun z => hy z.1)]
theorem sx_place {H : Hp} {x y : V} (h : Kd? K H x) (h2 : Kd? K H y) : SpX (spCkPlace K xa) xa [x, y] H (ckPlace x y) .non := fun H1 e1 Q E r => ⟨x, y, rfl, h.ex e1, h2.ex e1, r⟩
theorem ckPlace_none {x y : V} (h : ckPlace x y = none) : ∃ n r, x = .int n ∧ y = .int r ∧ 1 ≤ n ∧ n ≠ 2 ∧ n ≠ 3 ∧ 0 ≤ r ∧ r < n := by
  unfold ckPlace at h
  cases ho : ckPeace x with
  | some k => rw [ho] at h; cases h
  | none =>
    obtain ⟨n, rfl, h1, h2, h3⟩ := ckPeace_none ho
    rw [ho] at h
    have h' : (if numB y 0 = true ∧ ltV y (.int n) = true then none else some Ek.place) = none := h
    by_cases hy : numB y 0 = true ∧ ltV y (.int n) = true
    · obtain ⟨i, rfl, hi⟩ := numB_int hy.1
      exact ⟨n, i, rfl, rfl, h1, h2, h3, hi, of_decide_eq_true hy.2⟩
    · rw [if_neg hy] at h'
      cases h'
theorem ckPlace_ok {n r : Int} (h1 : 1 ≤ n) (h2 : n ≠ 2) (h3 : n ≠ 3) (h0 : 0 ≤ r) (hr : r < n) : ckPlace (.int n) (.int r) = none := by
  unfold ckPlace
  rw [ckPeace_ok h1 h2 h3]
  show (if numB (.int r) 0 = true ∧ ltV (.int r) (.int n) = true then none else some Ek.place) = _
  rw [if_pos ⟨decide_eq_true h0, decide_eq_true hr⟩]
/-! ### column, row_of -/
def spCol (K : PySem.W.Frag) (xa : Ek → Addr) : Sp := fun vs H Q E => ∃ x y, vs = [x, y] ∧ Kd? K H x ∧ Kd? K H y ∧ Res xa (ckPlace x y) (.int (colF (intV x) (intV y))) H Q E
theorem ok_columnX {f : Addr} {fd : FuncData} (F : Fun K "column" "column" s_column f fd) (Cp : Fc P w K mg base 4 "check_place" (spCkPlace K xa)) (Cc : Fc P w K mg base 1 "column_of" spColOf) : FnOk P w K mg base (L2.CX P w) 5 f fd ["size", "row"] (spCol K xa) := by
  refine okR F sc_column (fun vs H Q E h => ?_) (fun cdv A outer s H vs Q E hr h => ?_)
  · obtain ⟨n, r, rfl, _⟩ := h
    rfl
  · obtain ⟨x, y, rfl, kd, kd2, q⟩ := h
    refine BW.exprX Cp hr (takes_of (E := E) rfl rfl rfl rfl) (AV.two (EV.var 0 rfl) (EV.var 1 rfl)) fun H1 e1 => sx_place kd kd2 H1 e1 _ E ?_
    cases ho : ckPlace x y with
    | some k0 => exact fun H2 e2 => q.bad ho H2 (e1.trans e2)
    | none =>
      obtain ⟨n, r, rfl, rfl, h1, h2, h3, h0, hr'⟩ := ckPlace_none ho
      intro H2 e2
      exact BW.ret (EV.call Cc hr (AV.two (EV.var 0 rfl) (EV.var 1 rfl)) (sv_colOf h0 hr')) fun H3 e3 => q.good ho H3 ((e1.trans e2).trans e3)
theorem sx_col {H : Hp} {x y : V} (h : Kd? K H x) (h2 : Kd? K H y) : SpX (spCol K xa) xa [x, y] H (ckPlace x y) (.int (colF (intV x) (intV y))) := fun H1 e1 Q E r => ⟨x, y, rfl, h.ex e1, h2.ex e1, r⟩
theorem sv_col {H : Hp} {n r : Int} (h1 : 1 ≤ n) (h2 : n ≠ 2) (h3 : n ≠ 3) (h0 : 0 ≤ r) (hr : r < n) : SpV (spCol K xa) [.int n, .int r] H (.int (colF n r)) := by
  have := sx_col (K := K) (xa := xa) (H := H) (x := .int n) (y := .int r) Kd?.int Kd?.int
  rw [ckPlace_ok h1 h2 h3 h0 hr] at this
  exact this.v
end
end QR

namespace QR
open PySem PySem.Spec PyProof.Rows L2 Evl
section
variable {P : Program} {w : World} {K : PySem.W.Frag} {mg : Str → Option Value} {base : Heap} {xa : Ek → Addr}
def spRowAt : Sp := fun vs H Q _ => ∃ n r : Int, vs = [.int n, .int r] ∧ 0 ≤ r ∧ r < n ∧ RetV (.int (rowF n r)) H Q
theorem ok_row_at {f : Addr} {fd : FuncData} (F : Fun K "row_at" "row_at" s_row_at f fd) : FnOk P w K mg base (L2.CX P w) 1 f fd ["size", "column"] spRowAt := by
  refine okB F sc_row_at (fun vs H Q E h => ?_) (fun cdv A outer s H vs Q E hr h => ?_)
  · obtain ⟨n, r, rfl, _⟩ := h
    rfl
  · obtain ⟨n, r, rfl, h0, h1, k⟩ := h
    have nd := sc_row_at.nd
    refine BW.whenC (fun σ' H' => Ex H H' ∧ ∃ m : Int, σ' = [some (.int m), some (.int r), none, none] ∧ r < m ∧ rowF n r = rowE m r) (TV.eq (EV.mod (EV.var 0 rfl) EV.int (by decide)) EV.int) (fun hk H1 e1 => ?_) (fun hk H1 e1 => ?_) ?_
    · have hk' : n % 2 = 1 := of_decide_eq_true hk
      refine BW.when (TV.eq (EV.var 1 rfl) (EV.sub (EV.var 0 rfl) EV.int)) (fun hj H2 e2 => ?_) (fun hj H2 e2 => ?_)
      · have hj' : r = n - 1 := of_decide_eq_true hj
        refine BW.ret (EV.var 1 rfl) fun H3 e3 => ?_
        have q := k H3 ((e1.trans e2).trans e3)
        unfold rowF at q
        rw [if_pos hk', if_pos hj'] at q
        exact q
      · have hj' : r ≠ n - 1 := of_decide_eq_false hj
        refine BW.augS 0 nd rfl EV.int fun H3 e3 => BW.nil ⟨(e1.trans e2).trans e3, n - 1, rfl, by omega, ?_⟩
        unfold rowF
        rw [if_pos hk', if_neg hj']
    · have hk' : n % 2 ≠ 1 := of_decide_eq_false hk
      refine ⟨e1, n, rfl, h1, ?_⟩
      unfold rowF
      rw [if_neg hk']
    · rintro σ' H' ⟨ex, m, rfl, hm, hc⟩
      refine BW.asg 2 nd (EV.fdiv (EV.var 0 rfl) EV.int (by decide)) fun H2 e2 => ?_
      refine BW.when (TV.ne (EV.mod (EV.var 0 rfl) EV.int (by decide)) EV.int) (fun hk H3 e3 => ?_) (fun hk H3 e3 => ?_)
      · refine BW.ret (EV.isI (j := rowF n r) (EV.iteI (TV.eq (EV.mod (EV.var 1 rfl) EV.int (by decide)) EV.int) (fun h1 => (EV.fdiv (EV.var 1 rfl) EV.int (by decide))) (fun h1 => (EV.add (EV.var 2 rfl) (EV.fdiv (EV.var 1 rfl) EV.int (by decide))))) ?_) fun H4 e4 => k H4 (((ex.trans e2).trans e3).trans e4)
        rw [hc]
        unfold rowE
        rw [if_pos (show m % 6 ≠ 2 from of_decide_eq_true hk)]
        simp only [decide_eq_true_eq]
      · refine BW.asg 3 nd (EV.mod (EV.add (EV.sub (EV.var 1 rfl) (EV.var 2 rfl)) EV.int) (EV.var 0 rfl) (by omega)) fun H4 e4 => ?_
        refine BW.when (TV.eq (EV.mod (EV.var 3 rfl) EV.int (by decide)) EV.int) (fun hj H5 e5 => ?_) (fun hj H5 e5 => ?_)
        · refine BW.ret (EV.isI (j := rowF n r) (EV.fdiv (EV.var 3 rfl) EV.int (by decide)) ?_) fun H6 e6 => k H6 (((((ex.trans e2).trans e3).trans e4).trans e5).trans e6)
          rw [hc]
          unfold rowE
          rw [if_neg (show ¬ m % 6 ≠ 2 from of_decide_eq_false hk), if_pos (show (r - m / 2 + 1) % m % 2 = 0 from of_decide_eq_true hj)]
        · refine BW.ret (EV.isI (j := rowF n r) (EV.sub (EV.sub (EV.var 0 rfl) EV.int) (EV.fdiv (EV.mod (EV.sub (EV.sub (EV.var 0 rfl) (EV.var 1 rfl)) (EV.var 2 rfl)) (EV.var 0 rfl) (by omega)) EV.int (by decide))) ?_) fun H6 e6 => k H6 (((((ex.trans e2).trans e3).trans e4).trans e5).trans e6)
          rw [hc]
          unfold rowE
          rw [if_neg (show ¬ m % 6 ≠ 2 from of_decide_eq_false hk), if_neg (show ¬ (r - m / 2 + 1) % m % 2 = 0 from of_decide_eq_false hj)]
theorem sv_rowAt {H : Hp} {n r : Int} (h0 : 0 ≤ r) (h1 : r < n) : SpV spRowAt [.int n, .int r] H (.int (rowF n r)) := fun H1 e1 Q q _ => ⟨n, r, rfl, h0, h1, q⟩
def spRow (K : PySem.W.Frag) (xa : Ek → Addr) : Sp := fun vs H Q E => ∃ x y, vs = [x, y] ∧ Kd? K H x ∧ Kd? K H y ∧ Res xa (ckPlace x y) (.int (rowF (intV x) (intV y))) H Q E
theorem ok_row_ofX {f : Addr} {fd : FuncData} (F : Fun K "row_of" "row_of" s_row_of f fd) (Cp : Fc P w K mg base 4 "check_place" (spCkPlace K xa)) (Cc : Fc P w K mg base 1 "row_at" spRowAt) : FnOk P w K mg base (L2.CX P w) 5 f fd ["size", "column"] (spRow K xa) := by
  refine okR F sc_row_of (fun vs H Q E h => ?_) (fun cdv A outer s H vs Q E hr h => ?_)
  · obtain ⟨n, r, rfl, _⟩ := h
    rfl
  · obtain ⟨x, y, rfl, kd, kd2, q⟩ := h
    refine BW.exprX Cp hr (takes_of (E := E) rfl rfl rfl rfl) (AV.two (EV.var 0 rfl) (EV.var 1 rfl)) fun H1 e1 => sx_place kd kd2 H1 e1 _ E ?_
    cases ho : ckPlace x y with
    | some k0 => exact fun H2 e2 => q.bad ho H2 (e1.trans e2)
    | none =>
      obtain ⟨n, r, rfl, rfl, h1, h2, h3, h0, hr'⟩ := ckPlace_none ho
      intro H2 e2
      exact BW.ret (EV.call Cc hr (AV.two (EV.var 0 rfl) (EV.var 1 rfl)) (sv_rowAt h0 hr')) fun H3 e3 => q.good ho H3 ((e1.trans e2).trans e3)
theorem sx_row {H : Hp} {x y : V} (h : Kd? K H x) (h2 : Kd? K H y) : SpX (spRow K xa) xa [x, y] H (ckPlace x y) (.int (rowF (intV x) (intV y))) := fun H1 e1 Q E r => ⟨x, y, rfl, h.ex e1, h2.ex e1, r⟩
theorem sv_row {H : Hp} {n r : Int} (h1 : 1 ≤ n) (h2 : n ≠ 2) (h3 : n ≠ 3) (h0 : 0 ≤ r) (hr : r < n) : SpV (spRow K xa) [.int n, .int r] H (.int (rowF n r)) := by
  have := sx_row (K := K) (xa := xa) (H := H) (x := .int n) (y := .int r) Kd?.int Kd?.int
  rw [ckPlace_ok h1 h2 h3 h0 hr] at this
  exact this.v
end
end QR

namespace QR
open PySem PySem.Spec PyProof.Rows L2 Evl
section
variable {P : Program} {w : World} {K : PySem.W.Frag} {mg : Str → Option Value} {base : Heap} {xa : Ek → Addr}
/-! ### setting -/
def ckSet (x : V) : Option Ek := if numB x 1 = true then (if 200 < intV x then some .size else if x = .int 2 ∨ x = .int 3 then some .none else none) else some .size
def setL (n : Nat) : List Int := (List.range n).map fun i : Nat => colF n i
/-- refuses, or gives a new list -/
def ResL (xa : Ek → Addr) (o : Option Ek) (xs : List V) (H : Hp) (Q : VK) (E : XK) : Prop := match o with
  | none => RetL xs H Q
  | some k => ∀ H2, Ex H H2 → E (.ref (xa k)) none H2
theorem ResL.good {o : Option Ek} {xs : List V} {H : Hp} {Q : VK} {E : XK} (h : ResL xa o xs H Q E) (ho : o = none) : RetL xs H Q := by subst ho; exact h
theorem ResL.bad {o : Option Ek} {xs : List V} {H : Hp} {Q : VK} {E : XK} {k : Ek} (h : ResL xa o xs H Q E) (ho : o = some k) : ∀ H2, Ex H H2 → E (.ref (xa k)) none H2 := by subst ho; exact h
def SpLX (sp : Sp) (xa : Ek → Addr) (vs : List V) (H : Hp) (o : Option Ek) (xs : List V) : Prop := ∀ H1, Ex H H1 → ∀ (Q : VK) (E : XK), ResL xa o xs H1 Q E → sp vs H1 Q E
theorem SpLX.l {sp : Sp} {vs : List V} {H : Hp} {xs : List V} (h : SpLX sp xa vs H none xs) : SpL sp vs H xs := fun H1 e1 Q q E => h H1 e1 Q E q
def spSetting (K : PySem.W.Frag) (xa : Ek → Addr) : Sp := fun vs H Q E => ∃ x, vs = [x] ∧ Kd? K H x ∧ ResL xa (ckSet x) ((setL (intV x).toNat).map V.int) H Q E
theorem ckSet_size {x : V} (h : ckSize x = some .size) : ckSet x = some .size := by
  unfold ckSize at h
  unfold ckSet
  by_cases hx : numB x 1 = true
  · rw [if_pos hx] at h
    cases h
  · rw [if_neg hx]
theorem ok_settingX {f : Addr} {fd : FuncData} (F : Fun K "setting" "setting" s_setting f fd) (B : Bl mg) (Cs : Fc P w K mg base 2 "check_size" (spCkSize K xa)) (Cp : Fc P w K mg base 3 "check_peaceful" (spCkPeace K xa)) (Cc : Fc P w K mg base 1 "column_of" spColOf) (xS : Xc K mg "BadSize" (xa .size)) (gM : ∃ t, mg "MOST" = some (.int 200 t)) : FnOk P w K mg base (L2.CX P w) 4 f fd ["size"] (spSetting K xa) := by
  obtain ⟨tM, gM⟩ := gM
  refine okR F sc_setting (fun vs H Q E h => ?_) (fun cdv A outer s H vs Q E hr h => ?_)
  · obtain ⟨n, rfl, _⟩ := h
    rfl
  · obtain ⟨x, rfl, kd, q⟩ := h
    have nd := sc_setting.nd
    refine BW.exprX Cs hr (takes_of (E := E) rfl rfl rfl rfl) (AV.one (EV.var 0 rfl)) fun H1 e1 => sx_size kd H1 e1 _ E ?_
    by_cases hx : numB x 1 = true
    · have ho : ckSize x = none := by unfold ckSize; rw [if_pos hx]
      rw [ho]
      intro H2 e2
      obtain ⟨i, rfl, hi⟩ := numB_int hx
      have e12 := e1.trans e2
      refine BW.when (TV.gt (EV.var 0 rfl) (EV.globI gM)) (fun hk H3 e3 => ?_) (fun hk H3 e3 => ?_)
      · refine BW.raise xS (takes_of (E := E) rfl rfl rfl rfl) (q.bad ?_ H3 (e12.trans e3))
        unfold ckSet
        rw [if_pos hx, if_pos (show 200 < intV (.int i) from of_decide_eq_true hk)]
      · have hk' : ¬ 200 < i := of_decide_eq_false hk
        refine BW.exprX Cp hr (takes_of (E := E) rfl rfl rfl rfl) (AV.one (EV.var 0 rfl)) fun H4 e4 => sx_peace (Kd?.int) H4 e4 _ E ?_
        have e14 := (e12.trans e3).trans e4
        by_cases h2 : V.int i = .int 2 ∨ V.int i = .int 3
        · have ho2 : ckPeace (.int i) = some .none := by unfold ckPeace; rw [if_pos hx, if_pos h2]
          rw [ho2]
          refine fun H5 e5 => q.bad ?_ H5 (e14.trans e5)
          unfold ckSet
          rw [if_pos hx, if_neg (show ¬ 200 < intV (.int i) from hk'), if_pos h2]
        · have ho2 : ckPeace (.int i) = none := by unfold ckPeace; rw [if_pos hx, if_neg h2]
          rw [ho2]
          intro H5 e5
          refine BW.retL (EL.is (ys := (setL i.toNat).map V.int) (LC.range (j := 1) (fun j => .int (colF i j)) B.range nd (blkOk_by (N := n_setting) (sc := defScope s_setting) (by decide +kernel)) (EV.var 0 rfl) ⟨by omega, by omega⟩ (fun j H6 e6 hj s0 H0 C0 cl fp => EV.call Cc hr (AV.two (EV.var 0 rfl) (EV.var 1 rfl)) (sv_colOf (by omega) hj))).el ?_) fun r H6 nr e6 h6 => ?_
          · unfold setL
            rw [List.map_map]
            have : ((i.toNat : Nat) : Int) = i := by omega
            rw [this]
            rfl
          · refine RetL.go (q.good ?_) (e14.trans e5) nr e6 h6
            unfold ckSet
            rw [if_pos hx, if_neg (show ¬ 200 < intV (.int i) from hk'), if_neg h2]
    · have ho : ckSize x = some .size := by unfold ckSize; rw [if_neg hx]
      rw [ho]
      exact fun H2 e2 => q.bad (ckSet_size ho) H2 (e1.trans e2)
theorem sx_setting {H : Hp} {x : V} (h : Kd? K H x) : SpLX (spSetting K xa) xa [x] H (ckSet x) ((setL (intV x).toNat).map V.int) := fun H1 e1 Q E r => ⟨x, rfl, h.ex e1, r⟩
theorem ckSet_ok {n : Int} (h1 : 1 ≤ n) (h2 : n ≠ 2) (h3 : n ≠ 3) (h4 : n ≤ 200) : ckSet (.int n) = none := by
  unfold ckSet
  rw [if_pos (by simp [numB, h1]), if_neg (by show ¬ 200 < n; omega), if_neg (by simp [h2, h3])]
theorem sl_setting {H : Hp} {n : Int} (h1 : 1 ≤ n) (h2 : n ≠ 2) (h3 : n ≠ 3) (h4 : n ≤ 200) : SpL (spSetting K xa) [.int n] H ((setL n.toNat).map V.int) := by
  have := sx_setting (K := K) (xa := xa) (H := H) (x := .int n) Kd?.int
  rw [ckSet_ok h1 h2 h3 h4] at this
  exact this.l
end
end QR

namespace QR
open PySem PySem.Spec PyProof.Rows L2 Evl
/-! ### mirrored, upended, exchanged -/
/-- a def over one setting: refused, or by o the list out -/
def spOne (K : PySem.W.Frag) (xa : Ek → Addr) (out : List Int → List Int) : Sp := fun vs H Q E => ∃ x o, vs = [x] ∧ SetIs K H x o ∧ (∀ k, o = some k → ∀ H2, Ex H H2 → E (.ref (xa k)) none H2) ∧
  (o = none → ∃ p ns, x = .ref p ∧ SqL K H p (ns.map V.int) ∧ ns.length ≤ 200 ∧ RetL ((out ns).map V.int) H Q)
def spExch (K : PySem.W.Frag) (xa : Ek → Addr) : Sp := fun vs H Q E => ∃ x o, vs = [x] ∧ SetIs K H x o ∧ (∀ k, o = some k → ∀ H2, Ex H H2 → E (.ref (xa k)) none H2) ∧
  (o = none → ∃ p ns fo, x = .ref p ∧ SqL K H p (ns.map V.int) ∧ ns.length ≤ 200 ∧ Bd ns ∧ FirstIs false ns fo ∧ (fo ≠ none → ∀ H2, Ex H H2 → E (.ref (xa .peace)) none H2) ∧ (fo = none → RetL ((exL ns).map V.int) H Q))
section
variable {P : Program} {w : World} {K : PySem.W.Frag} {mg : Str → Option Value} {base : Heap} {xa : Ek → Addr}
theorem ok_mirrored {f : Addr} {fd : FuncData} (F : Fun K "mirrored" "mirrored" s_mirrored f fd) (B : Bl mg) (Cs : Fc P w K mg base 2 "check_setting" (spCkSetting K xa)) : FnOk P w K mg base (L2.CX P w) 3 f fd ["setting"] (spOne K xa mirL) := by
  refine okR F sc_mirrored (fun vs H Q E h => ?_) (fun cdv Ar outer s H vs Q E hr h => ?_)
  · obtain ⟨x, o, rfl, _⟩ := h
    rfl
  · obtain ⟨x, o, rfl, hx, hE, hG⟩ := h
    have nd := sc_mirrored.nd
    refine BW.exprX Cs hr (takes_of (E := E) rfl rfl rfl rfl) (AV.one (EV.var 0 rfl)) fun H1 e1 => sx_setg hx H1 e1 _ E ?_
    cases o with
    | some k0 => exact fun H2 e2 => hE k0 rfl H2 (e1.trans e2)
    | none =>
      obtain ⟨p, ns, rfl, hp, hl, hQ⟩ := hG rfl
      intro H2 e2
      have e12 := e1.trans e2
      have hlen : ((ns.map V.int).length : Int) = (ns.length : Int) := by simp
      refine BW.retL (EL.is (ys := (mirL ns).map V.int) (LC.list (j := 1) (fun i => .int ((ns.length : Int) - 1 - ns.getD i 0)) nd (blkOk_by (N := n_mirrored) (sc := defScope s_mirrored) (by decide +kernel)) (EV.var 0 rfl) (ex_l e12 hp) (by simp; omega) (fun i y H3 e3 hi s0 H0 C0 cl fp => ?_)).el ?_) fun r H3 nr e3 hr3 => RetL.go hQ e12 nr e3 hr3
      · obtain ⟨rfl, _⟩ := at_map hi
        exact EV.sub (EV.sub (EV.isI (EV.len B.len (EV.var 0 rfl) (ex_l (e12.trans e3) hp)) hlen) EV.int) (EV.var 1 rfl)
      · unfold mirL
        rw [List.map_map]
        apply List.ext_getElem
        · simp
        · intro i h1 h2
          simp at h1 h2 ⊢
          rw [List.getElem?_eq_getElem h1]
          rfl
theorem ok_upended {f : Addr} {fd : FuncData} (F : Fun K "upended" "upended" s_upended f fd) (Cs : Fc P w K mg base 2 "check_setting" (spCkSetting K xa)) : FnOk P w K mg base (L2.CX P w) 3 f fd ["setting"] (spOne K xa List.reverse) := by
  refine okR F sc_upended (fun vs H Q E h => ?_) (fun cdv Ar outer s H vs Q E hr h => ?_)
  · obtain ⟨x, o, rfl, _⟩ := h
    rfl
  · obtain ⟨x, o, rfl, hx, hE, hG⟩ := h
    have nd := sc_upended.nd
    refine BW.exprX Cs hr (takes_of (E := E) rfl rfl rfl rfl) (AV.one (EV.var 0 rfl)) fun H1 e1 => sx_setg hx H1 e1 _ E ?_
    cases o with
    | some k0 => exact fun H2 e2 => hE k0 rfl H2 (e1.trans e2)
    | none =>
      obtain ⟨p, ns, rfl, hp, hl, hQ⟩ := hG rfl
      intro H2 e2
      have e12 := e1.trans e2
      exact BW.retL (EL.is (EL.rev (ES.old (EV.var 0 rfl) (ex_l e12 hp))) (by rw [List.map_reverse])) fun r H3 nr e3 hr3 => RetL.go hQ e12 nr e3 hr3
/-- first_taking(..) is not None, as a test -/
theorem TV.firstS {X : Cx} {e a b : Expr} {σ : L2.St} {H : Hp} {p pos pos2 : Pos} {k : Nat} {o : Option (Nat × Nat)} {ns : List Int} {j : Bool} {q g : Addr} (C : Fc X.prog X.w X.K X.mg X.base 2 "first_taking" (spFirst X.prog X.w X.K X.mg X.base)) (hr : Room k X.A)
    (ha : EV X a σ H (.ref q)) (hb : EV X b σ H (.ref g)) (hc : Hc X.prog X.w X.K X.mg X.base 1 g (spTk X.K j)) (hq : SqL X.K H q (ns.map V.int)) (hl : ns.length ≤ 1000) (ho : FirstIs j ns o) (hn : EV X e σ H .non) (hk : 2 ≤ k := by decide) (hg : Gl X "first_taking" := by rfl) (hs : [a, b].all noStar = true := by rfl) :
    TV X (.Compare (.Call (.Name "first_taking" p) [a, b] [] pos2) [.IsNot] [e] pos) σ H (!o.isNone) := by
  refine TV.of (pt_cmpR op_notN pe_self pe_self (nomark _)) fun H1 e1 Q kq => ?_
  refine EW.call C hr (AV.ev (AV.two ha hb) H1 e1 _ fun H2 e2 => ⟨q, g, ns, j, o, rfl, ex_l (e1.trans e2) hq, hl, hc, ho, ?_, ?_⟩) hk hg hs
  · intro h H3 e3
    refine hn.ev H3 ((e1.trans e2).trans e3) _ fun H4 e4 => ⟨rfl, _, rfl, ?_⟩
    subst h
    exact kq H4 ((e2.trans e3).trans e4)
  · intro x y h r H3 nr e3 hr3
    refine hn.ev H3 ((e1.trans e2).trans e3) _ fun H4 e4 => ⟨rfl, _, rfl, ?_⟩
    subst h
    exact kq H4 ((e2.trans e3).trans e4)
theorem ok_exchanged {f : Addr} {fd : FuncData} (F : Fun K "exchanged" "exchanged" s_exchanged f fd) (B : Bl mg) (Cs : Fc P w K mg base 2 "check_setting" (spCkSetting K xa)) (Cf : Fc P w K mg base 2 "first_taking" (spFirst P w K mg base)) (Ct : Fc P w K mg base 1 "take" (spTk K false)) (xN : Xc K mg "NoPeace" (xa .peace)) : FnOk P w K mg base (L2.CX P w) 3 f fd ["setting"] (spExch K xa) := by
  obtain ⟨g, gm, hc⟩ := Hc.of Ct
  refine okR F sc_exchanged (fun vs H Q E h => ?_) (fun cdv Ar outer s H vs Q E hr h => ?_)
  · obtain ⟨x, o, rfl, _⟩ := h
    rfl
  · obtain ⟨x, o, rfl, hx, hE, hG⟩ := h
    have nd := sc_exchanged.nd
    refine BW.exprX Cs hr (takes_of (E := E) rfl rfl rfl rfl) (AV.one (EV.var 0 rfl)) fun H1 e1 => sx_setg hx H1 e1 _ E ?_
    cases o with
    | some k0 => exact fun H2 e2 => hE k0 rfl H2 (e1.trans e2)
    | none =>
      obtain ⟨p, ns, fo, rfl, hp, hl, hb, ho, hN, hQ⟩ := hG rfl
      intro H2 e2
      have e12 := e1.trans e2
      have hlen : ((ns.map V.int).length : Int) = (ns.length : Int) := by simp
      refine BW.when (TV.firstS Cf hr (EV.var 0 rfl) (EV.glob gm) hc (ex_l e12 hp) (by omega) ho EV.non) (fun hk H3 e3 => ?_) (fun hk H3 e3 => ?_)
      · refine BW.raise xN (takes_of (E := E) rfl rfl rfl rfl) (hN ?_ H3 (e12.trans e3))
        intro z
        rw [z] at hk
        cases hk
      · have hfo : fo = none := by
          cases fo with
          | none => rfl
          | some z => cases hk
        have hno : NoTake false ns := by
          rw [hfo] at ho
          exact ho
        refine BW.retL (EL.is (ys := (exL ns).map V.int) (LC.range (j := 1) (fun i => .int ((ns.idxOf (i : Int) : Nat) : Int)) B.range nd (blkOk_by (N := n_exchanged) (sc := defScope s_exchanged) (by decide +kernel)) (EV.isI (EV.len B.len (EV.var 0 rfl) (ex_l (e12.trans e3) hp)) hlen) ⟨by omega, by omega⟩ (fun i H4 e4 hi s0 H0 C0 cl fp => EV.index (EV.var 0 rfl) (ex_l ((e12.trans e3).trans e4) hp) (EV.var 1 rfl) (all_cols hno hb (by omega)))).el ?_) fun r H4 nr e4 hr4 => RetL.go (hQ hfo) (e12.trans e3) nr e4 hr4
        unfold exL
        rw [List.map_map, Int.toNat_natCast]
        rfl
/-! ### product -/
def spProd (K : PySem.W.Frag) (xa : Ek → Addr) : Sp := fun vs H Q E => ∃ x y o o', vs = [x, y] ∧ SetIs K H x o ∧ SetIs K H y o' ∧ (∀ k, o = some k → ∀ H2, Ex H H2 → E (.ref (xa k)) none H2) ∧ (∀ k, o = none → o' = some k → ∀ H2, Ex H H2 → E (.ref (xa k)) none H2) ∧
  (o = none → o' = none → ∃ p q ns ms fo fi, x = .ref p ∧ y = .ref q ∧ SqL K H p (ns.map V.int) ∧ SqL K H q (ms.map V.int) ∧ ns.length ≤ 200 ∧ (1 ≤ ms.length ∧ ms.length ≤ 200) ∧ Bd ns ∧ Bd ms ∧ FirstIs false ns fo ∧ FirstIs true ms fi ∧
    (200 < ns.length * ms.length → ∀ H2, Ex H H2 → E (.ref (xa .setting)) none H2) ∧ (ns.length * ms.length ≤ 200 → (fo ≠ none ∨ fi ≠ none) → ∀ H2, Ex H H2 → E (.ref (xa .peace)) none H2) ∧ (ns.length * ms.length ≤ 200 → fo = none → fi = none → RetL ((prodL ns ms).map V.int) H Q))
theorem prod_step {ns ms : List Int} (h1 : 0 < ms.length) {i : Nat} (hi : i < ns.length) : (prodL ns ms).take ((i + 1) * ms.length) = (prodL ns ms).take (i * ms.length) ++ ms.map fun l => ns.getD i 0 * (ms.length : Int) + l := by
  apply List.ext_getElem
  · have : (i + 1) * ms.length ≤ ns.length * ms.length := Nat.mul_le_mul_right _ hi
    have h2 : i * ms.length ≤ ns.length * ms.length := Nat.mul_le_mul_right _ (by omega)
    simp only [List.length_take, prodL_len, List.length_append, List.length_map]
    rw [Nat.min_eq_left this, Nat.min_eq_left h2, Nat.add_mul]
    omega
  · intro r hr1 hr2
    have h3 : (i + 1) * ms.length ≤ ns.length * ms.length := Nat.mul_le_mul_right _ hi
    have h2 : i * ms.length ≤ ns.length * ms.length := Nat.mul_le_mul_right _ (by omega)
    have hlt : r < (i + 1) * ms.length := by
      simp only [List.length_take, prodL_len] at hr1
      omega
    rw [List.getElem_take, List.getElem_append]
    split
    · rw [List.getElem_take]
    · rename_i hge
      simp only [List.length_take, prodL_len] at hge
      rw [Nat.min_eq_left h2] at hge
      have e : (prodL ns ms)[r]'(by rw [prodL_len]; omega) = (prodL ns ms).getD r 0 := by
        rw [List.getD_eq_getElem?_getD, List.getElem?_eq_getElem (by rw [prodL_len]; omega)]
        rfl
      rw [e, prodL_getD (by omega)]
      have hlt' : r < i * ms.length + ms.length := by rw [Nat.add_mul] at hlt; omega
      have hd : r / ms.length = i := by
        rw [Nat.div_eq_of_lt_le]
        · omega
        · rw [Nat.add_mul]
          omega
      have hm : r % ms.length = r - i * ms.length := by
        have := Nat.div_add_mod r ms.length
        rw [hd, Nat.mul_comm] at this
        omega
      rw [hd, hm]
      simp only [List.getElem_map, List.length_take, prodL_len]
      congr 1
      rw [List.getD_eq_getElem?_getD, List.getElem?_eq_getElem (by omega)]
      simp only [Nat.min_eq_left h2]
      rfl
theorem ok_product {f : Addr} {fd : FuncData} (F : Fun K "product" "product" s_product f fd) (B : Bl mg) (Cs : Fc P w K mg base 2 "check_setting" (spCkSetting K xa)) (Cf : Fc P w K mg base 2 "first_taking" (spFirst P w K mg base)) (Ct : Fc P w K mg base 1 "take" (spTk K false)) (Cj : Fc P w K mg base 1 "take_joined" (spTk K true)) (xN : Xc K mg "NoPeace" (xa .peace)) (xS : Xc K mg "BadSetting" (xa .setting)) (gM : ∃ t, mg "MOST" = some (.int 200 t)) : FnOk P w K mg base (L2.CX P w) 3 f fd ["outer", "inner"] (spProd K xa) := by
  obtain ⟨tM, gM⟩ := gM
  obtain ⟨g, gm, hc⟩ := Hc.of Ct
  obtain ⟨g', gm', hc'⟩ := Hc.of Cj
  refine okR F sc_product (fun vs H Q E h => ?_) (fun cdv Ar outer s H vs Q E hr h => ?_)
  · obtain ⟨x, y, o, o', rfl, _⟩ := h
    rfl
  · obtain ⟨x, y, o, o', rfl, hx, hy, hE, hE', hG⟩ := h
    have nd := sc_product.nd
    refine BW.exprX Cs hr (takes_of (E := E) rfl rfl rfl rfl) (AV.one (EV.var 0 rfl)) fun H1 e1 => sx_setg hx H1 e1 _ E ?_
    cases o with
    | some k0 => exact fun H2 e2 => hE k0 rfl H2 (e1.trans e2)
    | none =>
    intro H2 e2
    have e12 := e1.trans e2
    refine BW.exprX Cs hr (takes_of (E := E) rfl rfl rfl rfl) (AV.one (EV.var 1 rfl)) fun H3 e3 => sx_setg (hy.ex e12) H3 e3 _ E ?_
    cases o' with
    | some k0 => exact fun H4 e4 => hE' k0 rfl rfl H4 ((e12.trans e3).trans e4)
    | none =>
    obtain ⟨p, q, ns, ms, fo, fi, rfl, rfl, hp, hq, hl, ⟨hm1, hm⟩, bn, bm, ho, hi, hS, hN, hQ⟩ := hG rfl rfl
    intro H4 e4
    have e14 := (e12.trans e3).trans e4
    have hp4 := ex_l e14 hp
    have hq4 := ex_l e14 hq
    have hlen : ((ns.map V.int).length : Int) = (ns.length : Int) := by simp
    have hlen' : ((ms.map V.int).length : Int) = (ms.length : Int) := by simp
    refine BW.when (TV.gt (EV.mul (EV.isI (EV.len B.len (EV.var 0 rfl) hp4) hlen) (EV.isI (EV.len B.len (EV.var 1 rfl) hq4) hlen') (mul_small (.inl ⟨by omega, by omega⟩))) (EV.globI gM)) (fun hk H5 e5 => ?_) (fun hk H5 e5 => ?_)
    · have hk' : (200 : Int) < (ns.length : Int) * (ms.length : Int) := of_decide_eq_true hk
      rw [← Int.natCast_mul] at hk'
      exact BW.raise xS (takes_of (E := E) rfl rfl rfl rfl) (hS (by omega) H5 (e14.trans e5))
    · have hk' : ¬ (200 : Int) < (ns.length : Int) * (ms.length : Int) := of_decide_eq_false hk
      rw [← Int.natCast_mul] at hk'
      have h200 : ns.length * ms.length ≤ 200 := by omega
      have e15 := e14.trans e5
      have hp5 := ex_l e5 hp4
      have hq5 := ex_l e5 hq4
      refine BW.when (TV.or2 (TV.firstS Cf hr (EV.var 0 rfl) (EV.glob gm) hc hp5 (by omega) ho EV.non) (fun _ => TV.firstS Cf hr (EV.var 1 rfl) (EV.glob gm') hc' hq5 (by omega) hi EV.non)) (fun hk H6 e6 => ?_) (fun hk H6 e6 => ?_)
      · refine BW.raise xN (takes_of (E := E) rfl rfl rfl rfl) (hN h200 ?_ H6 (e15.trans e6))
        cases fo with
        | some z => exact .inl (fun e => nomatch e)
        | none =>
          cases fi with
          | some z => exact .inr (fun e => nomatch e)
          | none => cases hk
      · obtain ⟨rfl, rfl⟩ : fo = none ∧ fi = none := by
          cases fo with
          | some z => cases hk
          | none =>
            cases fi with
            | some z => cases hk
            | none => exact ⟨rfl, rfl⟩
        have e16 := e15.trans e6
        refine BW.asgL 2 nd (EL.lst AV.nil) fun l H7 nl e7 hl7 => ?_
        have nl0 : H l = none := fresh_back e16 nl
        refine BW.forL (xs := ns.map V.int) (EV.var 0 rfl) (ex_l (e16.trans e7) hp) (pg_name (i := 3) nd rfl (Or.inr rfl)) (fun i σ' H' => Ex H (hide H' l) ∧ H' l = some (.lst (((prodL ns ms).take (i * ms.length)).map V.int)) ∧ ∃ y3, σ' = [some (.ref p), some (.ref q), some (.ref l), y3, none])
          (fun H8 e8 => ⟨ex_hide ((e16.trans e7).trans e8) nl0, by rw [Nat.zero_mul]; exact e8 _ _ hl7, _, rfl⟩) (fun i σ' H' _ pv => ex_l (pv.1.trans hide_ex) hp) ?_ ?_
        · rintro i x σ' H' hi' ⟨ex, hl', y3, rfl⟩
          obtain ⟨rfl, hil⟩ := at_map hi'
          show BW _ _ _ [some (.ref p), some (.ref q), some (.ref l), some (.int (ns.getD i 0)), none] H'
          have hqi := ex_l (ex.trans hide_ex) hq
          have hb := bd_getD bn hil
          refine BW.extend (q := l) (ys := (ms.map fun l => ns.getD i 0 * (ms.length : Int) + l).map V.int) hl' (EV.var 2 rfl) (EL.is (LC.list (j := 4) (fun j => .int (ns.getD i 0 * (ms.length : Int) + ms.getD j 0)) nd (blkOk_by (N := n_product) (sc := defScope s_product) (by decide +kernel)) (EV.var 1 rfl) hqi (by simp; omega) (fun j y Ha ea hj s0 H0 C0 cl fp => ?_)).el ?_) ?_ fun Ha ea => BW.nil ⟨?_, ?_, _, rfl⟩
          · obtain ⟨rfl, _⟩ := at_map hj
            exact EV.add (EV.mul (EV.var 3 rfl) (EV.isI (EV.len B.len (EV.var 1 rfl) (ex_l ea hqi)) hlen') (mul_small (.inl ⟨by omega, by omega⟩))) (EV.var 4 rfl)
          · rw [List.map_map]
            apply List.ext_getElem
            · simp
            · intro j h1 h2
              simp at h1 h2 ⊢
              rw [List.getElem?_eq_getElem h1]
              rfl
          · have : i * ms.length ≤ ns.length * ms.length := Nat.mul_le_mul_right _ (by omega)
            simp only [List.length_map, List.length_take, prodL_len]
            omega
          · rw [hide_upd]
            exact ex.trans (hide_mono ea)
          · rw [upd_same, prod_step (by omega) hil, List.map_append]
        · rintro σ' H' ⟨ex, hl', y3, rfl⟩
          rw [List.length_map, List.take_of_length_le (by rw [prodL_len]; exact Nat.le_refl _)] at hl'
          exact BW.ret (EV.var 2 rfl) fun H8 e8 => hQ h200 rfl rfl l H8 nl0 ((ex.trans hide_ex).trans e8) (e8 _ _ hl')
/-! ### good ones -/
theorem sl_one {H : Hp} {out : List Int → List Int} {p : Addr} {ns : List Int} (hp : SqL K H p (ns.map V.int)) (h1 : 1 ≤ ns.length) (h2 : ns.length ≤ 200) (hb : Bd ns) : SpL (spOne K xa out) [.ref p] H ((out ns).map V.int) := fun H1 e1 Q q E =>
  ⟨.ref p, none, rfl, SetIs.ints (ex_l e1 hp) h1 h2 hb, (fun k z => nomatch z), fun _ => ⟨p, ns, rfl, ex_l e1 hp, h2, q⟩⟩
theorem sl_exch {H : Hp} {p : Addr} {ns : List Int} (hp : SqL K H p (ns.map V.int)) (h1 : 1 ≤ ns.length) (h2 : ns.length ≤ 200) (hb : Bd ns) (ho : NoTake false ns) : SpL (spExch K xa) [.ref p] H ((exL ns).map V.int) := fun H1 e1 Q q E =>
  ⟨.ref p, none, rfl, SetIs.ints (ex_l e1 hp) h1 h2 hb, (fun k z => nomatch z), fun _ => ⟨p, ns, none, rfl, ex_l e1 hp, h2, hb, ho, (fun z => absurd rfl z), fun _ => q⟩⟩
theorem sl_prod {H : Hp} {p q : Addr} {ns ms : List Int} (hp : SqL K H p (ns.map V.int)) (hq : SqL K H q (ms.map V.int)) (h1 : 1 ≤ ns.length) (h2 : 1 ≤ ms.length) (h3 : ns.length * ms.length ≤ 200) (hb : Bd ns) (hb' : Bd ms) (ho : NoTake false ns) (hi : NoTake true ms) : SpL (spProd K xa) [.ref p, .ref q] H ((prodL ns ms).map V.int) := fun H1 e1 Q k E => by
  have l1 : ns.length ≤ 200 := Nat.le_trans (Nat.le_mul_of_pos_right _ (by omega)) h3
  have l2 : ms.length ≤ 200 := Nat.le_trans (Nat.le_mul_of_pos_left _ (by omega)) h3
  exact ⟨.ref p, .ref q, none, none, rfl, SetIs.ints (ex_l e1 hp) h1 l1 hb, SetIs.ints (ex_l e1 hq) h2 l2 hb', (fun k z => nomatch z), (fun k _ z => nomatch z), fun _ _ => ⟨p, q, ns, ms, none, none, rfl, rfl, ex_l e1 hp, ex_l e1 hq, l1, ⟨h2, l2⟩, hb, hb', ho, hi, (fun z => absurd h3 (by omega)), (fun _ z => by rcases z with z | z <;> exact absurd rfl z), fun _ _ _ => k⟩⟩
end
end QR

namespace QR
open PySem PySem.Spec PyProof.Rows L2 Evl
section
variable {P : Program} {w : World} {K : PySem.W.Frag} {mg : Str → Option Value} {base : Heap}
/-! ### check_size, of a size -/
def spSizeG : Sp := fun vs H Q _ => ∃ n : Int, vs = [.int n] ∧ 1 ≤ n ∧ RetV .non H Q
theorem ok_check_size {f : Addr} {fd : FuncData} (F : Fun K "check_size" "check_size" s_check_size f fd) (Cn : Fc P w K mg base 1 "is_number" (spIsNum K)) : FnOk P w K mg base (L2.CX P w) 2 f fd ["size"] spSizeG := by
  refine okB F sc_check_size (fun vs H Q E h => ?_) (fun cdv A outer s H vs Q E hr h => ?_)
  · obtain ⟨n, rfl, _⟩ := h
    rfl
  · obtain ⟨n, rfl, hn, q⟩ := h
    refine BW.skip (TV.is (TV.not (TV.val (EV.call Cn hr (AV.two (EV.var 0 rfl) EV.int) (sv_isnum (.base (.int n)))))) (by simp [numB, hn])) fun H1 e1 => BW.nil (q H1 e1)
theorem sv_sizeG {H : Hp} {n : Int} (hn : 1 ≤ n) : SpV spSizeG [.int n] H .non := fun H1 e1 Q q _ => ⟨n, rfl, hn, q⟩
end
end QR

namespace QR
open PySem PySem.Spec PyProof.Rows L2 Evl
/-! ### step -/
/-- which class, which field's value -/
def stV (n : Int) : Int := if n % 2 = 0 then 2 else if n % 3 = 0 then 3 else 2 % n
def stS (n : Int) : Bool := decide (n % 2 ≠ 0) && decide (n % 3 ≠ 0)
def stC (CS CB : Addr) (n : Int) : Addr := if stS n = true then CS else CB
def stF (n : Int) : List (Str × V) := if stS n = true then [("step", .int (stV n))] else [("by", .int (stV n))]
def RetI (C : Addr) (fs : List (Str × V)) (H : Hp) (Q : VK) : Prop := ∀ q dx H2, H q = none → Ex H H2 → H2 q = some (.ins C dx fs) → Q (.ref q) H2
def spStep (CS CB : Addr) : Sp := fun vs H Q _ => ∃ n : Int, vs = [.int n] ∧ 1 ≤ n ∧ RetI (stC CS CB n) (stF n) H Q
section
variable {P : Program} {w : World} {K : PySem.W.Frag} {mg : Str → Option Value} {base : Heap}
theorem ok_step {f CS CB : Addr} {fd : FuncData} (F : Fun K "step" "step" s_step f fd) (c_check_size : Fc P w K mg base 2 "check_size" spSizeG) (kS : Kc P w K mg base 1 "Step" CS (spInit CS ["step"])) (kB : Kc P w K mg base 1 "Barred" CB (spInit CB ["by"])) :
    FnOk P w K mg base (L2.CX P w) 3 f fd ["size"] (spStep CS CB) := by
  refine okB F sc_step (fun vs H Q E h => ?_) (fun cdv A outer s H vs Q E hr h => ?_)
  · obtain ⟨n, rfl, _⟩ := h
    rfl
  · obtain ⟨n, rfl, hn, k⟩ := h
    have nd := sc_step.nd
    refine BW.expr (EV.call c_check_size hr (AV.one (EV.var 0 rfl)) (sv_sizeG hn)) fun H1 e1 => ?_
    refine BW.forNU (xs := [.int 2, .int 3]) (EU.tup (AV.cons EV.int (AV.cons EV.int AV.nil))) (pg_name (i := 1) nd rfl (Or.inl rfl)) (fun p i σ' H' => Ex H H' ∧ H' p = some (.tup [.int 2, .int 3]) ∧ (∃ y, σ' = [some (.int n), y]) ∧ (1 ≤ i → n % 2 ≠ 0) ∧ (2 ≤ i → n % 3 ≠ 0))
      (fun p H2 np e2 hp => ⟨e1.trans e2, hp, ⟨_, rfl⟩, by omega, by omega⟩) (fun p i σ' H' _ hv => st_of hv.2.1) ?_ ?_
    · rintro p i x σ' H' hi ⟨e, hp, ⟨y, rfl⟩, h2, h3⟩
      obtain ⟨b, rfl, hb⟩ : ∃ b : Int, x = .int b ∧ ((i = 0 ∧ b = 2) ∨ (i = 1 ∧ b = 3)) := by
        match i, hi with
        | 0, hi => exact ⟨2, (Option.some.inj hi).symm, by omega⟩
        | 1, hi => exact ⟨3, (Option.some.inj hi).symm, by omega⟩
      show BW _ _ _ [some (.int n), some (.int b)] H'
      refine BW.when (TV.eq (EV.mod (EV.var 0 rfl) (EV.var 1 rfl) (by omega)) EV.int) (fun hk H2 e2 => ?_) (fun hk H2 e2 => ?_)
      · have hk' : n % b = 0 := of_decide_eq_true hk
        refine BW.retI (EI.make kB hr (AV.one (EV.var 1 rfl))) fun q dx H3 nq e3 hq => ?_
        have ha := k q dx H3 (fresh_back (e.trans e2) nq) ((e.trans e2).trans e3)
        have hs : stS n = false := by
          unfold stS
          rcases hb with ⟨_, rfl⟩ | ⟨_, rfl⟩ <;> simp [hk']
        have hv : stV n = b := by
          unfold stV
          rcases hb with ⟨_, rfl⟩ | ⟨h1, rfl⟩
          · rw [if_pos hk']
          · rw [if_neg (h2 (by omega)), if_pos hk']
        unfold stC stF at ha
        rw [hs, hv] at ha
        exact ha hq
      · have hk' : n % b ≠ 0 := of_decide_eq_false hk
        refine BW.nil ⟨e.trans e2, e2 _ _ hp, ⟨_, rfl⟩, fun _ => ?_, fun _ => ?_⟩
        · rcases hb with ⟨_, rfl⟩ | ⟨h1, rfl⟩
          · exact hk'
          · exact h2 (by omega)
        · rcases hb with ⟨_, rfl⟩ | ⟨h1, rfl⟩
          · omega
          · exact hk'
    · rintro p σ' H' ⟨e, hp, ⟨y, rfl⟩, h2, h3⟩
      have m2 : n % 2 ≠ 0 := h2 (by decide)
      have m3 : n % 3 ≠ 0 := h3 (by decide)
      refine BW.retI (EI.make kS hr (AV.one (EV.mod EV.int (EV.var 0 rfl) (by omega)))) fun q dx H3 nq e3 hq => ?_
      have ha := k q dx H3 (fresh_back e nq) (e.trans e3)
      have hs : stS n = true := by simp [stS, m2, m3]
      have hv : stV n = 2 % n := by
        unfold stV
        rw [if_neg m2, if_neg m3]
      unfold stC stF at ha
      rw [hs, hv] at ha
      exact ha hq
theorem si_step {H : Hp} {CS CB : Addr} {n : Int} (hn : 1 ≤ n) : SpI (spStep CS CB) [.int n] H (stC CS CB n) (stF n) := fun H1 e1 Q q _ => ⟨n, rfl, hn, q⟩
end
end QR

namespace QR
open PySem PySem.Spec PyProof.Rows L2 Evl
theorem modw_b {x : Int} {m : Nat} (h : 0 < m) : 0 ≤ x % (m : Int) ∧ x % (m : Int) < (m : Int) := ⟨Int.emod_nonneg _ (by omega), Int.emod_lt_of_pos _ (by omega)⟩
theorem board_of_joined {ns : List Int} (h : NoTake true ns) : NoTake false ns := by
  intro b hb a hab
  cases ht : takes false ns a b with
  | false => rfl
  | true =>
    have h1 := (takeB_iff ns a b).mp ht
    have : takes true ns a b = true := by
      refine (takeJB_iff ns a b).mpr ?_
      rcases h1 with z | z | z
      · exact .inl z
      · exact .inr (.inl (by rw [z, Int.sub_self]; exact Int.zero_emod _))
      · exact .inr (.inr (by rw [z, show (b : Int) - (a : Int) + ((a : Int) - (b : Int)) = 0 by omega]; exact Int.zero_emod _))
    rw [h b hb a hab] at this
    cases this
theorem setL_len' (n : Nat) : (setL n).length = n := by simp [setL]
theorem setL_bd (n : Nat) : Bd (setL n) := by
  intro c h
  rw [setL_len']
  unfold setL at h
  obtain ⟨i, hi, rfl⟩ := List.mem_map.mp h
  have := List.mem_range.mp hi
  exact colF_bounds (by omega) (by omega)
theorem setL_no {n : Nat} (h2 : n ≠ 2) (h3 : n ≠ 3) : NoTake false (setL n) := by
  intro b hb a hab
  rw [setL_len'] at hb
  cases ht : takes false (setL n) a b with
  | false => rfl
  | true =>
    have h1 := (takeB_iff _ a b).mp ht
    have g : ∀ i, i < n → (setL n).getD i 0 = colF n i := fun i hi => by
      unfold setL
      simp [List.getD_eq_getElem?_getD, hi]
    rw [g a (by omega), g b hb] at h1
    have := colF_peace (n := (n : Int)) (r := (a : Int)) (s := (b : Int)) (by omega) (by omega) (by omega) (by omega) (by omega) (by omega) (by omega)
    omega
theorem EL.prod {X : Cx} {a b : Expr} {σ : L2.St} {H : Hp} {p pos : Pos} {j : Nat} {o i : List Int} {xa : Ek → Addr} (C : Fc X.prog X.w X.K X.mg X.base 3 "product" (spProd X.K xa)) (hr : Room j X.A) (ha : EX X a σ H (Sh.ints o)) (hb : EX X b σ H (Sh.ints i)) (o1 : 1 ≤ o.length) (i1 : 1 ≤ i.length) (l2 : o.length * i.length ≤ 200) (bo : Bd o) (bi : Bd i) (no : NoTake false o) (ni : NoTake true i) (hk : 3 ≤ j := by decide) (hg : Gl X "product" := by rfl) (hs : [a, b].all noStar = true := by rfl) :
    EL X (.Call (.Name "product" p) [a, b] [] pos) σ H ((prodL o i).map V.int) :=
  EL.callA C hr (AX.two ha hb) (fun vs H1 e1 hvs => by
    obtain ⟨u, v, rfl, hu, hv⟩ := hvs.two
    obtain ⟨r, rfl, hr⟩ := hu.ofInts
    obtain ⟨t, rfl, ht⟩ := hv.ofInts
    exact sl_prod hr ht o1 i1 l2 bo bi no ni) hk hg hs
theorem EL.exch {X : Cx} {a : Expr} {σ : L2.St} {H : Hp} {p pos : Pos} {j : Nat} {o : List Int} {xa : Ek → Addr} (C : Fc X.prog X.w X.K X.mg X.base 3 "exchanged" (spExch X.K xa)) (hr : Room j X.A) (ha : EX X a σ H (Sh.ints o)) (o1 : 1 ≤ o.length) (l2 : o.length ≤ 200) (bo : Bd o) (no : NoTake false o) (hk : 3 ≤ j := by decide) (hg : Gl X "exchanged" := by rfl) (hs : [a].all noStar = true := by rfl) :
    EL X (.Call (.Name "exchanged" p) [a] [] pos) σ H ((exL o).map V.int) :=
  EL.callA C hr (AX.one ha) (fun vs H1 e1 hvs => by
    obtain ⟨u, rfl, hu⟩ := hvs.one
    obtain ⟨r, rfl, hr⟩ := hu.ofInts
    exact sl_exch hr o1 l2 bo no) hk hg hs
/-- a setting's first takers, by a look at it -/
theorem first_of_no {j : Bool} {ns : List Int} (h : NoTake j ns) : FirstIs j ns none := h
/-! ### refusals of the making defs -/
section
variable {X : Cx} {a b : Expr} {σ : L2.St} {H : Hp} {p pos : Pos} {j : Nat} {o i : List Int} {xa : Ek → Addr} {E : XK} {Q : VK}
/-- exchanged(o), o not at peace -/
theorem EW.exchNo (C : Fc X.prog X.w X.K X.mg X.base 3 "exchanged" (spExch X.K xa)) (hr : Room j X.A) (tk : Takes X (fun cls d _ H => E cls d H)) (ha : EX X a σ H (Sh.ints o)) (o1 : 1 ≤ o.length) (l2 : o.length ≤ 200) (bo : Bd o) (no : ¬ NoTake false o) (hE : ∀ H2, Ex H H2 → E (.ref (xa .peace)) none H2) (hk : 3 ≤ j := by decide) (hg : Gl X "exchanged" := by rfl) (hs : [a].all noStar = true := by rfl) :
    EW X (.Call (.Name "exchanged" p) [a] [] pos) σ H Q := by
  refine EW.callX C hr tk ((AX.one ha).ev H (Ex.refl H) _ fun vs H1 e1 hvs => ?_) hk hg hs
  obtain ⟨u, rfl, hu⟩ := hvs.one
  obtain ⟨r, rfl, hr⟩ := hu.ofInts
  obtain ⟨fo, ho⟩ := first_ex false o
  refine ⟨.ref r, none, rfl, SetIs.ints hr o1 l2 bo, (fun k z => nomatch z), fun _ => ⟨r, o, fo, rfl, hr, l2, bo, ho, fun _ H2 e2 => hE H2 (e1.trans e2), fun hn => ?_⟩⟩
  subst hn
  exact absurd ho no
/-- product(o, i), one of them not at peace -/
theorem EW.prodNo (C : Fc X.prog X.w X.K X.mg X.base 3 "product" (spProd X.K xa)) (hr : Room j X.A) (tk : Takes X (fun cls d _ H => E cls d H)) (ha : EX X a σ H (Sh.ints o)) (hb : EX X b σ H (Sh.ints i)) (o1 : 1 ≤ o.length) (i1 : 1 ≤ i.length) (l2 : o.length * i.length ≤ 200) (bo : Bd o) (bi : Bd i) (no : ¬ (NoTake false o ∧ NoTake true i)) (hE : ∀ H2, Ex H H2 → E (.ref (xa .peace)) none H2) (hk : 3 ≤ j := by decide) (hg : Gl X "product" := by rfl) (hs : [a, b].all noStar = true := by rfl) :
    EW X (.Call (.Name "product" p) [a, b] [] pos) σ H Q := by
  refine EW.callX C hr tk ((AX.two ha hb).ev H (Ex.refl H) _ fun vs H1 e1 hvs => ?_) hk hg hs
  obtain ⟨u, v, rfl, hu, hv⟩ := hvs.two
  obtain ⟨r, rfl, hr⟩ := hu.ofInts
  obtain ⟨t, rfl, ht⟩ := hv.ofInts
  obtain ⟨fo, ho⟩ := first_ex false o
  obtain ⟨fi, hi⟩ := first_ex true i
  have lo : o.length ≤ 200 := Nat.le_trans (by simpa using Nat.mul_le_mul_left o.length i1) l2
  have li : i.length ≤ 200 := Nat.le_trans (by simpa using Nat.mul_le_mul_right i.length o1) l2
  refine ⟨.ref r, .ref t, none, none, rfl, SetIs.ints hr o1 lo bo, SetIs.ints ht i1 li bi, (fun k z => nomatch z), (fun k _ z => nomatch z), fun _ _ => ⟨r, t, o, i, fo, fi, rfl, rfl, hr, ht, lo, ⟨i1, li⟩, bo, bi, ho, hi, fun h => absurd h (by omega), fun _ _ H2 e2 => hE H2 (e1.trans e2), fun _ h1 h2 => ?_⟩⟩
  subst h1 h2
  exact absurd ⟨ho, hi⟩ no
end
/-! ### [e for x in range(a, b)] -/
section
variable {σ : L2.St} {H : Hp} {t : TT} {te : TE}
theorem el_lcR2 {ta : TA} {j : Nat} {vs : List Nat} {lo n : Int} (v : Nat → V) (h : EvA ta σ H [.int lo, .int n]) (hn : lo ≤ n ∧ n - lo ≤ 40000) (hw : ∀ x, wipe ((wipe σ vs).set j (some x)) vs = wipe σ vs)
    (he : ∀ (i : Nat) H1, Ex H H1 → lo + (i : Int) < n → Ev te ((wipe σ vs).set j (some (.int (lo + (i : Int))))) H1 (v i)) :
    EvL (tLc (iRng2A ta) (gName j) tYes te vs) σ H (given (n - lo).toNat (fun _ => true) v) := fun H0 e Q q => h H0 e _ fun H1 e1 => ⟨lo, n, rfl, fun Dl hD =>
  lc_range (lo := lo) (n := (n - lo).toNat) (Cw H1 (fun _ => true) v Dl) ⟨hD, Ex.new hD, upd_same⟩ (fun i H' hi p => ⟨hw _, cw_turn p (by omega) ev_yes (fun _ => he i H1 (e.trans e1) (by omega))⟩) (fun H' p => q Dl H' (fresh_back e1 p.1) (e1.trans p.2.1) p.2.2)⟩
end
theorem LC.range2 {X : Cx} {σ : L2.St} {H : Hp} {a b : Expr} {x : Str} {p pr p2 pos : Pos} {elt : Expr} {scope : Scope} {j : Nat} {lo n : Int} (v : Nat → V) (m : X.mg "range" = none) (hN : X.N.Nodup) (ok : BlkOk X.N X.env.scope scope [(x, j)]) (h : EV X a σ H (.int lo)) (h' : EV X b σ H (.int n)) (hn : lo ≤ n ∧ n - lo ≤ 40000)
    (he : ∀ (i : Nat) H1, Ex H H1 → lo + (i : Int) < n → EVb X scope elt ((wipe σ [j]).set j (some (.int (lo + (i : Int))))) H1 (v i))
    (hw : ∀ z, wipe ((wipe σ [j]).set j (some z)) [j] = wipe σ [j] := by intro _; rfl)
    (hg : ∀ (s : Shared) (H : Hp) (C : Addr) (cl : List (Str × Addr)) (fp : List Addr), PG (X.blk s H scope (compEnvC scope cl C X.env) fp) (.Name x p) (gName j) := by exact fun _ _ _ _ _ => pg_name (i := _) (by assumption) rfl (Or.inl rfl)) (hgl : Gl X "range" := by rfl) (hst : noStar a = true := by rfl) (hst2 : noStar b = true := by rfl) (hc : X.calm = true := by rfl) :
    LC X (.ListComp elt [⟨.Name x p, .Call (.Name "range" pr) [a, b] [] p2, [], 0⟩] scope pos) σ H ((List.range (n - lo).toNat).map v) := by
  refine lc_of (own := [(x, j)]) hc hN (pi_range2A hgl m (pa_all (es := [a, b]) (by simp [hst, hst2])) (by rw [star_of hst, star_of hst2]; rfl) (star_of hst2 [])) ok hg (fun _ => rfl) ?_
  rw [← given_all]
  exact el_lcR2 v (AV.two h h').ev hn hw (fun i H1 e1 hi => (he i H1 e1 hi).ev)
end QR

namespace QR
open PySem PySem.Spec PyProof.Rows L2 Evl
/-- mirrored(o), upended(o) -/
theorem EL.one {X : Cx} {a : Expr} {σ : L2.St} {H : Hp} {p pos : Pos} {j : Nat} {o : List Int} {xa : Ek → Addr} {x : Str} {out : List Int → List Int} (C : Fc X.prog X.w X.K X.mg X.base 3 x (spOne X.K xa out)) (hr : Room j X.A) (ha : EX X a σ H (Sh.ints o)) (o1 : 1 ≤ o.length) (l2 : o.length ≤ 200) (bo : Bd o) (hk : 3 ≤ j := by decide) (hg : Gl X x := by rfl) (hs : [a].all noStar = true := by rfl) (hdb : (x == ("__debug__" : Str)) = false := by decide) :
    EL X (.Call (.Name x p) [a] [] pos) σ H ((out o).map V.int) :=
  EL.callA C hr (AX.one ha) (fun vs H1 e1 hvs => by
    obtain ⟨u, rfl, hu⟩ := hvs.one
    obtain ⟨r, rfl, hr⟩ := hu.ofInts
    exact sl_one hr o1 l2 bo) hk hg hs hdb
end QR

namespace QR
open PySem PySem.Spec PyProof.Rows L2 Evl
/-! ### what is no setting -/
def Z4 (K : PySem.W.Frag) : PC := fun H x => SetIs K H x (some .setting)
/-- never a column of one row -/
def Zb (K : PySem.W.Frag) : PC := fun H y => Kd? K H y ∧ ∀ n, n ≤ 1 → colB n y = false
section
variable {K : PySem.W.Frag}
theorem SetIs.bad {H : Hp} {p : Addr} {xs : List V} {o : Option Ek} (h : SqL K H p xs) (hk : ∀ y ∈ xs, Kd? K H y) (hc : ckList xs = o) : SetIs K H (.ref p) o := hc ▸ .lst h hk
theorem up4 : Up (Z4 K) := fun _ _ _ e h => SetIs.ex h e
theorem upb : Up (Zb K) := fun _ _ _ e h => ⟨h.1.ex e, h.2⟩
theorem z4_ints {H : Hp} {r : Addr} {ns : List Int} (h : H r = some (.lst (ns.map V.int))) (hb : ¬ ((1 ≤ ns.length ∧ ns.length ≤ 200) ∧ ∀ c ∈ ns, 0 ≤ c ∧ c < (ns.length : Int))) : Z4 K H (.ref r) := by
  refine SetIs.bad (sq_of h) (fun y hy => ?_) ?_
  · obtain ⟨c, _, rfl⟩ := List.mem_map.mp hy
    exact Kd?.int
  · unfold ckList
    rw [if_neg]
    intro z
    refine hb ⟨by simpa using z.1, fun c hc => ?_⟩
    have := List.all_eq_true.mp z.2 (.int c) (List.mem_map.mpr ⟨c, hc, rfl⟩)
    simpa [colB] using this
theorem z4_one {H : Hp} {r : Addr} {vs : List V} (h : H r = some (.lst vs)) (hl : vs.length = 1) (ha : ∀ v ∈ vs, Zb K H v) : Z4 K H (.ref r) := by
  refine SetIs.bad (sq_of h) (fun y hy => (ha y hy).1) ?_
  unfold ckList
  rw [if_neg]
  intro z
  obtain ⟨v, rfl⟩ : ∃ v, vs = [v] := List.length_eq_one_iff.mp hl
  have := List.all_eq_true.mp z.2 v List.mem_cons_self
  have z2 : colB 1 v = true := this
  rw [(ha v List.mem_cons_self).2 1 (Nat.le_refl _)] at z2
  cases z2
theorem rep_zero (n : Nat) : (List.replicate n [V.int 0]).flatten = (List.replicate n (0 : Int)).map V.int := by
  rw [List.map_replicate]
  induction n with
  | zero => rfl
  | succ n ih => rw [List.replicate_succ, List.flatten_cons, ih, List.replicate_succ]; rfl
end
end QR

namespace QR
open PySem PySem.Spec PyProof.Rows L2 Evl LamX NdefX
/-! ### a heap without its tables and its things of one's own -/
def core (H : Hp) : Hp := fun b => match H b with
  | some (.tbl _) => none
  | some (.ext _) => none
  | o => o
theorem core_at {H : Hp} {b : Addr} {o : HO} (h : H b = some o) (n1 : ∀ ps, o ≠ .tbl ps) (n2 : ∀ φ, o ≠ .ext φ) : core H b = some o := by
  unfold core
  rw [h]
  cases o <;> first | rfl | exact absurd rfl (n1 _) | exact absurd rfl (n2 _)
theorem core_of {H : Hp} {b : Addr} {o : HO} (h : core H b = some o) : H b = some o ∧ (∀ ps, o ≠ .tbl ps) ∧ ∀ φ, o ≠ .ext φ := by
  unfold core at h
  cases hb : H b with
  | none => rw [hb] at h; cases h
  | some u =>
    rw [hb] at h
    cases u <;> first | (cases h; done) | (cases h; exact ⟨rfl, (fun _ z => nomatch z), fun _ z => nomatch z⟩)
theorem core_ex {H : Hp} : Ex (core H) H := fun b o h => (core_of h).1
theorem core_extN {H H' : Hp} (e : ExtN H H') : Ex (core H) H' := fun b o h => e b o (core_of h).1 (core_of h).2.1
theorem core_mono {H H' : Hp} (e : ExtN H H') : Ex (core H) (core H') := fun b o h => core_at (e b o (core_of h).1 (core_of h).2.1) (core_of h).2.1 (core_of h).2.2
theorem core_hide {H : Hp} {c : Addr} {φ : Heap → Prop} (h : H c = some (.ext φ)) : Ex (core H) (hide H c) := fun b o hb => by
  have z := core_of hb
  have ne : b ≠ c := fun e => by
    rw [e, h] at z
    exact z.2.2 φ (Option.some.inj z.1).symm
  rw [hide_at ne]
  exact z.1
section
variable {K : PySem.W.Frag} {H : Hp} {x : V} {t : Value} {p : Addr} {xs : List V} {o : Option Ek}
theorem SqL.core (h : SqL K H p xs) : SqL K (core H) p xs := by
  rcases h with (h | ⟨o, h⟩) | h
  · exact .inl (.inl (core_at h (fun _ z => nomatch z) fun _ z => nomatch z))
  · exact .inl (.inr ⟨o, core_at h (fun _ z => nomatch z) fun _ z => nomatch z⟩)
  · exact .inr h
theorem TyX.core (ty : TyX K H x t) : TyX K (core H) x t := by
  have at_ : ∀ {b : Addr} {o : HO}, H b = some o → (∀ ps, o ≠ .tbl ps) → (∀ φ, o ≠ .ext φ) → QR.core H b = some o := fun h n1 n2 => core_at h n1 n2
  cases ty with
  | base b =>
    refine .base ?_
    cases b with
    | non => exact .non
    | bl x => exact .bl x
    | int i => exact .int i
    | str x => exact .str x
    | flt x => exact .flt x
    | lst h => exact .lst (at_ h (fun _ z => nomatch z) fun _ z => nomatch z)
    | frz h => exact .frz (at_ h (fun _ z => nomatch z) fun _ z => nomatch z)
    | tup h => exact .tup (at_ h (fun _ z => nomatch z) fun _ z => nomatch z)
    | dK h => exact .dK (at_ h (fun _ z => nomatch z) fun _ z => nomatch z)
    | dT h => exact .dT (at_ h (fun _ z => nomatch z) fun _ z => nomatch z)
    | ins h c1 c2 c3 c4 c5 => exact .ins (at_ h (fun _ z => nomatch z) fun _ z => nomatch z) c1 c2 c3 c4 c5
  | byt b => exact .byt b
  | set h => exact .set (at_ h (fun _ z => nomatch z) fun _ z => nomatch z)
  | kList e c => exact .kList e c
  | kTuple e c => exact .kTuple e c
  | kDict e c => exact .kDict e c
  | fTuple h => exact .fTuple (at_ h (fun _ z => nomatch z) fun _ z => nomatch z)
  | fDict h => exact .fDict (at_ h (fun _ z => nomatch z) fun _ z => nomatch z)
theorem Kd?.core (h : Kd? K H x) : Kd? K (core H) x := let ⟨n, h1, h2⟩ := h; ⟨n, QR.TyX.core h1, h2⟩
theorem SetIs.core (h : SetIs K H x o) : SetIs K (core H) x o := by
  cases h with
  | lst a b => exact .lst (QR.SqL.core a) fun y hy => Kd?.core (b y hy)
  | oth a b c => exact .oth (QR.TyX.core a) b c
end
/-! ### a cell whose frame has ended -/
def CellO (c : Addr) (x : V) : HO := .ext fun h => ∃ u, RelV x u ∧ h.IsCell c (some u)
section
variable {P : Program} {w : World} {K : PySem.W.Frag} {mg : Str → Option Value} {base : Heap}
theorem cellO_ok {H : Hp} {h : Heap} {c : Addr} {x : V} {u : Value} (r : RelV x u) (hc : h.IsCell c (some u)) : ObjOk P w H h c (CellO c x) := by
  obtain ⟨o, ho, hd⟩ := hc
  exact ⟨⟨u, r, o, ho, hd⟩, ⟨o, ho⟩, fun h1 h2 ⟨u', r', o', ho', hd'⟩ st => ⟨u', r', o', st _ ho', hd'⟩⟩
theorem cellO_at {H : Hp} {h : Heap} {c : Addr} {x : V} (hok : HOk P w H h) (e : H c = some (CellO c x)) : ∃ u, RelV x u ∧ h.IsCell c (some u) := (hok c _ e).1
theorem hok_add {H : Hp} {h : Heap} {c : Addr} {o : HO} (x : HOk P w H h) (hn : H c = none) (new : ObjOk P w (upd H c o) h c o) : HOk P w (upd H c o) h := fun b u e => by
  by_cases hb : b = c
  · subst hb; rw [upd_same] at e; cases e; exact new
  · rw [upd_ne hb] at e
    exact (x b u e).stay (fun _ _ _ q => q) (fun d q => by rw [upd_ne (ne_of_none q hn)]; exact q) fun d xs q => by rw [upd_ne (ne_of_none q hn)]; exact q
theorem hide_self {H : Hp} {c : Addr} : hide H c c = none := if_pos rfl
theorem hok_hide {H : Hp} {h : Heap} {c : Addr} {φ : Heap → Prop} (x : HOk P w H h) (hc : H c = some (.ext φ)) : HOk P w (hide H c) h := fun b u e => by
  have hb : b ≠ c := fun z => by rw [z, hide_self] at e; cases e
  rw [hide_at hb] at e
  exact (x b u e).stay (fun _ _ _ q => q) (fun d q => by rw [hide_at (fun z => by rw [z, hc] at q; cases q)]; exact q) fun d xs q => by rw [hide_at (fun z => by rw [z, hc] at q; cases q)]; exact q
/-! ### a def that returns its lambdas: what its first name's cell holds is told with them -/
structure BWS (X : Cx) (st : List Stmt) (R : V → L2.St → Hp → Prop) (σ : L2.St) (H : Hp) : Prop where
  run : ∀ (pins : List (Addr × Obj)) (s : Shared), Inv X pins σ H s → wpAny (model X.prog X.w) X.A (execs st X.env) (fun f s' => ∃ u v σ' H', f = .ret u ∧ Inv X pins σ' H' s' ∧ RelV v u ∧ R v σ' H') X.xe s
theorem BWS.cons {X : Cx} {st : Stmt} {rest : List Stmt} {t : TS} {R : V → L2.St → Hp → Prop} {σ : L2.St} {H : Hp} (h : PS X st t) (r : t { nx := BWS X rest R, rt := fun _ _ => False, bk := fun _ _ => False, ct := fun _ _ => False } σ H) : BWS X (st :: rest) R σ H := by
  refine ⟨fun pins s I => wpAny_execs_cons (thn (h.run pins s σ H _ I r) fun f s1 q => ?_)⟩
  cases f with
  | next =>
    obtain ⟨σ', H', I', q⟩ := q
    exact q.run pins s1 I'
  | ret v => obtain ⟨_, _, _, _, _, z⟩ := q; exact z.elim
  | brk => obtain ⟨_, _, _, z⟩ := q; exact z.elim
  | cont => obtain ⟨_, _, _, z⟩ := q; exact z.elim
theorem BWS.ret {X : Cx} {e : Expr} {pos : Pos} {rest : List Stmt} {R : V → L2.St → Hp → Prop} {σ : L2.St} {H : Hp} (h : EW X e σ H fun v H1 => R v σ H1) : BWS X (.Return (some e) pos :: rest) R σ H :=
  ⟨fun pins s I => wpAny_execs_cons (wpAny_Return_some (thn (h.run pins s I) fun u s1 ⟨v, H1, I1, r1, q1⟩ => ⟨u, v, σ, H1, rfl, I1, r1, q1⟩))⟩
theorem okCell {x qual n : Str} {st : Stmt} {f c : Addr} {fd : FuncData} {N ps : List Str} {k : Nat} {sp : Sp} (F : Fun K x qual st f fd) (hcode : fd.code = .ref c) (S : FnScope N ps (defScope st)) (len : ∀ vs H Q E, sp vs H Q E → vs.length = ps.length)
    (hn : N[0]? = some n) (hk : (defScope st).names.lookup n = some .cell) (hcl : ∀ m, (cellsFrom (m + 1) (defScope st).names []).lookup n = some (m + 1))
    (hbody : ∀ (A : Around) (outer : List Env) (s : Shared) (H : Hp) (vs : List V) (Q : VK) (E : XK), Room k (A.deeper (envOfC qual (defScope st) s.heap.objs.size f (.ref c))) → sp vs H Q E →
      BWS (cxOf (L2.CX P w) P w K mg base N qual (defScope st) f (.ref c) A outer s H E) (defBody st) (fun v σ' H' => ∃ y, σ'[0]? = some (some y) ∧ (H' (s.heap.objs.size + 1) = none → Q v (upd H' (s.heap.objs.size + 1) (CellO (s.heap.objs.size + 1) y)))) (start N vs) H) : FnOk P w K mg base (L2.CX P w) (k + 1) f fd ps sp := by
  obtain ⟨oc, od, kV, doc, pm, an, cdv, ct, osl, rfl, lk, hcd⟩ := F.ex
  have e : cdv = .ref c := hcode
  subst e
  refine ⟨len, fun A outer s H args us vs Q E hr e0 hb r h => ?_⟩
  have KX : K.In s.heap := e0.mod.kin.keeps fun b o e => (e0.bs b o e).1
  have lim : s.heap.NoLimit := e0.mod.nolimit.keeps fun b o e => (e0.bs b o e).1
  have hkind : ∀ y ∈ ps.zip us, (defScope st).names.lookup y.1 = some .local ∨ ((defScope st).names.lookup y.1 = some .cell ∧ ((cellsFrom (s.heap.objs.size + 1) (defScope st).names []).lookup y.1).isSome = true) := fun ⟨n, v⟩ hy => by
    rcases S.par n (List.of_mem_zip hy).1 with q | q
    · exact .inl q
    · exact .inr ⟨q, PySem.W.cellsFrom_some _ _ _ (.inl q)⟩
  refine codeAny_call_function hr.depth (KX _ _ lk) rfl S.co S.gen rfl (PySem.W.codeRec_of KX hcd) (hb _ _ _ _ ?_)
  refine wpAny_newFunctionEnv_cells S.kind hkind fun env he s1 x => ?_
  subst he
  refine ⟨lim.keeps x.toInCall.keep, codeAny_func ?_⟩
  have hl := len vs H Q E h
  have I : Inv (cxOf (L2.CX P w) P w K mg base N qual (defScope st) f (.ref c) A outer s H E) [] (L2.start N vs) H s1 := inv_start S hr.hd e0 hl r x
  refine wpAny_mono ((hbody A outer s H vs Q E (hr.deeper _) h).run [] s1 I) (fun fl s' hs => ?_) fun e s' hs => hs
  obtain ⟨u, v, σ', H', rfl, J, rv, y, hy, q⟩ := hs
  have hC : (cxOf (L2.CX P w) P w K mg base N qual (defScope st) f (.ref c) A outer s H E).env.cells.lookup n = some (s.heap.objs.size + 1) := hcl _
  have nC : H' (s.heap.objs.size + 1) = none := J.freeC n _ hC
  obtain ⟨m, _, lk2⟩ := J.loc
  obtain ⟨uy, ry, look⟩ := lk2 0 n y hn hy (.inr (.inl hk))
  have hcell : s'.heap.IsCell (s.heap.objs.size + 1) (some uy) := by
    rcases look with ⟨z, _⟩ | ⟨_, c', h1, h2⟩
    · rw [show (cxOf (L2.CX P w) P w K mg base N qual (defScope st) f (.ref c) A outer s H E).env.kindOf n = some .cell from hk] at z
      cases z
    · rw [hC] at h1
      cases h1
      exact h2
  have un := J.base
  exact ⟨v, _, J.os, J.bare, ⟨un.keep, un.slot, fun b o e z hx => by
      rw [upd_ne (fun ez => by
        have : b < s.heap.objs.size := Heap.lt_size e
        rw [ez] at this
        exact Nat.lt_irrefl _ (Nat.lt_of_succ_lt this))]
      exact un.free b o e z hx, un.there, fun b xs z => by rw [upd_ne (ne_of_none (un.tups b xs z) nC)]; exact un.tups b xs z, fun b o z0 z => by rw [upd_ne (ne_of_none (un.frzs b o z0 z) nC)]; exact un.frzs b o z0 z, fun b ps z => by
      obtain ⟨more, hm⟩ := un.tbls b ps z
      exact ⟨more, by rw [upd_ne (ne_of_none hm nC)]; exact hm⟩⟩, hok_add J.hok nC (cellO_ok ry hcell), rv, q nC⟩
/-! ### such a lambda, called -/
theorem run_lamT {F : LF} {f c : Addr} {y : Str} {x : V} {sp : Sp} {k : Nat} {A : Around} {outer : List Env} {s : Shared} {H : Hp} {us : List Value} {vs : List V} {Q : VK} {E : XK} (L : LkC P w K mg base k F [y] [x] sp) (hr : Room (k + 1) A) (e0 : Env0 P w K mg base A outer s H) (hf : H f = some (LmO f F)) (hc : H F.c = some (CodeO F.c F.qual))
    (hcl : F.cl = [(y, c)]) (hx : H c = some (CellO c x)) (r : Vals vs us) (hsp : sp vs (hide H c) (fun v H1 => Q v (upd H1 c (CellO c x))) (fun cls d H1 => E cls d (upd H1 c (CellO c x)))) : codeAny (model P w) A (.call (.ref f) ⟨us, []⟩) (CR (L2.CX P w) outer P w H s Q E) s := by
  obtain ⟨u, ru, oc, hoc, hdc⟩ := cellO_at e0.hok hx
  have nf : f ≠ c := fun z => by
    obtain ⟨od, sl, pm, ctv, ho⟩ := lmO_at e0.hok hf
    rw [z, hoc] at ho
    cases ho
    cases hdc
  have nc : F.c ≠ c := fun z => by
    obtain ⟨⟨oc', vs', t, h1, h2, h3⟩, _, _⟩ := e0.hok F.c _ hc
    rw [z, hoc] at h1
    cases h1
    rw [h2] at hdc
    cases hdc
  have nfr : c ∉ frs outer := fun z => by
    rw [e0.frf c z] at hx
    cases hx
  have hx' : ∃ φ, H c = some (.ext φ) := ⟨_, hx⟩
  obtain ⟨φ, hxφ⟩ := hx'
  have e0' : Env0 P w K mg base A outer s (hide H c) := ⟨e0.frames, e0.mod, fun b o e => ⟨(e0.bs b o e).1, by
      by_cases hb : b = c
      · rw [hb]; exact hide_self
      · rw [hide_at hb]; exact (e0.bs b o e).2⟩, e0.bsz, e0.funs, fun b hb => by
      rw [hide_at (show b ≠ c from fun z => nfr (by rw [← z]; exact hb))]
      exact e0.frf b hb, hok_hide e0.hok hxφ, e0.bare⟩
  have C : CellsAt F.cl [y] ([x].map some) s.heap (hide H c) := by
    rw [hcl]
    refine ⟨rfl, fun y' c' e => ?_, fun a b c' e1 e2 => ?_, fun i y' e => ?_⟩
    · have : c' = c := by
        simp only [List.lookup] at e
        split at e
        · exact (Option.some.inj e).symm
        · cases e
      subst this
      exact ⟨hide_self, some u, oc, hoc, hdc⟩
    · simp only [List.lookup] at e1 e2
      split at e1
      · rename_i h1
        split at e2
        · rename_i h2
          exact (beq_iff_eq.mp h1).trans (beq_iff_eq.mp h2).symm
        · cases e2
      · cases e1
    · cases i with
      | zero =>
        cases e
        refine ⟨c, by simp [List.lookup], fun v ev => ?_⟩
        cases ev
        exact ⟨u, ru, oc, hoc, hdc⟩
      | succ i => cases e
  have nE : ∀ φ', (HO.ext φ') = CellO c x → True := fun _ _ => trivial
  refine codeAny_mono (run_lamC (Q := fun v H1 => Q v (upd H1 c (CellO c x))) (E := fun cls d H1 => E cls d (upd H1 c (CellO c x))) L hr e0' (by rw [hide_at nf]; exact hf) (by rw [hide_at nc]; exact hc) C r hsp) fun r s' hq => ?_
  have hid : ∀ {b : Addr}, H b = none → hide H c b = none := fun {b} e => by
    by_cases hb : b = c
    · rw [hb]; exact hide_self
    · rw [hide_at hb]; exact e
  have ned : ∀ {b : Addr} {o : HO}, H b = some o → (∀ φ, o ≠ .ext φ) → b ≠ c := fun {b o} e n z => by
    rw [z, hxφ] at e
    exact n φ (Option.some.inj e).symm
  cases r with
  | error e =>
    obtain ⟨a, B, H', cls, d, rfl, fl, hok, ub, na, os, ag, hE⟩ := hq
    have hB := ub.keep c oc hoc hide_self nfr
    have nC : H' c = none := ub.free c oc hoc hide_self
    have ac : a ≠ c := fun z => by
      have := fl.2.1
      rw [z, hB] at this
      cases this
    refine ⟨a, B, upd H' c (CellO c x), cls, d, rfl, fl, hok_add hok nC (cellO_ok ru ⟨oc, hB, hdc⟩), ⟨fun b o e z hb => ub.keep b o e (hid z) hb, ub.slot, fun b o e z => ?_, ub.there, fun b xs z => ?_, fun b o xs z => ?_, fun b ps z => ?_⟩, by rw [upd_ne ac]; exact na, os, ag, hE⟩
    · have nb : b ≠ c := fun ez => by rw [ez, hxφ] at z; cases z
      rw [upd_ne nb]
      exact ub.free b o e (hid z)
    · have nb := ned z (fun _ q => nomatch q)
      rw [upd_ne nb]
      exact ub.tups b xs (by rw [hide_at nb]; exact z)
    · have nb := ned z (fun _ q => nomatch q)
      rw [upd_ne nb]
      exact ub.frzs b o xs (by rw [hide_at nb]; exact z)
    · have nb := ned z (fun _ q => nomatch q)
      rw [upd_ne nb]
      exact ub.tbls b ps (by rw [hide_at nb]; exact z)
  | ok fl =>
    cases fl with
    | ret uu =>
      obtain ⟨v, H', os, bare, un, hok, rv, q⟩ := hq
      obtain ⟨sl, hB⟩ := un.any hoc hide_self (by simp)
      have nC : H' c = none := un.free c oc hoc hide_self (by simp)
      refine ⟨v, upd H' c (CellO c x), os, bare, ⟨fun b o e z hb hx => un.keep b o e (hid z) hb hx, fun b o e z hb hx => un.slot b o e (hid z) hb hx, fun b o e z hx => ?_, un.there, fun b xs z => ?_, fun b o xs z => ?_, fun b ps z => ?_⟩, hok_add hok nC (cellO_ok ru ⟨_, hB, hdc⟩), rv, q⟩
      · have nb : b ≠ c := fun ez => by rw [ez, hxφ] at z; cases z
        rw [upd_ne nb]
        exact un.free b o e (hid z) hx
      · have nb := ned z (fun _ q => nomatch q)
        rw [upd_ne nb]
        exact un.tups b xs (by rw [hide_at nb]; exact z)
      · have nb := ned z (fun _ q => nomatch q)
        rw [upd_ne nb]
        exact un.frzs b o xs (by rw [hide_at nb]; exact z)
      · have nb := ned z (fun _ q => nomatch q)
        rw [upd_ne nb]
        exact un.tbls b ps (by rw [hide_at nb]; exact z)
    | next => exact hq
    | brk => exact hq
    | cont => exact hq
end
/-- what a lambda's cells hold: cells of a running def, or a cell that is known -/
inductive CellsOk (F : LF) (fr : List Str) (ws : List V) (s : Shared) (H : Hp) : Prop
  | run : CellsAt F.cl fr (ws.map some) s.heap H → CellsOk F fr ws s H
  | own {y : Str} {c : Addr} {x : V} : fr = [y] → ws = [x] → F.cl = [(y, c)] → H c = some (CellO c x) → CellsOk F fr ws s H
section
variable {X : Cx} {σ : L2.St} {H : Hp} {Q : VK} {p pos : Pos} {x : Str} {k j : Nat}
/-- x(), x a slot that holds a lambda which refuses -/
theorem EW.callRef {F : LF} {f : Addr} {fr : List Str} {ws : List V} {W : WX} {C : Hp → Prop} {cls : Value} {s0 : Shared} {H0 : Hp} (i : Nat) (L : LkC X.prog X.w X.K X.mg X.base k F fr ws (fun vs H Q E => vs = [] ∧ C H ∧ ∀ H2, Ex H H2 → E cls none H2)) (hr : Room j X.A) (hs : σ[i]? = some (some (.ref f))) (tk : Takes X W)
    (hC : CellsOk F fr ws s0 H0) (e0 : Ex H0 H) (hI : ∀ pins H1 s, Inv X pins σ H1 s → Un X.fs [] H0 H1 s0.heap s.heap)
    (hf : Hl H f F) (hc : ∀ H1, Ex (core H0) H1 → C H1) (hW : ∀ H2, Ex H H2 → W cls none σ H2) (hk : k + 1 ≤ j := by decide) (hN : X.N[i]? = some x := by rfl) (hv : Vis X.env.scope x := by first | exact Or.inl rfl | exact Or.inr (Or.inl rfl) | exact Or.inr (Or.inr rfl)) (hd : (x == ("__debug__" : Str)) = false := by decide) (hcd : (x == ("__classdict__" : Str)) = false := by decide) :
    EW X (.Call (.Name x p) [] [] pos) σ H Q := by
  cases hC with
  | run C0 =>
    exact EW.callLamC0 (W := W) i L hr hs tk (fun pins H1 s I => cellsUn C0 (hI pins H1 s I) (fun _ _ _ z => nomatch z)) hf.1 hf.2 ⟨rfl, hc H (core_ex.trans e0), hW⟩ hk hN hv hd hcd
  | @own y c v h1 h2 hcl hx =>
    subst h1 h2
    refine ⟨fun pins s I => wpAny_Call_Name_kw (thn ((pe_var (pos := p) (i := i) hN hv hd hcd).run pins s σ H (fun v H1 => v = .ref f ∧ H1 = H) I ⟨.ref f, hs, rfl, rfl⟩) fun u s1 ⟨v', H1, I1, r1, ev, eH⟩ => ?_)⟩
    subst ev eH
    obtain rfl : u = Value.ref f := r1
    obtain ⟨od, sl, pm, ctv, ho⟩ := lmO_at I1.hok hf.1
    have hx1 := e0 _ _ hx
    refine PySem.W.callWith_F0 ⟨_, od, _, sl, ho⟩ ?_
    have hsp : (fun (vs : List V) (H : Hp) (Q : VK) (E : XK) => vs = [] ∧ C H ∧ ∀ H2, Ex H H2 → E cls none H2) [] (hide H1 c) (fun v' H2 => Q v' (upd H2 c (CellO c v))) (fun cls d H2 => W cls d σ (upd H2 c (CellO c v))) :=
      ⟨rfl, hc _ ((core_mono (ExtN.of e0)).trans (core_hide hx1)), fun H2 e2 => hW _ (fun b o hb => by
        by_cases hbc : b = c
        · subst hbc
          rw [hx1] at hb
          cases hb
          exact upd_same
        · rw [upd_ne hbc]
          exact e2 b o (by rw [hide_at hbc]; exact hb))⟩
    refine wpAny_call (codeAny_mono (run_lamT (Q := Q) (E := fun cls d H' => W cls d σ H') L (hr.mono hk) I1.env0 hf.1 hf.2 hcl hx1 .nil hsp) fun r s' hq => ?_)
    cases r with
    | error e => exact tk e s' (XE.of_call I1 (fun cls d H' h => h) hq)
    | ok fl =>
      cases fl with
      | ret u => exact I1.after hq
      | next => exact False.elim hq
      | brk => exact False.elim hq
      | cont => exact False.elim hq
end
end QR

namespace QR
open PySem PySem.Spec PyProof.Rows L2 Evl LamX NdefX
/-! ### lists of lambdas, made one by one -/
theorem upd_lst {H : Hp} {l b : Addr} {xs : List V} {o u : HO} (hl : H l = some (.lst xs)) (h : H b = some u) (n : ∀ ys, u ≠ .lst ys) : upd H l o b = some u := by
  rw [upd_ne (fun z => by rw [z, hl] at h; exact n xs (Option.some.inj h).symm)]
  exact h
theorem lmO_nl {f : Addr} {F : LF} (ys : List V) : LmO f F ≠ .lst ys := fun z => by
  unfold LmO at z
  cases z
theorem codeO_nl {f : Addr} {q : Str} (ys : List V) : CodeO f q ≠ .lst ys := fun z => by
  unfold CodeO at z
  cases z
theorem Hl.updL {H : Hp} {l f : Addr} {F : LF} {xs : List V} {o : HO} (h : Hl H f F) (hl : H l = some (.lst xs)) : Hl (upd H l o) f F := ⟨upd_lst hl h.1 lmO_nl, upd_lst hl h.2 codeO_nl⟩
theorem Tabs.updL {T : List (Addr × Str)} {H : Hp} {l : Addr} {xs : List V} {o : HO} (h : Tabs T H) (hl : H l = some (.lst xs)) : Tabs T (upd H l o) := fun p hp => by
  obtain ⟨ps, a1, a2, a3⟩ := h p hp
  refine ⟨ps, upd_lst hl a1 (fun ys z => nomatch z), a2, fun p' cv hcv => ?_⟩
  obtain ⟨c0, e1, e2⟩ := a3 p' cv hcv
  exact ⟨c0, e1, upd_lst hl e2 codeO_nl⟩
structure DI (T : List (Addr × Str)) (H0 : Hp) (l : Addr) (fs : List Addr) (G : LF → Prop) (H : Hp) : Prop where
  ext : ExtN H0 H
  tabs : Tabs T H
  new : H0 l = none
  lst : H l = some (.lst (fs.map V.ref))
  all : ∀ f ∈ fs, ∃ F, Hl H f F ∧ G F
section
variable {X : Cx} {σ : L2.St} {H H0 : Hp} {Q : VK} {T : List (Addr × Str)} {c P : Addr} {n : Str} {i : Nat} {l : Addr} {fs : List Addr} {G : LF → Prop}
variable {pa : Arguments} {ba : Expr} {sa : Scope} {la pos p p1 p2 p3 : Pos}
/-- [lambda ..] -/
theorem EW.lamOne (M : Mkr X T c P) (hT : Tabs T H) (hG : ∀ c', G (lamF X pa ba sa c')) (k : ∀ r f H1, DI T H r [f] G H1 → Q (.ref r) H1) (ha : freeOk X.env.scope sa = true := by kernel_rfl) (da : defaultsOf pa X.env = ([], []) := by rfl) : EW X (.List [.Lambda pa ba sa la] pos) σ H Q := by
  refine EW.of (pe_lst (pa_all rfl)) ?_
  refine EW.lam M.tb M.code M.mem M.one hT (freeOk_of ha) (fun f1 c1 H1 e1 n1 T1 nf1 hf1 hc1 => ⟨sz_of (Nat.le_of_ble_eq_true rfl), fun r nr => ?_⟩) da
  have x2 : ExtN H1 (upd H1 r (.lst [.ref f1])) := ExtN.of (Ex.new nr)
  refine k r f1 _ ⟨e1.trans x2, T1.ext (Ex.new nr), n1 r nr, upd_same, fun f hf => ?_⟩
  rw [List.mem_singleton.mp hf]
  exact ⟨_, Hl.extN ⟨hf1, hc1⟩ x2, hG c1⟩
/-- xs.append(lambda ..) -/
theorem EW.lamApp (i : Nat) (M : Mkr X T c P) (d : DI T H0 l fs G H) (hv : σ[i]? = some (some (.ref l))) (hz : fs.length < 1000) (hG : ∀ c', G (lamF X pa ba sa c')) (k : ∀ f H1, DI T H0 l (fs ++ [f]) G H1 → Q .non H1) (hi : X.N[i]? = some n := by rfl) (ha : freeOk X.env.scope sa = true := by kernel_rfl) (da : defaultsOf pa X.env = ([], []) := by rfl)
    (hvs : Vis X.env.scope n := by first | exact Or.inl rfl | exact Or.inr (Or.inl rfl) | exact Or.inr (Or.inr rfl)) (hd1 : (n == ("__debug__" : Str)) = false := by decide) (hcd : (n == ("__classdict__" : Str)) = false := by decide)
    (he : PE X (.Call (.Attribute (.Name n p1) "append" p2) [.Lambda pa ba sa la] [] p3) (tBM X.K "list" rAppend (EW X (.Name n p1)) (tArgs X [.Lambda pa ba sa la])) := by exact pe_bm PySem.F.plainAttrs_list PySem.F.slot_list_append PySem.F.type_list_append mt_append pe_self (pa_all rfl)) :
    EW X (.Call (.Attribute (.Name n p1) "append" p2) [.Lambda pa ba sa la] [] p3) σ H Q := by
  refine EW.of he ((EV.var (pos := p1) i hv hi hvs hd1 hcd).ev H (Ex.refl H) _ fun H1 e1 => ⟨.inl ⟨rfl, _, sq_of (e1 _ _ d.lst)⟩, ?_⟩)
  refine EW.lam M.tb M.code M.mem M.one (d.tabs.ext e1) (freeOk_of ha) (fun f c1 H2 e2 n2 T2 nf hf hc => ?_) da
  have hl2 : H2 l = some (.lst (fs.map V.ref)) := ExtN.l e2 (e1 _ _ d.lst)
  refine ⟨l, fs.map V.ref, .ref f, rfl, rfl, hl2, sz_lt (by rw [List.length_map]; omega), ?_⟩
  have x : ExtN H0 H2 := (d.ext.trans (ExtN.of e1)).trans e2
  refine k f _ ⟨fun b o hb hn => ?_, Tabs.updL T2 hl2, d.new, by rw [List.map_append]; exact upd_same, fun g hg => ?_⟩
  · rw [upd_ne (ne_of_none hb d.new)]
    exact x b o hb hn
  · rcases List.mem_append.mp hg with hg | hg
    · obtain ⟨F, hF, gF⟩ := d.all g hg
      exact ⟨F, ((hF.mono e1).extN e2).updL hl2, gF⟩
    · rw [List.mem_singleton.mp hg]
      exact ⟨_, Hl.updL ⟨hf, hc⟩ hl2, hG c1⟩
end
end QR

namespace QR
open PySem PySem.Spec PyProof.Rows L2 Evl LamX NdefX
/-! ### _law_refused -/
def rk7 : Ek → Int
  | .size => 0
  | .place => 1
  | .setting => 2
  | .none => 3
  | .peace => 4
/-- what a lambda without parameters does that refuses by k where C holds -/
def spL0 (xa : Ek → Addr) (C : Hp → Prop) (k : Ek) : Sp := fun vs H Q E => vs = [] ∧ C H ∧ ∀ H2, Ex H H2 → E (.ref (xa k)) none H2
def spRef7 (P : Program) (w : World) (K : PySem.W.Frag) (mg : Str → Option Value) (base : Heap) (xa : Ek → Addr) : SpS := fun s vs H Q _ => ∃ (f : Addr) (F : LF) (fr : List Str) (ws : List V) (k : Ek) (C : Hp → Prop), vs = [.ref f, .int (rk7 k)] ∧ Hl H f F ∧ CellsOk F fr ws s H ∧ LkC P w K mg base 5 F fr ws (spL0 xa C k) ∧ (∀ H1, Ex (core H) H1 → C H1) ∧ RetV (.bl true) H Q
def bs7 (kk : Ek) : List Bool := [decide (kk = .size), decide (kk = .place), decide (kk = .setting), decide (kk = .none), decide (kk = .peace)]
section
variable {P : Program} {w : World} {K : PySem.W.Frag} {mg : Str → Option Value} {base : Heap} {xa : Ek → Addr} {QE : Addr}
theorem ok_refused7 {f : Addr} {fd : FuncData} (F : Fun K "_law_refused" "_law_refused" s_law_refused f fd) (B : Bl mg) (hx : Xi K mg xa QE) : FnS P w K mg base 7 f fd ["_law_ask", "_law_due"] (spRef7 P w K mg base xa) := by
  refine okS F sc_law_refused (fun s vs H Q E h => ?_) (fun cdv Ar outer s H vs Q E hr h => ?_)
  · obtain ⟨f', F', fr, ws, k, C, rfl, _⟩ := h
    rfl
  · obtain ⟨f', F', fr, ws, k, C, rfl, hl, hC, L, hH, kq⟩ := h
    have nd := sc_law_refused.nd
    refine BW.asgL 2 nd (EL.lst AV.nil) fun q H2 nq e2 hq => ?_
    refine BW.tryAs 3 nd ⟨rfl, by decide, .inl hx.gQ⟩ LamX.takes0 fun W pn xe hW tk => ?_
    refine BW.exprW (EW.callRef (W := W) 0 L hr rfl tk hC e2 (fun pins H1 s1 I => I.base) (hl.mono e2) hH (fun H3 e3 => ?_))
    rw [hW]
    refine ⟨true, hx.exm k, fun _ a na oe pn2 hz hf => ?_, fun z => nomatch z⟩
    refine BW.asgL 2 nd (EL.lst (AV.three (EV.isE .size hx hz hf B.isinstance (EV.var 3 rfl)) (EV.isE .place hx hz hf B.isinstance (EV.var 3 rfl)) (EV.isE .setting hx hz hf B.isinstance (EV.var 3 rfl)))) fun r H4 nr e4 hr4 => ?_
    refine BW.asgL 2 nd (EL.cat (ES.old (EV.var 2 rfl) (sq_of hr4)) (ES.new (EL.lst (AV.two (EV.isE .none hx hz hf B.isinstance (EV.var 3 rfl)) (EV.isE .peace hx hz hf B.isinstance (EV.var 3 rfl))))) (Nat.le_of_ble_eq_true rfl)) fun r' H5 nr' e5 hr5 => BW.nil ?_
    show BW _ _ _ [some (.ref f'), some (.int (rk7 k)), some (.ref r'), none, none] H5
    refine BW.ret (EV.isB (EV.eqLB (ns := bs7 k) (ms := [decide ((0 : Int) = rk7 k), decide ((1 : Int) = rk7 k), decide ((2 : Int) = rk7 k), decide ((3 : Int) = rk7 k), decide ((4 : Int) = rk7 k)]) hr (ES.old (EV.var 2 rfl) (sq_of hr5)) (ES.new (EL.is (LC.range (j := 4) (fun z => .bl (decide ((z : Int) = rk7 k))) B.range nd (blkOk_by (N := n_law_refused) (sc := defScope s_law_refused) (by decide +kernel)) EV.int ⟨by decide, by decide⟩ (fun z Ha ea hz s0 H0 C0 cl fp => EV.eq (EV.var 4 rfl) (EV.var 1 rfl))).el rfl))) ?_) fun H6 e6 => kq H6 ((((e2.trans e3).trans e4).trans e5).trans e6)
    cases k <;> rfl
theorem lkc0 {F : LF} {fr : List Str} {ws : List V} {C : Hp → Prop} {k : Ek} (S : nscB fr [] fr F.scope = true) (hb : ∀ us pm ctv, us.length = 0 → bindArgs (F.fd pm ctv) ⟨us, []⟩ = pure (([] : List Str).zip us))
    (body : ∀ (f : Addr) (A : Around) (outer : List Env) (s : Shared) (H : Hp) (Q : VK) (E : XK), Room 5 (A.deeper (envF F.nf f s.heap.objs.size)) → C H → (∀ H2, Ex H H2 → E (.ref (xa k)) none H2) → EW (ncx (L2.CX P w) P w K mg base fr F.nf f A outer s H E) F.body (startF fr [] (ws.map some)) H Q) :
    LkC P w K mg base 5 F fr ws (spL0 xa C k) := by
  refine ⟨fr, [], nscope_by S, hb, (fun vs H Q E h => by rw [h.1]; rfl), fun f A outer s H vs Q E hr h => ?_⟩
  obtain ⟨rfl, hC, hE⟩ := h
  exact body f A outer s H Q E hr hC hE
end
/-! ### what is no setting, at each door -/
section
variable {X : Cx} {e a b : Expr} {σ : L2.St} {H : Hp} {v : V} {p pos : Pos} {j k : Nat} {xa : Ek → Addr} {E : XK} {Q : VK} {x : Str} {sp : Sp}
theorem EW.setX (C : Fc X.prog X.w X.K X.mg X.base k x sp) (hr : Room j X.A) (tk : Takes X (fun cls d _ H => E cls d H)) (ha : EV X a σ H v) (hv : SetIs X.K H v (some .setting)) (hsp : ∀ H1, SetIs X.K H1 v (some .setting) → (∀ H2, Ex H1 H2 → E (.ref (xa .setting)) none H2) → sp [v] H1 Q E) (hE : ∀ H2, Ex H H2 → E (.ref (xa .setting)) none H2) (hk : k ≤ j := by decide) (hg : Gl X x := by rfl) (hs : [a].all noStar = true := by rfl) (hdb : (x == ("__debug__" : Str)) = false := by decide) :
    EW X (.Call (.Name x p) [a] [] pos) σ H Q :=
  EW.callX C hr tk ((AV.one ha).ev H (Ex.refl H) _ fun H1 e1 => hsp H1 (hv.ex e1) fun H2 e2 => hE H2 (e1.trans e2)) hk hg hs hdb
end
section
variable {K : PySem.W.Frag} {xa : Ek → Addr} {ad : Kd → Addr} {v : V} {H : Hp} {Q : VK} {E : XK}
theorem no_told {jd : Bool} (h : SetIs K H v (some .setting)) (hE : ∀ H2, Ex H H2 → E (.ref (xa .setting)) none H2) : spTold K xa ad jd [v] H Q E := ⟨v, some .setting, rfl, h, (fun k z H2 e2 => by cases z; exact hE H2 e2), fun z => nomatch z⟩
theorem no_one {out : List Int → List Int} (h : SetIs K H v (some .setting)) (hE : ∀ H2, Ex H H2 → E (.ref (xa .setting)) none H2) : spOne K xa out [v] H Q E := ⟨v, some .setting, rfl, h, (fun k z H2 e2 => by cases z; exact hE H2 e2), fun z => nomatch z⟩
theorem no_exch (h : SetIs K H v (some .setting)) (hE : ∀ H2, Ex H H2 → E (.ref (xa .setting)) none H2) : spExch K xa [v] H Q E := ⟨v, some .setting, rfl, h, (fun k z H2 e2 => by cases z; exact hE H2 e2), fun z => nomatch z⟩
theorem set_zero {r : Addr} (h : SqL K H r ([V.int 0])) : SetIs K H (.ref r) none := SetIs.ints (ns := [0]) h (by decide) (by decide) (by decide)
theorem no_prod1 {r : Addr} (h : SetIs K H v (some .setting)) (h0 : SqL K H r [V.int 0]) (hE : ∀ H2, Ex H H2 → E (.ref (xa .setting)) none H2) : spProd K xa [v, .ref r] H Q E := ⟨v, .ref r, some .setting, none, rfl, h, set_zero h0, (fun k z H2 e2 => by cases z; exact hE H2 e2), (fun k z => nomatch z), fun z => nomatch z⟩
theorem no_prod2 {r : Addr} (h : SetIs K H v (some .setting)) (h0 : SqL K H r [V.int 0]) (hE : ∀ H2, Ex H H2 → E (.ref (xa .setting)) none H2) : spProd K xa [.ref r, v] H Q E := ⟨.ref r, v, none, some .setting, rfl, set_zero h0, h, (fun k z => nomatch z), (fun k _ z H2 e2 => by cases z; exact hE H2 e2), fun _ z => nomatch z⟩
end
/-! ### _law_doors -/
def makers7 : List Str := ["_law_doors", "_law_bad_right"]
def spDoors (P : Program) (w : World) (K : PySem.W.Frag) (mg : Str → Option Value) (base : Heap) (xa : Ek → Addr) : Sp := fun vs H Q _ => ∃ x : V, vs = [x] ∧ Tabs (tabL K makers7) H ∧
  ∀ r c (fs : List Addr) H1, ExtN H H1 → Tabs (tabL K makers7) H1 → H1 r = some (.lst (fs.map V.ref)) → fs.length = 7 → H1 c = some (CellO c x) → (∀ f ∈ fs, ∃ F, Hl H1 f F ∧ F.cl = [(("_law_some" : Str), c)] ∧ LkC P w K mg base 5 F ["_law_some"] [x] (spL0 xa (fun H => SetIs K H x (some .setting)) .setting)) → Q (.ref r) H1
section
variable {P : Program} {w : World} {K : PySem.W.Frag} {mg : Str → Option Value} {base : Heap} {xa : Ek → Addr} {ad : Kd → Addr}
theorem ok_doors {f : Addr} {fd : FuncData} (F : Fun K "_law_doors" "_law_doors" s_law_doors f fd) (hcode : fd.code = .ref (He.cT K ("_law_doors", none)).1) (Tm' : Tm K mg base makers7 "_law_doors")
    (c_told : Fc P w K mg base 3 "told" (spTold K xa ad false)) (c_told_joined : Fc P w K mg base 3 "told_joined" (spTold K xa ad true)) (c_mirrored : Fc P w K mg base 3 "mirrored" (spOne K xa mirL)) (c_upended : Fc P w K mg base 3 "upended" (spOne K xa List.reverse)) (c_exchanged : Fc P w K mg base 3 "exchanged" (spExch K xa)) (c_product : Fc P w K mg base 3 "product" (spProd K xa)) : FnOk P w K mg base (L2.CX P w) 1 f fd ["_law_some"] (spDoors P w K mg base xa) := by
  refine okCell F hcode sc_law_doors (fun vs H Q E h => ?_) (n := "_law_some") rfl rfl (fun m => rfl) (fun Ar outer s H vs Q E hr h => ?_)
  · obtain ⟨x, rfl, _⟩ := h
    rfl
  · obtain ⟨x, rfl, hT, kq⟩ := h
    have nd := sc_law_doors.nd
    have M := Mkr.mk (X := cxOf (L2.CX P w) P w K mg base n_law_doors "_law_doors" (defScope s_law_doors) f (.ref (He.cT K ("_law_doors", none)).1) Ar outer s H E) Tm'.tb rfl Tm'.mem Tm'.one
    let G : LF → Prop := fun F => F.cl = [(("_law_some" : Str), s.heap.objs.size + 1)] ∧ LkC P w K mg base 5 F ["_law_some"] [x] (spL0 xa (fun H => SetIs K H x (some .setting)) .setting)
    have hb : ∀ (q : Str) (params : Arguments), True := fun _ _ => trivial
    refine BWS.cons (ps_set (i := 1) nd rfl (Or.inl rfl) pe_self rfl (.inr rfl)) (EW.lamOne (G := G) M hT (fun c' => ⟨rfl, lkc0 (fr := ["_law_some"]) (by kernel_rfl) (fun us pm ctv hl => match us, hl with | [], _ => rfl) (fun f A outer s H Q E hr hC hE => EW.setX c_told hr (takes_of (E := E) rfl rfl rfl rfl) (EV.var 0 rfl) hC (fun H1 => no_told) hE)⟩) fun l f1 H1 d1 => ?_)
    refine BWS.cons (ps_expr pe_self rfl) (EW.lamApp 1 M d1 rfl (Nat.lt_of_succ_le (Nat.le_of_ble_eq_true rfl)) (fun c' => ⟨rfl, lkc0 (fr := ["_law_some"]) (by kernel_rfl) (fun us pm ctv hl => match us, hl with | [], _ => rfl) (fun f A outer s H Q E hr hC hE => EW.setX c_told_joined hr (takes_of (E := E) rfl rfl rfl rfl) (EV.var 0 rfl) hC (fun H1 => no_told) hE)⟩) fun f2 H2 d2 => ?_)
    refine BWS.cons (ps_expr pe_self rfl) (EW.lamApp 1 M d2 rfl (Nat.lt_of_succ_le (Nat.le_of_ble_eq_true rfl)) (fun c' => ⟨rfl, lkc0 (fr := ["_law_some"]) (by kernel_rfl) (fun us pm ctv hl => match us, hl with | [], _ => rfl) (fun f A outer s H Q E hr hC hE => EW.setX c_mirrored hr (takes_of (E := E) rfl rfl rfl rfl) (EV.var 0 rfl) hC (fun H1 => no_one) hE)⟩) fun f3 H3 d3 => ?_)
    refine BWS.cons (ps_expr pe_self rfl) (EW.lamApp 1 M d3 rfl (Nat.lt_of_succ_le (Nat.le_of_ble_eq_true rfl)) (fun c' => ⟨rfl, lkc0 (fr := ["_law_some"]) (by kernel_rfl) (fun us pm ctv hl => match us, hl with | [], _ => rfl) (fun f A outer s H Q E hr hC hE => EW.setX c_upended hr (takes_of (E := E) rfl rfl rfl rfl) (EV.var 0 rfl) hC (fun H1 => no_one) hE)⟩) fun f4 H4 d4 => ?_)
    refine BWS.cons (ps_expr pe_self rfl) (EW.lamApp 1 M d4 rfl (Nat.lt_of_succ_le (Nat.le_of_ble_eq_true rfl)) (fun c' => ⟨rfl, lkc0 (fr := ["_law_some"]) (by kernel_rfl) (fun us pm ctv hl => match us, hl with | [], _ => rfl) (fun f A outer s H Q E hr hC hE => EW.setX c_exchanged hr (takes_of (E := E) rfl rfl rfl rfl) (EV.var 0 rfl) hC (fun H1 => no_exch) hE)⟩) fun f5 H5 d5 => ?_)
    refine BWS.cons (ps_expr pe_self rfl) (EW.lamApp 1 M d5 rfl (Nat.lt_of_succ_le (Nat.le_of_ble_eq_true rfl)) (fun c' => ⟨rfl, lkc0 (fr := ["_law_some"]) (by kernel_rfl) (fun us pm ctv hl => match us, hl with | [], _ => rfl) (fun f A outer s H Q E hr hC hE => EW.callX c_product hr (takes_of (E := E) rfl rfl rfl rfl) ((EV.var (v := x) 0 rfl).ev H (Ex.refl H) _ fun Ha ea => (EL.lst (AV.one EV.int)).ev Ha (Ex.refl Ha) _ fun r Hb nr eb hrb => no_prod1 (hC.ex (ea.trans eb)) (sq_of hrb) fun Hc ec => hE Hc ((ea.trans eb).trans ec)))⟩) fun f6 H6 d6 => ?_)
    refine BWS.cons (ps_expr pe_self rfl) (EW.lamApp 1 M d6 rfl (Nat.lt_of_succ_le (Nat.le_of_ble_eq_true rfl)) (fun c' => ⟨rfl, lkc0 (fr := ["_law_some"]) (by kernel_rfl) (fun us pm ctv hl => match us, hl with | [], _ => rfl) (fun f A outer s H Q E hr hC hE => EW.callX c_product hr (takes_of (E := E) rfl rfl rfl rfl) ((EL.lst (AV.one EV.int)).ev H (Ex.refl H) _ fun r Hb nr eb hrb => (EV.var (v := x) 0 rfl).ev Hb (Ex.refl Hb) _ fun Hc ec => no_prod2 (hC.ex (eb.trans ec)) (sq_of (ec _ _ hrb)) fun Hd ed => hE Hd ((eb.trans ec).trans ed)))⟩) fun f7 H7 d7 => ?_)
    refine BWS.ret ((EV.var (v := .ref l) 1 rfl).ev H7 (Ex.refl H7) _ fun H8 e8 => ⟨x, rfl, fun nC => ?_⟩)
    have en : Ex H8 (upd H8 (s.heap.objs.size + 1) (CellO (s.heap.objs.size + 1) x)) := Ex.new nC
    refine kq l (s.heap.objs.size + 1) [f1, f2, f3, f4, f5, f6, f7] _ (d7.ext.trans (ExtN.of (e8.trans en))) (d7.tabs.ext (e8.trans en)) ((e8.trans en) _ _ d7.lst) rfl upd_same fun g hg => ?_
    obtain ⟨Fg, h1, h2, h3⟩ := d7.all g hg
    exact ⟨Fg, h1.mono (e8.trans en), h2, h3⟩
end
end QR

namespace QR
open PySem PySem.Spec PyProof.Rows L2 Evl
section
variable {X : Cx} {a : Expr} {σ : L2.St} {H : Hp} {D : Ends} {rest : List Stmt} {xs : List V} {y : V} {pos p p2 apos : Pos} {x : Str}
/-- x = xs.pop() -/
theorem BW.pop (i : Nat) {l : Addr} (hN : X.N.Nodup) (ha : EV X a σ H (.ref l)) (hl : H l = some (.lst xs)) (hy : xs[xs.length - 1]? = some y) (k : ∀ H1, Ex H H1 → BW X rest D (σ.set i (some y)) (upd H1 l (.lst xs.dropLast)))
    (hi : X.N[i]? = some x := by rfl) (hx : Loc X.env.scope x := by first | exact Or.inl rfl | exact Or.inr rfl) (hs : swapsWith (.Call (.Attribute a "pop" apos) [] [] p) (some (.Name x p2)) pos.line X.env = pure false := by rfl) (hf : X.fn x = true ∨ X.env.scope.names.lookup x = some .local := by first | exact .inl rfl | exact .inr rfl)
    (he : PE X (.Call (.Attribute a "pop" apos) [] [] p) (tBM X.K "list" rPop (EW X a) tNil) := by exact pe_bm0 PySem.F.plainAttrs_list PySem.F.slot_list_pop PySem.F.type_list_pop mt_pop pe_self) : BW X (.Assign [.Name x p2] (.Call (.Attribute a "pop" apos) [] [] p) pos :: rest) D σ H :=
  BW.asgW hN hi hx (EW.of he (ha.ev H (Ex.refl H) _ fun H1 e1 => ⟨.inl ⟨rfl, xs, sq_of (e1 l _ hl)⟩, l, xs, y, rfl, rfl, e1 l _ hl, hy, k H1 e1⟩)) hs hf
end
theorem ex_put {H0 H H' : Hp} {l : Addr} {o : HO} (e0 : Ex H0 H) (n : H0 l = none) (e : Ex H H') : Ex H0 (upd H' l o) := (ex_hide (e0.trans e) n).trans hide_out
theorem boot_tuple' : bootBuiltins "tuple" = some (.type "tuple") := by decide +kernel
theorem boot_str' : bootBuiltins "str" = some (.type "str") := by decide +kernel
def spSound (K : PySem.W.Frag) : Sp := fun vs H Q _ => ∃ (p : Addr) (ns : List Int), vs = [.ref p] ∧ SqL K H p (ns.map V.int) ∧ ns.length ≤ 100 ∧ RetV (.bl true) H Q
section
variable {P : Program} {w : World} {K : PySem.W.Frag} {mg : Str → Option Value} {base : Heap}
theorem ok_sound {f : Addr} {fd : FuncData} (F : Fun K "_law_sound" "_law_sound" s_law_sound f fd) (B : Bl mg) : FnOk P w K mg base (L2.CX P w) 1 f fd ["_law_thing"] (spSound K) := by
  refine okB F sc_law_sound (fun vs H Q E h => ?_) (fun cdv Ar outer s H vs Q E hr h => ?_)
  · obtain ⟨p, ns, rfl, _⟩ := h
    rfl
  · obtain ⟨p, ns, rfl, hp, hn, k⟩ := h
    have nd := sc_law_sound.nd
    refine BW.asgL 1 nd (EL.lst (AV.one (EV.var 0 rfl))) fun l H1 nl e1 hl => ?_
    refine BW.whl (fun m σ' H' => Ex H H' ∧ ∃ y2, σ' = [some (.ref p), some (.ref l), y2] ∧ ((m = ns.length + 1 ∧ H' l = some (.lst [.ref p])) ∨ ∃ ms : List Int, m = ms.length ∧ m ≤ ns.length ∧ H' l = some (.lst (ms.map V.int)))) (ns.length + 1) ⟨e1, _, rfl, .inl ⟨rfl, hl⟩⟩ fun m σ' H' hW => ?_
    obtain ⟨e2, y2, rfl, hW⟩ := hW
    rcases hW with ⟨rfl, h2⟩ | ⟨ms, hm, hml, h2⟩
    · have hp2 := ex_l e2 hp
      refine ⟨true, TV.is (TV.neLL (Ls := [ns]) (Ms := []) hr (EX.var 1 rfl (.lst (sq_of h2) (.cons (Is.ints hp2) .nil))) (EX.new (EL.lst AV.nil))) (by simp), fun _ H3 e3 => ?_, fun z => nomatch z⟩
      refine BW.pop 2 nd (EV.var 1 rfl) (e3 _ _ h2) rfl fun H4 e4 => ?_
      have x4 : Ex H (upd H4 l (.lst [])) := ex_put (e2.trans e3) nl e4
      have hl4 : (upd H4 l (.lst [])) l = some (.lst []) := upd_same
      show BW _ _ _ [some (.ref p), some (.ref l), some (.ref p)] (upd H4 l (.lst []))
      generalize upd H4 l (.lst []) = H5 at x4 hl4
      have hp5 := ex_l x4 hp
      refine BW.ite (k := true) (TV.is (TV.or2 (k2 := true) (TV.val (EV.isT B.isinstance B.list boot_list' (EV.var 2 rfl) (ty_list hp5) (k := true) (by decide +kernel))) (fun z => nomatch z)) rfl) (fun _ H6 e6 => ?_) (fun z => nomatch z)
      refine BW.extend (q := p) (e6 _ _ hl4) (EV.var 1 rfl) (EL.listOf B.list (ES.old (EV.var 2 rfl) (ex_l e6 hp5))) (by simp; omega) fun H7 e7 => BW.nil (BW.nil ⟨ns.length, by omega, ex_put (x4.trans e6) nl e7, _, rfl, .inr ⟨ns, rfl, Nat.le_refl _, upd_same⟩⟩)
    · cases hms : ms.reverse with
      | nil =>
        have : ms = [] := by simpa using hms
        subst this
        refine ⟨false, TV.is (TV.neL (ns := []) (ms := []) hr (ES.old (EV.var 1 rfl) (sq_of h2)) (ES.new (EL.lst AV.nil))) (by decide), (fun z => nomatch z), fun _ H3 e3 => ?_⟩
        exact BW.ret EV.bl fun H4 e4 => k H4 ((e2.trans e3).trans e4)
      | cons y ys =>
        have : ms = ys.reverse ++ [y] := by
          have := congrArg List.reverse hms
          simpa using this
        subst this
        refine ⟨true, TV.is (TV.neL (ns := ys.reverse ++ [y]) (ms := []) hr (ES.old (EV.var 1 rfl) (sq_of h2)) (ES.new (EL.lst AV.nil))) (by simp), fun _ H3 e3 => ?_, fun z => nomatch z⟩
        refine BW.pop (y := .int y) 2 nd (EV.var 1 rfl) (e3 _ _ h2) (by simp) fun H4 e4 => ?_
        have hd : ((ys.reverse ++ [y]).map V.int).dropLast = ys.reverse.map V.int := by simp
        rw [hd]
        have x4 : Ex H (upd H4 l (.lst (ys.reverse.map V.int))) := ex_put (e2.trans e3) nl e4
        have hl4 : (upd H4 l (.lst (ys.reverse.map V.int))) l = some (.lst (ys.reverse.map V.int)) := upd_same
        show BW _ _ _ [some (.ref p), some (.ref l), some (.int y)] (upd H4 l (.lst (ys.reverse.map V.int)))
        generalize upd H4 l (.lst (ys.reverse.map V.int)) = H5 at x4 hl4
        have hi : ∀ Ha, TyX K Ha (.int y) (.type "int") := fun Ha => .base (.int y)
        refine BW.ite (k := false) (TV.is (TV.or2 (TV.val (EV.isT B.isinstance B.list boot_list' (EV.var 2 rfl) (hi _) (k := false) (by decide +kernel))) (fun _ => TV.val (EV.isT B.isinstance B.tuple boot_tuple' (EV.var 2 rfl) (hi _) (k := false) (by decide +kernel)))) rfl) (fun z => nomatch z) (fun _ H6 e6 => ?_)
        refine BW.skip (TV.is (TV.or2 (TV.val (EV.isT B.isinstance B.bool boot_bool' (EV.var 2 rfl) (hi _) (k := false) (by decide +kernel))) (fun _ => TV.and3 (k3 := false) (TV.notN (EV.var 2 rfl) EV.non) (fun _ => TV.not (TV.val (EV.isT B.isinstance B.int boot_int' (EV.var 2 rfl) (hi _) (k := true) (by decide +kernel)))) (fun _ z => nomatch z))) (by simp)) fun H7 e7 => BW.nil (BW.nil ⟨ys.reverse.length, by rw [hm]; simp, (x4.trans e6).trans e7, _, rfl, .inr ⟨ys.reverse, rfl, by rw [hm] at hml; simp at hml ⊢; omega, (e6.trans e7) _ _ hl4⟩⟩)
end
end QR

namespace QR
open PySem PySem.Spec PyProof.Rows L2 Evl
theorem cut_from (xs : List V) (k : Nat) : cutV xs (some (k : Int)) none = xs.drop k := by
  unfold cutV
  rw [HT.sIx_nat, HT.sIx_none]
  by_cases h : k ≤ xs.length
  · rw [Nat.min_eq_left h, List.take_of_length_le (by rw [List.length_drop]; omega)]
  · rw [Nat.min_eq_right (by omega), List.drop_of_length_le (Nat.le_refl _), List.drop_of_length_le (by omega)]
    simp
def spSpl (K : PySem.W.Frag) : Sp := fun vs H Q _ => ∃ (p q : Addr) (m : Int) (gs : List Int) (ys : List V), vs = [.ref p, .int m, .ref q] ∧ SqL K H p (gs.map V.int) ∧ gs.length = 40 ∧ SqL K H q ys ∧ ys.length = 8 ∧ (∀ y ∈ ys, Kd? K H y ∧ colB 40 y = false) ∧
  ∀ r us H1, H r = none → Ex H H1 → H1 r = some (.lst us) → us.length ≤ 16 → (∀ v ∈ us, Z4 K H1 v) → Q (.ref r) H1
section
variable {P : Program} {w : World} {K : PySem.W.Frag} {mg : Str → Option Value} {base : Heap}
theorem z4_in {H : Hp} {r : Addr} {gs : List Int} {y : V} {a : Nat} (hg : gs.length = 40) (ha : a < 40) (h : H r = some (.lst ((gs.map V.int).take a ++ [y] ++ (gs.map V.int).drop (a + 1)))) (hy : Kd? K H y) (hc : colB 40 y = false) : Z4 K H (.ref r) := by
  refine SetIs.bad (sq_of h) (fun z hz => ?_) ?_
  · rcases List.mem_append.mp hz with hz | hz
    · rcases List.mem_append.mp hz with hz | hz
      · obtain ⟨c, _, rfl⟩ := List.mem_map.mp (List.mem_of_mem_take hz)
        exact Kd?.int
      · rw [List.mem_singleton.mp hz]
        exact hy
    · obtain ⟨c, _, rfl⟩ := List.mem_map.mp (List.mem_of_mem_drop hz)
      exact Kd?.int
  · have hl : ((gs.map V.int).take a ++ [y] ++ (gs.map V.int).drop (a + 1)).length = 40 := by
      simp only [List.length_append, List.length_take, List.length_drop, List.length_map, hg, List.length_cons, List.length_nil]
      omega
    unfold ckList
    rw [hl, if_neg]
    intro z
    have := List.all_eq_true.mp z.2 y (List.mem_append_left _ (List.mem_append_right _ (List.mem_singleton.mpr rfl)))
    rw [hc] at this
    cases this
theorem ok_spoiled7 {f : Addr} {fd : FuncData} (F : Fun K "_law_spoiled" "_law_spoiled" s_law_spoiled f fd) (B : Bl mg) : FnOk P w K mg base (L2.CX P w) 1 f fd ["_law_good", "_law_more", "_law_odd"] (spSpl K) := by
  refine okB F sc_law_spoiled (fun vs H Q E h => ?_) (fun cdv Ar outer s H vs Q E hr h => ?_)
  · obtain ⟨p, q, m, gs, ys, rfl, _⟩ := h
    rfl
  · obtain ⟨p, q, m, gs, ys, rfl, hp, hg, hq, hy8, hys, k⟩ := h
    have nd := sc_law_spoiled.nd
    refine BW.asgL 3 nd (EL.lst AV.nil) fun l0 H1 nl0 e1 hl0 => ?_
    have l40 : ((gs.map V.int).length : Int) = 40 := by rw [List.length_map, hg]; rfl
    have g40 : (((gs.map fun n => Sh.v (V.int n)).length : Nat) : Int) = 40 := by rw [List.length_map, hg]; rfl
    refine BW.forSt (ns := [m % 40, 39]) (ESt.of B.sorted B.set (EL.lst (AV.two (EV.mod (EV.var 1 rfl) (EV.isI (EV.lenX B.len (EX.var 0 rfl (Is.ints (ex_l e1 hp)))) g40) (by decide)) (EV.isI (EV.sub (EV.isI (EV.lenX B.len (EX.var 0 rfl (Is.ints (ex_l e1 hp)))) g40) EV.int) rfl))) (Nat.lt_of_succ_le (Nat.le_of_ble_eq_true rfl))) (pg_name (i := 4) nd rfl (by first | exact Or.inl rfl | exact Or.inr rfl))
      (fun l ms i σ' H' => Ex H1 H' ∧ H' l = some (.lst (ms.map V.int)) ∧ (∀ a ∈ ms, 0 ≤ a ∧ a < 40) ∧ ms.length ≤ 2 ∧ ∃ r us y4, H' r = some (.lst us) ∧ us.length = 8 * i ∧ (∀ v ∈ us, Z4 K H' v) ∧ H r = none ∧ σ' = [some (.ref p), some (.int m), some (.ref q), some (.ref r), y4, none])
      (fun l ms H2 nl e2 hl hm hml => ⟨e2, hl, fun a ha => ?_, hml, l0, [], none, e2 _ _ hl0, rfl, (fun v z => nomatch z), nl0, rfl⟩) (fun l ms i σ' H' _ pv => sq_of pv.2.1) ?_ ?_
    · rcases List.mem_cons.mp ((hm a).mp ha) with z | z
      · rw [z]
        exact ⟨Int.emod_nonneg _ (by decide), Int.emod_lt_of_pos _ (by decide)⟩
      · rw [List.mem_singleton.mp z]
        decide
    · rintro l ms i a σ' H2 hi ⟨e2, hl, hms, hm2, r, us, y4, hr2, hul, hz, nr, rfl⟩
      have hil : i < ms.length := (List.getElem?_eq_some_iff.mp hi).1
      have ha := hms a (List.mem_of_getElem? hi)
      obtain ⟨a', rfl⟩ : ∃ a' : Nat, (a' : Int) = a := ⟨a.toNat, by omega⟩
      show BW _ _ _ [some (.ref p), some (.int m), some (.ref q), some (.ref r), some (.int (a' : Int)), none] H2
      have hp2 := ex_l (e1.trans e2) hp
      have hq2 := ex_l (e1.trans e2) hq
      refine BW.asgNC (C := Z4 K) 3 nd (NC.oldCat up4 (EV.var 3 rfl) (sq_of hr2) rfl hz (NC.lcNew (j := 5) (xs := ys) (fun i => (gs.map V.int).take a' ++ [ys.getD i .non] ++ (gs.map V.int).drop (a' + 1)) nd (blkOk_by (N := n_law_spoiled) (sc := defScope s_law_spoiled) (by decide +kernel)) (EV.var 2 rfl) hq2 (by omega) (fun z y Ha ea hz s0 H0 C0 cl fp => ?_) (fun z t Ha ea hz ht => ?_)) (by omega)) fun t vs H3 nt e3 ht hvl hvz => BW.nil ⟨e2.trans e3, e3 _ _ hl, hms, hm2, t, vs, _, ht, by rw [hvl, hul, hy8]; omega, hvz, fresh_back (e1.trans e2) nt, rfl⟩
      · have hy : ys.getD z .non = y := by rw [List.getD_eq_getElem?_getD, hz]; rfl
        rw [hy]
        refine EL.cat (ES.new (EL.cat (ES.new (EL.is (EL.upto (EV.var 0 rfl) (EV.var 4 rfl) (ex_l ea hp2)) (cut_upto _ _))) (ES.new (EL.lst (AV.one (EV.var 5 rfl)))) ?_)) (ES.new (EL.is (EL.slice (EV.var 0 rfl) (ex_l ea hp2) (po_some pe_self) po_none (eo_some (EV.add (EV.var 4 rfl) EV.int).ev) eo_none) (by rw [show (a' : Int) + 1 = ((a' + 1 : Nat) : Int) from rfl, cut_from]))) ?_
        · simp only [List.length_take, List.length_map, hg, List.length_cons, List.length_nil]
          omega
        · simp only [List.length_append, List.length_take, List.length_drop, List.length_map, hg, List.length_cons, List.length_nil]
          omega
      · have hzy : ys.getD z .non ∈ ys := by rw [List.getD_eq_getElem?_getD, List.getElem?_eq_getElem hz]; exact List.getElem_mem hz
        exact z4_in hg (by omega) ht ((hys _ hzy).1.ex ((e1.trans e2).trans ea)) (hys _ hzy).2
    · rintro l ms σ' H2 ⟨e2, hl, hms, hm2, r, us, y4, hr2, hul, hz, nr, rfl⟩
      exact BW.ret (EV.var (v := .ref r) 3 rfl) fun H3 e3 => k r us H3 nr ((e1.trans e2).trans e3) (e3 _ _ hr2) (by omega) fun v hv => up4 _ _ _ e3 (hz v hv)
end
end QR

namespace QR
open PySem PySem.Spec PyProof.Rows L2 Evl LamX NdefX
/-! ### _law_refused(lambda: .., n) -/
section
variable {X : Cx} {σ : L2.St} {H : Hp} {Q : VK} {D : Ends} {rest s1 : List Stmt} {T : List (Addr × Str)} {c P : Addr} {i : Int} {jj j : Nat} {xa : Ek → Addr} {C : Hp → Prop} {ws : List V} {e : Expr}
variable {pa : Arguments} {ba : Expr} {sa : Scope} {la pos p pc np ip : Pos}
theorem EW.refLam (fr : List Str) (js : List Nat) (kk : Ek) (c_ref : FcS X.prog X.w X.K X.mg X.base 7 "_law_refused" (spRef7 X.prog X.w X.K X.mg X.base xa)) (hr : Room j X.A) (M : Mkr X T c P) (hT : Tabs T H)
    (hL : ∀ c', LkC X.prog X.w X.K X.mg X.base 5 (lamF X pa ba sa c') fr ws (spL0 xa C kk)) (hC : ∀ H1, Ex (core H) H1 → C H1) (hQ : ∀ H', ExtN H H' → Tabs T H' → Q (.bl true) H') (hws : js.map (slotAt σ) = ws.map some := by rfl) (hi : rk7 kk = i := by rfl) (hk : 7 ≤ j := by decide) (hg : Gl X "_law_refused" := by rfl)
    (ha : freeOk X.env.scope sa = true := by kernel_rfl) (hfr : fr.all (fun y => decide ((y, NameKind.free) ∈ sa.names)) = true := by kernel_rfl) (hjs : js.map (fun j => X.N[j]?) = fr.map some := by rfl) (da : defaultsOf pa X.env = ([], []) := by rfl) :
    EW X (.Call (.Name "_law_refused" p) [.Lambda pa ba sa la, .Constant (.int i) jj pc] [] pos) σ H Q := by
  subst hi
  refine EW.callS c_ref hr ?_ hk hg
  refine EW.lam M.tb M.code M.mem M.one hT (freeOk_of ha) (fun f c1 H1 e1 n1 T1 nf hf hc => ?_) da
  refine (EV.int (X := X)).ev H1 (Ex.refl H1) _ fun H2 e2 pins s I => ?_
  have eN : ExtN H H2 := e1.trans (ExtN.of e2)
  have C0 := cells_of I (Caps.made (scope := sa) (fr := fr) (js := js) I.ok (freeOk_of ha) (fun y hy => of_decide_eq_true (List.all_eq_true.mp hfr y hy)) hjs)
  rw [hws] at C0
  exact ⟨f, lamF X pa ba sa c1, fr, ws, kk, C, rfl, ⟨e2 _ _ hf, e2 _ _ hc⟩, .run C0, hL c1, (fun H3 e3 => hC H3 ((core_mono eN).trans e3)), fun H3 e3 => hQ H3 (eN.trans (ExtN.of e3)) ((T1.ext e2).ext e3)⟩
/-- if not _law_refused(lambda: .., n): .. -/
theorem BW.refSkip (fr : List Str) (js : List Nat) (kk : Ek) (c_ref : FcS X.prog X.w X.K X.mg X.base 7 "_law_refused" (spRef7 X.prog X.w X.K X.mg X.base xa)) (hr : Room j X.A) (M : Mkr X T c P) (hT : Tabs T H)
    (hL : ∀ c', LkC X.prog X.w X.K X.mg X.base 5 (lamF X pa ba sa c') fr ws (spL0 xa C kk)) (hC : ∀ H1, Ex (core H) H1 → C H1) (k : ∀ H', ExtN H H' → Tabs T H' → BW X rest D σ H') (hws : js.map (slotAt σ) = ws.map some := by rfl) (hi : rk7 kk = i := by rfl) (hk : 7 ≤ j := by decide) (hg : Gl X "_law_refused" := by rfl)
    (ha : freeOk X.env.scope sa = true := by kernel_rfl) (hfr : fr.all (fun y => decide ((y, NameKind.free) ∈ sa.names)) = true := by kernel_rfl) (hjs : js.map (fun j => X.N[j]?) = fr.map some := by rfl) (da : defaultsOf pa X.env = ([], []) := by rfl) :
    BW X (.If (.UnaryOp .Not (.Call (.Name "_law_refused" p) [.Lambda pa ba sa la, .Constant (.int i) jj pc] [] pos) np) s1 [] ip :: rest) D σ H :=
  BW.skipW (TW.not (TW.val (EW.refLam fr js kk c_ref hr M hT hL hC (fun H' e' T' => ⟨true, rfl, rfl, k H' e' T'⟩) hws hi hk hg ha hfr hjs da)))
/-- all([_law_refused(x, 2) for x in _law_doors(e)]) -/
theorem EW.allDoors {scope : Scope} {y : Str} {i' : Nat} {v : V} {p1 p2 p3 p4 p5 p6 p7 p8 : Pos} (c_ref : FcS X.prog X.w X.K X.mg X.base 7 "_law_refused" (spRef7 X.prog X.w X.K X.mg X.base xa)) (c_doors : Fc X.prog X.w X.K X.mg X.base 1 "_law_doors" (spDoors X.prog X.w X.K X.mg X.base xa)) (hr : Room j X.A) (hT : Tabs (tabL X.K makers7) H) (mA : X.mg "all" = none) (hN : X.N.Nodup) (ok : BlkOk X.N X.env.scope scope [(y, i')])
    (he : EV X e σ H v) (hv : ∀ H1, Ex (core H) H1 → SetIs X.K H1 v (some .setting)) (hQ : ∀ H', ExtN H H' → Tabs (tabL X.K makers7) H' → Q (.bl true) H')
    (hev : ∀ (s : Shared) (H0 : Hp) (C : Addr) (cl : List (Str × Addr)) (fp : List Addr) (z : V) (Ha : Hp), EV (X.blk s H0 scope (compEnvC scope cl C X.env) fp) (.Name y p2) ((wipe σ [i']).set i' (some z)) Ha z)
    (hgl : ∀ (s : Shared) (H0 : Hp) (C : Addr) (cl : List (Str × Addr)) (fp : List Addr), Gl (X.blk s H0 scope (compEnvC scope cl C X.env) fp) "_law_refused")
    (hw : ∀ z, wipe ((wipe σ [i']).set i' (some z)) [i'] = wipe σ [i'] := by intro _; rfl)
    (hgn : ∀ (s : Shared) (H : Hp) (C : Addr) (cl : List (Str × Addr)) (fp : List Addr), PG (X.blk s H scope (compEnvC scope cl C X.env) fp) (.Name y p6) (gName i') := by exact fun _ _ _ _ _ => pg_name (i := _) (by assumption) rfl (Or.inl rfl)) (hc : X.calm = true := by rfl)
    (hk : 7 ≤ j := by decide) (hg : Gl X "all" := by rfl) (hg2 : Gl X "_law_doors" := by rfl) (hs : [e].all noStar = true := by rfl) :
    EW X (.Call (.Name "all" p) [.ListComp (.Call (.Name "_law_refused" p1) [.Name y p2, .Constant (.int 2) jj p3] [] p4) [⟨.Name y p6, .Call (.Name "_law_doors" p7) [e] [] p8, [], 0⟩] scope p5] [] pos) σ H Q := by
  refine EW.of (pe_callB (cr_all hc) hg mA (by decide +kernel) (pa_all rfl) (by decide) (by decide) rfl rfl) ?_
  refine EW.lcI (own := [(y, i')]) hc hN (pi_list pe_self) ok hgn (fun _ => rfl) ?_
  refine EW.call c_doors hr (he.ev H (Ex.refl H) _ fun H1 e1 => ⟨v, rfl, hT.ext e1, fun r cc fs H2 e2 T2 hr2 h7 hcell hall => ?_⟩) (Nat.le_trans (by decide) hk) hg2 hs
  have eN : ExtN H H2 := (ExtN.of e1).trans e2
  have key := el_lcL (K := X.K) (σ := σ) (H := H2) (tl := fun σ H Q => Q (.ref r) H) (a := r) (xs := fs.map V.ref) (j := i') (vs := [i']) (te := EWi X scope σ (.Call (.Name "_law_refused" p1) [.Name y p2, .Constant (.int 2) jj p3] [] p4)) (t := tYes) (fun _ => true) (fun _ => .bl true) (fun H3 e3 Q k => k H3 (Ex.refl H3)) (sq_of hr2) (by rw [List.length_map]; omega) hw (fun i y H1 e1 hi => ev_yes) (fun i z Ha ea hi _ => EVi.ev (fun pins s H0 C0 cl fp I hfp => ?_))
  · rw [given_all] at key
    have fin := key H2 (Ex.refl H2) (fun v' H1' => rAll X.K [v'] H1' Q) (fun q H3 nq e3 hq => ⟨q, (List.range (fs.map V.ref).length).map (fun _ => true), rfl, sq_of (by rw [hq, List.map_map]; rfl), by
      rw [show ((List.range (fs.map V.ref).length).map (fun _ => true)).all id = true by simp]
      exact hQ H3 (eN.trans (ExtN.of e3)) (T2.ext e3)⟩)
    exact fin
  · rw [List.getElem?_map] at hi
    cases hz : fs[i]? with
    | none => rw [hz] at hi; cases hi
    | some f =>
      rw [hz] at hi
      cases hi
      obtain ⟨F, hl, hcl, L⟩ := hall f (List.mem_of_getElem? hz)
      refine EV.callZ c_ref hr (AV.two (hev s H0 C0 cl fp (.ref f) Ha) EV.int) (fun Hb eb pins' s' J Q k => ⟨f, F, ["_law_some"], [v], .setting, _, rfl, (hl.mono (ea.trans eb)), .own rfl rfl hcl ((ea.trans eb) _ _ hcell), L, (fun Hc ec => hv Hc ((core_mono (eN.trans (ExtN.of (ea.trans eb)))).trans ec)), k⟩) hk (hgl s H0 C0 cl fp)
end
/-! ### loops over what is made on the way, all C -/
/-- a new tuple of n values, all C -/
structure UC (X : Cx) (e : Expr) (σ : L2.St) (H : Hp) (C : PC) (n : Nat) : Prop where
  ev : ∀ H1, Ex H H1 → ∀ Q : VK, (∀ p vs H2, H1 p = none → Ex H1 H2 → H2 p = some (.tup vs) → vs.length = n → (∀ v ∈ vs, C H2 v) → Q (.ref p) H2) → EW X e σ H1 Q
section
variable {X : Cx} {σ : L2.St} {H : Hp} {D : Ends} {rest body : List Stmt} {iter tg : Expr} {es : List Expr} {C : PC} {n x1 : Nat} {pos : Pos}
theorem UC.tup (up : Up C) (h : AC X es σ H C n) (hn : n ≤ 100000 := by exact Nat.le_of_ble_eq_true rfl) (hs : es.all noStar = true := by rfl) : UC X (.Tuple es x1 pos) σ H C n :=
  ⟨fun H1 e1 Q q => EW.of (pe_tup (pa_all hs)) (h.ev H1 e1 _ fun vs H2 e2 hl ha => ⟨sz_of (by rw [hl]; exact hn), fun r hr => q r vs _ (fresh_back e2 hr) (e2.trans (Ex.new hr)) upd_same hl fun v hv => up _ _ _ (Ex.new hr) (ha v hv)⟩)⟩
/-- for x in (..): the turns need not keep the tables -/
theorem BW.forUC {g : TG} (h : UC X iter σ H C n) (hg : PG X tg g) (Pv : Addr → List V → L2.St → Hp → Prop) (h0 : ∀ q vs H1, Ex H H1 → H1 q = some (.tup vs) → vs.length = n → (∀ v ∈ vs, C H1 v) → Pv q vs σ H1) (hl : ∀ q vs σ' H', Pv q vs σ' H' → SqT X.K H' q vs)
    (hs : ∀ q vs y σ' H', y ∈ vs → Pv q vs σ' H' → g y σ' H' fun σ2 H2 => BW X body (Ends.turn X rest D (Pv q vs)) σ2 H2) (hd : ∀ q vs σ' H', Pv q vs σ' H' → BW X rest D σ' H')
    (hc : X.calm = true := by rfl) (hp : PassesOwn (model X.prog X.w) X.A X.env X.xe := by first | exact PassesOwn.never | exact passes_of rfl) (hfs : ∀ x, foldedSetIterable iter X.env x = pure x := by intro _; rfl) : BW X (.For tg iter body [] pos :: rest) D σ H :=
  BW.cons (ps_for hp hc (pi_tup pe_self) hg pss_self hfs) (h.ev H (Ex.refl H) _ fun q vs H1 nq e1 hq hlen hall => ⟨q, rfl, ⟨vs, st_of hq⟩, for_tup (K := X.K) (D := { D with nx := BW X rest D }) (fun _ => Pv q vs) (h0 q vs H1 e1 hq hlen hall) (fun i σ' H' _ pv => hl q vs σ' H' pv) (fun i y σ' H' hy pv => hs q vs y σ' H' (List.mem_of_getElem? hy) pv) (fun σ' H' pv => hd q vs σ' H' pv)⟩)
theorem BW.forNC {g : TG} (h : NC X iter σ H C n) (hg : PG X tg g) (Pv : Addr → List V → L2.St → Hp → Prop) (h0 : ∀ q vs H1, Ex H H1 → H1 q = some (.lst vs) → vs.length = n → (∀ v ∈ vs, C H1 v) → Pv q vs σ H1) (hl : ∀ q vs σ' H', Pv q vs σ' H' → SqL X.K H' q vs)
    (hs : ∀ q vs y σ' H', y ∈ vs → Pv q vs σ' H' → g y σ' H' fun σ2 H2 => BW X body (Ends.turn X rest D (Pv q vs)) σ2 H2) (hd : ∀ q vs σ' H', Pv q vs σ' H' → BW X rest D σ' H')
    (hc : X.calm = true := by rfl) (hp : PassesOwn (model X.prog X.w) X.A X.env X.xe := by first | exact PassesOwn.never | exact passes_of rfl) (hfs : ∀ x, foldedSetIterable iter X.env x = pure x := by intro _; rfl) : BW X (.For tg iter body [] pos :: rest) D σ H :=
  BW.cons (ps_for hp hc (pi_list pe_self) hg pss_self hfs) (h.ev H (Ex.refl H) _ fun q vs H1 nq e1 hq hlen hall => ⟨q, rfl, ⟨vs, sq_of hq⟩, for_list (K := X.K) (D := { D with nx := BW X rest D }) (fun _ => Pv q vs) (h0 q vs H1 e1 hq hlen hall) (fun i σ' H' _ pv => hl q vs σ' H' pv) (fun i y σ' H' hy pv => hs q vs y σ' H' (List.mem_of_getElem? hy) pv) (fun σ' H' pv => hd q vs σ' H' pv)⟩)
end
end QR

namespace QR
open PySem PySem.Spec PyProof.Rows L2 Evl LamX NdefX
/-! ### the plain facts -/
theorem res_bad {xa : Ek → Addr} {o : Option Ek} {k : Ek} {v : V} {H H0 : Hp} {Q : VK} {E : XK} (h : o = some k) (e : Ex H0 H) (hE : ∀ H2, Ex H0 H2 → E (.ref (xa k)) none H2) : Res xa o v H Q E := by
  subst h
  exact fun H2 e2 => hE H2 (e.trans e2)
theorem resL_bad {xa : Ek → Addr} {o : Option Ek} {k : Ek} {xs : List V} {H H0 : Hp} {Q : VK} {E : XK} (h : o = some k) (e : Ex H0 H) (hE : ∀ H2, Ex H0 H2 → E (.ref (xa k)) none H2) : ResL xa o xs H Q E := by
  subst h
  exact fun H2 e2 => hE H2 (e.trans e2)
theorem ckPlace_size {x y : V} (h : ckSize x = some .size) : ckPlace x y = some .size := by
  have : numB x 1 ≠ true := fun z => by unfold ckSize at h; rw [if_pos z] at h; cases h
  unfold ckPlace ckPeace
  rw [if_neg this]
/-- no size -/
def Zs (K : PySem.W.Frag) : PC := fun H x => Kd? K H x ∧ ckSize x = some .size
/-- no row of eight -/
def Zp (K : PySem.W.Frag) : PC := fun H x => Kd? K H x ∧ ckPlace (.int 8) x = some .place
/-- no column of forty -/
def Zq (K : PySem.W.Frag) : PC := fun H y => Kd? K H y ∧ colB 40 y = false
def Z23 : PC := fun _ x => x = .int 2 ∨ x = .int 3
section
variable {K : PySem.W.Frag} {H : Hp}
theorem upS : Up (Zs K) := fun _ _ _ e h => ⟨h.1.ex e, h.2⟩
theorem upP : Up (Zp K) := fun _ _ _ e h => ⟨h.1.ex e, h.2⟩
theorem upQ : Up (Zq K) := fun _ _ _ e h => ⟨h.1.ex e, h.2⟩
theorem up23 : Up Z23 := fun _ _ _ _ h => h
theorem zs_int {i : Int} (h : i < 1) : Zs K H (.int i) := ⟨Kd?.int, by unfold ckSize; rw [if_neg (by simp [numB]; omega)]⟩
theorem zp_int {i : Int} (h : i < 0 ∨ 8 ≤ i) : Zp K H (.int i) := ⟨Kd?.int, by
  show (if numB (.int i) 0 = true ∧ ltV (.int i) (.int 8) = true then none else some Ek.place) = some .place
  rw [if_neg (by simp [numB, ltV]; omega)]⟩
theorem zq_int {i : Int} (h : i < 0 ∨ 40 ≤ i) : Zq K H (.int i) := ⟨Kd?.int, by simp [colB]; omega⟩
end
def spStB (K : PySem.W.Frag) (xa : Ek → Addr) : Sp := fun vs H Q E => ∃ x, vs = [x] ∧ Kd? K H x ∧ ckSize x = some .size ∧ ∀ H2, Ex H H2 → E (.ref (xa .size)) none H2
def spBad7 (K : PySem.W.Frag) : Sp := fun vs H Q _ => ∃ m : Int, vs = [.int m] ∧ 0 ≤ m ∧ Tabs (tabL K makers7) H ∧ ∀ H', ExtN H H' → Tabs (tabL K makers7) H' → Q (.bl true) H'
section
variable {P : Program} {w : World} {K : PySem.W.Frag} {mg : Str → Option Value} {base : Heap} {xa : Ek → Addr} {ad : Kd → Addr}
theorem ok_stepB {f : Addr} {fd : FuncData} (F : Fun K "step" "step" s_step f fd) (Cs : Fc P w K mg base 2 "check_size" (spCkSize K xa)) : FnOk P w K mg base (L2.CX P w) 3 f fd ["size"] (spStB K xa) := by
  refine okR F sc_step (fun vs H Q E h => ?_) (fun cdv Ar outer s H vs Q E hr h => ?_)
  · obtain ⟨x, rfl, _⟩ := h
    rfl
  · obtain ⟨x, rfl, kd, hx, hE⟩ := h
    exact BW.exprX Cs hr (takes_of (E := E) rfl rfl rfl rfl) (AV.one (EV.var 0 rfl)) fun H1 e1 => sx_size kd H1 e1 _ E (res_bad hx e1 hE)
end
section
variable {X : Cx} {a b : Expr} {σ : L2.St} {H : Hp} {v v' : V} {p pos : Pos} {j : Nat} {xa : Ek → Addr} {E : XK} {Q : VK} {k : Ek}
theorem EW.colX (C : Fc X.prog X.w X.K X.mg X.base 5 "column" (spCol X.K xa)) (hr : Room j X.A) (tk : Takes X (fun cls d _ H => E cls d H)) (ha : EV X a σ H v) (hb : EV X b σ H v') (hv : Kd? X.K H v) (hv' : Kd? X.K H v') (hk : ckPlace v v' = some k) (hE : ∀ H2, Ex H H2 → E (.ref (xa k)) none H2) (hj : 5 ≤ j := by decide) (hg : Gl X "column" := by rfl) (hs : [a, b].all noStar = true := by rfl) :
    EW X (.Call (.Name "column" p) [a, b] [] pos) σ H Q := EW.callX C hr tk ((AV.two ha hb).ev H (Ex.refl H) _ fun H1 e1 => ⟨v, v', rfl, hv.ex e1, hv'.ex e1, res_bad hk e1 hE⟩) hj hg hs
theorem EW.rowX (C : Fc X.prog X.w X.K X.mg X.base 5 "row_of" (spRow X.K xa)) (hr : Room j X.A) (tk : Takes X (fun cls d _ H => E cls d H)) (ha : EV X a σ H v) (hb : EV X b σ H v') (hv : Kd? X.K H v) (hv' : Kd? X.K H v') (hk : ckPlace v v' = some k) (hE : ∀ H2, Ex H H2 → E (.ref (xa k)) none H2) (hj : 5 ≤ j := by decide) (hg : Gl X "row_of" := by rfl) (hs : [a, b].all noStar = true := by rfl) :
    EW X (.Call (.Name "row_of" p) [a, b] [] pos) σ H Q := EW.callX C hr tk ((AV.two ha hb).ev H (Ex.refl H) _ fun H1 e1 => ⟨v, v', rfl, hv.ex e1, hv'.ex e1, res_bad hk e1 hE⟩) hj hg hs
theorem EW.settingX (C : Fc X.prog X.w X.K X.mg X.base 4 "setting" (spSetting X.K xa)) (hr : Room j X.A) (tk : Takes X (fun cls d _ H => E cls d H)) (ha : EV X a σ H v) (hv : Kd? X.K H v) (hk : ckSet v = some k) (hE : ∀ H2, Ex H H2 → E (.ref (xa k)) none H2) (hj : 4 ≤ j := by decide) (hg : Gl X "setting" := by rfl) (hs : [a].all noStar = true := by rfl) :
    EW X (.Call (.Name "setting" p) [a] [] pos) σ H Q := EW.callX C hr tk ((AV.one ha).ev H (Ex.refl H) _ fun H1 e1 => ⟨v, rfl, hv.ex e1, resL_bad hk e1 hE⟩) hj hg hs
theorem EW.stepX (C : Fc X.prog X.w X.K X.mg X.base 3 "step" (spStB X.K xa)) (hr : Room j X.A) (tk : Takes X (fun cls d _ H => E cls d H)) (ha : EV X a σ H v) (hv : Kd? X.K H v) (hk : ckSize v = some .size) (hE : ∀ H2, Ex H H2 → E (.ref (xa .size)) none H2) (hj : 3 ≤ j := by decide) (hg : Gl X "step" := by rfl) (hs : [a].all noStar = true := by rfl) :
    EW X (.Call (.Name "step" p) [a] [] pos) σ H Q := EW.callX C hr tk ((AV.one ha).ev H (Ex.refl H) _ fun H1 e1 => ⟨v, rfl, hv.ex e1, hk, fun H2 e2 => hE H2 (e1.trans e2)⟩) hj hg hs
/-- tuple(xs) -/
theorem EU.tupleOf {q : Addr} {xs : List V} (mT : X.mg "tuple" = none) (h : EV X a σ H (.ref q)) (hq : SqL X.K H q xs) (hg : Gl X "tuple" := by rfl) (hs : noStar a = true := by rfl) : EU X (.Call (.Name "tuple" p) [a] [] pos) σ H xs :=
  EU.of (pe_callTy call_tuple_of hg mT (by decide +kernel) (pa_all (es := [a]) (by simp [hs])) (by decide) (by decide) (star_of hs []) rfl) fun H1 e1 Q k => h.ev H1 e1 _ fun H2 e2 => ⟨q, xs, rfl, .inl ⟨ex_l (e1.trans e2) hq, fun l hl => k l _ (fresh_back e2 hl) (e2.trans (Ex.new hl)) upd_same⟩⟩
end
theorem ExtN.tp {H H' : Hp} {p : Addr} {xs : List V} (e : ExtN H H') (h : H p = some (.tup xs)) : H' p = some (.tup xs) := e p _ h (fun ps z => nomatch z)
def good7 (m : Int) : List Int := (List.range 40).map fun i : Nat => (m + 7 * (i : Int)) % 40
theorem good7_len (m : Int) : (good7 m).length = 40 := by simp [good7]
end QR

namespace QR
open PySem PySem.Spec PyProof.Rows L2 Evl LamX NdefX
section
variable {P : Program} {w : World} {K : PySem.W.Frag} {mg : Str → Option Value} {base : Heap} {xa : Ek → Addr} {ad : Kd → Addr}
theorem ok_bad_right {f : Addr} {fd : FuncData} (F : Fun K "_law_bad_right" "_law_bad_right" s_law_bad_right f fd) (hcode : fd.code = .ref (He.cT K ("_law_bad_right", none)).1) (Tm' : Tm K mg base makers7 "_law_bad_right") (B : Bl mg)
    (c_ref : FcS P w K mg base 7 "_law_refused" (spRef7 P w K mg base xa)) (c_doors : Fc P w K mg base 1 "_law_doors" (spDoors P w K mg base xa)) (c_spl : Fc P w K mg base 1 "_law_spoiled" (spSpl K))
    (c_column : Fc P w K mg base 5 "column" (spCol K xa)) (c_row_of : Fc P w K mg base 5 "row_of" (spRow K xa)) (c_setting : Fc P w K mg base 4 "setting" (spSetting K xa)) (c_stepB : Fc P w K mg base 3 "step" (spStB K xa)) (c_told : Fc P w K mg base 3 "told" (spTold K xa ad false)) (c_exchanged : Fc P w K mg base 3 "exchanged" (spExch K xa)) (c_product : Fc P w K mg base 3 "product" (spProd K xa)) : FnOk P w K mg base (L2.CX P w) 8 f fd ["_law_more"] (spBad7 K) := by
  refine okBc F hcode sc_law_bad_right (fun vs H Q E h => ?_) (fun Ar outer s H vs Q E hr h => ?_)
  · obtain ⟨m, rfl, _⟩ := h
    rfl
  · obtain ⟨m, rfl, hm, hT, kq⟩ := h
    have nd := sc_law_bad_right.nd
    have M := Mkr.mk (X := (cxOf (L2.CX P w) P w K mg base n_law_bad_right "_law_bad_right" (defScope s_law_bad_right) f (.ref (He.cT K ("_law_bad_right", none)).1) Ar outer s H E).nox) Tm'.tb rfl Tm'.mem Tm'.one
    refine BW.asgC 1 (LC.range (j := 2) (fun r => .int ((m + 7 * (r : Int)) % 40)) B.range nd (blkOk_by (N := n_law_bad_right) (sc := defScope s_law_bad_right) (by decide +kernel)) EV.int ⟨by decide, by decide⟩ (fun i Ha ea hi s0 H0 C0 cl fp => EV.mod (EV.add (EV.var 0 rfl) (EV.mul EV.int (EV.var 2 rfl) (mul_small (.inl ⟨by decide, by decide⟩)))) EV.int (by decide))) fun lg H1 ng e1 hg => ?_
    replace hg : H1 lg = some (.lst ((good7 m).map V.int)) := by rw [hg]; unfold good7; rw [List.map_map]; rfl
    show BW _ _ _ [some (.int m), some (.ref lg), none, none, none, none, none, none, none] H1
    refine BW.asgW (i := 3) nd rfl (by first | exact Or.inl rfl | exact Or.inr rfl) (EW.call c_spl hr ((EV.var (v := .ref lg) 1 rfl).ev H1 (Ex.refl H1) _ fun H2 e2 => (EV.var (v := .int m) 0 rfl).ev H2 (Ex.refl H2) _ fun H2' e2' => (NC.lst (C := Zq K) upQ (AC.cons upQ (EC.val EV.non fun _ _ => ⟨Kd?.non, rfl⟩) (AC.cons upQ (EC.val EV.str fun _ _ => ⟨Kd?.str, rfl⟩) (AC.cons upQ (EC.val EV.bl fun _ _ => ⟨Kd?.bl, rfl⟩) (AC.cons upQ (EC.el (EL.lst (AV.one EV.int)) fun r _ _ h => ⟨Kd?.lst (sq_of h), rfl⟩) (AC.cons upQ (EC.eu (EU.tup (AV.one EV.int)) fun r _ _ h => ⟨Kd?.tup (st_of h), rfl⟩) (AC.cons upQ (EC.val (EV.neg EV.int) fun _ _ => zq_int (by decide)) (AC.cons upQ (EC.val EV.int fun _ _ => zq_int (by decide)) (AC.cons upQ (EC.val (EV.pow EV.int EV.int (by decide)) fun _ _ => zq_int (by decide)) AC.nil))))))))).ev H2' (Ex.refl H2') _ fun q ys H3 nq e3 hq hl hall => ⟨lg, q, m, good7 m, ys, rfl, sq_of ((e2.trans (e2'.trans e3)) _ _ hg), good7_len m, sq_of hq, hl, hall, fun r us H4 nr e4 hr4 hul hz => ?_⟩)) rfl (by first | exact .inl rfl | exact .inr rfl)
    have x4 : Ex H1 H4 := (e2.trans (e2'.trans e3)).trans e4
    have hg4 := x4 _ _ hg
    have T4 := hT.ext (e1.trans x4)
    show BW _ _ _ [some (.int m), some (.ref lg), none, some (.ref r), none, none, none, none, none] H4
    refine BW.forNC (C := Z4 K) (NC.oldCat up4 (EV.var 3 rfl) (sq_of hr4) rfl hz (NC.lst up4 (AC.cons up4 (EC.val EV.non fun _ _ => SetIs.oth (n := "NoneType") (.base .non) (by decide) (by decide)) (AC.cons up4 (EC.eu (EU.tup AV.nil) fun r _ _ h => SetIs.oth (ty_tup (st_of h)) (by decide) (by decide)) (AC.cons up4 (EC.el (EL.lst AV.nil) fun r _ _ h => z4_ints (ns := []) h (by decide)) (AC.cons up4 (EC.val EV.str fun _ _ => SetIs.oth (n := "str") (.base (.str _)) (by decide) (by decide)) (AC.cons up4 (EC.val EV.int fun _ _ => SetIs.oth (n := "int") (.base (.int _)) (by decide) (by decide)) (AC.cons up4 (EC.d0 fun r _ _ h => SetIs.oth (n := "dict") (.base (.dK h)) (by decide) (by decide)) (AC.cons up4 (EC.eu (EU.tupleOf B.tuple (EV.var 1 rfl) (sq_of hg4)) fun r _ _ h => SetIs.oth (ty_tup (st_of h)) (by decide) (by decide)) AC.nil)))))))) (by omega)) (pg_name (i := 4) nd rfl (by first | exact Or.inl rfl | exact Or.inr rfl))
      (fun q vs σ' H' => ∃ Hs, (∀ v ∈ vs, SetIs K (core Hs) v (some .setting)) ∧ ExtN Hs H' ∧ ExtN H4 H' ∧ Tabs (tabL K makers7) H' ∧ H' q = some (.lst vs) ∧ ∃ y4, σ' = [some (.int m), some (.ref lg), none, some (.ref r), y4, none, none, none, none])
      (fun q vs H5 e5 hq5 hl5 hall5 => ⟨H5, fun v hv => SetIs.core (hall5 v hv), ExtN.refl _, ExtN.of e5, T4.ext e5, hq5, none, rfl⟩) (fun q vs σ' H' ⟨Hs, h1, h2, h3, h4, h5, _⟩ => sq_of h5) ?_ ?_
    · rintro q vs y σ' H5 hy ⟨Hs, h1, h2, h3, T5, h5, y4, rfl⟩
      show BW _ _ _ [some (.int m), some (.ref lg), none, some (.ref r), some y, none, none, none, none] H5
      exact BW.skipW (TW.not (TW.val (EW.allDoors (y := "_law_ask") (i' := 5) c_ref c_doors hr T5 B.all nd (blkOk_by (N := n_law_bad_right) (sc := defScope s_law_bad_right) (by decide +kernel)) (EV.var 4 rfl) (fun Ha ea => (h1 y hy).ex ((core_mono h2).trans ea)) (fun H6 e6 T6 => ⟨true, rfl, rfl, BW.nil ⟨Hs, h1, h2.trans e6, h3.trans e6, T6, ExtN.l e6 h5, _, rfl⟩⟩) (fun s0 H0 C0 cl fp z Ha => EV.var 5 rfl) (fun _ _ _ _ _ => rfl))))
    rintro q vs σ' H5 ⟨Hs, -, -, x5, T5, -, y4, rfl⟩
    /- sizes that are none -/
    refine BW.forUC (C := Zs K) (UC.tup upS (AC.cons upS (EC.val EV.non fun _ _ => ⟨Kd?.non, rfl⟩) (AC.cons upS (EC.val EV.str fun _ _ => ⟨Kd?.str, rfl⟩) (AC.cons upS (EC.val EV.bl fun _ _ => ⟨Kd?.bl, rfl⟩) (AC.cons upS (EC.val EV.bl fun _ _ => ⟨Kd?.bl, rfl⟩) (AC.cons upS (EC.el (EL.lst (AV.one EV.int)) fun r _ _ h => ⟨Kd?.lst (sq_of h), rfl⟩) (AC.cons upS (EC.val EV.int fun _ _ => zs_int (by decide)) (AC.cons upS (EC.val (EV.neg EV.int) fun _ _ => zs_int (by decide)) (AC.cons upS (EC.val (EV.neg (EV.pow EV.int EV.int (by decide))) fun _ _ => zs_int (by decide)) AC.nil))))))))) (pg_name (i := 6) nd rfl (by first | exact Or.inl rfl | exact Or.inr rfl))
      (fun q vs σ' H' => ∃ Hs, (∀ v ∈ vs, Zs K (core Hs) v) ∧ ExtN Hs H' ∧ ExtN H5 H' ∧ Tabs (tabL K makers7) H' ∧ H' q = some (.tup vs) ∧ ∃ y6 y7, σ' = [some (.int m), some (.ref lg), none, some (.ref r), y4, none, y6, y7, none])
      (fun q vs H6 e6 hq6 hl6 hall6 => ⟨H6, fun v hv => ⟨Kd?.core (hall6 v hv).1, (hall6 v hv).2⟩, ExtN.refl _, ExtN.of e6, T5.ext e6, hq6, none, none, rfl⟩) (fun q vs σ' H' ⟨Hs, h1, h2, h3, h4, h5, _⟩ => st_of h5) ?_ ?_
    · rintro q vs v σ' H6 hv ⟨Hs, h1, h2, h3, T6, h6, y6, y7, rfl⟩
      show BW _ _ _ [some (.int m), some (.ref lg), none, some (.ref r), y4, none, some v, y7, none] H6
      have hck := (h1 v hv).2
      let G : LF → Prop := fun F => ∃ nsc : Scope, F.cl = cloFrom (cxOf (L2.CX P w) P w K mg base n_law_bad_right "_law_bad_right" (defScope s_law_bad_right) f (.ref (He.cT K ("_law_bad_right", none)).1) Ar outer s H E).nox.env.cells nsc.names [] ∧ freeOk (defScope s_law_bad_right) nsc = true ∧ (["_law_size"] : List Str).all (fun y => decide ((y, NameKind.free) ∈ nsc.names)) = true ∧ LkC P w K mg base 5 F ["_law_size"] [v] (spL0 xa (fun H => Kd? K H v) .size)
      refine BW.asgW (i := 7) nd rfl (by first | exact Or.inl rfl | exact Or.inr rfl) (EW.lamOne (G := G) M T6 (fun c' => ⟨_, rfl, by kernel_rfl, by kernel_rfl, lkc0 (fr := ["_law_size"]) (by kernel_rfl) (fun us pm ctv hl => match us, hl with | [], _ => rfl) (fun f A outer s H Q E hr hC hE => EW.colX c_column hr (takes_of (E := E) rfl rfl rfl rfl) (EV.var 0 rfl) EV.non hC Kd?.non (ckPlace_size hck) hE)⟩) fun l f1 H7 d1 => ?_) rfl (by first | exact .inl rfl | exact .inr rfl)
      show BW _ _ _ [some (.int m), some (.ref lg), none, some (.ref r), y4, none, some v, some (.ref l), none] H7
      refine BW.exprW (EW.lamApp 7 M d1 rfl (Nat.lt_of_succ_le (Nat.le_of_ble_eq_true rfl)) (fun c' => ⟨_, rfl, by kernel_rfl, by kernel_rfl, lkc0 (fr := ["_law_size"]) (by kernel_rfl) (fun us pm ctv hl => match us, hl with | [], _ => rfl) (fun f A outer s H Q E hr hC hE => EW.rowX c_row_of hr (takes_of (E := E) rfl rfl rfl rfl) (EV.var 0 rfl) EV.non hC Kd?.non (ckPlace_size hck) hE)⟩) fun f2 H8 d2 => ?_)
      refine BW.exprW (EW.lamApp 7 M d2 rfl (Nat.lt_of_succ_le (Nat.le_of_ble_eq_true rfl)) (fun c' => ⟨_, rfl, by kernel_rfl, by kernel_rfl, lkc0 (fr := ["_law_size"]) (by kernel_rfl) (fun us pm ctv hl => match us, hl with | [], _ => rfl) (fun f A outer s H Q E hr hC hE => EW.settingX c_setting hr (takes_of (E := E) rfl rfl rfl rfl) (EV.var 0 rfl) hC (ckSet_size hck) hE)⟩) fun f3 H9 d3 => ?_)
      refine BW.exprW (EW.lamApp 7 M d3 rfl (Nat.lt_of_succ_le (Nat.le_of_ble_eq_true rfl)) (fun c' => ⟨_, rfl, by kernel_rfl, by kernel_rfl, lkc0 (fr := ["_law_size"]) (by kernel_rfl) (fun us pm ctv hl => match us, hl with | [], _ => rfl) (fun f A outer s H Q E hr hC hE => EW.stepX c_stepB hr (takes_of (E := E) rfl rfl rfl rfl) (EV.var 0 rfl) hC hck hE)⟩) fun f4 H10 d4 => ?_)
      have x10 := h2.trans d4.ext
      refine BW.skip (TV.is (TV.not (TV.val (EV.allN (bs := [true, true, true, true]) B.all (EL.is (EL.listI (j := 5) (xs := [f1, f2, f3, f4].map V.ref) (fun _ => .bl true) nd (blkOk_by (N := n_law_bad_right) (sc := defScope s_law_bad_right) (by decide +kernel)) (EV.var 7 rfl) (sq_of d4.lst) (Nat.le_of_ble_eq_true rfl) (fun i z Ha ea hi => ?_)) rfl)))) rfl) fun H11 e11 => BW.nil ⟨Hs, h1, x10.trans (ExtN.of e11), h3.trans (d4.ext.trans (ExtN.of e11)), d4.tabs.ext e11, e11 _ _ (ExtN.tp d4.ext h6), _, _, rfl⟩
      rw [List.getElem?_map] at hi
      cases hz : [f1, f2, f3, f4][i]? with
      | none => rw [hz] at hi; cases hi
      | some fz =>
        rw [hz] at hi
        cases hi
        obtain ⟨Fz, hlz, nsc, hcl, ho, hfr, L⟩ := d4.all fz (List.mem_of_getElem? hz)
        intro pins s1 H0 C0 cl fp I hfp
        refine EV.callZ c_ref hr (AV.two (EV.var 5 rfl) EV.int) (fun Hb eb pins' s' J Q k => ⟨fz, Fz, ["_law_size"], [v], .size, _, rfl, hlz.mono (ea.trans eb), .run ?_, L, (fun Hc ec => (h1 v hv).1.ex ((core_mono (x10.trans (ExtN.of (ea.trans eb)))).trans ec)), k⟩)
        rw [hcl]
        exact cells_blk (js := [6]) I hfp J ho hfr rfl rfl
    rintro q vs σ' H6 ⟨Hs, -, -, x6, T6, -, y6, y7, rfl⟩
    /- sizes of which none is at peace -/
    refine BW.forUC (C := Z23) (UC.tup up23 (AC.cons up23 (EC.val EV.int fun _ _ => .inl rfl) (AC.cons up23 (EC.val EV.int fun _ _ => .inr rfl) AC.nil))) (pg_name (i := 6) nd rfl (by first | exact Or.inl rfl | exact Or.inr rfl))
      (fun q vs σ' H' => (∀ v ∈ vs, v = V.int 2 ∨ v = V.int 3) ∧ ExtN H6 H' ∧ Tabs (tabL K makers7) H' ∧ H' q = some (.tup vs) ∧ ∃ y6, σ' = [some (.int m), some (.ref lg), none, some (.ref r), y4, none, y6, y7, none])
      (fun q vs H7 e7 hq7 hl7 hall7 => ⟨hall7, ExtN.of e7, T6.ext e7, hq7, _, rfl⟩) (fun q vs σ' H' ⟨h1, h2, h3, h4, _⟩ => st_of h4) ?_ ?_
    · rintro q vs v σ' H7 hv ⟨h1, h2, T7, h7, z6, rfl⟩
      show BW _ _ _ [some (.int m), some (.ref lg), none, some (.ref r), y4, none, some v, y7, none] H7
      have hv2 := h1 v hv
      have kd : ∀ Ha, Kd? K Ha v := fun Ha => by rcases hv2 with rfl | rfl <;> exact Kd?.int
      have hp : ckPlace v .non = some .none := by rcases hv2 with rfl | rfl <;> decide
      have hs' : ckSet v = some .none := by rcases hv2 with rfl | rfl <;> decide
      refine BW.refSkip ["_law_size"] [6] .none (ws := [v]) (C := fun _ => True) c_ref hr M T7 (fun c' => lkc0 (fr := ["_law_size"]) (by kernel_rfl) (fun us pm ctv hl => match us, hl with | [], _ => rfl) (fun f A outer s H Q E hr hC hE => EW.colX c_column hr (takes_of (E := E) rfl rfl rfl rfl) (EV.var 0 rfl) EV.non (kd _) Kd?.non hp hE)) (fun _ _ => trivial) fun H8 e8 T8 => ?_
      refine BW.refSkip ["_law_size"] [6] .none (ws := [v]) (C := fun _ => True) c_ref hr M T8 (fun c' => lkc0 (fr := ["_law_size"]) (by kernel_rfl) (fun us pm ctv hl => match us, hl with | [], _ => rfl) (fun f A outer s H Q E hr hC hE => EW.rowX c_row_of hr (takes_of (E := E) rfl rfl rfl rfl) (EV.var 0 rfl) EV.non (kd _) Kd?.non hp hE)) (fun _ _ => trivial) fun H9 e9 T9 => ?_
      refine BW.refSkip ["_law_size"] [6] .none (ws := [v]) (C := fun _ => True) c_ref hr M T9 (fun c' => lkc0 (fr := ["_law_size"]) (by kernel_rfl) (fun us pm ctv hl => match us, hl with | [], _ => rfl) (fun f A outer s H Q E hr hC hE => EW.settingX c_setting hr (takes_of (E := E) rfl rfl rfl rfl) (EV.var 0 rfl) (kd _) hs' hE)) (fun _ _ => trivial) fun H10 e10 T10 => ?_
      have eN := e8.trans (e9.trans e10)
      exact BW.nil ⟨h1, h2.trans eN, T10, ExtN.tp eN h7, _, rfl⟩
    rintro q vs σ' H7 ⟨-, x7, T7, -, z6, rfl⟩
    have hset : ckSet (.int (201 + m)) = some .size := by
      unfold ckSet
      rw [if_pos (by simp [numB]; omega), if_pos (by show 200 < 201 + m; omega)]
    refine BW.refSkip ["_law_more"] [0] .size (ws := [.int m]) (C := fun _ => True) c_ref hr M T7 (fun c' => lkc0 (fr := ["_law_more"]) (by kernel_rfl) (fun us pm ctv hl => match us, hl with | [], _ => rfl) (fun f A outer s H Q E hr hC hE => EW.settingX c_setting hr (takes_of (E := E) rfl rfl rfl rfl) (EV.add EV.int (EV.var 0 rfl)) Kd?.int hset hE)) (fun _ _ => trivial) fun H8 e8 T8 => ?_
    /- places that are none -/
    refine BW.forUC (C := Zp K) (UC.tup upP (AC.cons upP (EC.val EV.non fun _ _ => ⟨Kd?.non, rfl⟩) (AC.cons upP (EC.val EV.str fun _ _ => ⟨Kd?.str, rfl⟩) (AC.cons upP (EC.val EV.bl fun _ _ => ⟨Kd?.bl, rfl⟩) (AC.cons upP (EC.el (EL.lst (AV.one EV.int)) fun r _ _ h => ⟨Kd?.lst (sq_of h), rfl⟩) (AC.cons upP (EC.val (EV.neg EV.int) fun _ _ => zp_int (by decide)) (AC.cons upP (EC.val EV.int fun _ _ => zp_int (by decide)) (AC.cons upP (EC.val (EV.add EV.int (EV.var 0 rfl)) fun _ _ => zp_int (by omega)) (AC.cons upP (EC.val (EV.pow EV.int EV.int (by decide)) fun _ _ => zp_int (by decide)) AC.nil))))))))) (pg_name (i := 8) nd rfl (by first | exact Or.inl rfl | exact Or.inr rfl))
      (fun q vs σ' H' => ∃ Hs, (∀ v ∈ vs, Zp K (core Hs) v) ∧ ExtN Hs H' ∧ ExtN H8 H' ∧ Tabs (tabL K makers7) H' ∧ H' q = some (.tup vs) ∧ ∃ y8, σ' = [some (.int m), some (.ref lg), none, some (.ref r), y4, none, z6, y7, y8])
      (fun q vs H9 e9 hq9 hl9 hall9 => ⟨H9, fun v hv => ⟨Kd?.core (hall9 v hv).1, (hall9 v hv).2⟩, ExtN.refl _, ExtN.of e9, T8.ext e9, hq9, none, rfl⟩) (fun q vs σ' H' ⟨Hs, h1, h2, h3, h4, h5, _⟩ => st_of h5) ?_ ?_
    · rintro q vs v σ' H9 hv ⟨Hs, h1, h2, h3, T9, h9, y8, rfl⟩
      show BW _ _ _ [some (.int m), some (.ref lg), none, some (.ref r), y4, none, z6, y7, some v] H9
      have hck := (h1 v hv).2
      refine BW.refSkip ["_law_bad"] [8] .place (ws := [v]) (C := fun H => Kd? K H v) c_ref hr M T9 (fun c' => lkc0 (fr := ["_law_bad"]) (by kernel_rfl) (fun us pm ctv hl => match us, hl with | [], _ => rfl) (fun f A outer s H Q E hr hC hE => EW.colX c_column hr (takes_of (E := E) rfl rfl rfl rfl) EV.int (EV.var 0 rfl) Kd?.int hC hck hE)) (fun Ha ea => (h1 v hv).1.ex ((core_mono h2).trans ea)) fun H10 e10 T10 => ?_
      refine BW.refSkip ["_law_bad"] [8] .place (ws := [v]) (C := fun H => Kd? K H v) c_ref hr M T10 (fun c' => lkc0 (fr := ["_law_bad"]) (by kernel_rfl) (fun us pm ctv hl => match us, hl with | [], _ => rfl) (fun f A outer s H Q E hr hC hE => EW.rowX c_row_of hr (takes_of (E := E) rfl rfl rfl rfl) EV.int (EV.var 0 rfl) Kd?.int hC hck hE)) (fun Ha ea => (h1 v hv).1.ex ((core_mono (h2.trans e10)).trans ea)) fun H11 e11 T11 => ?_
      have eN := e10.trans e11
      exact BW.nil ⟨Hs, h1, h2.trans eN, h3.trans eN, T11, ExtN.tp eN h9, _, rfl⟩
    rintro q vs σ' H9 ⟨Hs, -, -, x9, T9, -, y8, rfl⟩
    refine BW.refSkip [] [] .peace (ws := []) (C := fun _ => True) c_ref hr M T9 (fun c' => lkc0 (fr := []) (by kernel_rfl) (fun us pm ctv hl => match us, hl with | [], _ => rfl) (fun f A outer s H Q E hr hC hE => EW.exchNo c_exchanged hr (takes_of (E := E) rfl rfl rfl rfl) (EX.newI (ns := [0, 0, 1]) (EL.lst (AV.three EV.int EV.int EV.int))) (by decide) (by decide) (by unfold Bd; decide) (by unfold NoTake; decide) hE)) (fun _ _ => trivial) fun H10 e10 T10 => ?_
    refine BW.refSkip [] [] .peace (ws := []) (C := fun _ => True) c_ref hr M T10 (fun c' => lkc0 (fr := []) (by kernel_rfl) (fun us pm ctv hl => match us, hl with | [], _ => rfl) (fun f A outer s H Q E hr hC hE => EW.prodNo c_product hr (takes_of (E := E) rfl rfl rfl rfl) (EX.newI (ns := [0, 1]) (EL.lst (AV.two EV.int EV.int))) (EX.newI (ns := [0]) (EL.lst (AV.one EV.int))) (by decide) (by decide) (by decide) (by unfold Bd; decide) (by unfold Bd; decide) (fun z => absurd z.1 (by unfold NoTake; decide)) hE)) (fun _ _ => trivial) fun H11 e11 T11 => ?_
    refine BW.refSkip [] [] .peace (ws := []) (C := fun _ => True) c_ref hr M T11 (fun c' => lkc0 (fr := []) (by kernel_rfl) (fun us pm ctv hl => match us, hl with | [], _ => rfl) (fun f A outer s H Q E hr hC hE => EW.prodNo c_product hr (takes_of (E := E) rfl rfl rfl rfl) (EX.newI (ns := [1, 3, 0, 2]) (EL.lst (AV.cons EV.int (AV.three EV.int EV.int EV.int)))) (EX.newI (ns := [1, 3, 0, 2]) (EL.lst (AV.cons EV.int (AV.three EV.int EV.int EV.int)))) (by decide) (by decide) (by decide) (by unfold Bd; decide) (by unfold Bd; decide) (fun z => absurd z.2 (by unfold NoTake; decide)) hE)) (fun _ _ => trivial) fun H12 e12 T12 => ?_
    have eN : ExtN H H12 := (ExtN.of (e1.trans x4)).trans (x5.trans (x6.trans (x7.trans (e8.trans (x9.trans (e10.trans (e11.trans e12)))))))
    exact BW.retW (EW.refLam [] [] .setting (ws := []) (C := fun _ => True) c_ref hr M T12 (fun c' => lkc0 (fr := []) (by kernel_rfl) (fun us pm ctv hl => match us, hl with | [], _ => rfl) (fun f A outer s H Q E hr hC hE => EW.callX c_told hr (takes_of (E := E) rfl rfl rfl rfl) ((EL.rep (k := 201) (EL.lst (AV.one EV.int)) EV.int (by decide) (by decide)).ev H (Ex.refl H) _ fun t Ha nt ea ht => no_told (z4_ints (ns := List.replicate 201 0) (by rw [ht]; congr 2) (by rw [List.length_replicate]; omega)) fun Hb eb => hE Hb (ea.trans eb)))) (fun _ _ => trivial) fun H' e' T' => kq H' (eN.trans e') T')
end
end QR

namespace QR
open PySem PySem.Spec PyProof.Rows L2 Evl
theorem kdT_no {j : Bool} {ns : List Int} {fo : Option (Nat × Nat)} (h : ¬ NoTake j ns) (ho : FirstIs j ns fo) : kdT j fo = (if j = true then .JT else .T) := by
  cases fo with
  | none => exact absurd ho h
  | some q => cases j <;> rfl
theorem kdT_yes {j : Bool} {ns : List Int} {fo : Option (Nat × Nat)} (h : NoTake j ns) (ho : FirstIs j ns fo) : kdT j fo = (if j = true then .JP else .P) := by
  cases fo with
  | none => cases j <;> rfl
  | some q =>
    obtain ⟨⟨h1, h2⟩, h3, _, _⟩ := (ho : IsFirst j ns q.1 q.2)
    rw [h q.2 h2 q.1 h1] at h3
    cases h3
section
variable {P : Program} {w : World} {K : PySem.W.Frag} {mg : Str → Option Value} {base : Heap} {xa : Ek → Addr} {ad : Kd → Addr} {CA QE : Addr}
/-- isinstance(told(ns), kind) -/
theorem EV.isTold {X : Cx} {a : Expr} {σ : L2.St} {H : Hp} {p p2 pf pos : Pos} {j : Nat} {ns : List Int} {x y : Str} {jd : Bool} (d : Kd) (A : Ans X.K X.mg ad CA) (mI : X.mg "isinstance" = none) (C : Fc X.prog X.w X.K X.mg X.base 3 x (spTold X.K xa ad jd)) (hr : Room j X.A) (ha : EX X a σ H (Sh.ints ns)) (h1 : 1 ≤ ns.length) (h2 : ns.length ≤ 200) (hb : Bd ns) (b : Bool) (hd : (∀ fo, FirstIs jd ns fo → decide (kdT jd fo = d) = b))
    (hk : 3 ≤ j := by decide) (hy : y = d.name := by rfl) (hg : Gl X x := by rfl) (hgI : Gl X "isinstance" := by rfl) (hgD : Gl X y := by rfl) (hs : [a].all noStar = true := by rfl) (hdb : (x == ("__debug__" : Str)) = false := by decide) (hdb2 : (y == ("__debug__" : Str)) = false := by decide) :
    EV X (.Call (.Name "isinstance" p) [.Call (.Name x p2) [a] [] pos, .Name y pf] [] pos') σ H (.bl b) := by
  obtain ⟨fo, ho⟩ := first_ex jd ns
  exact EV.isB (EV.isKX A mI d (EX.told C hr ha h1 h2 hb ho hk hg hs hdb) hy hgI hgD rfl hdb2) (hd fo ho)
theorem dN {jd : Bool} {ns : List Int} {d : Kd} (h : NoTake jd ns) (hd : (if jd = true then Kd.JP else .P) = d) : ∀ fo, FirstIs jd ns fo → decide (kdT jd fo = d) = true := fun fo ho => by rw [kdT_yes h ho, hd]; simp
theorem dT {jd : Bool} {ns : List Int} {d : Kd} (h : ¬ NoTake jd ns) (hd : (if jd = true then Kd.JT else .T) = d) : ∀ fo, FirstIs jd ns fo → decide (kdT jd fo = d) = true := fun fo ho => by rw [kdT_no h ho, hd]; simp
end
section
variable {X : Cx} {a b : Expr} {σ : L2.St} {H : Hp} {xs : List V} {pos : Pos}
/-- xs[:n], xs made on the way -/
theorem EL.uptoN {i : Int} {p2 : Pos} (he : EL X a σ H xs) (hi : EV X b σ H (.int i)) : EL X (.Subscript a (.Slice none (some b) none p2) pos) σ H (cutV xs none (some i)) :=
  EL.of (pe_slice sl_list pe_self po_none (po_some pe_self)) fun H1 e1 Q k => he.ev H1 e1 _ fun q H2 nq e2 hq => (eo_none (σ := σ) (H := H)) H2 (e1.trans e2) _ fun H3 e3 => (eo_some hi.ev) H3 ((e1.trans e2).trans e3) _ fun H4 e4 =>
    ⟨q, xs, rfl, sq_of ((e3.trans e4) _ _ hq), fun p hp => k p _ (fresh_back ((e2.trans e3).trans e4) hp) (((e2.trans e3).trans e4).trans (Ex.new hp)) upd_same⟩
end
end QR

namespace QR
open PySem PySem.Spec PyProof.Rows L2 Evl
/-! ### comprehensions over lists told by shapes, any target; over a tuple display of which only C is known -/
section
variable {X : Cx} {σ : L2.St} {H : Hp} {elt iter tg : Expr} {scope : Scope} {own : List (Str × Nat)} {g : TG} {ss : List Sh} {pos p pt : Pos}
theorem LC.listS (w : Nat → V) (hN : X.N.Nodup) (ok : BlkOk X.N X.env.scope scope own) (h : EX X iter σ H (.lst ss)) (hz : ss.length ≤ 40000)
    (ht : ∀ i s y H1, Ex H H1 → ss[i]? = some s → Is X.K H1 y s → ∃ σ2, (∀ H' (R : L2.St → Hp → Prop), Ex H1 H' → R σ2 H' → g y (wipe σ (own.map (·.2))) H' R) ∧ wipe σ2 (own.map (·.2)) = wipe σ (own.map (·.2)) ∧ EVb X scope elt σ2 H1 (w i))
    (hg : ∀ (s : Shared) (H : Hp) (C : Addr) (cl : List (Str × Addr)) (fp : List Addr), PG (X.blk s H scope (compEnvC scope cl C X.env) fp) tg g) (hc : X.calm = true := by rfl) (hfs : ∀ x, foldedSetIterable iter X.env x = pure x := by intro _; rfl) :
    LC X (.ListComp elt [⟨tg, iter, [], 0⟩] scope pos) σ H ((List.range ss.length).map w) := by
  refine lc_of (own := own) hc hN (pi_list pe_self) ok hg hfs ?_
  exact fun H0 e Q k => h.ev H0 e _ fun u H1 e1 hu => by
    obtain ⟨a, vs, rfl, hx, ha⟩ := hu.ofL
    have hlen := ha.len
    rw [← given_all, ← hlen] at k
    refine ⟨a, rfl, ⟨vs, hx⟩, fun Dl hD => lc_list (xs := vs) (Cw H1 (fun _ => true) w Dl) ⟨hD, Ex.new hD, upd_same⟩ (fun i H' _ p => ex_l p.2.1 hx) (fun i y H' hi p => ?_) (fun H' p => k Dl H' (fresh_back e1 p.1) (e1.trans p.2.1) p.2.2)⟩
    obtain ⟨s, hs, iy⟩ := ha.at' hi
    obtain ⟨σ2, h1, h2, h3⟩ := ht i s y H1 (e.trans e1) hs iy
    exact h1 H' _ p.2.1 ⟨h2, cw_turn p (by have := (List.getElem?_eq_some_iff.mp hi).1; omega) ev_yes (fun _ => h3.ev)⟩
/-- [e for x in (a, b, ..)], the parts C; each e is z -/
theorem LC.tupC {C : PC} {n kt j : Nat} {y : Str} {es : List Expr} {z : V} (up : Up C) (hN : X.N.Nodup) (ok : BlkOk X.N X.env.scope scope [(y, j)]) (h : AC X es σ H C n) (hz : n ≤ 40000) (he : ∀ (u : V) H1, Ex H H1 → C H1 u → EVb X scope elt ((wipe σ [j]).set j (some u)) H1 z)
    (hw : ∀ z, wipe ((wipe σ [j]).set j (some z)) [j] = wipe σ [j] := by intro _; rfl)
    (hg : ∀ (s : Shared) (H : Hp) (C : Addr) (cl : List (Str × Addr)) (fp : List Addr), PG (X.blk s H scope (compEnvC scope cl C X.env) fp) (.Name y p) (gName j) := by exact fun _ _ _ _ _ => pg_name (i := _) (by assumption) rfl (Or.inl rfl)) (hc : X.calm = true := by rfl) (hs : es.all noStar = true := by rfl) (hfs : ∀ x, foldedSetIterable (.Tuple es kt pt) X.env x = pure x := by intro _; rfl) :
    LC X (.ListComp elt [⟨.Name y p, .Tuple es kt pt, [], 0⟩] scope pos) σ H ((List.range n).map fun _ => z) := by
  refine lc_of (own := [(y, j)]) hc hN (pi_tup pe_self) ok hg hfs ?_
  rw [← given_all]
  refine fun H0 e Q q => EW.of (pe_tup (pa_all hs)) (h.ev H0 e _ fun vs H1 e1 hl ha => ⟨sz_of (by omega), fun r nr => ?_⟩)
  have hr : (upd H1 r (.tup vs)) r = some (.tup vs) := upd_same
  have x1 : Ex H1 (upd H1 r (.tup vs)) := Ex.new nr
  generalize upd H1 r (.tup vs) = H2 at hr x1
  refine ⟨r, rfl, ⟨vs, st_of hr⟩, fun Dl hD => lc_tup (xs := vs) (Cw H2 (fun _ => true) (fun _ => z) Dl) ⟨hD, Ex.new hD, upd_same⟩ (fun i H' _ p => st_of (p.2.1 _ _ hr)) (fun i u H' hi p => ⟨hw u, cw_turn p (by have := (List.getElem?_eq_some_iff.mp hi).1; omega) ev_yes (fun _ => (he u H2 ((e.trans e1).trans x1) (up _ _ _ x1 (ha u (List.mem_of_getElem? hi)))).ev)⟩)
    (fun H' p => q Dl H' (fresh_back (e1.trans x1) p.1) ((e1.trans x1).trans p.2.1) (by rw [← hl]; exact p.2.2))⟩
end
/-! ### answers made by hand, what they are asked, what is due -/
inductive Cz where
  | ct (j : Bool) (a b : Int) (ns : List Int) (d : Bool)
  | cp (j : Bool) (ns : List Int) (d : Bool)
  | cs (t n : Int) (d : Bool)
  | cb (t n : Int) (d : Bool)
def Cz.kd : Cz → Kd
  | .ct j _ _ _ _ => if j = true then .JT else .T
  | .cp j _ _ => if j = true then .JP else .P
  | .cs _ _ _ => .S
  | .cb _ _ _ => .B
def Cz.fs : Cz → List (Str × V)
  | .ct _ a b _ _ => fsT a b
  | .cp _ _ _ => []
  | .cs t _ _ => [("step", .int t)]
  | .cb t _ _ => [("by", .int t)]
def Cz.arg : Cz → Sh
  | .ct _ _ _ ns _ => Sh.ints ns
  | .cp _ ns _ => Sh.ints ns
  | .cs _ n _ => .v (.int n)
  | .cb _ n _ => .v (.int n)
def Cz.due : Cz → Bool
  | .ct _ _ _ _ d => d
  | .cp _ _ d => d
  | .cs _ _ d => d
  | .cb _ _ d => d
def bdB (ns : List Int) : Bool := ns.all fun c => decide (0 ≤ c) && decide (c < (ns.length : Int))
theorem bdB_of {ns : List Int} (h : bdB ns = true) : Bd ns := fun c hc => by
  have := List.all_eq_true.mp h c hc
  simpa using this
def Cz.ok : Cz → Bool
  | .ct j a b ns d => tkShows j ns a b == d
  | .cp j ns d => (peaceB ns j == d) && (bdB ns && decide (ns.length ≤ 1000))
  | .cs t n d => (stepB t n == d) && decide (0 ≤ n)
  | .cb t n d => barB t n == d
def Cz.sh (ad : Kd → Addr) (c : Cz) : Sh := .tup [.ins (ad c.kd) c.fs, c.arg, .v (.bl c.due)]
section
variable {X : Cx} {σ : L2.St} {H : Hp} {o a : Expr} {j : Nat} {pos apos : Pos} {ad : Kd → Addr}
/-- o.shows(a) -/
theorem EV.shC {c : Cz} {pl : Sem Bool} (S : Sw X.prog X.w X.K X.mg X.base ad) (hr : Room j X.A) (h : EX X o σ H (.ins (ad c.kd) c.fs)) (ha : EX X a σ H c.arg) (hc : c.ok = true) (hk : 3 ≤ j := by decide) (hs : noStar a = true := by rfl)
    (ht : eval (.Call (.Attribute o "shows" apos) [a] [] pos) X.env = (do
      let ov ← eval o X.env
      standAt apos.atName
      let (f, first) ← holding [ov] (getMethod ov "shows" pl)
      callWith pos f first (backTo pos (starEach [a] X.env)) (backToKw pos (keywordEach [] X.env))) := by rfl) : EV X (.Call (.Attribute o "shows" apos) [a] [] pos) σ H (.bl c.due) := by
  have hk2 : 2 ≤ j := by omega
  cases c with
  | ct jd x y ns d =>
    have hd : tkShows jd ns x y = d := eq_of_beq hc
    cases jd with
    | false => exact EV.isB (EV.shT (pl := pl) S.sT hr h ha hk2 hs ht) hd
    | true => exact EV.isB (EV.shT (pl := pl) S.sJT hr h ha hk2 hs ht) hd
  | cp jd ns d =>
    simp only [Cz.ok, Bool.and_eq_true, decide_eq_true_eq, beq_iff_eq] at hc
    obtain ⟨hd, hb, hl⟩ := hc
    obtain ⟨oo, ho⟩ := first_ex jd ns
    have hp := first_peace (bdB_of hb) ho
    cases jd with
    | false => exact EV.isB (EV.shP (pl := pl) S.sP hr h ha hl ho hk hs ht) (hp.trans hd)
    | true => exact EV.isB (EV.shP (pl := pl) S.sJP hr h ha hl ho hk hs ht) (hp.trans hd)
  | cs t n d =>
    simp only [Cz.ok, Bool.and_eq_true, decide_eq_true_eq, beq_iff_eq] at hc
    exact EV.isB (EV.shS (pl := pl) S.sS hr h (EV.ofX ha) hc.2 hk2 hs ht) hc.1
  | cb t n d =>
    have hd : barB t n = d := eq_of_beq hc
    exact EV.isB (EV.shB (pl := pl) S.sB hr h (EV.ofX ha) hk2 hs ht) hd
end
end QR

namespace QR
open PySem PySem.Spec PyProof.Rows L2 Evl
def cs7h : List Cz := [.cp false [1, 3, 0, 2] true, .cp false [0, 1] false, .ct false 0 1 [0, 1] true, .ct false 1 0 [0, 1] false, .ct false 0 1 [1, 3, 0, 2] false, .ct false (-2) (-1) [0, 1] false, .ct false 0 100000000000000000000000000000000000000000000000000 [0, 1] false, .ct false 0 0 [0, 1] false, .cp false [0, 2, 4, 1, 3] true, .cp true [0, 2, 4, 1, 3] true, .cp true [1, 3, 0, 2] false, .ct true 0 3 [1, 3, 0, 2] true, .ct true 0 2 [0, 2, 1] true, .ct true 0 1 [0, 2, 4, 1, 3] false, .ct true 1 0 [0, 1] false, .ct false 0 2 [0, 3, 0, 2] true, .cp false [0] true, .ct true (-1) 1 [0, 1] false, .cp true [0] true, .ct false 0 2 [2, 0, 0] true, .ct false 0 1 [5, 0, 1, 2, 3, 4] false]
def cs7s : List Cz := [.cs 2 5 true, .cs 1 5 false, .cs 0 1 true, .cs 3 5 true, .cs 7 5 false, .cs (-3) 5 false, .cb 2 4 true, .cb 3 9 true, .cb 4 4 false, .cb 2 9 false, .cb 3 5 false, .cb 6 6 false, .cs 100000000000000000000000000000000000000000000000000 5 false, .cb 1 5 false, .cs 0 5 false]
theorem cs7h_ok : ∀ c ∈ cs7h, c.ok = true := by decide +kernel
theorem cs7s_ok : ∀ c ∈ cs7s, c.ok = true := by decide +kernel
def four7 : List Int := [1, 3, 0, 2]
def five7 : List Int := [0, 2, 4, 1, 3]
theorem b4 : Bd four7 := by unfold Bd; decide
theorem b5 : Bd five7 := by unfold Bd; decide
theorem n4 : NoTake false four7 := by unfold NoTake; decide
theorem n5 : NoTake true five7 := by unfold NoTake; decide
def spSteps7 (K : PySem.W.Frag) : Sp := fun vs H Q _ => ∃ u v, vs = [u, v] ∧ Is K H u (Sh.ints four7) ∧ Is K H v (Sh.ints five7) ∧ RetV (.bl true) H Q
def spHand7 : Sp := fun vs H Q _ => vs = [] ∧ RetV (.bl true) H Q
section
variable {P : Program} {w : World} {K : PySem.W.Frag} {mg : Str → Option Value} {base : Heap} {xa : Ek → Addr} {ad : Kd → Addr} {CA QE : Addr}
theorem ok_steps7 {f : Addr} {fd : FuncData} (F : Fun K "_law_steps_right" "_law_steps_right" s_law_steps_right f fd) (B : Bl mg) (A : Ans K mg ad CA) (S : Sw P w K mg base ad) (M : Mw P w K mg base ad)
    (c_told : Fc P w K mg base 3 "told" (spTold K xa ad false)) (c_told_joined : Fc P w K mg base 3 "told_joined" (spTold K xa ad true)) (c_mirrored : Fc P w K mg base 3 "mirrored" (spOne K xa mirL)) (c_upended : Fc P w K mg base 3 "upended" (spOne K xa List.reverse)) (c_exchanged : Fc P w K mg base 3 "exchanged" (spExch K xa)) (c_product : Fc P w K mg base 3 "product" (spProd K xa)) : FnOk P w K mg base (L2.CX P w) 4 f fd ["_law_four", "_law_five"] (spSteps7 K) := by
  refine okB F sc_law_steps_right (fun vs H Q E h => ?_) (fun cdv Ar outer s H0 vs Q E hr h => ?_)
  · obtain ⟨u, v, rfl, _⟩ := h
    rfl
  · obtain ⟨v4, v5, rfl, i4, i5, kq⟩ := h
    have nd := sc_law_steps_right.nd
    have x0 := Ex.refl H0
    refine BW.asgN 2 nd (ss := ([.cs 2 5 true, .cs 1 5 false, .cs 0 1 true, .cs 3 5 true] : List Cz).map (Cz.sh ad)) (EN.lst (AX.cons (EX.tup (AX.three (EX.mkS M hr EV.int) (EX.vv EV.int) (EX.vv EV.bl))) (AX.three (EX.tup (AX.three (EX.mkS M hr EV.int) (EX.vv EV.int) (EX.vv EV.bl))) (EX.tup (AX.three (EX.mkS M hr EV.int) (EX.vv EV.int) (EX.vv EV.bl))) (EX.tup (AX.three (EX.mkS M hr EV.int) (EX.vv EV.int) (EX.vv EV.bl)))))) fun q1 vs1 H1 nq1 e1 hq1 ha1 => ?_
    have x1 := x0.trans e1
    show BW _ _ _ [some v4, some v5, some (.ref q1), none, none, none] H1
    refine BW.asgN 2 nd (ss := ([.cs 2 5 true, .cs 1 5 false, .cs 0 1 true, .cs 3 5 true, .cs 7 5 false, .cs (-3) 5 false] : List Cz).map (Cz.sh ad)) (EN.is (EN.cat (EX.var 2 rfl (.lst (sq_of hq1) ha1)) (EX.lst (AX.two (EX.tup (AX.three (EX.mkS M hr EV.int) (EX.vv EV.int) (EX.vv EV.bl))) (EX.tup (AX.three (EX.mkS M hr (EV.neg EV.int)) (EX.vv EV.int) (EX.vv EV.bl)))))) rfl) fun q2 vs2 H2 nq2 e2 hq2 ha2 => ?_
    have x2 := x1.trans e2
    show BW _ _ _ [some v4, some v5, some (.ref q2), none, none, none] H2
    refine BW.asgN 2 nd (ss := ([.cs 2 5 true, .cs 1 5 false, .cs 0 1 true, .cs 3 5 true, .cs 7 5 false, .cs (-3) 5 false, .cb 2 4 true, .cb 3 9 true, .cb 4 4 false] : List Cz).map (Cz.sh ad)) (EN.is (EN.cat (EX.var 2 rfl (.lst (sq_of hq2) ha2)) (EX.lst (AX.three (EX.tup (AX.three (EX.mkB M hr EV.int) (EX.vv EV.int) (EX.vv EV.bl))) (EX.tup (AX.three (EX.mkB M hr EV.int) (EX.vv EV.int) (EX.vv EV.bl))) (EX.tup (AX.three (EX.mkB M hr EV.int) (EX.vv EV.int) (EX.vv EV.bl)))))) rfl) fun q3 vs3 H3 nq3 e3 hq3 ha3 => ?_
    have x3 := x2.trans e3
    show BW _ _ _ [some v4, some v5, some (.ref q3), none, none, none] H3
    refine BW.asgN 2 nd (ss := ([.cs 2 5 true, .cs 1 5 false, .cs 0 1 true, .cs 3 5 true, .cs 7 5 false, .cs (-3) 5 false, .cb 2 4 true, .cb 3 9 true, .cb 4 4 false, .cb 2 9 false, .cb 3 5 false] : List Cz).map (Cz.sh ad)) (EN.is (EN.cat (EX.var 2 rfl (.lst (sq_of hq3) ha3)) (EX.lst (AX.two (EX.tup (AX.three (EX.mkB M hr EV.int) (EX.vv EV.int) (EX.vv EV.bl))) (EX.tup (AX.three (EX.mkB M hr EV.int) (EX.vv EV.int) (EX.vv EV.bl)))))) rfl) fun q4 vs4 H4 nq4 e4 hq4 ha4 => ?_
    have x4 := x3.trans e4
    show BW _ _ _ [some v4, some v5, some (.ref q4), none, none, none] H4
    refine BW.asgN 2 nd (ss := ([.cs 2 5 true, .cs 1 5 false, .cs 0 1 true, .cs 3 5 true, .cs 7 5 false, .cs (-3) 5 false, .cb 2 4 true, .cb 3 9 true, .cb 4 4 false, .cb 2 9 false, .cb 3 5 false, .cb 6 6 false, .cs 100000000000000000000000000000000000000000000000000 5 false, .cb 1 5 false] : List Cz).map (Cz.sh ad)) (EN.is (EN.cat (EX.var 2 rfl (.lst (sq_of hq4) ha4)) (EX.lst (AX.three (EX.tup (AX.three (EX.mkB M hr EV.int) (EX.vv EV.int) (EX.vv EV.bl))) (EX.tup (AX.three (EX.mkS M hr (EV.isI (j := 100000000000000000000000000000000000000000000000000) (EV.pow EV.int EV.int (by decide)) (by decide +kernel))) (EX.vv EV.int) (EX.vv EV.bl))) (EX.tup (AX.three (EX.mkB M hr EV.int) (EX.vv EV.int) (EX.vv EV.bl)))))) rfl) fun q5 vs5 H5 nq5 e5 hq5 ha5 => ?_
    have x5 := x4.trans e5
    show BW _ _ _ [some v4, some v5, some (.ref q5), none, none, none] H5
    refine BW.asgN 2 nd (ss := ([.cs 2 5 true, .cs 1 5 false, .cs 0 1 true, .cs 3 5 true, .cs 7 5 false, .cs (-3) 5 false, .cb 2 4 true, .cb 3 9 true, .cb 4 4 false, .cb 2 9 false, .cb 3 5 false, .cb 6 6 false, .cs 100000000000000000000000000000000000000000000000000 5 false, .cb 1 5 false, .cs 0 5 false] : List Cz).map (Cz.sh ad)) (EN.is (EN.cat (EX.var 2 rfl (.lst (sq_of hq5) ha5)) (EX.lst (AX.one (EX.tup (AX.three (EX.mkS M hr EV.int) (EX.vv EV.int) (EX.vv EV.bl)))))) rfl) fun q6 vs6 H6 nq6 e6 hq6 ha6 => ?_
    have x6 := x5.trans e6
    show BW _ _ _ [some v4, some v5, some (.ref q6), none, none, none] H6
    refine BW.forL (xs := vs6) (EV.var 2 rfl) (sq_of hq6) (g := gTup K 3 (gCons (gName 3) (gCons (gName 4) (gCons (gName 5) gNil)))) (pg_tup rfl (pgs_cons (pg_name (i := 3) nd rfl (Or.inl rfl)) (pgs_cons (pg_name (i := 4) nd rfl (Or.inl rfl)) (pgs_cons (pg_name (i := 5) nd rfl (Or.inl rfl)) pgs_nil)))) (fun i σ' H' => Ex H6 H' ∧ ∃ y3 y4 y5, σ' = [some v4, some v5, some (.ref q6), y3, y4, y5]) (fun Ha ea => ⟨ea, _, _, _, rfl⟩) (fun i σ' H' _ pv => ex_l pv.1 (sq_of hq6)) ?_ ?_
    · rintro i y σ' Ha hi ⟨ea, y3, y4, y5, rfl⟩
      obtain ⟨s', hs, iy⟩ := (ha6.ex ea).at' hi
      rw [show ([.cs 2 5 true, .cs 1 5 false, .cs 0 1 true, .cs 3 5 true, .cs 7 5 false, .cs (-3) 5 false, .cb 2 4 true, .cb 3 9 true, .cb 4 4 false, .cb 2 9 false, .cb 3 5 false, .cb 6 6 false, .cs 100000000000000000000000000000000000000000000000000 5 false, .cb 1 5 false, .cs 0 5 false] : List Cz) = cs7s from rfl, List.getElem?_map] at hs
      cases hc : cs7s[i]? with
      | none => rw [hc] at hs; cases hs
      | some c =>
        rw [hc] at hs
        cases hs
        have hok := cs7s_ok c (List.mem_of_getElem? hc)
        obtain ⟨p, us, rfl, hp, hu⟩ := iy.ofU
        obtain ⟨u1, u2, u3, rfl, h1, h2, h3⟩ := hu.three
        cases h3.vv
        refine ⟨p, _, rfl, hp, rfl, _, _, rfl, _, _, rfl, _, _, rfl, rfl, ?_⟩
        show BW _ _ _ [some v4, some v5, some (.ref q6), some u1, some u2, some (.bl c.due)] Ha
        exact BW.skip (TV.is (TV.neB (EV.shC (c := c) S hr (EX.var 3 rfl h1) (EX.var 4 rfl h2) hok) (EV.var 5 rfl)) (by cases c.due <;> rfl)) fun Hb eb => BW.nil ⟨ea.trans eb, _, _, _, rfl⟩
    rintro σ' Ha ⟨ea, y3, y4, y5, rfl⟩
    have z0 : Ex H0 Ha := x6.trans ea
    refine BW.skip (TV.is (TV.neL (ns := mirL [0, 2, 1]) (ms := [2, 0, 1]) hr (ES.new (EL.one (o := [0, 2, 1]) c_mirrored hr (EX.newI (EL.lst (AV.three EV.int EV.int EV.int))) (by decide) (by decide) (by unfold Bd; decide))) (ES.new (EL.lst (AV.three EV.int EV.int EV.int)))) (by decide +kernel)) fun Hb eb => ?_
    refine BW.skip (TV.is (TV.neL (ns := ([0, 2, 1] : List Int).reverse) (ms := [1, 2, 0]) hr (ES.new (EL.one (o := [0, 2, 1]) c_upended hr (EX.newI (EL.lst (AV.three EV.int EV.int EV.int))) (by decide) (by decide) (by unfold Bd; decide))) (ES.new (EL.lst (AV.three EV.int EV.int EV.int)))) (by decide +kernel)) fun Hc ec => ?_
    have z2 := (z0.trans eb).trans ec
    refine BW.skip (TV.is (TV.neL (ns := exL four7) (ms := [2, 0, 3, 1]) hr (ES.new (EL.exch c_exchanged hr (EX.var 0 rfl (i4.ex z2)) (by decide) (by decide) b4 n4)) (ES.new (EL.lst (AV.cons EV.int (AV.three EV.int EV.int EV.int))))) (by decide +kernel)) fun Hd ed => ?_
    refine BW.skip (TV.is (TV.neL (ns := exL [0]) (ms := [0]) hr (ES.new (EL.exch (o := [0]) c_exchanged hr (EX.newI (EL.lst (AV.one EV.int))) (by decide) (by decide) (by unfold Bd; decide) (by unfold NoTake; decide))) (ES.new (EL.lst (AV.one EV.int)))) (by decide +kernel)) fun He ee => ?_
    have z4 := (z2.trans ed).trans ee
    obtain ⟨p4, rfl, q4⟩ := i4.ofInts
    obtain ⟨p5, rfl, q5⟩ := i5.ofInts
    refine BW.skip (TV.is (TV.neL (ns := prodL [0] five7) (ms := five7) hr (ES.new (EL.prod c_product hr (EX.newI (ns := [0]) (EL.lst (AV.one EV.int))) (EX.var 1 rfl (Is.ints (ex_l z4 q5))) (by decide) (by decide) (by decide) (by unfold Bd; decide) b5 (by unfold NoTake; decide) n5)) (ES.old (EV.var 1 rfl) (ex_l z4 q5))) (by decide +kernel)) fun Hf ef => ?_
    have z5 := z4.trans ef
    refine BW.skip (TV.is (TV.neL (ns := prodL four7 [0]) (ms := four7) hr (ES.new (EL.prod c_product hr (EX.var 0 rfl (Is.ints (ex_l z5 q4))) (EX.newI (ns := [0]) (EL.lst (AV.one EV.int))) (by decide) (by decide) (by decide) b4 (by unfold Bd; decide) n4 (by unfold NoTake; decide))) (ES.old (EV.var 0 rfl) (ex_l z5 q4))) (by decide +kernel)) fun Hg eg => ?_
    have z6 := z5.trans eg
    refine BW.skip (TV.is (TV.neL (ns := [0, 2, 4, 1, 3, 10]) (ms := [0, 2, 4, 1, 3, 10]) hr (ES.new (EL.is (EL.uptoN (EL.prod c_product hr (EX.var 1 rfl (Is.ints (ex_l z6 q5))) (EX.var 1 rfl (Is.ints (ex_l z6 q5))) (by decide) (by decide) (by decide) b5 b5 (board_of_joined n5) n5) EV.int) (by decide +kernel))) (ES.new (EL.lst (AV.cons EV.int (AV.cons EV.int (AV.cons EV.int (AV.three EV.int EV.int EV.int))))))) (by decide +kernel)) fun Hh eh => ?_
    have z7 := z6.trans eh
    refine BW.skip (TV.is (TV.not (TV.val (EV.isTold .P A B.isinstance c_told hr (EX.newI (EL.prod c_product hr (EX.var 0 rfl (Is.ints (ex_l z7 q4))) (EX.var 1 rfl (Is.ints (ex_l z7 q5))) (by decide) (by decide) (by decide) b4 b5 n4 n5)) (by decide) (by decide) (prodL_bd b4 b5 (by decide)) true (dN (prod_peace n4 n5 b4 b5 (by decide)) rfl)))) rfl) fun Hi ei => ?_
    have z8 := z7.trans ei
    exact BW.ret (EV.isTold .JP A B.isinstance c_told_joined hr (EX.newI (EL.prod c_product hr (EX.var 1 rfl (Is.ints (ex_l z8 q5))) (EX.var 1 rfl (Is.ints (ex_l z8 q5))) (by decide) (by decide) (by decide) b5 b5 (board_of_joined n5) n5)) (by decide) (by decide) (prodL_bd b5 b5 (by decide)) true (dN (by unfold NoTake; decide +kernel) rfl)) fun Hj ej => kq Hj (z8.trans ej)
theorem ok_hand7 {f : Addr} {fd : FuncData} (F : Fun K "_law_hand_right" "_law_hand_right" s_law_hand_right f fd) (A : Ans K mg ad CA) (S : Sw P w K mg base ad) (M : Mw P w K mg base ad) (c_steps : Fc P w K mg base 4 "_law_steps_right" (spSteps7 K)) : FnOk P w K mg base (L2.CX P w) 5 f fd [] spHand7 := by
  refine okB F sc_law_hand_right (fun vs H Q E h => ?_) (fun cdv Ar outer s H0 vs Q E hr h => ?_)
  · rw [h.1]
    rfl
  · obtain ⟨rfl, kq⟩ := h
    have nd := sc_law_hand_right.nd
    refine BW.parA 0 1 nd (s := Sh.ints four7) (t := Sh.ints five7) (AX.two (EX.newI (EL.lst (AV.cons EV.int (AV.three EV.int EV.int EV.int)))) (EX.newI (EL.lst (AV.cons EV.int (AV.cons EV.int (AV.three EV.int EV.int EV.int)))))) fun v4 v5 H1 e1 i4 i5 => ?_
    have x1 := Ex.refl H1
    refine BW.asgN 2 nd (ss := ([.cp false [1, 3, 0, 2] true, .cp false [0, 1] false, .ct false 0 1 [0, 1] true] : List Cz).map (Cz.sh ad)) (EN.lst (AX.three (EX.tup (AX.three (EX.mkP M A) (EX.var 0 rfl (i4.ex x1)) (EX.vv EV.bl))) (EX.tup (AX.three (EX.mkP M A) (EX.newI (ns := [0, 1]) (EL.lst (AV.two EV.int EV.int))) (EX.vv EV.bl))) (EX.tup (AX.three (EX.mkT M hr EV.int EV.int) (EX.newI (ns := [0, 1]) (EL.lst (AV.two EV.int EV.int))) (EX.vv EV.bl))))) fun q2 vs2 H2 nq2 e2 hq2 ha2 => ?_
    have x2 := x1.trans e2
    show BW _ _ _ [some v4, some v5, some (.ref q2), none, none, none] H2
    refine BW.asgN 2 nd (ss := ([.cp false [1, 3, 0, 2] true, .cp false [0, 1] false, .ct false 0 1 [0, 1] true, .ct false 1 0 [0, 1] false, .ct false 0 1 [1, 3, 0, 2] false] : List Cz).map (Cz.sh ad)) (EN.is (EN.cat (EX.var 2 rfl (.lst (sq_of hq2) ha2)) (EX.lst (AX.two (EX.tup (AX.three (EX.mkT M hr EV.int EV.int) (EX.newI (ns := [0, 1]) (EL.lst (AV.two EV.int EV.int))) (EX.vv EV.bl))) (EX.tup (AX.three (EX.mkT M hr EV.int EV.int) (EX.var 0 rfl (i4.ex x2)) (EX.vv EV.bl)))))) rfl) fun q3 vs3 H3 nq3 e3 hq3 ha3 => ?_
    have x3 := x2.trans e3
    show BW _ _ _ [some v4, some v5, some (.ref q3), none, none, none] H3
    refine BW.asgN 2 nd (ss := ([.cp false [1, 3, 0, 2] true, .cp false [0, 1] false, .ct false 0 1 [0, 1] true, .ct false 1 0 [0, 1] false, .ct false 0 1 [1, 3, 0, 2] false, .ct false (-2) (-1) [0, 1] false, .ct false 0 100000000000000000000000000000000000000000000000000 [0, 1] false] : List Cz).map (Cz.sh ad)) (EN.is (EN.cat (EX.var 2 rfl (.lst (sq_of hq3) ha3)) (EX.lst (AX.two (EX.tup (AX.three (EX.mkT M hr (EV.neg EV.int) (EV.neg EV.int)) (EX.newI (ns := [0, 1]) (EL.lst (AV.two EV.int EV.int))) (EX.vv EV.bl))) (EX.tup (AX.three (EX.mkT M hr EV.int (EV.isI (j := 100000000000000000000000000000000000000000000000000) (EV.pow EV.int EV.int (by decide)) (by decide +kernel))) (EX.newI (ns := [0, 1]) (EL.lst (AV.two EV.int EV.int))) (EX.vv EV.bl)))))) rfl) fun q4 vs4 H4 nq4 e4 hq4 ha4 => ?_
    have x4 := x3.trans e4
    show BW _ _ _ [some v4, some v5, some (.ref q4), none, none, none] H4
    refine BW.asgN 2 nd (ss := ([.cp false [1, 3, 0, 2] true, .cp false [0, 1] false, .ct false 0 1 [0, 1] true, .ct false 1 0 [0, 1] false, .ct false 0 1 [1, 3, 0, 2] false, .ct false (-2) (-1) [0, 1] false, .ct false 0 100000000000000000000000000000000000000000000000000 [0, 1] false, .ct false 0 0 [0, 1] false, .cp false [0, 2, 4, 1, 3] true] : List Cz).map (Cz.sh ad)) (EN.is (EN.cat (EX.var 2 rfl (.lst (sq_of hq4) ha4)) (EX.lst (AX.two (EX.tup (AX.three (EX.mkT M hr EV.int EV.int) (EX.newI (ns := [0, 1]) (EL.lst (AV.two EV.int EV.int))) (EX.vv EV.bl))) (EX.tup (AX.three (EX.mkP M A) (EX.var 1 rfl (i5.ex x4)) (EX.vv EV.bl)))))) rfl) fun q5 vs5 H5 nq5 e5 hq5 ha5 => ?_
    have x5 := x4.trans e5
    show BW _ _ _ [some v4, some v5, some (.ref q5), none, none, none] H5
    refine BW.asgN 2 nd (ss := ([.cp false [1, 3, 0, 2] true, .cp false [0, 1] false, .ct false 0 1 [0, 1] true, .ct false 1 0 [0, 1] false, .ct false 0 1 [1, 3, 0, 2] false, .ct false (-2) (-1) [0, 1] false, .ct false 0 100000000000000000000000000000000000000000000000000 [0, 1] false, .ct false 0 0 [0, 1] false, .cp false [0, 2, 4, 1, 3] true, .cp true [0, 2, 4, 1, 3] true, .cp true [1, 3, 0, 2] false] : List Cz).map (Cz.sh ad)) (EN.is (EN.cat (EX.var 2 rfl (.lst (sq_of hq5) ha5)) (EX.lst (AX.two (EX.tup (AX.three (EX.mkJP M A) (EX.var 1 rfl (i5.ex x5)) (EX.vv EV.bl))) (EX.tup (AX.three (EX.mkJP M A) (EX.var 0 rfl (i4.ex x5)) (EX.vv EV.bl)))))) rfl) fun q6 vs6 H6 nq6 e6 hq6 ha6 => ?_
    have x6 := x5.trans e6
    show BW _ _ _ [some v4, some v5, some (.ref q6), none, none, none] H6
    refine BW.asgN 2 nd (ss := ([.cp false [1, 3, 0, 2] true, .cp false [0, 1] false, .ct false 0 1 [0, 1] true, .ct false 1 0 [0, 1] false, .ct false 0 1 [1, 3, 0, 2] false, .ct false (-2) (-1) [0, 1] false, .ct false 0 100000000000000000000000000000000000000000000000000 [0, 1] false, .ct false 0 0 [0, 1] false, .cp false [0, 2, 4, 1, 3] true, .cp true [0, 2, 4, 1, 3] true, .cp true [1, 3, 0, 2] false, .ct true 0 3 [1, 3, 0, 2] true, .ct true 0 2 [0, 2, 1] true] : List Cz).map (Cz.sh ad)) (EN.is (EN.cat (EX.var 2 rfl (.lst (sq_of hq6) ha6)) (EX.lst (AX.two (EX.tup (AX.three (EX.mkJT M hr EV.int EV.int) (EX.var 0 rfl (i4.ex x6)) (EX.vv EV.bl))) (EX.tup (AX.three (EX.mkJT M hr EV.int EV.int) (EX.newI (ns := [0, 2, 1]) (EL.lst (AV.three EV.int EV.int EV.int))) (EX.vv EV.bl)))))) rfl) fun q7 vs7 H7 nq7 e7 hq7 ha7 => ?_
    have x7 := x6.trans e7
    show BW _ _ _ [some v4, some v5, some (.ref q7), none, none, none] H7
    refine BW.asgN 2 nd (ss := ([.cp false [1, 3, 0, 2] true, .cp false [0, 1] false, .ct false 0 1 [0, 1] true, .ct false 1 0 [0, 1] false, .ct false 0 1 [1, 3, 0, 2] false, .ct false (-2) (-1) [0, 1] false, .ct false 0 100000000000000000000000000000000000000000000000000 [0, 1] false, .ct false 0 0 [0, 1] false, .cp false [0, 2, 4, 1, 3] true, .cp true [0, 2, 4, 1, 3] true, .cp true [1, 3, 0, 2] false, .ct true 0 3 [1, 3, 0, 2] true, .ct true 0 2 [0, 2, 1] true, .ct true 0 1 [0, 2, 4, 1, 3] false, .ct true 1 0 [0, 1] false] : List Cz).map (Cz.sh ad)) (EN.is (EN.cat (EX.var 2 rfl (.lst (sq_of hq7) ha7)) (EX.lst (AX.two (EX.tup (AX.three (EX.mkJT M hr EV.int EV.int) (EX.var 1 rfl (i5.ex x7)) (EX.vv EV.bl))) (EX.tup (AX.three (EX.mkJT M hr EV.int EV.int) (EX.newI (ns := [0, 1]) (EL.lst (AV.two EV.int EV.int))) (EX.vv EV.bl)))))) rfl) fun q8 vs8 H8 nq8 e8 hq8 ha8 => ?_
    have x8 := x7.trans e8
    show BW _ _ _ [some v4, some v5, some (.ref q8), none, none, none] H8
    refine BW.asgN 2 nd (ss := ([.cp false [1, 3, 0, 2] true, .cp false [0, 1] false, .ct false 0 1 [0, 1] true, .ct false 1 0 [0, 1] false, .ct false 0 1 [1, 3, 0, 2] false, .ct false (-2) (-1) [0, 1] false, .ct false 0 100000000000000000000000000000000000000000000000000 [0, 1] false, .ct false 0 0 [0, 1] false, .cp false [0, 2, 4, 1, 3] true, .cp true [0, 2, 4, 1, 3] true, .cp true [1, 3, 0, 2] false, .ct true 0 3 [1, 3, 0, 2] true, .ct true 0 2 [0, 2, 1] true, .ct true 0 1 [0, 2, 4, 1, 3] false, .ct true 1 0 [0, 1] false, .ct false 0 2 [0, 3, 0, 2] true, .cp false [0] true] : List Cz).map (Cz.sh ad)) (EN.is (EN.cat (EX.var 2 rfl (.lst (sq_of hq8) ha8)) (EX.lst (AX.two (EX.tup (AX.three (EX.mkT M hr EV.int EV.int) (EX.newI (ns := [0, 3, 0, 2]) (EL.lst (AV.cons EV.int (AV.three EV.int EV.int EV.int)))) (EX.vv EV.bl))) (EX.tup (AX.three (EX.mkP M A) (EX.newI (ns := [0]) (EL.lst (AV.one EV.int))) (EX.vv EV.bl)))))) rfl) fun q9 vs9 H9 nq9 e9 hq9 ha9 => ?_
    have x9 := x8.trans e9
    show BW _ _ _ [some v4, some v5, some (.ref q9), none, none, none] H9
    refine BW.asgN 2 nd (ss := ([.cp false [1, 3, 0, 2] true, .cp false [0, 1] false, .ct false 0 1 [0, 1] true, .ct false 1 0 [0, 1] false, .ct false 0 1 [1, 3, 0, 2] false, .ct false (-2) (-1) [0, 1] false, .ct false 0 100000000000000000000000000000000000000000000000000 [0, 1] false, .ct false 0 0 [0, 1] false, .cp false [0, 2, 4, 1, 3] true, .cp true [0, 2, 4, 1, 3] true, .cp true [1, 3, 0, 2] false, .ct true 0 3 [1, 3, 0, 2] true, .ct true 0 2 [0, 2, 1] true, .ct true 0 1 [0, 2, 4, 1, 3] false, .ct true 1 0 [0, 1] false, .ct false 0 2 [0, 3, 0, 2] true, .cp false [0] true, .ct true (-1) 1 [0, 1] false, .cp true [0] true] : List Cz).map (Cz.sh ad)) (EN.is (EN.cat (EX.var 2 rfl (.lst (sq_of hq9) ha9)) (EX.lst (AX.two (EX.tup (AX.three (EX.mkJT M hr (EV.neg EV.int) EV.int) (EX.newI (ns := [0, 1]) (EL.lst (AV.two EV.int EV.int))) (EX.vv EV.bl))) (EX.tup (AX.three (EX.mkJP M A) (EX.newI (ns := [0]) (EL.lst (AV.one EV.int))) (EX.vv EV.bl)))))) rfl) fun q10 vs10 H10 nq10 e10 hq10 ha10 => ?_
    have x10 := x9.trans e10
    show BW _ _ _ [some v4, some v5, some (.ref q10), none, none, none] H10
    refine BW.asgN 2 nd (ss := ([.cp false [1, 3, 0, 2] true, .cp false [0, 1] false, .ct false 0 1 [0, 1] true, .ct false 1 0 [0, 1] false, .ct false 0 1 [1, 3, 0, 2] false, .ct false (-2) (-1) [0, 1] false, .ct false 0 100000000000000000000000000000000000000000000000000 [0, 1] false, .ct false 0 0 [0, 1] false, .cp false [0, 2, 4, 1, 3] true, .cp true [0, 2, 4, 1, 3] true, .cp true [1, 3, 0, 2] false, .ct true 0 3 [1, 3, 0, 2] true, .ct true 0 2 [0, 2, 1] true, .ct true 0 1 [0, 2, 4, 1, 3] false, .ct true 1 0 [0, 1] false, .ct false 0 2 [0, 3, 0, 2] true, .cp false [0] true, .ct true (-1) 1 [0, 1] false, .cp true [0] true, .ct false 0 2 [2, 0, 0] true, .ct false 0 1 [5, 0, 1, 2, 3, 4] false] : List Cz).map (Cz.sh ad)) (EN.is (EN.cat (EX.var 2 rfl (.lst (sq_of hq10) ha10)) (EX.lst (AX.two (EX.tup (AX.three (EX.mkT M hr EV.int EV.int) (EX.newI (ns := [2, 0, 0]) (EL.lst (AV.three EV.int EV.int EV.int))) (EX.vv EV.bl))) (EX.tup (AX.three (EX.mkT M hr EV.int EV.int) (EX.newI (ns := [5, 0, 1, 2, 3, 4]) (EL.lst (AV.cons EV.int (AV.cons EV.int (AV.cons EV.int (AV.three EV.int EV.int EV.int)))))) (EX.vv EV.bl)))))) rfl) fun q11 vs11 H11 nq11 e11 hq11 ha11 => ?_
    have x11 := x10.trans e11
    show BW _ _ _ [some v4, some v5, some (.ref q11), none, none, none] H11
    refine BW.forL (xs := vs11) (EV.var 2 rfl) (sq_of hq11) (g := gTup K 3 (gCons (gName 3) (gCons (gName 4) (gCons (gName 5) gNil)))) (pg_tup rfl (pgs_cons (pg_name (i := 3) nd rfl (Or.inl rfl)) (pgs_cons (pg_name (i := 4) nd rfl (Or.inl rfl)) (pgs_cons (pg_name (i := 5) nd rfl (Or.inl rfl)) pgs_nil)))) (fun i σ' H' => Ex H11 H' ∧ ∃ y3 y4 y5, σ' = [some v4, some v5, some (.ref q11), y3, y4, y5]) (fun Ha ea => ⟨ea, _, _, _, rfl⟩) (fun i σ' H' _ pv => ex_l pv.1 (sq_of hq11)) ?_ ?_
    · rintro i y σ' Ha hi ⟨ea, y3, y4, y5, rfl⟩
      obtain ⟨s', hs, iy⟩ := (ha11.ex ea).at' hi
      rw [show ([.cp false [1, 3, 0, 2] true, .cp false [0, 1] false, .ct false 0 1 [0, 1] true, .ct false 1 0 [0, 1] false, .ct false 0 1 [1, 3, 0, 2] false, .ct false (-2) (-1) [0, 1] false, .ct false 0 100000000000000000000000000000000000000000000000000 [0, 1] false, .ct false 0 0 [0, 1] false, .cp false [0, 2, 4, 1, 3] true, .cp true [0, 2, 4, 1, 3] true, .cp true [1, 3, 0, 2] false, .ct true 0 3 [1, 3, 0, 2] true, .ct true 0 2 [0, 2, 1] true, .ct true 0 1 [0, 2, 4, 1, 3] false, .ct true 1 0 [0, 1] false, .ct false 0 2 [0, 3, 0, 2] true, .cp false [0] true, .ct true (-1) 1 [0, 1] false, .cp true [0] true, .ct false 0 2 [2, 0, 0] true, .ct false 0 1 [5, 0, 1, 2, 3, 4] false] : List Cz) = cs7h from rfl, List.getElem?_map] at hs
      cases hc : cs7h[i]? with
      | none => rw [hc] at hs; cases hs
      | some c =>
        rw [hc] at hs
        cases hs
        have hok := cs7h_ok c (List.mem_of_getElem? hc)
        obtain ⟨p, us, rfl, hp, hu⟩ := iy.ofU
        obtain ⟨u1, u2, u3, rfl, h1, h2, h3⟩ := hu.three
        cases h3.vv
        refine ⟨p, _, rfl, hp, rfl, _, _, rfl, _, _, rfl, _, _, rfl, rfl, ?_⟩
        show BW _ _ _ [some v4, some v5, some (.ref q11), some u1, some u2, some (.bl c.due)] Ha
        exact BW.skip (TV.is (TV.neB (EV.shC (c := c) S hr (EX.var 3 rfl h1) (EX.var 4 rfl h2) hok) (EV.var 5 rfl)) (by cases c.due <;> rfl)) fun Hb eb => BW.nil ⟨ea.trans eb, _, _, _, rfl⟩
    rintro σ' Ha ⟨ea, y3, y4, y5, rfl⟩
    have z0 : Ex H1 Ha := x11.trans ea
    exact BW.retW (EW.call c_steps hr ((AX.two (EX.var 0 rfl (i4.ex z0)) (EX.var 1 rfl (i5.ex z0))).ev Ha (Ex.refl Ha) _ fun us Hb eb hus => by
      obtain ⟨u, v, rfl, hu, hv⟩ := hus.two
      exact ⟨u, v, rfl, hu, hv, fun Hc ec => kq Hc (((e1.trans z0).trans eb).trans ec)⟩))
end
end QR

namespace QR
open PySem PySem.Spec PyProof.Rows L2 Evl
theorem step_good {n : Int} (hn : 1 ≤ n) (hs : stS n = true) : stepB (stV n) n = true := by
  have m2 : n % 2 ≠ 0 := by
    unfold stS at hs
    simp at hs
    exact hs.1 ∘ fun h => by omega
  have m3 : n % 3 ≠ 0 := by
    unfold stS at hs
    simp at hs
    omega
  have hv : stV n = 2 % n := by
    unfold stV
    rw [if_neg m2, if_neg m3]
  rw [hv]
  by_cases h1 : n = 1
  · subst h1
    decide
  · have h5 : 5 ≤ n := by omega
    have h2 : (2 : Int) % n = 2 := Int.emod_eq_of_lt (by decide) (by omega)
    rw [h2]
    obtain ⟨k, rfl⟩ := Int.eq_ofNat_of_zero_le (show 0 ≤ n by omega)
    have g2 : Nat.gcd k 2 = 1 := by
      rw [Nat.gcd_comm, Nat.gcd_rec]
      have : k % 2 = 1 := by omega
      rw [this]
      decide
    have g3 : Nat.gcd k 3 = 1 := by
      rw [Nat.gcd_comm, Nat.gcd_rec]
      have : k % 3 = 1 ∨ k % 3 = 2 := by omega
      rcases this with h | h <;> rw [h] <;> decide
    have e1 : Int.gcd (k : Int) (2 + -1) = 1 := by simp [Int.gcd]
    have e2 : Int.gcd (k : Int) (2 + 0) = 1 := by
      show Nat.gcd k 2 = 1
      exact g2
    have e3 : Int.gcd (k : Int) (2 + 1) = 1 := by
      show Nat.gcd k 3 = 1
      exact g3
    unfold stepB
    simp only [List.all_cons, List.all_nil, e1, e2, e3, decide_true, Bool.and_true]
    simp
    omega

def spGreat7 : Sp := fun vs H Q _ => ∃ m : Int, vs = [.int m] ∧ 0 ≤ m ∧ RetV (.bl true) H Q
theorem sv_great7 {H : Hp} {m : Int} (h : 0 ≤ m) : SpV spGreat7 [.int m] H (.bl true) := fun H1 e1 Q q E => ⟨m, rfl, h, q⟩
theorem in15 (r : Nat) (h : r < 6) : inV (.int (r : Int)) [.int 1, .int 5] = (decide ((r : Int) % 2 ≠ 0) && decide ((r : Int) % 3 ≠ 0)) := by
  have : r = 0 ∨ r = 1 ∨ r = 2 ∨ r = 3 ∨ r = 4 ∨ r = 5 := by omega
  rcases this with rfl | rfl | rfl | rfl | rfl | rfl <;> decide
section
variable {P : Program} {w : World} {K : PySem.W.Frag} {mg : Str → Option Value} {base : Heap} {xa : Ek → Addr} {ad : Kd → Addr} {CA QE : Addr}
theorem EV.sound {X : Cx} {a : Expr} {σ : L2.St} {H : Hp} {p pos : Pos} {j : Nat} {ns : List Int} (C : Fc X.prog X.w X.K X.mg X.base 1 "_law_sound" (spSound X.K)) (hr : Room j X.A) (ha : EX X a σ H (Sh.ints ns)) (hn : ns.length ≤ 100) (hk : 1 ≤ j := by decide) (hg : Gl X "_law_sound" := by rfl) (hs : [a].all noStar = true := by rfl) :
    EV X (.Call (.Name "_law_sound" p) [a] [] pos) σ H (.bl true) :=
  EV.callA C hr (AX.one ha) (fun vs H1 e1 hvs => by
    obtain ⟨u, rfl, hu⟩ := hvs.one
    obtain ⟨q, rfl, hq⟩ := hu.ofInts
    exact fun H2 e2 Q k _ => ⟨q, ns, rfl, ex_l e2 hq, hn, k⟩) hk hg hs
theorem ok_great7 {f : Addr} {fd : FuncData} (F : Fun K "_law_great_right" "_law_great_right" s_law_great_right f fd) (B : Bl mg) (A : Ans K mg ad CA) (S : Sw P w K mg base ad) (M : Mw P w K mg base ad) (c_column : Fc P w K mg base 5 "column" (spCol K xa)) (c_row_of : Fc P w K mg base 5 "row_of" (spRow K xa)) (c_step : Fc P w K mg base 3 "step" (spStep (ad .S) (ad .B))) (c_sound : Fc P w K mg base 1 "_law_sound" (spSound K)) : FnOk P w K mg base (L2.CX P w) 6 f fd ["_law_more"] spGreat7 := by
  refine okB F sc_law_great_right (fun vs H Q E h => ?_) (fun cdv Ar outer s H vs Q E hr h => ?_)
  · obtain ⟨m, rfl, _⟩ := h
    rfl
  · obtain ⟨m, rfl, hm, k⟩ := h
    have nd := sc_law_great_right.nd
    have p1 : (10 : Int) ≤ 10 ^ (50 : Int).toNat := by decide
    refine BW.asg 1 nd (EV.mul EV.int (EV.add (EV.pow EV.int EV.int (by decide)) (EV.var 0 rfl)) (mul_small (.inl ⟨by decide, by decide⟩))) fun H1 e1 => ?_
    obtain ⟨G, hG⟩ : ∃ G : Int, G = 6 * (10 ^ (50 : Int).toNat + m) := ⟨_, rfl⟩
    rw [← hG]
    refine BW.forR 2 (n := 6) B.range nd EV.int (by decide) (fun i σ' H' => Ex H H' ∧ ∃ y2 y3 y4 y5 y6, σ' = [some (.int m), some (.int G), y2, y3, y4, y5, y6]) (fun H2 e2 => ⟨e1.trans e2, _, _, _, _, _, rfl⟩) ?_ ?_
    · rintro r σ' H2 hr6 ⟨e2, y2, y3, y4, y5, y6, rfl⟩
      have hr6' : r < 6 := by omega
      show BW _ _ _ [some (.int m), some (.int G), some (.int (r : Int)), y3, y4, y5, y6] H2
      obtain ⟨N, hN⟩ : ∃ N : Int, G + (r : Int) = N := ⟨_, rfl⟩
      have hN1 : 100 ≤ N ∨ 60 ≤ N := by omega
      have hN2 : 60 ≤ N := by omega
      have hmN : m < N := by omega
      refine BW.asg 3 nd (EV.isI (EV.add (EV.var 1 rfl) (EV.var 2 rfl)) hN) fun H3 e3 => ?_
      show BW _ _ _ [some (.int m), some (.int G), some (.int (r : Int)), some (.int N), y4, y5, y6] H3
      refine BW.forNU (xs := ([0, N - 1, m, N / 2] : List Int).map V.int) (EU.tup (AV.cons EV.int (AV.three (EV.sub (EV.var 3 rfl) EV.int) (EV.var 0 rfl) (EV.fdiv (EV.var 3 rfl) EV.int (by decide))))) (pg_name (i := 4) nd rfl (by first | exact Or.inl rfl | exact Or.inr rfl))
        (fun t i σ' H' => Ex H3 H' ∧ H' t = some (.tup (([0, N - 1, m, N / 2] : List Int).map V.int)) ∧ ∃ y4 y5, σ' = [some (.int m), some (.int G), some (.int (r : Int)), some (.int N), y4, y5, y6]) (fun t H4 nt e4 ht => ⟨e4, ht, _, _, rfl⟩) (fun t i σ' H' _ pv => st_of pv.2.1) ?_ ?_
      · rintro t i x σ' H4 hi ⟨e4, ht, z4, z5, rfl⟩
        obtain ⟨rw', hrw, rfl⟩ : ∃ rw' ∈ ([0, N - 1, m, N / 2] : List Int), x = V.int rw' := by
          obtain ⟨z, hz, rfl⟩ := List.mem_map.mp (List.mem_of_getElem? hi)
          exact ⟨z, hz, rfl⟩
        have hb : 0 ≤ rw' ∧ rw' < N := by
          simp only [List.mem_cons, List.not_mem_nil, or_false] at hrw
          omega
        show BW _ _ _ [some (.int m), some (.int G), some (.int (r : Int)), some (.int N), some (.int rw'), z5, y6] H4
        refine BW.asg 5 nd (EV.call c_column hr (AV.two (EV.var 3 rfl) (EV.var 4 rfl)) (sv_col (by omega) (by omega) (by omega) hb.1 hb.2)) fun H5 e5 => ?_
        have cb := colF_bounds hb.1 hb.2
        refine BW.skip (TV.is (TV.or3 (TV.not (TV.leLt EV.int (EV.var 5 rfl) (EV.var 3 rfl))) (fun _ => TV.ne (EV.call c_row_of hr (AV.two (EV.var 3 rfl) (EV.var 5 rfl)) (sv_row (by omega) (by omega) (by omega) cb.1 cb.2)) (EV.var 4 rfl)) (fun _ _ => TV.not (TV.val (EV.sound c_sound hr (EX.newI (ns := [colF N rw']) (EL.lst (AV.one (EV.var 5 rfl)))) (Nat.le_of_ble_eq_true rfl))))) ?_) fun H6 e6 => BW.nil ⟨(e4.trans e5).trans e6, (e5.trans e6) _ _ ht, _, _, rfl⟩
        rw [rowF_col hb.1 hb.2, decide_eq_true cb.1, decide_eq_true cb.2]
        simp
      · rintro t σ' H4 ⟨e4, ht, z4, z5, rfl⟩
        have pc := colF_peace (n := N) (r := 0) (s := 1) (by omega) (by omega) (by decide) (by omega) (by decide) (by omega) (by decide)
        have sc0 : ∀ Ha, SpV (spCol K xa) [.int N, .int 0] Ha (.int (colF N 0)) := fun Ha => sv_col (by omega) (by omega) (by omega) (by decide) (by omega)
        have sc1 : ∀ Ha, SpV (spCol K xa) [.int N, .int 1] Ha (.int (colF N 1)) := fun Ha => sv_col (by omega) (by omega) (by omega) (by decide) (by omega)
        refine BW.skip (TV.is (TV.or2 (TV.eq (EV.call c_column hr (AV.two (EV.var 3 rfl) EV.int) (sc0 _)) (EV.call c_column hr (AV.two (EV.var 3 rfl) EV.int) (sc1 _))) (fun _ => TV.eq (EV.abs B.abs (EV.sub (EV.call c_column hr (AV.two (EV.var 3 rfl) EV.int) (sc0 _)) (EV.call c_column hr (AV.two (EV.var 3 rfl) EV.int) (sc1 _)))) EV.int)) ?_) fun H5 e5 => ?_
        · rw [Bool.or_eq_false_iff, decide_eq_false_iff_not, decide_eq_false_iff_not]
          omega
        refine BW.asgI 6 nd (EI.call c_step hr (AV.one (EV.var 3 rfl)) (si_step (by omega))) fun qs dx H6 nqs e6 hqs => ?_
        show BW _ _ _ [some (.int m), some (.int G), some (.int (r : Int)), some (.int N), z4, z5, some (.ref qs)] H6
        have d2 : N % 2 = (r : Int) % 2 := by omega
        have d3 : N % 3 = (r : Int) % 3 := by omega
        have hin := in15 r hr6'
        refine BW.skip ?_ fun H7 e7 => ?_
        rotate_left
        · refine BW.skip (TV.is (TV.or2 (TV.neB (EV.shB S.sB hr (EX.mkB M hr EV.int) (EV.var 3 rfl)) (EV.eq (EV.mod (EV.var 2 rfl) EV.int (by decide)) EV.int)) (fun _ => TV.neB (EV.shB S.sB hr (EX.mkB M hr EV.int) (EV.var 3 rfl)) (EV.eq (EV.mod (EV.var 2 rfl) EV.int (by decide)) EV.int))) ?_) fun H8 e8 => BW.nil ⟨(((((e2.trans e3).trans e4).trans e5).trans e6).trans e7).trans e8, _, _, _, _, _, rfl⟩
          unfold barB
          rw [d2, d3]
          simp
        by_cases hst : stS N = true
        · unfold stC stF at hqs
          rw [if_pos hst, if_pos hst] at hqs
          refine (TV.is (TV.or2 (TV.neB (EV.isK A B.isinstance (k := .S) .S (EV.var 6 rfl) hqs) (EV.inU (EV.var 2 rfl) (EU.tup (AV.two EV.int EV.int)))) (fun _ => TV.notB2 (j := true) (EV.isB (EV.shS S.sS hr (EX.var 6 rfl (.ins hqs)) (EV.var 3 rfl) (by omega)) (step_good (by omega) hst)) EV.bl)) ?_)
          rw [hin, ← d2, ← d3]
          unfold stS at hst
          rw [hst]
          rfl
        · have hsf : stS N = false := by simpa using hst
          unfold stC stF at hqs
          rw [if_neg hst, if_neg hst] at hqs
          have hbar : barB (stV N) N = true := by
            unfold stS at hsf
            unfold barB stV
            by_cases h2 : N % 2 = 0
            · rw [if_pos h2, h2]; rfl
            · rw [if_neg h2]
              have h3 : N % 3 = 0 := by
                simp at hsf
                omega
              rw [if_pos h3, h3]
              rfl
          refine (TV.is (TV.or2 (TV.neB (EV.isK A B.isinstance (k := .B) .S (EV.var 6 rfl) hqs) (EV.inU (EV.var 2 rfl) (EU.tup (AV.two EV.int EV.int)))) (fun _ => TV.notB2 (j := true) (EV.isB (EV.shB S.sB hr (EX.var 6 rfl (.ins hqs)) (EV.var 3 rfl)) hbar) EV.bl)) ?_)
          rw [hin, ← d2, ← d3]
          unfold stS at hsf
          rw [hsf]
          rfl
    · rintro σ' H2 ⟨e2, y2, y3, y4, y5, y6, rfl⟩
      exact BW.ret EV.bl fun H3 e3 => k H3 (e2.trans e3)
end
end QR

namespace QR
open PySem PySem.Spec PyProof.Rows L2 Evl
/-! ### the plain facts -/
theorem no_peace7 {j : Bool} {ns : List Int} (hb : Bd ns) (h : peaceB ns j = false) : ¬ NoTake j ns := fun z => by
  have := first_peace hb (show FirstIs j ns none from z)
  rw [h] at this
  cases this
theorem due_no {jd : Bool} {ns : List Int} {q : Nat × Nat} (h : NoTake jd ns) : dueT jd (some q) ns = false := by
  obtain ⟨a, b⟩ := q
  show tkShows jd ns (a : Int) (b : Int) = false
  unfold tkShows
  by_cases hc : a < b ∧ b < ns.length
  · rw [Int.toNat_natCast, Int.toNat_natCast, h b hc.2 a hc.1]
    simp
  · rw [Bool.and_eq_false_iff, Bool.and_eq_false_iff, Bool.and_eq_false_iff, decide_eq_false_iff_not, decide_eq_false_iff_not, decide_eq_false_iff_not]
    omega
def mine7 : List Int := [0, 2, 4, 1, 3]
def chd7 (a : Nat) : List Int := mine7.set a (mine7.getD ((a + 1) % 5) 0)
theorem mine7_bd : Bd mine7 := by unfold Bd; decide
theorem mine7_no : NoTake true mine7 := by unfold NoTake; decide
theorem chd7_facts : ∀ a : Fin 5, (∀ c ∈ chd7 a.val, 0 ≤ c ∧ c < 5) ∧ (chd7 a.val).length = 5 ∧ peaceB (chd7 a.val) false = false ∧ peaceB (chd7 a.val) true = false ∧ (chd7 a.val).set a.val (mine7.getD a.val 0) = mine7 ∧ atI (mine7.map V.int) (((a.val : Int) + 1) % 5) = some (.int (mine7.getD ((a.val + 1) % 5) 0)) := by decide +kernel
section
variable {X : Cx} {a b e : Expr} {σ : L2.St} {H : Hp} {D : Ends} {rest : List Stmt} {xs : List V} {v : V} {s : Sh} {pos p apos : Pos}
/-- e.append(v), e a list made on the way -/
theorem BW.appN (ha : EL X a σ H xs) (h : EV X e σ H v) (hz : xs.length < 100000) (k : ∀ H1, Ex H H1 → BW X rest D σ H1)
    (he : PE X (.Call (.Attribute a "append" apos) [e] [] p) (tBM X.K "list" rAppend (EW X a) (tArgs X [e])) := by exact pe_bm PySem.F.plainAttrs_list PySem.F.slot_list_append PySem.F.type_list_append mt_append pe_self (pa_all rfl))
    (hw : swapsWith (.Call (.Attribute a "append" apos) [e] [] p) none pos.line X.env = pure false := by rfl) : BW X (.Expr (.Call (.Attribute a "append" apos) [e] [] p) pos :: rest) D σ H :=
  BW.cons (ps_expr he hw) (ha.ev H (Ex.refl H) _ fun l H1 nl e1 hl => ⟨.inl ⟨rfl, xs, sq_of hl⟩, (AV.one h).ev H1 e1 _ fun H2 e2 => ⟨l, xs, v, rfl, rfl, e2 l _ hl, sz_lt hz, k _ ((ex_hide (e1.trans e2) nl).trans hide_out)⟩⟩)
/-- x, y = [..], e -/
theorem BW.parLX (i j : Nat) {n m : Str} {px py pt : Pos} {kt k2 pt2} (hN : X.N.Nodup) (ha : EL X a σ H xs) (hb : EX X b σ H s) (k : ∀ l v H1, H l = none → Ex H H1 → H1 l = some (.lst xs) → Is X.K H1 v s → BW X rest D ((σ.set i (some (.ref l))).set j (some v)) H1)
    (hi : X.N[i]? = some n := by rfl) (hj : X.N[j]? = some m := by rfl) (hij : i ≠ j := by decide) (hx : X.env.scope.names.lookup n = some .local := by rfl) (hy : X.env.scope.names.lookup m = some .local := by rfl) (hc : X.calm = true := by rfl)
    (hw : swappedStores [.Tuple [.Name n px, .Name m py] kt pt] (.Tuple [a, b] k2 pt2) X.env = pure (some [n, m]) := by rfl)
    (hs : swapsWithSole [.Tuple [.Name n px, .Name m py] kt pt] (.Tuple [a, b] k2 pt2) pos.line X.env = pure false := by rfl) (hst : [a, b].all noStar = true := by rfl) :
    BW X (.Assign [.Tuple [.Name n px, .Name m py] kt pt] (.Tuple [a, b] k2 pt2) pos :: rest) D σ H :=
  BW.cons (ps_par hc hN hi hj hij hx hy (pa_all hst) hw hs) (ha.ev H (Ex.refl H) _ fun l H1 nl e1 hl => hb.ev H1 e1 _ fun v H2 e2 hv => ⟨.ref l, v, rfl, k l v H2 nl (e1.trans e2) (e2 _ _ hl) hv⟩)
end
def spChg7 : Sp := fun vs H Q _ => ∃ a : Nat, vs = [.int (a : Int)] ∧ a < 5 ∧ RetV (.bl true) H Q
section
variable {P : Program} {w : World} {K : PySem.W.Frag} {mg : Str → Option Value} {base : Heap} {xa : Ek → Addr} {ad : Kd → Addr} {CA QE : Addr}
theorem ok_chg7 {f : Addr} {fd : FuncData} (F : Fun K "_law_changed_right" "_law_changed_right" s_law_changed_right f fd) (B : Bl mg) (A : Ans K mg ad CA) (S : Sw P w K mg base ad)
    (c_told : Fc P w K mg base 3 "told" (spTold K xa ad false)) (c_told_joined : Fc P w K mg base 3 "told_joined" (spTold K xa ad true)) (c_mirrored : Fc P w K mg base 3 "mirrored" (spOne K xa mirL)) (c_upended : Fc P w K mg base 3 "upended" (spOne K xa List.reverse)) (c_exchanged : Fc P w K mg base 3 "exchanged" (spExch K xa)) (c_product : Fc P w K mg base 3 "product" (spProd K xa))
    (c_setting : Fc P w K mg base 4 "setting" (spSetting K xa)) (c_column : Fc P w K mg base 5 "column" (spCol K xa)) (c_row_of : Fc P w K mg base 5 "row_of" (spRow K xa)) (c_sound : Fc P w K mg base 1 "_law_sound" (spSound K)) : FnOk P w K mg base (L2.CX P w) 6 f fd ["_law_at"] spChg7 := by
  refine okB F sc_law_changed_right (fun vs H Q E h => ?_) (fun cdv Ar outer s H vs Q E hr h => ?_)
  · obtain ⟨a, rfl, _⟩ := h
    rfl
  · obtain ⟨a, rfl, ha, kq⟩ := h
    have nd := sc_law_changed_right.nd
    obtain ⟨f1, f2, f3, f4, f5, f6⟩ := chd7_facts ⟨a, ha⟩
    dsimp only at f1 f2 f3 f4 f5 f6
    have hb : Bd (chd7 a) := fun c hc => by rw [f2]; exact f1 c hc
    have n1 := no_peace7 hb f3
    have n2 := no_peace7 hb f4
    refine BW.asgL 1 nd (EL.is (ys := mine7.map V.int) (EL.lst (AV.cons EV.int (AV.cons EV.int (AV.three EV.int EV.int EV.int)))) rfl) fun l H1 nl e1 hl => ?_
    refine BW.parLX 2 3 nd (s := .ins (ad .JP) []) (EL.listOf B.list (ES.old (EV.var 1 rfl) (sq_of hl))) (EX.told (fo := none) c_told_joined hr (EX.var 1 rfl (Is.ints (sq_of hl))) (by decide) (by decide) mine7_bd mine7_no) fun kp vf H2 nk e2 hk hvf => ?_
    have nkl : kp ≠ l := fun z => by rw [z, hl] at nk; cases nk
    show BW _ _ _ [some (.int (a : Int)), some (.ref l), some (.ref kp), some vf, none, none, none, none] H2
    have hl2 := e2 _ _ hl
    refine BW.setL hl2 (EV.ixL (EV.var 1 rfl) (EV.mod (EV.add (EV.var 0 rfl) EV.int) EV.int (by decide)) (sq_of hl2) f6) (EV.var 1 rfl) (EV.var 0 rfl) (by rw [List.length_map]; exact ha) fun H3 e3 => ?_
    have hset : (mine7.map V.int).set a (.int (mine7.getD ((a + 1) % 5) 0)) = (chd7 a).map V.int := by unfold chd7; rw [List.map_set]
    rw [hset]
    have x4 : Ex H (upd H3 l (.lst ((chd7 a).map V.int))) := (ex_hide ((e1.trans e2).trans e3) nl).trans hide_out
    have hk4 : (upd H3 l (.lst ((chd7 a).map V.int))) kp = some (.lst (mine7.map V.int)) := by rw [upd_ne nkl]; exact e3 _ _ hk
    have hf4 := ((hvf.ex e3).hideI (e3 _ _ hl2)).ex (hide_out (o := .lst ((chd7 a).map V.int)))
    have hl4 : (upd H3 l (.lst ((chd7 a).map V.int))) l = some (.lst ((chd7 a).map V.int)) := upd_same
    generalize upd H3 l (.lst ((chd7 a).map V.int)) = H4 at x4 hk4 hf4 hl4
    have i4 : Is K H4 (.ref l) (Sh.ints (chd7 a)) := Is.ints (sq_of hl4)
    obtain ⟨fo, ho⟩ := first_ex false (chd7 a)
    obtain ⟨fj, hj⟩ := first_ex true (chd7 a)
    cases fo with
    | none => exact absurd ho n1
    | some fo =>
    cases fj with
    | none => exact absurd hj n2
    | some fj =>
    have l5 : 1 ≤ (chd7 a).length := by rw [f2]; decide
    have l5' : (chd7 a).length ≤ 200 := by rw [f2]; decide
    refine BW.parA 4 5 nd (s := .ins (ad .T) (fsT fo.1 fo.2)) (t := .ins (ad .JT) (fsT fj.1 fj.2)) (AX.two (EX.told (fo := some fo) c_told hr (EX.var 1 rfl i4) l5 l5' hb ho) (EX.told (fo := some fj) c_told_joined hr (EX.var 1 rfl i4) l5 l5' hb hj)) fun v2 v3 H5 e5 h2 h3 => ?_
    show BW _ _ _ [some (.int (a : Int)), some (.ref l), some (.ref kp), some vf, some v2, some v3, none, none] H5
    refine BW.skip (TV.is (TV.not (TV.val (EV.isKX A B.isinstance (k := .T) .T (EX.var 4 rfl h2)))) rfl) fun H6 e6 => ?_
    refine BW.skip (TV.is (TV.not (TV.val (EV.isKX A B.isinstance (k := .JT) .JT (EX.var 5 rfl (h3.ex e6))))) rfl) fun H7 e7 => ?_
    have y7 := e6.trans e7
    have z7 := e5.trans y7
    refine BW.skip (TV.is (TV.notB2 (j := false) (EV.shD (jd := true) (fo := none) S hr (EX.var 3 rfl (hf4.ex z7)) (EX.var 1 rfl (i4.ex z7)) (by rw [f2]; decide) hb) EV.bl) (by rw [show dueT true none (chd7 a) = peaceB (chd7 a) true from rfl, f4]; rfl)) fun H8 e8 => ?_
    have y8 := y7.trans e8
    have z8 := e5.trans y8
    refine BW.skip (TV.is (TV.notB2 (j := true) (EV.shD (jd := false) (fo := some fo) S hr (EX.var 4 rfl (h2.ex y8)) (EX.var 1 rfl (i4.ex z8)) (by rw [f2]; decide) hb) EV.bl) (by rw [due_self hb ho]; rfl)) fun H9 e9 => ?_
    have y9 := y8.trans e9
    have z9 := e5.trans y9
    refine BW.skip (TV.is (TV.notB2 (j := true) (EV.shD (jd := true) (fo := some fj) S hr (EX.var 5 rfl (h3.ex y9)) (EX.var 1 rfl (i4.ex z9)) (by rw [f2]; decide) hb) EV.bl) (by rw [due_self hb hj]; rfl)) fun H10 e10 => ?_
    have y10 := y9.trans e10
    refine BW.skip (TV.is (TV.not (TV.val (EV.sound c_sound hr (EX.newI (ns := [(fo.1 : Int), (fo.2 : Int), (fj.1 : Int), (fj.2 : Int)]) (EL.lst (AV.cons (EV.fldX (EX.var 4 rfl (h2.ex y10)) (A.cs .T).cl ((A.cs .T).na "one" (by decide)) rfl) (AV.three (EV.fldX (EX.var 4 rfl (h2.ex y10)) (A.cs .T).cl ((A.cs .T).na "other" (by decide)) rfl) (EV.fldX (EX.var 5 rfl (h3.ex y10)) (A.cs .JT).cl ((A.cs .JT).na "one" (by decide)) rfl) (EV.fldX (EX.var 5 rfl (h3.ex y10)) (A.cs .JT).cl ((A.cs .JT).na "other" (by decide)) rfl))))) (Nat.le_of_ble_eq_true rfl)))) rfl) fun H11 e11 => ?_
    have y11 := y10.trans e11
    have z11 := e5.trans y11
    have hl11 := z11 _ _ hl4
    have hk11 := z11 _ _ hk4
    refine BW.setL hl11 (EV.ixL (EV.var 2 rfl) (EV.var 0 rfl) (sq_of hk11) (at_ints (show a < mine7.length from ha))) (EV.var 1 rfl) (EV.var 0 rfl) (by rw [List.length_map, f2]; exact ha) fun H12 e12 => ?_
    have hset2 : ((chd7 a).map V.int).set a (.int (mine7.getD a 0)) = mine7.map V.int := by rw [← List.map_set, f5]
    rw [hset2]
    have x13 : Ex H (upd H12 l (.lst (mine7.map V.int))) := (ex_hide ((x4.trans z11).trans e12) nl).trans hide_out
    have hk13 : (upd H12 l (.lst (mine7.map V.int))) kp = some (.lst (mine7.map V.int)) := by rw [upd_ne nkl]; exact e12 _ _ hk11
    have hf13 := ((hf4.ex (z11.trans e12)).hideI (e12 _ _ hl11)).ex (hide_out (o := .lst (mine7.map V.int)))
    have h213 := ((h2.ex (y11.trans e12)).hideI (e12 _ _ hl11)).ex (hide_out (o := .lst (mine7.map V.int)))
    have h313 := ((h3.ex (y11.trans e12)).hideI (e12 _ _ hl11)).ex (hide_out (o := .lst (mine7.map V.int)))
    have hl13 : (upd H12 l (.lst (mine7.map V.int))) l = some (.lst (mine7.map V.int)) := upd_same
    generalize upd H12 l (.lst (mine7.map V.int)) = H13 at x13 hk13 hf13 h213 h313 hl13
    have i13 : Is K H13 (.ref l) (Sh.ints mine7) := Is.ints (sq_of hl13)
    refine BW.skip (TV.is (TV.notB2 (j := false) (EV.shD (jd := false) (fo := some fo) S hr (EX.var 4 rfl h213) (EX.var 1 rfl i13) (by decide) mine7_bd) EV.bl) (by rw [due_no (board_of_joined mine7_no)]; rfl)) fun H14 e14 => ?_
    refine BW.skip (TV.is (TV.notB2 (j := false) (EV.shD (jd := true) (fo := some fj) S hr (EX.var 5 rfl (h313.ex e14)) (EX.var 1 rfl (i13.ex e14)) (by decide) mine7_bd) EV.bl) (by rw [due_no mine7_no]; rfl)) fun H15 e15 => ?_
    have z15 := e14.trans e15
    refine BW.skip (TV.is (TV.notB2 (j := true) (EV.shD (jd := true) (fo := none) S hr (EX.var 3 rfl (hf13.ex z15)) (EX.var 1 rfl (i13.ex z15)) (by decide) mine7_bd) EV.bl) (by rw [due_self mine7_bd (show FirstIs true mine7 none from mine7_no)]; rfl)) fun H16 e16 => ?_
    have z16 := z15.trans e16
    refine BW.appN (EL.one c_mirrored hr (EX.var 1 rfl (i13.ex z16)) (by decide) (by decide) mine7_bd) EV.int (by decide) fun H17 e17 => ?_
    have z17 := z16.trans e17
    refine BW.appN (EL.one c_upended hr (EX.var 1 rfl (i13.ex z17)) (by decide) (by decide) mine7_bd) EV.int (by decide) fun H18 e18 => ?_
    have z18 := z17.trans e18
    refine BW.appN (EL.exch c_exchanged hr (EX.var 1 rfl (i13.ex z18)) (by decide) (by decide) mine7_bd (board_of_joined mine7_no)) EV.int (by decide) fun H19 e19 => ?_
    have z19 := z18.trans e19
    refine BW.appN (EL.prod c_product hr (EX.var 1 rfl (i13.ex z19)) (EX.var 1 rfl (i13.ex z19)) (by decide) (by decide) (by decide) mine7_bd mine7_bd (board_of_joined mine7_no) mine7_no) EV.int (by decide) fun H20 e20 => ?_
    have hs8 : ∀ Ha, SpL (spSetting K xa) [.int 8] Ha ((setL 8).map V.int) := fun Ha => sl_setting (n := 8) (by decide) (by decide) (by decide) (by decide)
    refine BW.appN (EL.call c_setting hr (AV.one EV.int) (hs8 _)) EV.int (by decide) fun H21 e21 => ?_
    have z21 := (z19.trans e20).trans e21
    refine BW.skip (TV.is (TV.or3 (TV.neL (ns := mine7) (ms := mine7) hr (ES.old (EV.var 1 rfl) (sq_of (z21 _ _ hl13))) (ES.old (EV.var 2 rfl) (sq_of (z21 _ _ hk13)))) (fun _ => TV.ne (EV.lenN B.len (EL.call c_setting hr (AV.one EV.int) (hs8 _))) EV.int) (fun _ _ => TV.not (TV.val (EV.isTold .P A B.isinstance c_told hr (EX.newI (EL.call c_setting hr (AV.one EV.int) (hs8 _))) (by decide) (by decide) (setL_bd 8) true (dN (setL_no (by decide) (by decide)) rfl))))) (by decide +kernel)) fun H22 e22 => ?_
    refine BW.skip (TV.is (TV.neL (ns := setL 8) (ms := setL 8) hr (ES.new (EL.is (LC.range (j := 6) (fun r => .int (colF 8 (r : Int))) B.range nd (blkOk_by (N := n_law_changed_right) (sc := defScope s_law_changed_right) (by decide +kernel)) EV.int ⟨by decide, by decide⟩ (fun i Ha ea hi s0 H0 C0 cl fp => EV.call c_column hr (AV.two EV.int (EV.var 6 rfl)) (sv_col (by decide) (by decide) (by decide) (by omega) (by omega)))).el (by unfold setL; rw [List.map_map]; rfl))) (ES.new (EL.call c_setting hr (AV.one EV.int) (hs8 _)))) (by simp)) fun H23 e23 => ?_
    have z23 := (z21.trans e22).trans e23
    refine BW.ret (EV.isB (j := true) (EV.eqL (ns := (List.range 8).map fun i : Nat => (i : Int)) (ms := (List.range 8).map fun i : Nat => (i : Int)) hr (ES.new (EL.is (LC.listN (j := 7) (xs := (setL 8).map V.int) (fun i => .int (i : Int)) nd (blkOk_by (N := n_law_changed_right) (sc := defScope s_law_changed_right) (by decide +kernel)) (EL.call c_setting hr (AV.one EV.int) (hs8 _)) (by decide) (fun i y Ha ea hi s0 H0 C0 cl fp => ?_)).el (by rw [List.length_map, setL_len', List.map_map]; rfl))) (ES.new (EL.is (EL.listR1 B.list B.range EV.int (by decide)) (by rw [List.map_map]; rfl)))) (by simp)) fun H24 e24 => kq H24 ((x13.trans z23).trans e24)
    obtain ⟨rfl, hil⟩ := at_map hi
    rw [setL_len'] at hil
    have hg : (setL 8).getD i 0 = colF 8 (i : Int) := by
      unfold setL
      simp [List.getD_eq_getElem?_getD, hil]
    rw [hg]
    have cb := colF_bounds (n := 8) (r := (i : Int)) (by omega) (by omega)
    refine EV.isI (EV.call c_row_of hr (AV.two EV.int (EV.var 7 rfl)) (sv_row (by decide) (by decide) (by decide) cb.1 cb.2)) ?_
    exact rowF_col (by omega) (by omega)
end
end QR

namespace QR
open PySem PySem.Spec PyProof.Rows L2 Evl LamX
section
variable {X : Cx} {σ : L2.St} {H : Hp} {Q : VK} {pos p : Pos} {x : Str} {sp : Sp} {k j : Nat}
/-- f() -/
theorem EW.call0 (C : Fc X.prog X.w X.K X.mg X.base k x sp) (hr : Room j X.A) (h : sp [] H Q E0) (hk : k ≤ j := by decide) (hg : Gl X x := by rfl) (hdb : (x == ("__debug__" : Str)) = false := by decide) : EW X (.Call (.Name x p) [] [] pos) σ H Q := by
  obtain ⟨f, fd, ps, F, hm, kp, bn⟩ := C.ex
  exact EW.of (pe_call0 F (hr.mono hk) hg hm kp bn .nil passL hdb) h
end
def spLaw7 (K : PySem.W.Frag) : Sp := fun vs H Q _ => ∃ (a : Addr) (ns : List Int), vs = [.ref a] ∧ SqL K H a (ns.map V.int) ∧ ns.length ≤ 63 ∧ Tabs (tabL K makers7) H ∧ ∀ H', Q (.bl true) H'
section
variable {P : Program} {w : World} {K : PySem.W.Frag} {mg : Str → Option Value} {base : Heap}
theorem ok_law7 {f : Addr} {fd : FuncData} (F : Fun K "law" "law" s_law f fd) (B : Bl mg) (c_bad : Fc P w K mg base 8 "_law_bad_right" (spBad7 K)) (c_great : Fc P w K mg base 6 "_law_great_right" spGreat7) (c_hand : Fc P w K mg base 5 "_law_hand_right" spHand7) (c_chg : Fc P w K mg base 6 "_law_changed_right" spChg7) : FnOk P w K mg base (L2.CX P w) 9 f fd ["_law_script"] (spLaw7 K) := by
  refine okB F sc_law (fun vs H Q E h => ?_) (fun cdv Ar outer s H vs Q E hr h => ?_)
  · obtain ⟨a, ns, rfl, _⟩ := h
    rfl
  · obtain ⟨a, ns, rfl, hq, hl, hT, k⟩ := h
    have nd := sc_law.nd
    have p0 : (0 : Int) < 10 ^ (6 : Int).toNat := Int.pow_pos (by decide)
    refine BW.asg 1 nd (EV.mod (EV.abs B.abs (EV.sumN (ns := ns) B.sum (EL.is (EL.upto (EV.var 0 rfl) EV.int hq) ?_))) (EV.pow EV.int EV.int (by decide)) p0) fun H1 e1 => ?_
    · rw [show (63 : Int) = ((63 : Nat) : Int) from rfl, cut_upto, ← List.map_take, List.take_of_length_le hl]
    have hm := Int.emod_nonneg (((ns.sum).natAbs : Nat) : Int) (show (10 ^ (6 : Int).toNat : Int) ≠ 0 by omega)
    generalize (((ns.sum).natAbs : Nat) : Int) % (10 ^ (6 : Int).toNat : Int) = m at hm
    obtain ⟨a5, ha5⟩ : ∃ a5 : Nat, (a5 : Int) = m % 5 := ⟨(m % 5).toNat, by omega⟩
    refine BW.skipW (TW.not (TW.val (EW.call c_bad hr ((AV.one (EV.var 1 rfl)).ev H1 (Ex.refl H1) _ fun H2 e2 => ⟨m, rfl, hm, hT.ext (e1.trans e2), fun H3 e3 T3 => ⟨true, rfl, rfl, ?_⟩⟩))))
    refine BW.skip (TV.is (TV.not (TV.val (EV.call c_great hr (AV.one (EV.var 1 rfl)) (sv_great7 hm)))) rfl) fun H4 e4 => ?_
    refine BW.skipW (TW.not (TW.val (EW.call0 c_hand hr ⟨rfl, fun H5 e5 => ⟨true, rfl, rfl, ?_⟩⟩)))
    exact BW.ret (EV.call c_chg hr (AV.one (EV.isI (EV.mod (EV.var 1 rfl) EV.int (by decide)) ha5.symm)) (fun Ha ea Q' kq _ => ⟨a5, rfl, by omega, kq⟩)) fun H6 e6 => k H6
end
end QR

namespace QR
open PySem PySem.Spec PyProof.Rows L2 Evl

def fnl : List He.DefD := [dG "is_number" s_is_number, dG "take" s_take, dG "take_joined" s_take_joined, dG "first_taking" s_first_taking, dG "common" s_common, dM "Step" "__init__" "Step.__init__" s_Step___init__, dM "Barred" "__init__" "Barred.__init__" s_Barred___init__, dM "Take" "__init__" "Take.__init__" s_Take___init__, dM "JoinedTake" "__init__" "JoinedTake.__init__" s_JoinedTake___init__, dM "Step" "shows" "Step.shows" s_Step_shows, dM "Barred" "shows" "Barred.shows" s_Barred_shows, dM "Peace" "shows" "Peace.shows" s_Peace_shows, dM "JoinedPeace" "shows" "JoinedPeace.shows" s_JoinedPeace_shows, dM "Take" "shows" "Take.shows" s_Take_shows, dM "JoinedTake" "shows" "JoinedTake.shows" s_JoinedTake_shows, dG "check_size" s_check_size, dG "check_setting" s_check_setting, dG "told" s_told, dG "told_joined" s_told_joined, dG "step" s_step, dG "mirrored" s_mirrored, dG "upended" s_upended, dG "exchanged" s_exchanged, dG "product" s_product, dG "column_of" s_column_of, dG "row_at" s_row_at, dG "check_peaceful" s_check_peaceful, dG "check_place" s_check_place, dG "column" s_column, dG "row_of" s_row_of, dG "setting" s_setting, dG "_law_refused" s_law_refused, dG "_law_sound" s_law_sound, dG "_law_spoiled" s_law_spoiled, dG "_law_doors" s_law_doors, dG "_law_bad_right" s_law_bad_right, dG "_law_great_right" s_law_great_right, dG "_law_steps_right" s_law_steps_right, dG "_law_hand_right" s_law_hand_right, dG "_law_changed_right" s_law_changed_right, dG "law" s_law]
def fal : List He.Fa := [.glo "is_number", .glo "take", .glo "take_joined", .glo "first_taking", .glo "common", .mkr "Step", .glo "Step", .mkr "Barred", .glo "Barred", .mkr "Take", .glo "Take", .mkr "JoinedTake", .glo "JoinedTake", .meth "Step" "shows", .cls "Step", .meth "Barred" "shows", .cls "Barred", .meth "Peace" "shows", .cls "Peace", .meth "JoinedPeace" "shows", .cls "JoinedPeace", .meth "Take" "shows", .cls "Take", .meth "JoinedTake" "shows", .cls "JoinedTake", .glo "check_size", .glo "check_setting", .glo "told", .glo "told_joined", .glo "step", .glo "mirrored", .glo "upended", .glo "exchanged", .glo "product", .glo "column_of", .glo "row_at", .glo "check_peaceful", .glo "check_place", .glo "column", .glo "row_of", .glo "setting", .glo "_law_refused", .glo "_law_sound", .glo "_law_spoiled", .glo "_law_doors", .glo "_law_bad_right", .glo "_law_great_right", .glo "_law_steps_right", .glo "_law_hand_right", .glo "_law_changed_right", .glo "law", .int "MOST" 200, .free "isinstance", .free "int", .free "bool", .free "list", .free "len", .free "all", .free "any", .free "abs", .free "range", .free "sum", .free "min", .free "max", .free "set", .free "enumerate", .free "sorted", .free "tuple", .free "str", .free "ValueError"]
def tfl : List He.Defn := [("_law_doors", none), ("_law_bad_right", none)]
def exl (K : PySem.W.Frag) : Bool := (ansB K && (mkNB K "Peace" && mkNB K "JoinedPeace")) && (xiB K && decide ((makers7.map (tabA K)).Nodup))
abbrev R : PySem.W.OpenRow := PySem.W.OpenLaw.row PySem.Challenge.rw_queenrows_k07_one_reason
abbrev hk : PySem.W.Hook := He.hookX 5 fal fnl [] tfl exl
def ob (s : PySem.W.SharedT) : He.AlX := He.obsX 5 fal fnl [] tfl exl (HandSHeadRun.getT s)
theorem ob_eq (s : PySem.W.SharedT) : ob s = hk.obs s.abs := He.obsX_eq (HandSHeadRun.getT_eq s)
def loose0 : List Str := ["__name__", "QueenError", "BadSize", "BadPlace", "BadSetting", "NoSetting", "NoPeace", "MOST", "is_number", "check_size", "check_setting", "take", "take_joined", "first_taking", "common", "column_of", "row_at", "check_peaceful", "check_place", "column"]
def loose1 : List Str := ["row_of", "setting", "Answer", "Peace", "JoinedPeace", "Take", "JoinedTake", "Step", "Barred", "told", "told_joined", "step", "mirrored", "upended", "exchanged", "product", "_law_refused", "_law_sound", "_law_spoiled", "_law_doors"]
def loose2 : List Str := ["_law_bad_right", "_law_great_right", "_law_steps_right", "_law_hand_right", "_law_changed_right"]
def loose : List Str := loose0 ++ loose1 ++ loose2
theorem run (w : World) : HandSHeadRun.RunEq R (PySem.W.view R.prog [51]) hk ob 5000 loose w := by
  intro os
  kernel_rfl
theorem facts {P : Program} {w : World} {K : PySem.W.Frag} {h : Heap} {mg : Str → Option Value} {f : Addr} (X : K.In h) (G : h.Ns mainGlobals mg) (hfa : mg ("law" : Str) = some (.ref f)) (c : He.SaysX fal fnl [] tfl exl w h K) :
    ∃ fd : FuncData, (∀ (s : Shared) (v : Value), BindsTo s fd ⟨[v], []⟩ [("_law_script", v)]) ∧ ∀ base : Heap, K.In base → base.Ns mainGlobals mg → (∀ p ∈ makers7.map (fun x => He.cT K (x, none)), LamX.TabB base mg p.1 p.2) → FnOk P w K mg base (L2.CX P w) 9 f fd ["_law_script"] (spLaw7 K) := by
  have d := c.t.d
  have B : Bl mg := ⟨He.free_ok X G (d.fact 52 (f := .free "isinstance") rfl), He.free_ok X G (d.fact 53 (f := .free "int") rfl), He.free_ok X G (d.fact 54 (f := .free "bool") rfl), He.free_ok X G (d.fact 55 (f := .free "list") rfl), He.free_ok X G (d.fact 56 (f := .free "len") rfl), He.free_ok X G (d.fact 57 (f := .free "all") rfl), He.free_ok X G (d.fact 58 (f := .free "any") rfl), He.free_ok X G (d.fact 59 (f := .free "abs") rfl), He.free_ok X G (d.fact 60 (f := .free "range") rfl), He.free_ok X G (d.fact 61 (f := .free "sum") rfl), He.free_ok X G (d.fact 62 (f := .free "min") rfl), He.free_ok X G (d.fact 63 (f := .free "max") rfl), He.free_ok X G (d.fact 64 (f := .free "set") rfl), He.free_ok X G (d.fact 65 (f := .free "enumerate") rfl), He.free_ok X G (d.fact 66 (f := .free "sorted") rfl), He.free_ok X G (d.fact 67 (f := .free "tuple") rfl), He.free_ok X G (d.fact 68 (f := .free "str") rfl), He.free_ok X G (d.fact 69 (f := .free "ValueError") rfl)⟩
  have hX := He.ba c.more
  have hM := He.ba hX.1
  have A := ans_of X G hM.1
  have hN := He.ba hM.2
  have hY := He.ba hX.2
  have hI := xi_of X G hY.1
  have ndT := of_decide_eq_true hY.2
  have gM := He.int_ok X G (d.fact 51 (f := .int "MOST" 200) rfl)
  obtain ⟨fdL, FL0⟩ := d.def_ 40 (d := dG "law" s_law) rfl
  have FL : Fun K "law" "law" s_law _ fdL := fun_ofD FL0
  have e := hfa.symm.trans (He.glo_ok X G (d.fact 50 (f := .glo "law") rfl))
  cases e
  obtain ⟨fd0, F0_0⟩ := d.def_ 0 (d := dG "is_number" s_is_number) rfl
  have F_is_number : Fun K "is_number" "is_number" s_is_number _ fd0 := fun_ofD F0_0
  have b_is_number := F_is_number.binds (ps := ["thing", "least"]) fun _ _ _ _ _ _ us hl => match us, hl with | [_, _], _ => rfl
  obtain ⟨fd1, F1_0⟩ := d.def_ 1 (d := dG "take" s_take) rfl
  have F_take : Fun K "take" "take" s_take _ fd1 := fun_ofD F1_0
  have b_take := F_take.binds (ps := ["setting", "one", "other"]) fun _ _ _ _ _ _ us hl => match us, hl with | [_, _, _], _ => rfl
  obtain ⟨fd2, F2_0⟩ := d.def_ 2 (d := dG "take_joined" s_take_joined) rfl
  have F_take_joined : Fun K "take_joined" "take_joined" s_take_joined _ fd2 := fun_ofD F2_0
  have b_take_joined := F_take_joined.binds (ps := ["setting", "one", "other"]) fun _ _ _ _ _ _ us hl => match us, hl with | [_, _, _], _ => rfl
  obtain ⟨fd3, F3_0⟩ := d.def_ 3 (d := dG "first_taking" s_first_taking) rfl
  have F_first_taking : Fun K "first_taking" "first_taking" s_first_taking _ fd3 := fun_ofD F3_0
  have b_first_taking := F_first_taking.binds (ps := ["setting", "taking"]) fun _ _ _ _ _ _ us hl => match us, hl with | [_, _], _ => rfl
  obtain ⟨fd4, F4_0⟩ := d.def_ 4 (d := dG "common" s_common) rfl
  have F_common : Fun K "common" "common" s_common _ fd4 := fun_ofD F4_0
  have b_common := F_common.binds (ps := ["one", "other"]) fun _ _ _ _ _ _ us hl => match us, hl with | [_, _], _ => rfl
  obtain ⟨fd5, F5_0⟩ := d.def_ 5 (d := dM "Step" "__init__" "Step.__init__" s_Step___init__) rfl
  have F_Step_init : Fun K "__init__" "Step.__init__" s_Step___init__ _ fd5 := fun_ofD F5_0
  have b_Step_init := F_Step_init.binds (ps := ["self", "step"]) fun _ _ _ _ _ _ us hl => match us, hl with | [_, _], _ => rfl
  obtain ⟨fd6, F6_0⟩ := d.def_ 6 (d := dM "Barred" "__init__" "Barred.__init__" s_Barred___init__) rfl
  have F_Barred_init : Fun K "__init__" "Barred.__init__" s_Barred___init__ _ fd6 := fun_ofD F6_0
  have b_Barred_init := F_Barred_init.binds (ps := ["self", "by"]) fun _ _ _ _ _ _ us hl => match us, hl with | [_, _], _ => rfl
  obtain ⟨fd7, F7_0⟩ := d.def_ 7 (d := dM "Take" "__init__" "Take.__init__" s_Take___init__) rfl
  have F_Take_init : Fun K "__init__" "Take.__init__" s_Take___init__ _ fd7 := fun_ofD F7_0
  have b_Take_init := F_Take_init.binds (ps := ["self", "one", "other"]) fun _ _ _ _ _ _ us hl => match us, hl with | [_, _, _], _ => rfl
  obtain ⟨fd8, F8_0⟩ := d.def_ 8 (d := dM "JoinedTake" "__init__" "JoinedTake.__init__" s_JoinedTake___init__) rfl
  have F_JoinedTake_init : Fun K "__init__" "JoinedTake.__init__" s_JoinedTake___init__ _ fd8 := fun_ofD F8_0
  have b_JoinedTake_init := F_JoinedTake_init.binds (ps := ["self", "one", "other"]) fun _ _ _ _ _ _ us hl => match us, hl with | [_, _, _], _ => rfl
  obtain ⟨fd9, F9_0⟩ := d.def_ 9 (d := dM "Step" "shows" "Step.shows" s_Step_shows) rfl
  have F_Step_shows : Fun K "shows" "Step.shows" s_Step_shows _ fd9 := fun_ofD F9_0
  have b_Step_shows := F_Step_shows.binds (ps := ["self", "size"]) fun _ _ _ _ _ _ us hl => match us, hl with | [_, _], _ => rfl
  obtain ⟨fd10, F10_0⟩ := d.def_ 10 (d := dM "Barred" "shows" "Barred.shows" s_Barred_shows) rfl
  have F_Barred_shows : Fun K "shows" "Barred.shows" s_Barred_shows _ fd10 := fun_ofD F10_0
  have b_Barred_shows := F_Barred_shows.binds (ps := ["self", "size"]) fun _ _ _ _ _ _ us hl => match us, hl with | [_, _], _ => rfl
  obtain ⟨fd11, F11_0⟩ := d.def_ 11 (d := dM "Peace" "shows" "Peace.shows" s_Peace_shows) rfl
  have F_Peace_shows : Fun K "shows" "Peace.shows" s_Peace_shows _ fd11 := fun_ofD F11_0
  have b_Peace_shows := F_Peace_shows.binds (ps := ["self", "setting"]) fun _ _ _ _ _ _ us hl => match us, hl with | [_, _], _ => rfl
  obtain ⟨fd12, F12_0⟩ := d.def_ 12 (d := dM "JoinedPeace" "shows" "JoinedPeace.shows" s_JoinedPeace_shows) rfl
  have F_JoinedPeace_shows : Fun K "shows" "JoinedPeace.shows" s_JoinedPeace_shows _ fd12 := fun_ofD F12_0
  have b_JoinedPeace_shows := F_JoinedPeace_shows.binds (ps := ["self", "setting"]) fun _ _ _ _ _ _ us hl => match us, hl with | [_, _], _ => rfl
  obtain ⟨fd13, F13_0⟩ := d.def_ 13 (d := dM "Take" "shows" "Take.shows" s_Take_shows) rfl
  have F_Take_shows : Fun K "shows" "Take.shows" s_Take_shows _ fd13 := fun_ofD F13_0
  have b_Take_shows := F_Take_shows.binds (ps := ["self", "setting"]) fun _ _ _ _ _ _ us hl => match us, hl with | [_, _], _ => rfl
  obtain ⟨fd14, F14_0⟩ := d.def_ 14 (d := dM "JoinedTake" "shows" "JoinedTake.shows" s_JoinedTake_shows) rfl
  have F_JoinedTake_shows : Fun K "shows" "JoinedTake.shows" s_JoinedTake_shows _ fd14 := fun_ofD F14_0
  have b_JoinedTake_shows := F_JoinedTake_shows.binds (ps := ["self", "setting"]) fun _ _ _ _ _ _ us hl => match us, hl with | [_, _], _ => rfl
  obtain ⟨fd15, F15_0⟩ := d.def_ 15 (d := dG "check_size" s_check_size) rfl
  have F_check_size : Fun K "check_size" "check_size" s_check_size _ fd15 := fun_ofD F15_0
  have b_check_size := F_check_size.binds (ps := ["size"]) fun _ _ _ _ _ _ us hl => match us, hl with | [_], _ => rfl
  obtain ⟨fd16, F16_0⟩ := d.def_ 16 (d := dG "check_setting" s_check_setting) rfl
  have F_check_setting : Fun K "check_setting" "check_setting" s_check_setting _ fd16 := fun_ofD F16_0
  have b_check_setting := F_check_setting.binds (ps := ["setting"]) fun _ _ _ _ _ _ us hl => match us, hl with | [_], _ => rfl
  obtain ⟨fd17, F17_0⟩ := d.def_ 17 (d := dG "told" s_told) rfl
  have F_told : Fun K "told" "told" s_told _ fd17 := fun_ofD F17_0
  have b_told := F_told.binds (ps := ["setting"]) fun _ _ _ _ _ _ us hl => match us, hl with | [_], _ => rfl
  obtain ⟨fd18, F18_0⟩ := d.def_ 18 (d := dG "told_joined" s_told_joined) rfl
  have F_told_joined : Fun K "told_joined" "told_joined" s_told_joined _ fd18 := fun_ofD F18_0
  have b_told_joined := F_told_joined.binds (ps := ["setting"]) fun _ _ _ _ _ _ us hl => match us, hl with | [_], _ => rfl
  obtain ⟨fd19, F19_0⟩ := d.def_ 19 (d := dG "step" s_step) rfl
  have F_step : Fun K "step" "step" s_step _ fd19 := fun_ofD F19_0
  have b_step := F_step.binds (ps := ["size"]) fun _ _ _ _ _ _ us hl => match us, hl with | [_], _ => rfl
  obtain ⟨fd20, F20_0⟩ := d.def_ 20 (d := dG "mirrored" s_mirrored) rfl
  have F_mirrored : Fun K "mirrored" "mirrored" s_mirrored _ fd20 := fun_ofD F20_0
  have b_mirrored := F_mirrored.binds (ps := ["setting"]) fun _ _ _ _ _ _ us hl => match us, hl with | [_], _ => rfl
  obtain ⟨fd21, F21_0⟩ := d.def_ 21 (d := dG "upended" s_upended) rfl
  have F_upended : Fun K "upended" "upended" s_upended _ fd21 := fun_ofD F21_0
  have b_upended := F_upended.binds (ps := ["setting"]) fun _ _ _ _ _ _ us hl => match us, hl with | [_], _ => rfl
  obtain ⟨fd22, F22_0⟩ := d.def_ 22 (d := dG "exchanged" s_exchanged) rfl
  have F_exchanged : Fun K "exchanged" "exchanged" s_exchanged _ fd22 := fun_ofD F22_0
  have b_exchanged := F_exchanged.binds (ps := ["setting"]) fun _ _ _ _ _ _ us hl => match us, hl with | [_], _ => rfl
  obtain ⟨fd23, F23_0⟩ := d.def_ 23 (d := dG "product" s_product) rfl
  have F_product : Fun K "product" "product" s_product _ fd23 := fun_ofD F23_0
  have b_product := F_product.binds (ps := ["outer", "inner"]) fun _ _ _ _ _ _ us hl => match us, hl with | [_, _], _ => rfl
  obtain ⟨fd24, F24_0⟩ := d.def_ 24 (d := dG "column_of" s_column_of) rfl
  have F_column_of : Fun K "column_of" "column_of" s_column_of _ fd24 := fun_ofD F24_0
  have b_column_of := F_column_of.binds (ps := ["size", "row"]) fun _ _ _ _ _ _ us hl => match us, hl with | [_, _], _ => rfl
  obtain ⟨fd25, F25_0⟩ := d.def_ 25 (d := dG "row_at" s_row_at) rfl
  have F_row_at : Fun K "row_at" "row_at" s_row_at _ fd25 := fun_ofD F25_0
  have b_row_at := F_row_at.binds (ps := ["size", "column"]) fun _ _ _ _ _ _ us hl => match us, hl with | [_, _], _ => rfl
  obtain ⟨fd26, F26_0⟩ := d.def_ 26 (d := dG "check_peaceful" s_check_peaceful) rfl
  have F_check_peaceful : Fun K "check_peaceful" "check_peaceful" s_check_peaceful _ fd26 := fun_ofD F26_0
  have b_check_peaceful := F_check_peaceful.binds (ps := ["size"]) fun _ _ _ _ _ _ us hl => match us, hl with | [_], _ => rfl
  obtain ⟨fd27, F27_0⟩ := d.def_ 27 (d := dG "check_place" s_check_place) rfl
  have F_check_place : Fun K "check_place" "check_place" s_check_place _ fd27 := fun_ofD F27_0
  have b_check_place := F_check_place.binds (ps := ["size", "place"]) fun _ _ _ _ _ _ us hl => match us, hl with | [_, _], _ => rfl
  obtain ⟨fd28, F28_0⟩ := d.def_ 28 (d := dG "column" s_column) rfl
  have F_column : Fun K "column" "column" s_column _ fd28 := fun_ofD F28_0
  have b_column := F_column.binds (ps := ["size", "row"]) fun _ _ _ _ _ _ us hl => match us, hl with | [_, _], _ => rfl
  obtain ⟨fd29, F29_0⟩ := d.def_ 29 (d := dG "row_of" s_row_of) rfl
  have F_row_of : Fun K "row_of" "row_of" s_row_of _ fd29 := fun_ofD F29_0
  have b_row_of := F_row_of.binds (ps := ["size", "column"]) fun _ _ _ _ _ _ us hl => match us, hl with | [_, _], _ => rfl
  obtain ⟨fd30, F30_0⟩ := d.def_ 30 (d := dG "setting" s_setting) rfl
  have F_setting : Fun K "setting" "setting" s_setting _ fd30 := fun_ofD F30_0
  have b_setting := F_setting.binds (ps := ["size"]) fun _ _ _ _ _ _ us hl => match us, hl with | [_], _ => rfl
  obtain ⟨fd31, F31_0⟩ := d.def_ 31 (d := dG "_law_refused" s_law_refused) rfl
  have F_law_refused : Fun K "_law_refused" "_law_refused" s_law_refused _ fd31 := fun_ofD F31_0
  have b_law_refused := F_law_refused.binds (ps := ["_law_ask", "_law_due"]) fun _ _ _ _ _ _ us hl => match us, hl with | [_, _], _ => rfl
  obtain ⟨fd32, F32_0⟩ := d.def_ 32 (d := dG "_law_sound" s_law_sound) rfl
  have F_law_sound : Fun K "_law_sound" "_law_sound" s_law_sound _ fd32 := fun_ofD F32_0
  have b_law_sound := F_law_sound.binds (ps := ["_law_thing"]) fun _ _ _ _ _ _ us hl => match us, hl with | [_], _ => rfl
  obtain ⟨fd33, F33_0⟩ := d.def_ 33 (d := dG "_law_spoiled" s_law_spoiled) rfl
  have F_law_spoiled : Fun K "_law_spoiled" "_law_spoiled" s_law_spoiled _ fd33 := fun_ofD F33_0
  have b_law_spoiled := F_law_spoiled.binds (ps := ["_law_good", "_law_more", "_law_odd"]) fun _ _ _ _ _ _ us hl => match us, hl with | [_, _, _], _ => rfl
  obtain ⟨fd34, F34_0⟩ := d.def_ 34 (d := dG "_law_doors" s_law_doors) rfl
  have F_law_doors : Fun K "_law_doors" "_law_doors" s_law_doors _ fd34 := fun_ofD F34_0
  have b_law_doors := F_law_doors.binds (ps := ["_law_some"]) fun _ _ _ _ _ _ us hl => match us, hl with | [_], _ => rfl
  obtain ⟨fd35, F35_0⟩ := d.def_ 35 (d := dG "_law_bad_right" s_law_bad_right) rfl
  have F_law_bad_right : Fun K "_law_bad_right" "_law_bad_right" s_law_bad_right _ fd35 := fun_ofD F35_0
  have b_law_bad_right := F_law_bad_right.binds (ps := ["_law_more"]) fun _ _ _ _ _ _ us hl => match us, hl with | [_], _ => rfl
  obtain ⟨fd36, F36_0⟩ := d.def_ 36 (d := dG "_law_great_right" s_law_great_right) rfl
  have F_law_great_right : Fun K "_law_great_right" "_law_great_right" s_law_great_right _ fd36 := fun_ofD F36_0
  have b_law_great_right := F_law_great_right.binds (ps := ["_law_more"]) fun _ _ _ _ _ _ us hl => match us, hl with | [_], _ => rfl
  obtain ⟨fd37, F37_0⟩ := d.def_ 37 (d := dG "_law_steps_right" s_law_steps_right) rfl
  have F_law_steps_right : Fun K "_law_steps_right" "_law_steps_right" s_law_steps_right _ fd37 := fun_ofD F37_0
  have b_law_steps_right := F_law_steps_right.binds (ps := ["_law_four", "_law_five"]) fun _ _ _ _ _ _ us hl => match us, hl with | [_, _], _ => rfl
  obtain ⟨fd38, F38_0⟩ := d.def_ 38 (d := dG "_law_hand_right" s_law_hand_right) rfl
  have F_law_hand_right : Fun K "_law_hand_right" "_law_hand_right" s_law_hand_right _ fd38 := fun_ofD F38_0
  have b_law_hand_right := F_law_hand_right.binds (ps := []) fun _ _ _ _ _ _ us hl => match us, hl with | [], _ => rfl
  obtain ⟨fd39, F39_0⟩ := d.def_ 39 (d := dG "_law_changed_right" s_law_changed_right) rfl
  have F_law_changed_right : Fun K "_law_changed_right" "_law_changed_right" s_law_changed_right _ fd39 := fun_ofD F39_0
  have b_law_changed_right := F_law_changed_right.binds (ps := ["_law_at"]) fun _ _ _ _ _ _ us hl => match us, hl with | [_], _ => rfl
  refine ⟨fdL, fun s v => FunD.bindsA (ps := ["_law_script"]) FL0 (fun _ _ _ _ _ _ us hl => match us, hl with | [_], _ => rfl) s [v] rfl, fun base hKb hNb hTB => ?_⟩
  have c_is_number : Fc P w K mg base 1 "is_number" (spIsNum K) := ⟨_, _, _, ok_is_number F_is_number B, He.glo_ok X G (d.fact 0 (f := .glo "is_number") rfl), F_is_number.kp, b_is_number⟩
  have c_take : Fc P w K mg base 1 "take" (spTk K false) := ⟨_, _, _, ok_take F_take B, He.glo_ok X G (d.fact 1 (f := .glo "take") rfl), F_take.kp, b_take⟩
  have c_take_joined : Fc P w K mg base 1 "take_joined" (spTk K true) := ⟨_, _, _, ok_take_joined F_take_joined B, He.glo_ok X G (d.fact 2 (f := .glo "take_joined") rfl), F_take_joined.kp, b_take_joined⟩
  have c_first_taking : Fc P w K mg base 2 "first_taking" (spFirst P w K mg base) := ⟨_, _, _, ok_first_taking F_first_taking B, He.glo_ok X G (d.fact 3 (f := .glo "first_taking") rfl), F_first_taking.kp, b_first_taking⟩
  have c_common : Fc P w K mg base 1 "common" (spCommon) := ⟨_, _, _, ok_common F_common, He.glo_ok X G (d.fact 4 (f := .glo "common") rfl), F_common.kp, b_common⟩
  have k_Step : Kc P w K mg base 1 "Step" (ga K "Step") (spInit (ga K "Step") ["step"]) := ⟨_, _, _, He.mkr_ok (d.fact 5 (f := .mkr "Step") rfl), ok_Step_init F_Step_init (A.cs .S), He.glo_ok X G (d.fact 6 (f := .glo "Step") rfl), b_Step_init⟩
  have k_Barred : Kc P w K mg base 1 "Barred" (ga K "Barred") (spInit (ga K "Barred") ["by"]) := ⟨_, _, _, He.mkr_ok (d.fact 7 (f := .mkr "Barred") rfl), ok_Barred_init F_Barred_init (A.cs .B), He.glo_ok X G (d.fact 8 (f := .glo "Barred") rfl), b_Barred_init⟩
  have k_Take : Kc P w K mg base 1 "Take" (ga K "Take") (spInit (ga K "Take") ["one", "other"]) := ⟨_, _, _, He.mkr_ok (d.fact 9 (f := .mkr "Take") rfl), ok_Take_init F_Take_init (A.cs .T), He.glo_ok X G (d.fact 10 (f := .glo "Take") rfl), b_Take_init⟩
  have k_JoinedTake : Kc P w K mg base 1 "JoinedTake" (ga K "JoinedTake") (spInit (ga K "JoinedTake") ["one", "other"]) := ⟨_, _, _, He.mkr_ok (d.fact 11 (f := .mkr "JoinedTake") rfl), ok_JoinedTake_init F_JoinedTake_init (A.cs .JT), He.glo_ok X G (d.fact 12 (f := .glo "JoinedTake") rfl), b_JoinedTake_init⟩
  have m_Step_shows : Mc P w K mg base 2 (ga K "Step") "shows" (spStepShows (ga K "Step")) := ⟨_, _, _, He.cls_ok (d.fact 14 (f := .cls "Step") rfl), He.meth_ok (d.fact 13 (f := .meth "Step" "shows") rfl), ok_Step_shows F_Step_shows B (A.cs .S) c_is_number c_common, b_Step_shows⟩
  have m_Barred_shows : Mc P w K mg base 2 (ga K "Barred") "shows" (spBarShows (ga K "Barred")) := ⟨_, _, _, He.cls_ok (d.fact 16 (f := .cls "Barred") rfl), He.meth_ok (d.fact 15 (f := .meth "Barred" "shows") rfl), ok_Barred_shows F_Barred_shows (A.cs .B), b_Barred_shows⟩
  have m_Peace_shows : Mc P w K mg base 3 (ga K "Peace") "shows" (spPeaceShows K false (ga K "Peace")) := ⟨_, _, _, He.cls_ok (d.fact 18 (f := .cls "Peace") rfl), He.meth_ok (d.fact 17 (f := .meth "Peace" "shows") rfl), ok_Peace_shows F_Peace_shows c_first_taking c_take, b_Peace_shows⟩
  have m_JoinedPeace_shows : Mc P w K mg base 3 (ga K "JoinedPeace") "shows" (spPeaceShows K true (ga K "JoinedPeace")) := ⟨_, _, _, He.cls_ok (d.fact 20 (f := .cls "JoinedPeace") rfl), He.meth_ok (d.fact 19 (f := .meth "JoinedPeace" "shows") rfl), ok_JoinedPeace_shows F_JoinedPeace_shows c_first_taking c_take_joined, b_JoinedPeace_shows⟩
  have m_Take_shows : Mc P w K mg base 2 (ga K "Take") "shows" (spTakeShows K false (ga K "Take")) := ⟨_, _, _, He.cls_ok (d.fact 22 (f := .cls "Take") rfl), He.meth_ok (d.fact 21 (f := .meth "Take" "shows") rfl), ok_Take_shows F_Take_shows B (A.cs .T) c_take, b_Take_shows⟩
  have m_JoinedTake_shows : Mc P w K mg base 2 (ga K "JoinedTake") "shows" (spTakeShows K true (ga K "JoinedTake")) := ⟨_, _, _, He.cls_ok (d.fact 24 (f := .cls "JoinedTake") rfl), He.meth_ok (d.fact 23 (f := .meth "JoinedTake" "shows") rfl), ok_JoinedTake_shows F_JoinedTake_shows B (A.cs .JT) c_take_joined, b_JoinedTake_shows⟩
  have S : Sw P w K mg base (fun k => ga K k.name) := ⟨m_Step_shows, m_Barred_shows, m_Peace_shows, m_JoinedPeace_shows, m_Take_shows, m_JoinedTake_shows⟩
  have M : Mw P w K mg base (fun k => ga K k.name) := ⟨k_Step, k_Barred, k_Take, k_JoinedTake, mkN_of hN.1, mkN_of hN.2⟩
  have c_check_size : Fc P w K mg base 2 "check_size" (spCkSize K (xaOf K)) := ⟨_, _, _, ok_check_sizeX F_check_size c_is_number (hI.xs .size), He.glo_ok X G (d.fact 25 (f := .glo "check_size") rfl), F_check_size.kp, b_check_size⟩
  have c_check_sizeG : Fc P w K mg base 2 "check_size" spSizeG := ⟨_, _, _, ok_check_size F_check_size c_is_number, He.glo_ok X G (d.fact 25 (f := .glo "check_size") rfl), F_check_size.kp, b_check_size⟩
  have c_check_setting : Fc P w K mg base 2 "check_setting" (spCkSetting K (xaOf K)) := ⟨_, _, _, ok_check_setting F_check_setting B c_is_number (hI.xs .setting) gM, He.glo_ok X G (d.fact 26 (f := .glo "check_setting") rfl), F_check_setting.kp, b_check_setting⟩
  have c_told : Fc P w K mg base 3 "told" (spTold K (xaOf K) (fun k => ga K k.name) false) := ⟨_, _, _, ok_told F_told A M c_check_setting c_first_taking c_take, He.glo_ok X G (d.fact 27 (f := .glo "told") rfl), F_told.kp, b_told⟩
  have c_told_joined : Fc P w K mg base 3 "told_joined" (spTold K (xaOf K) (fun k => ga K k.name) true) := ⟨_, _, _, ok_told_joined F_told_joined A M c_check_setting c_first_taking c_take_joined, He.glo_ok X G (d.fact 28 (f := .glo "told_joined") rfl), F_told_joined.kp, b_told_joined⟩
  have c_step : Fc P w K mg base 3 "step" (spStep (ga K "Step") (ga K "Barred")) := ⟨_, _, _, ok_step F_step c_check_sizeG k_Step k_Barred, He.glo_ok X G (d.fact 29 (f := .glo "step") rfl), F_step.kp, b_step⟩
  have c_stepB : Fc P w K mg base 3 "step" (spStB K (xaOf K)) := ⟨_, _, _, ok_stepB F_step c_check_size, He.glo_ok X G (d.fact 29 (f := .glo "step") rfl), F_step.kp, b_step⟩
  have c_mirrored : Fc P w K mg base 3 "mirrored" (spOne K (xaOf K) mirL) := ⟨_, _, _, ok_mirrored F_mirrored B c_check_setting, He.glo_ok X G (d.fact 30 (f := .glo "mirrored") rfl), F_mirrored.kp, b_mirrored⟩
  have c_upended : Fc P w K mg base 3 "upended" (spOne K (xaOf K) List.reverse) := ⟨_, _, _, ok_upended F_upended c_check_setting, He.glo_ok X G (d.fact 31 (f := .glo "upended") rfl), F_upended.kp, b_upended⟩
  have c_exchanged : Fc P w K mg base 3 "exchanged" (spExch K (xaOf K)) := ⟨_, _, _, ok_exchanged F_exchanged B c_check_setting c_first_taking c_take (hI.xs .peace), He.glo_ok X G (d.fact 32 (f := .glo "exchanged") rfl), F_exchanged.kp, b_exchanged⟩
  have c_product : Fc P w K mg base 3 "product" (spProd K (xaOf K)) := ⟨_, _, _, ok_product F_product B c_check_setting c_first_taking c_take c_take_joined (hI.xs .peace) (hI.xs .setting) gM, He.glo_ok X G (d.fact 33 (f := .glo "product") rfl), F_product.kp, b_product⟩
  have c_column_of : Fc P w K mg base 1 "column_of" (spColOf) := ⟨_, _, _, ok_column_of F_column_of, He.glo_ok X G (d.fact 34 (f := .glo "column_of") rfl), F_column_of.kp, b_column_of⟩
  have c_row_at : Fc P w K mg base 1 "row_at" (spRowAt) := ⟨_, _, _, ok_row_at F_row_at, He.glo_ok X G (d.fact 35 (f := .glo "row_at") rfl), F_row_at.kp, b_row_at⟩
  have c_check_peaceful : Fc P w K mg base 3 "check_peaceful" (spCkPeace K (xaOf K)) := ⟨_, _, _, ok_check_peacefulX F_check_peaceful c_check_size (hI.xs .none), He.glo_ok X G (d.fact 36 (f := .glo "check_peaceful") rfl), F_check_peaceful.kp, b_check_peaceful⟩
  have c_check_place : Fc P w K mg base 4 "check_place" (spCkPlace K (xaOf K)) := ⟨_, _, _, ok_check_placeX F_check_place c_is_number c_check_peaceful (hI.xs .place), He.glo_ok X G (d.fact 37 (f := .glo "check_place") rfl), F_check_place.kp, b_check_place⟩
  have c_column : Fc P w K mg base 5 "column" (spCol K (xaOf K)) := ⟨_, _, _, ok_columnX F_column c_check_place c_column_of, He.glo_ok X G (d.fact 38 (f := .glo "column") rfl), F_column.kp, b_column⟩
  have c_row_of : Fc P w K mg base 5 "row_of" (spRow K (xaOf K)) := ⟨_, _, _, ok_row_ofX F_row_of c_check_place c_row_at, He.glo_ok X G (d.fact 39 (f := .glo "row_of") rfl), F_row_of.kp, b_row_of⟩
  have c_setting : Fc P w K mg base 4 "setting" (spSetting K (xaOf K)) := ⟨_, _, _, ok_settingX F_setting B c_check_size c_check_peaceful c_column_of (hI.xs .size) gM, He.glo_ok X G (d.fact 40 (f := .glo "setting") rfl), F_setting.kp, b_setting⟩
  have c_ref : FcS P w K mg base 7 "_law_refused" (spRef7 P w K mg base (xaOf K)) := ⟨_, _, _, ok_refused7 F_law_refused B hI, He.glo_ok X G (d.fact 41 (f := .glo "_law_refused") rfl), F_law_refused.kp, b_law_refused⟩
  have tm : ∀ x ∈ makers7, Tm K mg base makers7 x := fun x hx => ⟨hTB _ (List.mem_map.mpr ⟨x, hx, rfl⟩), tabL_mem hx, tabL_one ndT hx⟩
  have c_law_sound : Fc P w K mg base 1 "_law_sound" (spSound K) := ⟨_, _, _, ok_sound F_law_sound B, He.glo_ok X G (d.fact 42 (f := .glo "_law_sound") rfl), F_law_sound.kp, b_law_sound⟩
  have c_law_spoiled : Fc P w K mg base 1 "_law_spoiled" (spSpl K) := ⟨_, _, _, ok_spoiled7 F_law_spoiled B, He.glo_ok X G (d.fact 43 (f := .glo "_law_spoiled") rfl), F_law_spoiled.kp, b_law_spoiled⟩
  have c_law_doors : Fc P w K mg base 1 "_law_doors" (spDoors P w K mg base (xaOf K)) := ⟨_, _, _, ok_doors F_law_doors (fun_code F_law_doors) (tm _ (by decide)) c_told c_told_joined c_mirrored c_upended c_exchanged c_product, He.glo_ok X G (d.fact 44 (f := .glo "_law_doors") rfl), F_law_doors.kp, b_law_doors⟩
  have c_law_bad_right : Fc P w K mg base 8 "_law_bad_right" (spBad7 K) := ⟨_, _, _, ok_bad_right F_law_bad_right (fun_code F_law_bad_right) (tm _ (by decide)) B c_ref c_law_doors c_law_spoiled c_column c_row_of c_setting c_stepB c_told c_exchanged c_product, He.glo_ok X G (d.fact 45 (f := .glo "_law_bad_right") rfl), F_law_bad_right.kp, b_law_bad_right⟩
  have c_law_great_right : Fc P w K mg base 6 "_law_great_right" (spGreat7) := ⟨_, _, _, ok_great7 F_law_great_right B A S M c_column c_row_of c_step c_law_sound, He.glo_ok X G (d.fact 46 (f := .glo "_law_great_right") rfl), F_law_great_right.kp, b_law_great_right⟩
  have c_law_steps_right : Fc P w K mg base 4 "_law_steps_right" (spSteps7 K) := ⟨_, _, _, ok_steps7 F_law_steps_right B A S M c_told c_told_joined c_mirrored c_upended c_exchanged c_product, He.glo_ok X G (d.fact 47 (f := .glo "_law_steps_right") rfl), F_law_steps_right.kp, b_law_steps_right⟩
  have c_law_hand_right : Fc P w K mg base 5 "_law_hand_right" (spHand7) := ⟨_, _, _, ok_hand7 F_law_hand_right A S M c_law_steps_right, He.glo_ok X G (d.fact 48 (f := .glo "_law_hand_right") rfl), F_law_hand_right.kp, b_law_hand_right⟩
  have c_law_changed_right : Fc P w K mg base 6 "_law_changed_right" (spChg7) := ⟨_, _, _, ok_chg7 F_law_changed_right B A S c_told c_told_joined c_mirrored c_upended c_exchanged c_product c_setting c_column c_row_of c_law_sound, He.glo_ok X G (d.fact 49 (f := .glo "_law_changed_right") rfl), F_law_changed_right.kp, b_law_changed_right⟩
  exact ok_law7 FL B c_law_bad_right c_law_great_right c_law_hand_right c_law_changed_right
end QR
open PySem PySem.W PySem.Calls PyProof.Rows
set_option maxRecDepth 100000 in
set_option maxHeartbeats 0 in
theorem PySem.Challenge.cw_queenrows_k07_one_reason_holds : PySem.Challenge.rw_queenrows_k07_one_reason.Holds := by
  w_on; o_law
  refine HandSHeadRun.head_any (r := OpenLaw.row PySem.Challenge.rw_queenrows_k07_one_reason) (q := view (OpenLaw.row PySem.Challenge.rw_queenrows_k07_one_reason).prog [51]) (H := QR.hk) (ob := QR.ob) (M := 5000) (loose := QR.loose) (d := HandSHeadRun.topDef (OpenLaw.row PySem.Challenge.rw_queenrows_k07_one_reason).prog 51) (kwd := []) QR.ob_eq
    (by kernel_rfl) (fun s => by kernel_rfl) QR.run (by kernel_rfl) (by kernel_rfl) (by kernel_rfl) (by rfl) (by first | assumption | decide +kernel) (by decide +kernel) ⟨rfl, rfl, rfl, rfl, rfl, by decide +kernel⟩ ?hw ?hc
  case hw => w_witness2
  case hc =>
    refine LamX.walk_ofTsE (l := PySem.Challenge.rw_queenrows_k07_one_reason) (n := 63) (k := 9) (x := "_law_script") (CX := fun w => L2.CX (PySem.Challenge.rw_queenrows_k07_one_reason).prog w) rfl (by decide) (by kernel_rfl) ⟨rfl, by decide, by decide⟩ ?F (fun w H s e s' z => by obtain ⟨_, _, _, _, _, _, _, _, _, _, _, _, y⟩ := z; exact y.elim)
    intro w mg fa h Y G hmg0
    obtain ⟨K, KX, c⟩ := Y
    have hmg : mg ("law" : PySem.Str) = some (.ref fa) := by
      have e : (HandSHeadRun.topDef (OpenLaw.row PySem.Challenge.rw_queenrows_k07_one_reason).prog 51).name = ("law" : PySem.Str) := by kernel_rfl
      rw [← e]
      exact hmg0
    obtain ⟨fd, hb, hF⟩ := QR.facts (P := (PySem.Challenge.rw_queenrows_k07_one_reason).prog) (w := w) KX G hmg c
    have ht : ∀ x ∈ QR.makers7, ((x, none) : He.Defn) ∈ QR.tfl := by decide
    exact ⟨K, KX, fd, QR.makers7.map (fun x => He.cT K (x, none)), QR.spLaw7 K, (fun p hp => by
      obtain ⟨x, hx, rfl⟩ := List.mem_map.mp hp
      exact c.empty _ (ht x hx)), (fun p hp => by
      obtain ⟨x, hx, rfl⟩ := List.mem_map.mp hp
      exact c.out _ (ht x hx)), (fun p hp => by
      obtain ⟨x, hx, rfl⟩ := List.mem_map.mp hp
      exact codeHd_of_K KX (c.hd _ (ht x hx))), hb, (fun H a ns hl hz hH hS => ⟨a, ns, rfl, hS, hl, (fun p hp => by
      obtain ⟨x, hx, rfl⟩ := List.mem_map.mp hp
      exact LamX.TabS.nil (hH _ (List.mem_map.mpr ⟨x, hx, rfl⟩))), fun _ => rfl⟩), fun base h1 h2 h3 => hF base h1 h2 h3⟩
