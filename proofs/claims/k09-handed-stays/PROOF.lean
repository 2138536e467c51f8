import PyProof.Rows.All
import Wide.All
import OpenK.AllK
import Wide.FinOn
import HandS.ForMost
import HandS.ForExc
import HandS.Evl
import HandS.Codes
import HandS.IsInst
import HandS.EndBits
import HandS.Style
import HandS.Wide
import PyProof.LongRange
import HandS.Zip
import HandS.SetFor
import KE.KStateDown
import HandS.Head0
import HandS.Head1
import HandS.Head2
import HandS.HeadHook1
import HandS.HeadHook2
import HandS.HeadHook3
import HandS.HeadHook4
import HandS.HeadWalk
import HandS.CallLocal
import HandS.Lambda
import HandS.EndTab
import HandS.ExcIs
import PySem.Challenge.RW_queenrows_k09_handed_stays
set_option Elab.async false
set_option linter.all false
set_option maxRecDepth 100000
set_option maxHeartbeats 4000000
namespace QR
open PySem PySem.Spec PyProof.Rows L2 Evl

/-! ### what an expression, a test, a block leads to, at these slots and this heap -/
structure EW (X : Cx) (e : Expr) (σ : L2.St) (H : Hp) (Q : VK) : Prop where
  run : ∀ (pins : List (Addr × Obj)) (s : Shared), Inv X pins σ H s → wpAny (model X.prog X.w) X.A (eval e X.env) (EP X pins σ Q) X.xe s
structure TW (X : Cx) (e : Expr) (σ : L2.St) (H : Hp) (Q : Bool → Hp → Prop) : Prop where
  run : ∀ (pins : List (Addr × Obj)) (s : Shared), Inv X pins σ H s → wpAny (model X.prog X.w) X.A (isTrue e X.env (eval e X.env)) (TP X pins σ Q) X.xe s
structure LW (X : Cx) (e : Expr) (σ : L2.St) (H : Hp) (Q : Bool → Hp → Prop) : Prop where
  run : ∀ (whole : Sem Value) (pins : List (Addr × Obj)) (s : Shared), Inv X pins σ H s → wpAny (model X.prog X.w) X.A (isTrue e X.env whole) (TP X pins σ Q) X.xe s
structure BW (X : Cx) (st : List Stmt) (D : Ends) (σ : L2.St) (H : Hp) : Prop where
  run : ∀ (pins : List (Addr × Obj)) (s : Shared), Inv X pins σ H s → wpAny (model X.prog X.w) X.A (execs st X.env) (SP X pins D) X.xe s
section
variable {X : Cx} {e : Expr} {es : List Expr} {σ : L2.St} {H : Hp} {Q : VK} {v : V}
theorem pe_self : PE X e (EW X e) := ⟨fun pins s _ _ _ I h => h.run pins s I⟩
theorem pt_self : PT X e (TW X e) := ⟨fun pins s _ _ _ I h => h.run pins s I⟩
theorem pw_self : PW X e (LW X e) := ⟨fun wh pins s _ _ _ I h => h.run wh pins s I⟩
theorem pss_self {st : List Stmt} : PSs X st (BW X st) := ⟨fun pins s _ _ _ I h => h.run pins s I⟩
theorem EW.of {t : TE} (h : PE X e t) (r : t σ H Q) : EW X e σ H Q := ⟨fun pins s I => h.run pins s σ H Q I r⟩
theorem TW.of {t : TT} {Q : Bool → Hp → Prop} (h : PT X e t) (r : t σ H Q) : TW X e σ H Q := ⟨fun pins s I => h.run pins s σ H Q I r⟩
theorem LW.of {t : TT} {Q : Bool → Hp → Prop} (h : PW X e t) (r : t σ H Q) : LW X e σ H Q := ⟨fun wh pins s I => h.run wh pins s σ H Q I r⟩
theorem BW.of {t : TS} {st : List Stmt} {D : Ends} (h : PSs X st t) (r : t D σ H) : BW X st D σ H := ⟨fun pins s I => h.run pins s σ H D I r⟩
/-- the argument list as a reading -/
def tArgs (X : Cx) : List Expr → TA
  | [] => tNil
  | e :: es => tCons (EW X e) (tArgs X es)
/-! ### values -/
structure EV (X : Cx) (e : Expr) (σ : L2.St) (H : Hp) (v : V) : Prop where
  ev : Ev (EW X e) σ H v
structure EL (X : Cx) (e : Expr) (σ : L2.St) (H : Hp) (xs : List V) : Prop where
  ev : EvL (EW X e) σ H xs
structure EU (X : Cx) (e : Expr) (σ : L2.St) (H : Hp) (xs : List V) : Prop where
  ev : EvU (EW X e) σ H xs
structure TV (X : Cx) (e : Expr) (σ : L2.St) (H : Hp) (b : Bool) : Prop where
  ev : EvT (TW X e) σ H b
structure LV (X : Cx) (e : Expr) (σ : L2.St) (H : Hp) (b : Bool) : Prop where
  ev : EvT (LW X e) σ H b
theorem EV.of {t : TE} (h : PE X e t) (r : Ev t σ H v) : EV X e σ H v := ⟨fun H1 e1 Q q => EW.of h (r H1 e1 Q q)⟩
theorem EL.of {t : TE} {xs : List V} (h : PE X e t) (r : EvL t σ H xs) : EL X e σ H xs := ⟨fun H1 e1 Q q => EW.of h (r H1 e1 Q q)⟩
theorem EU.of {t : TE} {xs : List V} (h : PE X e t) (r : EvU t σ H xs) : EU X e σ H xs := ⟨fun H1 e1 Q q => EW.of h (r H1 e1 Q q)⟩
theorem TV.of {t : TT} {b : Bool} (h : PT X e t) (r : EvT t σ H b) : TV X e σ H b := ⟨fun H1 e1 Q q => TW.of h (r H1 e1 Q q)⟩
theorem LV.of {t : TT} {b : Bool} (h : PW X e t) (r : EvT t σ H b) : LV X e σ H b := ⟨fun H1 e1 Q q => LW.of h (r H1 e1 Q q)⟩
theorem EV.mono {H' : Hp} (h : EV X e σ H v) (e1 : Ex H H') : EV X e σ H' v := ⟨h.ev.mono e1⟩
theorem EL.mono {H' : Hp} {xs : List V} (h : EL X e σ H xs) (e1 : Ex H H') : EL X e σ H' xs := ⟨h.ev.mono e1⟩
theorem TV.mono {H' : Hp} {b : Bool} (h : TV X e σ H b) (e1 : Ex H H') : TV X e σ H' b := ⟨h.ev.mono e1⟩
theorem EV.is {w : V} (h : EV X e σ H v) (q : v = w) : EV X e σ H w := q ▸ h
theorem EL.is {xs ys : List V} (h : EL X e σ H xs) (q : xs = ys) : EL X e σ H ys := q ▸ h
theorem TV.is {b c : Bool} (h : TV X e σ H b) (q : b = c) : TV X e σ H c := q ▸ h
theorem EV.isI {i j : Int} (h : EV X e σ H (.int i)) (q : i = j) : EV X e σ H (.int j) := q ▸ h
theorem EV.isB {i j : Bool} (h : EV X e σ H (.bl i)) (q : i = j) : EV X e σ H (.bl j) := q ▸ h
/-- in a row: what is wanted behind it -/
theorem EV.go (h : EV X e σ H v) (k : ∀ H1, Ex H H1 → Q v H1) : EW X e σ H Q := h.ev H (Ex.refl H) Q k
theorem EL.go {xs : List V} (h : EL X e σ H xs) (k : ∀ p H1, H p = none → Ex H H1 → H1 p = some (.lst xs) → Q (.ref p) H1) : EW X e σ H Q := h.ev H (Ex.refl H) Q k
theorem EU.go {xs : List V} (h : EU X e σ H xs) (k : ∀ p H1, H p = none → Ex H H1 → H1 p = some (.tup xs) → Q (.ref p) H1) : EW X e σ H Q := h.ev H (Ex.refl H) Q k
theorem TV.go {b : Bool} {Q : Bool → Hp → Prop} (h : TV X e σ H b) (k : ∀ H1, Ex H H1 → Q b H1) : TW X e σ H Q := h.ev H (Ex.refl H) Q k
end
section
variable {X : Cx} {e a b c : Expr} {es : List Expr} {σ : L2.St} {H : Hp} {Q : VK} {v x y z : V} {pos p : Pos}
/-! ### names and constants -/
theorem EV.var (i : Nat) {x : Str} (h : σ[i]? = some (some v)) (hN : X.N[i]? = some x := by rfl) (hv : Vis X.env.scope x := by first | exact Or.inl rfl | exact Or.inr (Or.inl rfl) | exact Or.inr (Or.inr rfl)) (hd : (x == ("__debug__" : Str)) = false := by decide)
    (hcd : (x == ("__classdict__" : Str)) = false := by decide) : EV X (.Name x pos) σ H v := EV.of (pe_var hN hv hd hcd) (ev_var h)
theorem EV.int {i : Int} {j : Nat} : EV X (.Constant (.int i) j pos) σ H (.int i) := EV.of pe_int ev_c
theorem EV.bl {i : Bool} {j : Nat} : EV X (.Constant (.bool i) j pos) σ H (.bl i) := EV.of pe_bl ev_c
theorem EV.non {j : Nat} : EV X (.Constant .none j pos) σ H .non := EV.of pe_non ev_c
theorem EV.str {z : Str} {j : Nat} : EV X (.Constant (.str z) j pos) σ H (.str z) := EV.of pe_str ev_c
theorem EV.glob {x : Str} {f : Addr} (hm : X.mg x = some (.ref f)) (hg : Gl X x := by rfl) (hd : (x == ("__debug__" : Str)) = false := by decide) : EV X (.Name x pos) σ H (.ref f) := EV.of (pe_glob (v := .ref f) hg hm rfl hd) ev_c
theorem EV.globI {x : Str} {i : Int} {t : Tok} (hm : X.mg x = some (.int i t)) (hg : Gl X x := by rfl) (hd : (x == ("__debug__" : Str)) = false := by decide) : EV X (.Name x pos) σ H (.int i) := EV.of (pe_glob (v := .int i) hg hm ⟨t, rfl⟩ hd) ev_c
/-- the name of a built-in class, as a value -/
theorem EV.ty {x : Str} {T : String} (hm : X.mg x = none) (hv : bootBuiltins x = some (.type T)) (hg : Gl X x := by rfl) (hn : x ≠ "__name__" := by decide) (hd : (x == ("__debug__" : Str)) = false := by decide) : EV X (.Name x pos) σ H (.ty T) := EV.of (pe_bltn (v := .ty T) hg hm hv rfl hn hd) ev_c
/-! ### whole numbers -/
theorem EV.opI {op : Operator} {r : R2} (ho : OpR X (binaryOp op) r) (ha : EV X a σ H x) (hb : EV X b σ H y) (hr : RV r x y H z) : EV X (.BinOp a op b pos) σ H z := EV.of (pe_op ho pe_self pe_self) (ev_op ha.ev hb.ev hr)
theorem EV.add {i j : Int} (ha : EV X a σ H (.int i)) (hb : EV X b σ H (.int j)) : EV X (.BinOp a .Add b pos) σ H (.int (i + j)) := EV.opI op_add ha hb rv_I0
theorem EV.sub {i j : Int} (ha : EV X a σ H (.int i)) (hb : EV X b σ H (.int j)) : EV X (.BinOp a .Sub b pos) σ H (.int (i - j)) := EV.opI op_sub ha hb rv_I0
theorem op_mulV : OpR X (binaryOp .Mult) (rI IntMulOk fun i j => .int (i * j)) := opI fun _ _ _ _ _ _ _ hc q => mul_int q hc
theorem EV.mul {i j : Int} (ha : EV X a σ H (.int i)) (hb : EV X b σ H (.int j)) (hc : IntMulOk i j) : EV X (.BinOp a .Mult b pos) σ H (.int (i * j)) := EV.opI op_mulV ha hb (rv_I hc)
theorem EV.mod {i j : Int} (ha : EV X a σ H (.int i)) (hb : EV X b σ H (.int j)) (hc : 0 < j) : EV X (.BinOp a .Mod b pos) σ H (.int (i % j)) := EV.opI op_mod ha hb (rv_I (C := fun _ j => 0 < j) hc)
theorem EV.fdiv {i j : Int} (ha : EV X a σ H (.int i)) (hb : EV X b σ H (.int j)) (hc : 0 < j ∧ j < 1073741824) : EV X (.BinOp a .FloorDiv b pos) σ H (.int (i / j)) := EV.opI op_fdiv ha hb (rv_I (C := CDiv) hc)
theorem EV.pow {i j : Int} (ha : EV X a σ H (.int i)) (hb : EV X b σ H (.int j)) (hc : 0 ≤ j ∧ j ≤ 1000000 ∧ i.natAbs < 2 ^ 64) : EV X (.BinOp a .Pow b pos) σ H (.int (i ^ j.toNat)) := EV.opI op_pow ha hb (rv_I (C := CPow) hc)
theorem EV.neg {i : Int} (ha : EV X a σ H (.int i)) : EV X (.UnaryOp .USub a pos) σ H (.int (-i)) := EV.of (pe_un un_neg pe_self) (ev_un ha.ev ru_neg)
theorem mul_small {i j : Int} (h : (-(2 ^ 64) < i ∧ i < 2 ^ 64) ∨ (-(2 ^ 64) < j ∧ j < 2 ^ 64)) : IntMulOk i j := CMul.ok h
/-! ### comparisons -/
theorem EV.cmp {op : CmpOp} {r : R2} (ho : OpR X (compareOp op) r) (ha : EV X a σ H x) (hb : EV X b σ H y) (hr : RV r x y H z) (hm : behindInMarks op b = false) : EV X (.Compare a [op] [b] pos) σ H z := EV.of (pe_cmpR ho pe_self pe_self hm) (ev_op ha.ev hb.ev hr)
theorem EV.lt {i j : Int} (ha : EV X a σ H (.int i)) (hb : EV X b σ H (.int j)) : EV X (.Compare a [.Lt] [b] pos) σ H (.bl (decide (i < j))) := EV.cmp op_lt ha hb rv_I0 (nomark _)
theorem EV.le {i j : Int} (ha : EV X a σ H (.int i)) (hb : EV X b σ H (.int j)) : EV X (.Compare a [.LtE] [b] pos) σ H (.bl (decide (i ≤ j))) := EV.cmp op_le ha hb rv_I0 (nomark _)
theorem EV.gt {i j : Int} (ha : EV X a σ H (.int i)) (hb : EV X b σ H (.int j)) : EV X (.Compare a [.Gt] [b] pos) σ H (.bl (decide (j < i))) := EV.cmp op_gt ha hb rv_I0 (nomark _)
theorem EV.ge {i j : Int} (ha : EV X a σ H (.int i)) (hb : EV X b σ H (.int j)) : EV X (.Compare a [.GtE] [b] pos) σ H (.bl (decide (j ≤ i))) := EV.cmp op_ge ha hb rv_I0 (nomark _)
theorem EV.eq {i j : Int} (ha : EV X a σ H (.int i)) (hb : EV X b σ H (.int j)) : EV X (.Compare a [.Eq] [b] pos) σ H (.bl (decide (i = j))) := by
  refine EV.is (EV.cmp op_eq ha hb (rv_eq rfl) (nomark _)) ?_
  rw [dec_int, Bool.beq_eq_decide_eq]
theorem EV.ne {i j : Int} (ha : EV X a σ H (.int i)) (hb : EV X b σ H (.int j)) : EV X (.Compare a [.NotEq] [b] pos) σ H (.bl (decide (i ≠ j))) := by
  refine EV.is (EV.cmp op_ne ha hb (rv_ne rfl) (nomark _)) ?_
  rw [dec_int, Bool.beq_eq_decide_eq, ← decide_not]
theorem EV.eqB {i j : Bool} (ha : EV X a σ H (.bl i)) (hb : EV X b σ H (.bl j)) : EV X (.Compare a [.Eq] [b] pos) σ H (.bl (i == j)) := by
  refine EV.is (EV.cmp op_eq ha hb (rv_eq rfl) (nomark _)) ?_
  rw [dec_bl]
theorem EV.neB {i j : Bool} (ha : EV X a σ H (.bl i)) (hb : EV X b σ H (.bl j)) : EV X (.Compare a [.NotEq] [b] pos) σ H (.bl (i != j)) := by
  refine EV.is (EV.cmp op_ne ha hb (rv_ne rfl) (nomark _)) ?_
  rw [dec_bl]; rfl
theorem EV.isN (ha : EV X a σ H x) (hb : EV X b σ H .non) : EV X (.Compare a [.Is] [b] pos) σ H (.bl (decide (x = .non))) := EV.cmp op_isN ha hb (fun H1 _ _ q => ⟨rfl, q H1 (Ex.refl H1)⟩) (nomark _)
theorem EV.notN (ha : EV X a σ H x) (hb : EV X b σ H .non) : EV X (.Compare a [.IsNot] [b] pos) σ H (.bl (!decide (x = .non))) := EV.cmp op_notN ha hb (fun H1 _ _ q => ⟨rfl, q H1 (Ex.refl H1)⟩) (nomark _)
/-- a < b < c -/
theorem EV.chain {op op' : CmpOp} {r r' : R2} {k1 k2 : Bool} {w : V} (ho : OpR X (compareOp op) r) (ho' : OpR X (compareOp op') r') (ha : EV X a σ H x) (hb : EV X b σ H y) (hr : RV r x y H (.bl k1)) (hc : k1 = true → EV X c σ H w) (hr' : k1 = true → RV r' y w H (.bl k2))
    (hm : lastMarks [op, op'] [b, c] = false := by with_unfolding_all rfl) : EV X (.Compare a [op, op'] [b, c] pos) σ H (.bl (k1 && k2)) := by
  refine EV.of (pe_chain ho ho' pe_self pe_self pe_self hm) fun H1 e Q q => ?_
  refine ha.ev H1 e _ fun H2 e2 => hb.ev H2 (e.trans e2) _ fun H3 e3 => hr H3 ((e.trans e2).trans e3) _ fun H4 e4 => ⟨k1, rfl, ?_⟩
  cases k1 with
  | false => exact q H4 ((e2.trans e3).trans e4)
  | true => exact (hc rfl).ev H4 (((e.trans e2).trans e3).trans e4) _ fun H5 e5 => hr' rfl H5 ((((e.trans e2).trans e3).trans e4).trans e5) _ fun H6 e6 => q H6 ((((e2.trans e3).trans e4).trans e5).trans e6)
theorem EV.leLt {i j k : Int} (ha : EV X a σ H (.int i)) (hb : EV X b σ H (.int j)) (hc : EV X c σ H (.int k)) : EV X (.Compare a [.LtE, .Lt] [b, c] pos) σ H (.bl (decide (i ≤ j) && decide (j < k))) := EV.chain op_le op_lt ha hb rv_I0 (fun _ => hc) (fun _ => rv_I0) (nomark c)
theorem EV.leLe {i j k : Int} (ha : EV X a σ H (.int i)) (hb : EV X b σ H (.int j)) (hc : EV X c σ H (.int k)) : EV X (.Compare a [.LtE, .LtE] [b, c] pos) σ H (.bl (decide (i ≤ j) && decide (j ≤ k))) := EV.chain op_le op_le ha hb rv_I0 (fun _ => hc) (fun _ => rv_I0) (nomark c)
/-! ### truths -/
theorem EV.not {k : Bool} (ha : EV X a σ H (.bl k)) : EV X (.UnaryOp .Not a pos) σ H (.bl (!k)) := EV.of (pe_not pe_self) (ev_notV ha.ev)
theorem EV.one {op : BoolOp} (ha : EV X a σ H v) : EV X (.BoolOp op [a] pos) σ H v := EV.of (pe_one pe_self) ha.ev
theorem EV.and {k1 k2 : Bool} (ha : EV X a σ H (.bl k1)) (hb : k1 = true → EV X (.BoolOp .And (b :: es) pos) σ H (.bl k2)) : EV X (.BoolOp .And (a :: b :: es) pos) σ H (.bl (k1 && k2)) := EV.of (pe_and pe_self pe_self) (ev_andV ha.ev fun h => (hb h).ev)
theorem EV.or {k1 k2 : Bool} (ha : EV X a σ H (.bl k1)) (hb : k1 = false → EV X (.BoolOp .Or (b :: es) pos) σ H (.bl k2)) : EV X (.BoolOp .Or (a :: b :: es) pos) σ H (.bl (k1 || k2)) := EV.of (pe_or pe_self pe_self) (ev_orV ha.ev fun h => (hb h).ev)
theorem EV.and2 {k1 k2 : Bool} (ha : EV X a σ H (.bl k1)) (hb : k1 = true → EV X b σ H (.bl k2)) : EV X (.BoolOp .And [a, b] pos) σ H (.bl (k1 && k2)) := EV.and ha fun h => EV.one (hb h)
theorem EV.or2 {k1 k2 : Bool} (ha : EV X a σ H (.bl k1)) (hb : k1 = false → EV X b σ H (.bl k2)) : EV X (.BoolOp .Or [a, b] pos) σ H (.bl (k1 || k2)) := EV.or ha fun h => EV.one (hb h)
theorem EV.and3 {k1 k2 k3 : Bool} (ha : EV X a σ H (.bl k1)) (hb : k1 = true → EV X b σ H (.bl k2)) (hc : k1 = true → k2 = true → EV X c σ H (.bl k3)) : EV X (.BoolOp .And [a, b, c] pos) σ H (.bl (k1 && (k2 && k3))) := EV.and ha fun h => EV.and2 (hb h) (hc h)
theorem EV.or3 {k1 k2 k3 : Bool} (ha : EV X a σ H (.bl k1)) (hb : k1 = false → EV X b σ H (.bl k2)) (hc : k1 = false → k2 = false → EV X c σ H (.bl k3)) : EV X (.BoolOp .Or [a, b, c] pos) σ H (.bl (k1 || (k2 || k3))) := EV.or ha fun h => EV.or2 (hb h) (hc h)
theorem EV.ite {k : Bool} (ht : TV X c σ H k) (h1 : k = true → EV X a σ H v) (h2 : k = false → EV X b σ H v) : EV X (.IfExp c a b pos) σ H v := EV.of (pe_ifExp pt_self pe_self pe_self) (ev_if ht.ev (fun h => (h1 h).ev) fun h => (h2 h).ev)
theorem EV.iteI {k : Bool} {i j : Int} (ht : TV X c σ H k) (h1 : k = true → EV X a σ H (.int i)) (h2 : k = false → EV X b σ H (.int j)) : EV X (.IfExp c a b pos) σ H (.int (if k = true then i else j)) :=
  EV.ite ht (fun h => by rw [if_pos h]; exact h1 h) (fun h => by rw [if_neg (by rw [h]; decide)]; exact h2 h)
/-! ### tests -/
theorem TV.val {k : Bool} (h : EV X e σ H (.bl k)) (he : ∀ whole, isTrue e X.env whole = (do let v ← whole; standAt e.pos; holding [v] (truthy v)) := by intro _; rfl) : TV X e σ H k := TV.of (pt_val pe_self he) (et_B h.ev)
theorem TV.cmp {op : CmpOp} {k : Bool} (h : EV X (.Compare a [op] [b] pos) σ H (.bl k)) : TV X (.Compare a [op] [b] pos) σ H k → TV X (.Compare a [op] [b] pos) σ H k := fun z => z
theorem TV.op {op : CmpOp} {r : R2} {k : Bool} (ho : OpR X (compareOp op) r) (ha : EV X a σ H x) (hb : EV X b σ H y) (hr : RV r x y H (.bl k)) (hm : behindInMarks op b = false) : TV X (.Compare a [op] [b] pos) σ H k := TV.of (pt_cmpR ho pe_self pe_self hm) (et_test (ev_op ha.ev hb.ev hr))
theorem TV.lt {i j : Int} (ha : EV X a σ H (.int i)) (hb : EV X b σ H (.int j)) : TV X (.Compare a [.Lt] [b] pos) σ H (decide (i < j)) := TV.op op_lt ha hb rv_I0 (nomark _)
theorem TV.le {i j : Int} (ha : EV X a σ H (.int i)) (hb : EV X b σ H (.int j)) : TV X (.Compare a [.LtE] [b] pos) σ H (decide (i ≤ j)) := TV.op op_le ha hb rv_I0 (nomark _)
theorem TV.gt {i j : Int} (ha : EV X a σ H (.int i)) (hb : EV X b σ H (.int j)) : TV X (.Compare a [.Gt] [b] pos) σ H (decide (j < i)) := TV.op op_gt ha hb rv_I0 (nomark _)
theorem TV.ge {i j : Int} (ha : EV X a σ H (.int i)) (hb : EV X b σ H (.int j)) : TV X (.Compare a [.GtE] [b] pos) σ H (decide (j ≤ i)) := TV.op op_ge ha hb rv_I0 (nomark _)
theorem TV.eq {i j : Int} (ha : EV X a σ H (.int i)) (hb : EV X b σ H (.int j)) : TV X (.Compare a [.Eq] [b] pos) σ H (decide (i = j)) := by
  refine TV.is (TV.op op_eq ha hb (rv_eq rfl) (nomark _)) ?_
  rw [dec_int, Bool.beq_eq_decide_eq]
theorem TV.ne {i j : Int} (ha : EV X a σ H (.int i)) (hb : EV X b σ H (.int j)) : TV X (.Compare a [.NotEq] [b] pos) σ H (decide (i ≠ j)) := by
  refine TV.is (TV.op op_ne ha hb (rv_ne rfl) (nomark _)) ?_
  rw [dec_int, Bool.beq_eq_decide_eq, ← decide_not]
theorem TV.neB {i j : Bool} (ha : EV X a σ H (.bl i)) (hb : EV X b σ H (.bl j)) : TV X (.Compare a [.NotEq] [b] pos) σ H (i != j) := by
  refine TV.is (TV.op op_ne ha hb (rv_ne rfl) (nomark _)) ?_
  rw [dec_bl]; rfl
theorem TV.eqB {i j : Bool} (ha : EV X a σ H (.bl i)) (hb : EV X b σ H (.bl j)) : TV X (.Compare a [.Eq] [b] pos) σ H (i == j) := by
  refine TV.is (TV.op op_eq ha hb (rv_eq rfl) (nomark _)) ?_
  rw [dec_bl]
theorem TV.isN (ha : EV X a σ H x) (hb : EV X b σ H .non) : TV X (.Compare a [.Is] [b] pos) σ H (decide (x = .non)) := TV.op op_isN ha hb (fun H1 _ _ q => ⟨rfl, q H1 (Ex.refl H1)⟩) (nomark _)
theorem TV.notN (ha : EV X a σ H x) (hb : EV X b σ H .non) : TV X (.Compare a [.IsNot] [b] pos) σ H (!decide (x = .non)) := TV.op op_notN ha hb (fun H1 _ _ q => ⟨rfl, q H1 (Ex.refl H1)⟩) (nomark _)
theorem TV.chain {op op' : CmpOp} {r r' : R2} {k1 k2 : Bool} {w : V} (ho : OpR X (compareOp op) r) (ho' : OpR X (compareOp op') r') (ha : EV X a σ H x) (hb : EV X b σ H y) (hr : RV r x y H (.bl k1)) (hc : k1 = true → EV X c σ H w) (hr' : k1 = true → RV r' y w H (.bl k2))
    (hm : lastMarks [op, op'] [b, c] = false := by with_unfolding_all rfl) : TV X (.Compare a [op, op'] [b, c] pos) σ H (k1 && k2) := by
  refine TV.of (pt_chain ho ho' pe_self pe_self pe_self hm) fun H1 e Q q => ?_
  refine ha.ev H1 e _ fun H2 e2 => hb.ev H2 (e.trans e2) _ fun H3 e3 => hr H3 ((e.trans e2).trans e3) _ fun H4 e4 => ⟨k1, rfl, ?_⟩
  cases k1 with
  | false => exact ⟨_, rfl, q H4 ((e2.trans e3).trans e4)⟩
  | true => exact (hc rfl).ev H4 (((e.trans e2).trans e3).trans e4) _ fun H5 e5 => hr' rfl H5 ((((e.trans e2).trans e3).trans e4).trans e5) _ fun H6 e6 => ⟨_, rfl, q H6 ((((e2.trans e3).trans e4).trans e5).trans e6)⟩
theorem TV.leLt {i j k : Int} (ha : EV X a σ H (.int i)) (hb : EV X b σ H (.int j)) (hc : EV X c σ H (.int k)) : TV X (.Compare a [.LtE, .Lt] [b, c] pos) σ H (decide (i ≤ j) && decide (j < k)) := TV.chain op_le op_lt ha hb rv_I0 (fun _ => hc) (fun _ => rv_I0) (nomark c)
theorem TV.leLe {i j k : Int} (ha : EV X a σ H (.int i)) (hb : EV X b σ H (.int j)) (hc : EV X c σ H (.int k)) : TV X (.Compare a [.LtE, .LtE] [b, c] pos) σ H (decide (i ≤ j) && decide (j ≤ k)) := TV.chain op_le op_le ha hb rv_I0 (fun _ => hc) (fun _ => rv_I0) (nomark c)
theorem TV.not {k : Bool} (h : TV X a σ H k) : TV X (.UnaryOp .Not a pos) σ H (!k) := TV.of (pt_not pt_self) (et_not h.ev)
theorem LV.and1 {k : Bool} (h : TV X a σ H k) : LV X (.BoolOp .And [a] pos) σ H k := LV.of (pw_and1 pt_self) h.ev
theorem LV.or1 {k : Bool} (h : TV X a σ H k) : LV X (.BoolOp .Or [a] pos) σ H k := LV.of (pw_or1 pt_self) h.ev
theorem LV.and {k1 k2 : Bool} (h : TV X a σ H k1) (h2 : k1 = true → LV X (.BoolOp .And (b :: es) pos) σ H k2) : LV X (.BoolOp .And (a :: b :: es) pos) σ H (k1 && k2) := LV.of (pw_and pt_self pw_self) (et_and h.ev fun q => (h2 q).ev)
theorem LV.or {k1 k2 : Bool} (h : TV X a σ H k1) (h2 : k1 = false → LV X (.BoolOp .Or (b :: es) pos) σ H k2) : LV X (.BoolOp .Or (a :: b :: es) pos) σ H (k1 || k2) := LV.of (pw_or pt_self pw_self) (et_or h.ev fun q => (h2 q).ev)
theorem TV.bool {k : Bool} (h : LV X e σ H k) : TV X e σ H k := TV.of (PW.pt pw_self) h.ev
theorem TV.and2 {k1 k2 : Bool} (h : TV X a σ H k1) (h2 : k1 = true → TV X b σ H k2) : TV X (.BoolOp .And [a, b] pos) σ H (k1 && k2) := TV.bool (LV.and h fun q => LV.and1 (h2 q))
theorem TV.or2 {k1 k2 : Bool} (h : TV X a σ H k1) (h2 : k1 = false → TV X b σ H k2) : TV X (.BoolOp .Or [a, b] pos) σ H (k1 || k2) := TV.bool (LV.or h fun q => LV.or1 (h2 q))
theorem TV.and3 {k1 k2 k3 : Bool} (h : TV X a σ H k1) (h2 : k1 = true → TV X b σ H k2) (h3 : k1 = true → k2 = true → TV X c σ H k3) : TV X (.BoolOp .And [a, b, c] pos) σ H (k1 && (k2 && k3)) := TV.bool (LV.and h fun q => LV.and (h2 q) fun r => LV.and1 (h3 q r))
theorem TV.or3 {k1 k2 k3 : Bool} (h : TV X a σ H k1) (h2 : k1 = false → TV X b σ H k2) (h3 : k1 = false → k2 = false → TV X c σ H k3) : TV X (.BoolOp .Or [a, b, c] pos) σ H (k1 || (k2 || k3)) := TV.bool (LV.or h fun q => LV.or (h2 q) fun r => LV.or1 (h3 q r))
/-- a < b < c < d -/
def tChain3 (r r' r'' : R2) (ta tb tc td : TE) : TE := fun σ H Q => ta σ H fun x H1 => tb σ H1 fun y H2 => r x y H2 fun z H3 => ∃ k, z = .bl k ∧
  (if k = true then tc σ H3 fun w' H4 => r' y w' H4 fun z2 H5 => ∃ k2, z2 = .bl k2 ∧ (if k2 = true then td σ H5 fun u H6 => r'' w' u H6 Q else Q (.bl false) H5) else Q (.bl false) H3)
theorem pe_chain3 {d : Expr} {ta tb tc td : TE} {op op' op'' : CmpOp} {r r' r'' : R2} (ho : OpR X (compareOp op) r) (ho' : OpR X (compareOp op') r') (ho'' : OpR X (compareOp op'') r'') (ha : PE X a ta) (hb : PE X b tb) (hc : PE X c tc) (hd : PE X d td)
    (hm : lastMarks [op, op', op''] [b, c, d] = false) : PE X (.Compare a [op, op', op''] [b, c, d] pos) (tChain3 r r' r'' ta tb tc td) := by
  refine ⟨fun pins s σ H Q I h => ?_⟩
  refine Compare_chain (thn (ha.run pins s σ H _ I h) fun v s1 ⟨x, H1, I1, r1, q1⟩ => chain_link (thn (hb.run pins s1 σ H1 _ I1 q1) fun u s2 ⟨y, H2, I2, r2, q2⟩ =>
    thn (ho pins s2 σ H2 x y v u _ I2 r1 r2 q2) fun d s3 ⟨z, H3, I3, r3, k, e, q3⟩ => ?_)) hm
  subst e
  cases r3
  refine wpAny_truthy_bool ?_
  cases k with
  | false => exact ite_ff ⟨.bl false, H3, I3, rfl, q3⟩
  | true =>
    refine ite_tt (chain_link (thn (hc.run pins s3 σ H3 _ I3 q3) fun w' s4 ⟨z', H4, I4, r4, q4⟩ => thn (ho' pins s4 σ H4 y z' u w' _ I4 r2 r4 q4) fun d' s5 ⟨z2, H5, I5, r5, k2, e2, q5⟩ => ?_))
    subst e2
    cases r5
    refine wpAny_truthy_bool ?_
    cases k2 with
    | false => exact ite_ff ⟨.bl false, H5, I5, rfl, q5⟩
    | true => exact ite_tt (chain_last (thn (hd.run pins s5 σ H5 _ I5 q5) fun w2 s6 ⟨z3, H6, I6, r6, q6⟩ => ho'' pins s6 σ H6 z' z3 w' w2 Q I6 r4 r6 q6))
theorem EV.chain3 {d : Expr} {op op' op'' : CmpOp} {r r' r'' : R2} {k1 k2 k3 : Bool} {w u : V} (ho : OpR X (compareOp op) r) (ho' : OpR X (compareOp op') r') (ho'' : OpR X (compareOp op'') r'') (ha : EV X a σ H x) (hb : EV X b σ H y) (hr : RV r x y H (.bl k1)) (hc : EV X c σ H w) (hr' : RV r' y w H (.bl k2)) (hd : EV X d σ H u) (hr'' : RV r'' w u H (.bl k3))
    (hm : lastMarks [op, op', op''] [b, c, d] = false) : EV X (.Compare a [op, op', op''] [b, c, d] pos) σ H (.bl (k1 && (k2 && k3))) := by
  refine EV.of (pe_chain3 ho ho' ho'' pe_self pe_self pe_self pe_self hm) fun H1 e Q q => ?_
  refine ha.ev H1 e _ fun H2 e2 => hb.ev H2 (e.trans e2) _ fun H3 e3 => hr H3 ((e.trans e2).trans e3) _ fun H4 e4 => ⟨k1, rfl, ?_⟩
  have g4 := ((e2.trans e3).trans e4)
  cases k1 with
  | false => exact q H4 g4
  | true =>
    refine hc.ev H4 (e.trans g4) _ fun H5 e5 => hr' H5 ((e.trans g4).trans e5) _ fun H6 e6 => ⟨k2, rfl, ?_⟩
    have g6 := ((g4.trans e5).trans e6)
    cases k2 with
    | false => exact q H6 g6
    | true => exact hd.ev H6 (e.trans g6) _ fun H7 e7 => hr'' H7 ((e.trans g6).trans e7) _ fun H8 e8 => q H8 ((g6.trans e7).trans e8)
theorem EV.leLtLt {d : Expr} {i j k l : Int} (ha : EV X a σ H (.int i)) (hb : EV X b σ H (.int j)) (hc : EV X c σ H (.int k)) (hd : EV X d σ H (.int l)) : EV X (.Compare a [.LtE, .Lt, .Lt] [b, c, d] pos) σ H (.bl (decide (i ≤ j) && (decide (j < k) && decide (k < l)))) :=
  EV.chain3 op_le op_lt op_lt ha hb rv_I0 hc rv_I0 hd rv_I0 (nomark d)
end
/-! ### argument lists, displays, calls of built-ins -/
structure AV (X : Cx) (es : List Expr) (σ : L2.St) (H : Hp) (vs : List V) : Prop where
  ev : EvA (tArgs X es) σ H vs
section
variable {X : Cx} {e a b c : Expr} {es : List Expr} {σ : L2.St} {H : Hp} {Q : VK} {v x y z : V} {pos p : Pos} {vs xs : List V}
theorem AV.nil : AV X [] σ H [] := ⟨ea_nil⟩
theorem AV.cons (h : EV X e σ H v) (hr : AV X es σ H vs) : AV X (e :: es) σ H (v :: vs) := ⟨ea_cons h.ev hr.ev⟩
theorem AV.one (h : EV X e σ H v) : AV X [e] σ H [v] := AV.cons h AV.nil
theorem AV.two (h : EV X a σ H x) (h2 : EV X b σ H y) : AV X [a, b] σ H [x, y] := AV.cons h (AV.one h2)
theorem AV.three (h : EV X a σ H x) (h2 : EV X b σ H y) (h3 : EV X c σ H z) : AV X [a, b, c] σ H [x, y, z] := AV.cons h (AV.two h2 h3)
theorem pa_self : ∀ (es : List Expr), (∀ e ∈ es, ∀ r, starEach (e :: r) X.env = (false, eval e X.env) :: starEach r X.env) → PA X es (tArgs X es)
  | [], _ => pa_nil
  | e :: es, h => pa_cons pe_self (pa_self es fun e' he => h e' (List.mem_cons_of_mem _ he)) (h e List.mem_cons_self es)
/-- no star at the head of an argument -/
def noStar : Expr → Bool
  | .Starred .. => false
  | _ => true
theorem star_of {e : Expr} (h : noStar e = true) (r : List Expr) : starEach (e :: r) X.env = (false, eval e X.env) :: starEach r X.env := by
  cases e <;> first | rfl | exact nomatch h
theorem pa_all (h : es.all noStar = true) : PA X es (tArgs X es) := pa_self es fun e he r => star_of (List.all_eq_true.mp h e he) r
theorem back_any : ∀ (es : List Expr), es.all noStar = true → (backTo pos (starEach es X.env)).any (·.1) = false
  | [], _ => rfl
  | e :: es, h => by
    have h1 : noStar e = true := List.all_eq_true.mp h e List.mem_cons_self
    have h2 : es.all noStar = true := List.all_eq_true.mpr fun e' he => List.all_eq_true.mp h e' (List.mem_cons_of_mem _ he)
    rw [star_of h1 es]
    have ih := back_any es h2
    unfold backTo at ih ⊢
    simpa using ih
/-- [a, b, ..]; (a, b, ..) -/
theorem EL.lst (h : AV X es σ H vs) (hl : vs.length ≤ 100000 := by exact Nat.le_of_ble_eq_true rfl) (hs : es.all noStar = true := by rfl) : EL X (.List es pos) σ H vs := EL.of (pe_lst (pa_all hs)) (el_lst h.ev hl)
theorem EU.tup {x1 : Nat} (h : AV X es σ H vs) (hl : vs.length ≤ 100000 := by exact Nat.le_of_ble_eq_true rfl) (hs : es.all noStar = true := by rfl) : EU X (.Tuple es x1 pos) σ H vs := EU.of (pe_tup (pa_all hs)) (eu_tup h.ev hl)
/-- f(e, ..), f a built-in function; a built-in class -/
theorem EV.callB {f : Str} {id : String} {r : List V → Hp → VK → Prop} (hc : CallR X (.builtin id) r) (hm : X.mg f = none) (hv : bootBuiltins f = some (.builtin id)) (ha : AV X (e :: es) σ H vs) (hr : RC r vs H z) (hg : Gl X f := by rfl) (hn : f ≠ "__name__" := by decide) (hdb : (f == ("__debug__" : Str)) = false := by decide)
    (hs : (e :: es).all noStar = true := by rfl) : EV X (.Call (.Name f p) (e :: es) [] pos) σ H z :=
  EV.of (pe_callB hc hg hm hv (pa_all hs) hn hdb (star_of (List.all_eq_true.mp hs e List.mem_cons_self) es) (back_any es (List.all_eq_true.mpr fun e' he => List.all_eq_true.mp hs e' (List.mem_cons_of_mem _ he)))) (ev_cb ha.ev hr)
theorem EV.callT {f : Str} {id : String} {r : List V → Hp → VK → Prop} (hc : CallR X (.type id) r) (hm : X.mg f = none) (hv : bootBuiltins f = some (.type id)) (ha : AV X (e :: es) σ H vs) (hr : RC r vs H z) (hg : Gl X f := by rfl) (hn : f ≠ "__name__" := by decide) (hdb : (f == ("__debug__" : Str)) = false := by decide)
    (hs : (e :: es).all noStar = true := by rfl) : EV X (.Call (.Name f p) (e :: es) [] pos) σ H z :=
  EV.of (pe_callTy hc hg hm hv (pa_all hs) hn hdb (star_of (List.all_eq_true.mp hs e List.mem_cons_self) es) (back_any es (List.all_eq_true.mpr fun e' he => List.all_eq_true.mp hs e' (List.mem_cons_of_mem _ he)))) (ev_cb ha.ev hr)
theorem EL.callB {f : Str} {id : String} {r : List V → Hp → VK → Prop} (hc : CallR X (.builtin id) r) (hm : X.mg f = none) (hv : bootBuiltins f = some (.builtin id)) (ha : AV X (e :: es) σ H vs) (hr : RCL r vs H xs) (hg : Gl X f := by rfl) (hn : f ≠ "__name__" := by decide) (hdb : (f == ("__debug__" : Str)) = false := by decide)
    (hs : (e :: es).all noStar = true := by rfl) : EL X (.Call (.Name f p) (e :: es) [] pos) σ H xs :=
  EL.of (pe_callB hc hg hm hv (pa_all hs) hn hdb (star_of (List.all_eq_true.mp hs e List.mem_cons_self) es) (back_any es (List.all_eq_true.mpr fun e' he => List.all_eq_true.mp hs e' (List.mem_cons_of_mem _ he)))) (el_cb ha.ev hr)
theorem EL.callT {f : Str} {id : String} {r : List V → Hp → VK → Prop} (hc : CallR X (.type id) r) (hm : X.mg f = none) (hv : bootBuiltins f = some (.type id)) (ha : AV X (e :: es) σ H vs) (hr : RCL r vs H xs) (hg : Gl X f := by rfl) (hn : f ≠ "__name__" := by decide) (hdb : (f == ("__debug__" : Str)) = false := by decide)
    (hs : (e :: es).all noStar = true := by rfl) : EL X (.Call (.Name f p) (e :: es) [] pos) σ H xs :=
  EL.of (pe_callTy hc hg hm hv (pa_all hs) hn hdb (star_of (List.all_eq_true.mp hs e List.mem_cons_self) es) (back_any es (List.all_eq_true.mpr fun e' he => List.all_eq_true.mp hs e' (List.mem_cons_of_mem _ he)))) (el_cb ha.ev hr)
/-- the built-ins of this program; m: that the name is still the built-in's -/
theorem EV.abs {i : Int} (m : X.mg "abs" = none) (h : EV X a σ H (.int i)) (hg : Gl X "abs" := by rfl) (hs : noStar a = true := by rfl) : EV X (.Call (.Name "abs" p) [a] [] pos) σ H (.int (i.natAbs : Int)) := by
  refine EV.isI (EV.callB call_abs m (by decide +kernel) (AV.one h) (fun H1 _ _ q => ⟨i, rfl, q H1 (Ex.refl H1)⟩) hg (hs := by simp [hs])) ?_
  split <;> omega
theorem EV.max2 {i j : Int} (m : X.mg "max" = none) (h : EV X a σ H (.int i)) (h2 : EV X b σ H (.int j)) (hg : Gl X "max" := by rfl) (hc : X.calm = true := by rfl) (hs : [a, b].all noStar = true := by rfl) : EV X (.Call (.Name "max" p) [a, b] [] pos) σ H (.int (max i j)) := by
  refine EV.isI (EV.callB (call_max2 hc) m (by decide +kernel) (AV.two h h2) (fun H1 _ _ q => ⟨i, j, rfl, q H1 (Ex.refl H1)⟩) hg (hs := hs)) ?_
  split <;> omega
theorem EV.min2 {i j : Int} (m : X.mg "min" = none) (h : EV X a σ H (.int i)) (h2 : EV X b σ H (.int j)) (hg : Gl X "min" := by rfl) (hc : X.calm = true := by rfl) (hs : [a, b].all noStar = true := by rfl) : EV X (.Call (.Name "min" p) [a, b] [] pos) σ H (.int (min i j)) := by
  refine EV.isI (EV.callB (call_min2 hc) m (by decide +kernel) (AV.two h h2) (fun H1 _ _ q => ⟨i, j, rfl, q H1 (Ex.refl H1)⟩) hg (hs := hs)) ?_
  split <;> omega
theorem EV.len {q : Addr} (m : X.mg "len" = none) (h : EV X a σ H (.ref q)) (hq : SqL X.K H q xs) (hg : Gl X "len" := by rfl) (hs : noStar a = true := by rfl) : EV X (.Call (.Name "len" p) [a] [] pos) σ H (.int (xs.length : Int)) :=
  EV.callB call_len_seq m PySem.boot_len (AV.one h) (fun H1 e1 _ k => ⟨q, xs, rfl, .inl (ex_l e1 hq), k H1 (Ex.refl H1)⟩) hg (hs := by simp [hs])
/-- len of a list made on the way -/
theorem EV.lenN (m : X.mg "len" = none) (h : EL X a σ H xs) (hg : Gl X "len" := by rfl) (hs : noStar a = true := by rfl) : EV X (.Call (.Name "len" p) [a] [] pos) σ H (.int (xs.length : Int)) :=
  EV.of (pe_callB call_len_seq hg m PySem.boot_len (pa_all (es := [a]) (by simp [hs])) (by decide) (by decide) (star_of hs []) rfl) fun H1 e1 Q k => h.ev H1 e1 _ fun q H2 hq e2 h2 => ⟨q, xs, rfl, .inl (.inl (.inl h2)), k H2 e2⟩
theorem EV.sum {q : Addr} {ns : List Int} (m : X.mg "sum" = none) (h : EV X a σ H (.ref q)) (hq : SqL X.K H q (ns.map V.int)) (hg : Gl X "sum" := by rfl) (hc : X.calm = true := by rfl) (hs : noStar a = true := by rfl) : EV X (.Call (.Name "sum" p) [a] [] pos) σ H (.int ns.sum) :=
  EV.callB (cr_sum hc) m (by decide +kernel) (AV.one h) (fun H1 e1 _ k => ⟨q, ns, rfl, ex_l e1 hq, k H1 (Ex.refl H1)⟩) hg (hs := by simp [hs])
theorem EV.sumN {ns : List Int} (m : X.mg "sum" = none) (h : EL X a σ H (ns.map V.int)) (hg : Gl X "sum" := by rfl) (hc : X.calm = true := by rfl) (hs : noStar a = true := by rfl) : EV X (.Call (.Name "sum" p) [a] [] pos) σ H (.int ns.sum) :=
  EV.of (pe_callB (cr_sum hc) hg m (by decide +kernel) (pa_all (es := [a]) (by simp [hs])) (by decide) (by decide) (star_of hs []) rfl) fun H1 e1 Q k => h.ev H1 e1 _ fun q H2 hq e2 h2 => ⟨q, ns, rfl, .inl (.inl h2), k H2 e2⟩
theorem EV.allN {bs : List Bool} (m : X.mg "all" = none) (h : EL X a σ H (bs.map V.bl)) (hg : Gl X "all" := by rfl) (hc : X.calm = true := by rfl) (hs : noStar a = true := by rfl) : EV X (.Call (.Name "all" p) [a] [] pos) σ H (.bl (bs.all id)) :=
  EV.of (pe_callB (cr_all hc) hg m (by decide +kernel) (pa_all (es := [a]) (by simp [hs])) (by decide) (by decide) (star_of hs []) rfl) fun H1 e1 Q k => h.ev H1 e1 _ fun q H2 hq e2 h2 => ⟨q, bs, rfl, .inl (.inl h2), k H2 e2⟩
theorem EV.anyN {bs : List Bool} (m : X.mg "any" = none) (h : EL X a σ H (bs.map V.bl)) (hg : Gl X "any" := by rfl) (hc : X.calm = true := by rfl) (hs : noStar a = true := by rfl) : EV X (.Call (.Name "any" p) [a] [] pos) σ H (.bl (bs.any id)) :=
  EV.of (pe_callB (cr_any hc) hg m (by decide +kernel) (pa_all (es := [a]) (by simp [hs])) (by decide) (by decide) (star_of hs []) rfl) fun H1 e1 Q k => h.ev H1 e1 _ fun q H2 hq e2 h2 => ⟨q, bs, rfl, .inl (.inl h2), k H2 e2⟩
theorem EV.any {q : Addr} {bs : List Bool} (m : X.mg "any" = none) (h : EV X a σ H (.ref q)) (hq : SqL X.K H q (bs.map V.bl)) (hg : Gl X "any" := by rfl) (hc : X.calm = true := by rfl) (hs : noStar a = true := by rfl) : EV X (.Call (.Name "any" p) [a] [] pos) σ H (.bl (bs.any id)) :=
  EV.callB (cr_any hc) m (by decide +kernel) (AV.one h) (fun H1 e1 _ k => ⟨q, bs, rfl, ex_l e1 hq, k H1 (Ex.refl H1)⟩) hg (hs := by simp [hs])
/-! ### lists read -/
theorem EV.ixL {q : Addr} {i : Int} (h : EV X a σ H (.ref q)) (hi : EV X b σ H (.int i)) (hq : SqL X.K H q xs) (hv : atI xs i = some v) (hp : PlainIx b := by exact fun _ _ => rfl) : EV X (.Subscript a b pos) σ H v :=
  EV.of (pe_ix ix_list pe_self pe_self hp) (ev_op h.ev hi.ev (rv_ixL hq hv))
theorem EV.ixT {q : Addr} {i : Int} (h : EV X a σ H (.ref q)) (hi : EV X b σ H (.int i)) (hq : SqT X.K H q xs) (hv : atI xs i = some v) (hp : PlainIx b := by exact fun _ _ => rfl) : EV X (.Subscript a b pos) σ H v :=
  EV.of (pe_ix ix_tup pe_self pe_self hp) (ev_op h.ev hi.ev (rv_ixT hq hv))
/-- (a, b, c)[i], the tuple made on the way -/
theorem EV.ixU {i : Int} (h : EU X a σ H xs) (hi : EV X b σ H (.int i)) (hv : atI xs i = some v) (hp : PlainIx b := by exact fun _ _ => rfl) : EV X (.Subscript a b pos) σ H v :=
  EV.of (pe_ix ix_tup pe_self pe_self hp) fun H1 e1 Q k => h.ev H1 e1 _ fun q H2 hq e2 h2 => hi.ev H2 (e1.trans e2) _ fun H3 e3 => ⟨q, xs, i, v, rfl, rfl, .inl (.inl (e3 _ _ h2)), hv, k H3 (e2.trans e3)⟩
theorem EL.slice {q : Addr} {lo hi : Option Expr} {l h : Option Int} {tl th : TO} {p2 : Pos} (he : EV X a σ H (.ref q)) (hq : SqL X.K H q xs) (pl : PO X lo tl) (ph : PO X hi th) (hl : EvO tl σ H l) (hh : EvO th σ H h) : EL X (.Subscript a (.Slice lo hi none p2) pos) σ H (cutV xs l h) :=
  EL.of (pe_slice sl_list pe_self pl ph) (el_sl he.ev hl hh hq)
/-- xs[:n] -/
theorem EL.upto {q : Addr} {i : Int} {p2 : Pos} (he : EV X a σ H (.ref q)) (hi : EV X b σ H (.int i)) (hq : SqL X.K H q xs) : EL X (.Subscript a (.Slice none (some b) none p2) pos) σ H (cutV xs none (some i)) :=
  EL.slice he hq po_none (po_some pe_self) eo_none (eo_some hi.ev)
/-- x in [..], x in (..), made on the way -/
theorem TV.inL (ha : EV X a σ H x) (hb : EL X b σ H xs) (hx : flatV x = true := by rfl) (hf : xs.all flatV = true := by rfl) (hm : behindInMarks .In b = false := by rfl) : TV X (.Compare a [.In] [b] pos) σ H (inV x xs) :=
  TV.of (pt_cmpR op_in_seq pe_self pe_self hm) (et_test (ev_opL ha.ev hb.ev fun _ _ h _ => rv_isL (sq_of h) hx hf))
theorem EV.inL (ha : EV X a σ H x) (hb : EL X b σ H xs) (hx : flatV x = true := by rfl) (hf : xs.all flatV = true := by rfl) (hm : behindInMarks .In b = false := by rfl) : EV X (.Compare a [.In] [b] pos) σ H (.bl (inV x xs)) :=
  EV.of (pe_cmpR op_in_seq pe_self pe_self hm) (ev_opL ha.ev hb.ev fun _ _ h _ => rv_isL (sq_of h) hx hf)
theorem TV.inU (ha : EV X a σ H x) (hb : EU X b σ H xs) (hx : flatV x = true := by rfl) (hf : xs.all flatV = true := by rfl) (hm : behindInMarks .In b = false := by rfl) : TV X (.Compare a [.In] [b] pos) σ H (inV x xs) :=
  TV.of (pt_cmpR op_in_seq pe_self pe_self hm) (et_test (ev_inU ha.ev hb.ev hx hf))
theorem EV.inU (ha : EV X a σ H x) (hb : EU X b σ H xs) (hx : flatV x = true := by rfl) (hf : xs.all flatV = true := by rfl) (hm : behindInMarks .In b = false := by rfl) : EV X (.Compare a [.In] [b] pos) σ H (.bl (inV x xs)) :=
  EV.of (pe_cmpR op_in_seq pe_self pe_self hm) (ev_inU ha.ev hb.ev hx hf)
end
/-! ### calls of the program's own defs -/
/-- the def of that name keeps the promise -/
structure Fc (P : Program) (w : World) (K : PySem.W.Frag) (mg : Str → Option Value) (base : Heap) (k : Nat) (x : Str) (sp : Sp) : Prop where
  ex : ∃ (f : Addr) (fd : FuncData) (ps : List Str), FnOk P w K mg base (L2.CX P w) k f fd ps sp ∧ mg x = some (.ref f) ∧ PySem.W.keepIn K (.ref f) = true ∧ Binds K fd ps []
section
variable {X : Cx} {e a b c : Expr} {es : List Expr} {σ : L2.St} {H : Hp} {Q : VK} {v z : V} {pos p : Pos} {vs xs : List V} {x : Str} {sp : Sp} {k j : Nat} {E : XK}
theorem pe_fc (C : Fc X.prog X.w X.K X.mg X.base k x sp) (hr : Room j X.A) (hk : k ≤ j) (hx : Passes (L2.CX X.prog X.w) X E) (hg : Gl X x) (hs : (e :: es).all noStar = true) (hdb : (x == ("__debug__" : Str)) = false) : PE X (.Call (.Name x p) (e :: es) [] pos) (tCall sp [] E (tArgs X (e :: es))) := by
  obtain ⟨f, fd, ps, F, hm, kp, bn⟩ := C.ex
  exact pe_call F (hr.mono hk) hg hm kp bn .nil hx (pa_all hs) hdb (star_of (List.all_eq_true.mp hs e List.mem_cons_self) es) (back_any es (List.all_eq_true.mpr fun e' he => List.all_eq_true.mp hs e' (List.mem_cons_of_mem _ he)))
theorem EV.call (C : Fc X.prog X.w X.K X.mg X.base k x sp) (hr : Room j X.A) (ha : AV X (e :: es) σ H vs) (hv : SpV sp vs H z) (hk : k ≤ j := by decide) (hg : Gl X x := by rfl) (hs : (e :: es).all noStar = true := by rfl) (hdb : (x == ("__debug__" : Str)) = false := by decide) :
    EV X (.Call (.Name x p) (e :: es) [] pos) σ H z := EV.of (pe_fc C hr hk passL hg hs hdb) (ev_call ha.ev (by rw [List.append_nil]; exact hv))
theorem EL.call (C : Fc X.prog X.w X.K X.mg X.base k x sp) (hr : Room j X.A) (ha : AV X (e :: es) σ H vs) (hv : SpL sp vs H xs) (hk : k ≤ j := by decide) (hg : Gl X x := by rfl) (hs : (e :: es).all noStar = true := by rfl) (hdb : (x == ("__debug__" : Str)) = false := by decide) :
    EL X (.Call (.Name x p) (e :: es) [] pos) σ H xs := EL.of (pe_fc C hr hk passL hg hs hdb) (el_call ha.ev (by rw [List.append_nil]; exact hv))
/-- with what follows: nothing is raised; or what is raised leaves (tk) -/
theorem EW.call (C : Fc X.prog X.w X.K X.mg X.base k x sp) (hr : Room j X.A) (h : tArgs X (e :: es) σ H fun vs H1 => sp vs H1 Q E0) (hk : k ≤ j := by decide) (hg : Gl X x := by rfl) (hs : (e :: es).all noStar = true := by rfl) (hdb : (x == ("__debug__" : Str)) = false := by decide) :
    EW X (.Call (.Name x p) (e :: es) [] pos) σ H Q := by
  refine EW.of (pe_fc C hr hk passL hg hs hdb) (?_ : tCall _ _ _ _ σ H Q)
  unfold tCall
  simpa only [List.append_nil] using h
theorem EW.callX (C : Fc X.prog X.w X.K X.mg X.base k x sp) (hr : Room j X.A) (tk : Takes X (fun cls d _ H => E cls d H)) (h : tArgs X (e :: es) σ H fun vs H1 => sp vs H1 Q E) (hk : k ≤ j := by decide) (hg : Gl X x := by rfl) (hs : (e :: es).all noStar = true := by rfl) (hdb : (x == ("__debug__" : Str)) = false := by decide) :
    EW X (.Call (.Name x p) (e :: es) [] pos) σ H Q := by
  refine EW.of (pe_fc C hr hk (passes_call (E := E) tk fun _ _ _ _ h => h) hg hs hdb) (?_ : tCall _ _ _ _ σ H Q)
  unfold tCall
  simpa only [List.append_nil] using h
end
/-! ### blocks -/
section
variable {X : Cx} {e a b c : Expr} {st : Stmt} {rest : List Stmt} {σ : L2.St} {H : Hp} {D : Ends} {v : V} {xs : List V} {pos p p2 : Pos} {x : Str}
theorem BW.nil (h : D.nx σ H) : BW X [] D σ H := BW.of pss_nil h
theorem BW.cons {t : TS} (h : PS X st t) (r : t { D with nx := BW X rest D } σ H) : BW X (st :: rest) D σ H := BW.of (pss_cons h pss_self) r
theorem BW.asgW {i : Nat} (hN : X.N.Nodup) (hi : X.N[i]? = some x) (hx : Loc X.env.scope x) (h : EW X e σ H fun v H1 => BW X rest D (σ.set i (some v)) H1) (hs : swapsWith e (some (.Name x p)) pos.line X.env = pure false := by rfl) (hf : X.fn x = true ∨ X.env.scope.names.lookup x = some .local := by first | exact .inl rfl | exact .inr rfl) : BW X (.Assign [.Name x p] e pos :: rest) D σ H :=
  BW.cons (ps_set (i := i) hN hi hx pe_self hs hf) h
/-- x = e, e a value; a new list; a new tuple -/
theorem BW.asg (i : Nat) (hN : X.N.Nodup) (h : EV X e σ H v) (k : ∀ H1, Ex H H1 → BW X rest D (σ.set i (some v)) H1) (hi : X.N[i]? = some x := by rfl) (hx : Loc X.env.scope x := by first | exact Or.inl rfl | exact Or.inr rfl) (hs : swapsWith e (some (.Name x p)) pos.line X.env = pure false := by rfl) (hf : X.fn x = true ∨ X.env.scope.names.lookup x = some .local := by first | exact .inl rfl | exact .inr rfl) : BW X (.Assign [.Name x p] e pos :: rest) D σ H :=
  BW.asgW hN hi hx (h.go k) hs hf
theorem BW.asgL (i : Nat) (hN : X.N.Nodup) (h : EL X e σ H xs) (k : ∀ q H1, H q = none → Ex H H1 → H1 q = some (.lst xs) → BW X rest D (σ.set i (some (.ref q))) H1) (hi : X.N[i]? = some x := by rfl) (hx : Loc X.env.scope x := by first | exact Or.inl rfl | exact Or.inr rfl) (hs : swapsWith e (some (.Name x p)) pos.line X.env = pure false := by rfl) (hf : X.fn x = true ∨ X.env.scope.names.lookup x = some .local := by first | exact .inl rfl | exact .inr rfl) : BW X (.Assign [.Name x p] e pos :: rest) D σ H :=
  BW.asgW hN hi hx (h.go k) hs hf
theorem BW.ret (h : EV X e σ H v) (k : ∀ H1, Ex H H1 → D.rt v H1) : BW X (.Return (some e) pos :: rest) D σ H := BW.cons (ps_ret pe_self) (h.go k)
theorem BW.retL (h : EL X e σ H xs) (k : ∀ q H1, H q = none → Ex H H1 → H1 q = some (.lst xs) → D.rt (.ref q) H1) : BW X (.Return (some e) pos :: rest) D σ H := BW.cons (ps_ret pe_self) (h.go k)
theorem BW.retU (h : EU X e σ H xs) (k : ∀ q H1, H q = none → Ex H H1 → H1 q = some (.tup xs) → D.rt (.ref q) H1) : BW X (.Return (some e) pos :: rest) D σ H := BW.cons (ps_ret pe_self) (h.go k)
theorem BW.retW (h : EW X e σ H D.rt) : BW X (.Return (some e) pos :: rest) D σ H := BW.cons (ps_ret pe_self) h
theorem BW.exprW (h : EW X e σ H fun _ H1 => BW X rest D σ H1) (hs : swapsWith e none pos.line X.env = pure false := by rfl) : BW X (.Expr e pos :: rest) D σ H := BW.cons (ps_expr pe_self hs) h
theorem BW.expr (h : EV X e σ H v) (k : ∀ H1, Ex H H1 → BW X rest D σ H1) (hs : swapsWith e none pos.line X.env = pure false := by rfl) : BW X (.Expr e pos :: rest) D σ H := BW.exprW (h.go k) hs
/-- what follows a block, as an Ends -/
abbrev Ends.bef (X : Cx) (rest : List Stmt) (D : Ends) : Ends := { D with nx := BW X rest D }
theorem BW.ite {s1 s2 : List Stmt} {k : Bool} (h : TV X c σ H k) (h1 : k = true → ∀ H1, Ex H H1 → BW X s1 (Ends.bef X rest D) σ H1) (h2 : k = false → ∀ H1, Ex H H1 → BW X s2 (Ends.bef X rest D) σ H1) : BW X (.If c s1 s2 pos :: rest) D σ H :=
  BW.cons (ps_if pt_self pss_self pss_self) (h.go fun H1 e => by
    cases k with
    | true => exact h1 rfl H1 e
    | false => exact h2 rfl H1 e)
/-- an if without else -/
theorem BW.when {s1 : List Stmt} {k : Bool} (h : TV X c σ H k) (h1 : k = true → ∀ H1, Ex H H1 → BW X s1 (Ends.bef X rest D) σ H1) (h2 : k = false → ∀ H1, Ex H H1 → BW X rest D σ H1) : BW X (.If c s1 [] pos :: rest) D σ H :=
  BW.ite h h1 fun hk H1 e => BW.nil (h2 hk H1 e)
/-- an if whose test is known to be false -/
theorem BW.skip {s1 : List Stmt} (h : TV X c σ H false) (h2 : ∀ H1, Ex H H1 → BW X rest D σ H1) : BW X (.If c s1 [] pos :: rest) D σ H := BW.when h (fun z => nomatch z) fun _ => h2
theorem BW.take {s1 s2 : List Stmt} (h : TV X c σ H true) (h1 : ∀ H1, Ex H H1 → BW X s1 (Ends.bef X rest D) σ H1) : BW X (.If c s1 s2 pos :: rest) D σ H := BW.ite h (fun _ => h1) fun z => nomatch z
theorem BW.iteW {s1 s2 : List Stmt} (h : TW X c σ H fun k H1 => (k = true → BW X s1 (Ends.bef X rest D) σ H1) ∧ (k = false → BW X s2 (Ends.bef X rest D) σ H1)) : BW X (.If c s1 s2 pos :: rest) D σ H := by
  refine BW.cons (ps_if pt_self pss_self pss_self) (?_ : tIfS _ _ _ _ σ H)
  refine ⟨fun pins s I => thn (h.run pins s I) fun k s1 ⟨H1, I1, q⟩ => ⟨H1, I1, ?_⟩⟩
  cases k with
  | true => exact q.1 rfl
  | false => exact q.2 rfl
theorem BW.never (h : False) : BW X rest D σ H := h.elim
end
/-! ### a def by its body -/
section
variable {P : Program} {w : World} {K : PySem.W.Frag} {mg : Str → Option Value} {base : Heap}
/-- a def from which nothing is let out -/
theorem okB {x qual : Str} {st : Stmt} {f : Addr} {fd : FuncData} {N ps : List Str} {k : Nat} {sp : Sp} (F : Fun K x qual st f fd) (S : FnScope N ps (defScope st)) (len : ∀ vs H Q E, sp vs H Q E → vs.length = ps.length)
    (hbody : ∀ (cdv : Value) (A : Around) (outer : List Env) (s : Shared) (H : Hp) (vs : List V) (Q : VK) (E : XK), Room k (A.deeper (envOfC qual (defScope st) s.heap.objs.size f cdv)) → sp vs H Q E →
      BW (cxOf (L2.CX P w) P w K mg base N qual (defScope st) f cdv A outer s H E).nox (defBody st) { nx := fun _ H' => Q .non H', rt := Q } (start N vs) H) : FnOk P w K mg base (L2.CX P w) (k + 1) f fd ps sp :=
  F.okX S len fun cdv A outer s H vs Q E hr hsp => ⟨_, pss_self.nox, hbody cdv A outer s H vs Q E hr hsp⟩
/-- a def that may raise -/
theorem okR {x qual : Str} {st : Stmt} {f : Addr} {fd : FuncData} {N ps : List Str} {k : Nat} {sp : Sp} (F : Fun K x qual st f fd) (S : FnScope N ps (defScope st)) (len : ∀ vs H Q E, sp vs H Q E → vs.length = ps.length)
    (hbody : ∀ (cdv : Value) (A : Around) (outer : List Env) (s : Shared) (H : Hp) (vs : List V) (Q : VK) (E : XK), Room k (A.deeper (envOfC qual (defScope st) s.heap.objs.size f cdv)) → sp vs H Q E →
      BW (cxOf (L2.CX P w) P w K mg base N qual (defScope st) f cdv A outer s H E) (defBody st) { nx := fun _ H' => Q .non H', rt := Q } (start N vs) H) : FnOk P w K mg base (L2.CX P w) (k + 1) f fd ps sp :=
  F.okX S len fun cdv A outer s H vs Q E hr hsp => ⟨_, pss_self, hbody cdv A outer s H vs Q E hr hsp⟩
end
end QR

namespace QR
open PySem PySem.Spec PyProof.Rows L2 Evl
/-! ### kinds of values -/
theorem TyX.ex {K : PySem.W.Frag} {H H' : Hp} {x : V} {t : Value} (ty : TyX K H x t) (e : Ex H H') : TyX K H' x t := by
  cases ty with
  | base b =>
    refine .base ?_
    cases b with
    | non => exact .non
    | bl x => exact .bl x
    | int i => exact .int i
    | str x => exact .str x
    | flt x => exact .flt x
    | lst h => exact .lst (e _ _ h)
    | frz h => exact .frz (e _ _ h)
    | tup h => exact .tup (e _ _ h)
    | dK h => exact .dK (e _ _ h)
    | dT h => exact .dT (e _ _ h)
    | ins h c a b d m => exact .ins (e _ _ h) c a b d m
  | byt b => exact .byt b
  | set h => exact .set (e _ _ h)
  | kList h c => exact .kList h c
  | kTuple h c => exact .kTuple h c
  | kDict h c => exact .kDict h c
  | fTuple h => exact .fTuple (e _ _ h)
  | fDict h => exact .fDict (e _ _ h)
theorem ty_list {K : PySem.W.Frag} {H : Hp} {a : Addr} {xs : List V} (h : SqL K H a xs) : TyX K H (.ref a) (.type "list") := by
  rcases h with (h | ⟨o, h⟩) | ⟨o, its, n, h, c, _⟩
  · exact .base (.lst h)
  · exact .base (.frz h)
  · exact .kList h c
theorem ty_tup {K : PySem.W.Frag} {H : Hp} {a : Addr} {xs : List V} (h : SqT K H a xs) : TyX K H (.ref a) (.type "tuple") := by
  rcases h with (h | ⟨o, h⟩) | ⟨o, its, n, h, c, _⟩
  · exact .base (.tup h)
  · exact .fTuple h
  · exact .kTuple h c
section
variable {X : Cx} {e a b c : Expr} {es : List Expr} {σ : L2.St} {H : Hp} {Q : VK} {v x y z : V} {pos p : Pos} {vs xs : List V}
theorem EV.isi {w : V} {t u : Value} {k : Bool} (m : X.mg "isinstance" = none) (ha : EV X a σ H x) (hb : EV X b σ H w) (kc : ClsV w u) (ty : TyX X.K H x t) (hk : PySem.W.kitOne X.K t u = some k) (hg : Gl X "isinstance" := by rfl) (hs : [a, b].all noStar = true := by rfl) :
    EV X (.Call (.Name "isinstance" p) [a, b] [] pos) σ H (.bl k) :=
  EV.callB call_isi m (by decide +kernel) (AV.two ha hb) (fun H1 e1 _ q => ⟨x, w, t, u, k, rfl, kc, TyX.ex ty e1, hk, q H1 (Ex.refl H1)⟩) hg (hs := hs)
/-- isinstance(e, T), T a built-in class -/
theorem EV.isT {f : Str} {T n : String} {k : Bool} {pf : Pos} (m : X.mg "isinstance" = none) (mT : X.mg f = none) (hv : bootBuiltins f = some (.type T)) (ha : EV X a σ H x) (ty : TyX X.K H x (.type n)) (hk : kitB n T = some k) (hg : Gl X "isinstance" := by rfl) (hgT : Gl X f := by rfl) (hs : [a, .Name f pf].all noStar = true := by rfl) (hn : f ≠ "__name__" := by decide) (hd : (f == ("__debug__" : Str)) = false := by decide) :
    EV X (.Call (.Name "isinstance" p) [a, .Name f pf] [] pos) σ H (.bl k) :=
  EV.isi m ha (EV.ty mT hv hgT hn hd) (.ty T) ty (kit_ty hk) hg hs
/-- e is True, e is not True -/
theorem EV.isB2 {i j : Bool} (ha : EV X a σ H (.bl i)) (hb : EV X b σ H (.bl j)) : EV X (.Compare a [.Is] [b] pos) σ H (.bl (decide (i = j))) := EV.cmp op_isBl ha hb (fun H1 _ _ q => ⟨i, j, rfl, rfl, q H1 (Ex.refl H1)⟩) (nomark _)
theorem TV.isB2 {i j : Bool} (ha : EV X a σ H (.bl i)) (hb : EV X b σ H (.bl j)) : TV X (.Compare a [.Is] [b] pos) σ H (decide (i = j)) := TV.op op_isBl ha hb (fun H1 _ _ q => ⟨i, j, rfl, rfl, q H1 (Ex.refl H1)⟩) (nomark _)
theorem TV.notB2 {i j : Bool} (ha : EV X a σ H (.bl i)) (hb : EV X b σ H (.bl j)) : TV X (.Compare a [.IsNot] [b] pos) σ H (!decide (i = j)) := TV.op op_notBl ha hb (fun H1 _ _ q => ⟨i, j, rfl, rfl, q H1 (Ex.refl H1)⟩) (nomark _)
end
/-! ### loops -/
section
variable {X : Cx} {e a b c tg iter : Expr} {body rest : List Stmt} {σ : L2.St} {H : Hp} {D : Ends} {v : V} {xs : List V} {pos p p2 pr : Pos} {x : Str}
/-- what stands behind a turn -/
abbrev Ends.turn (X : Cx) (rest : List Stmt) (D : Ends) (N : L2.St → Hp → Prop) : Ends := { D with nx := N, ct := N, bk := BW X rest D }
theorem BW.whl (W : Nat → L2.St → Hp → Prop) (m0 : Nat) (h0 : W m0 σ H)
    (hs : ∀ m σ' H', W m σ' H' → ∃ k, TV X c σ' H' k ∧ (k = true → ∀ H1, Ex H' H1 → BW X body (Ends.turn X rest D fun σ2 H2 => ∃ m', m' < m ∧ W m' σ2 H2) σ' H1) ∧ (k = false → ∀ H1, Ex H' H1 → BW X rest D σ' H1))
    (hp : PassesOwn (model X.prog X.w) X.A X.env X.xe := by first | exact PassesOwn.never | exact passes_of rfl) : BW X (.While c body [] pos :: rest) D σ H :=
  BW.cons (ps_while hp pt_self pss_self) (s_while W m0 h0 fun m σ' H' hw => by
    obtain ⟨k, h1, h2, h3⟩ := hs m σ' H' hw
    exact ⟨k, h1.ev, fun hk H1 e1 => ⟨_, fun σ2 H2 z => z, h2 hk H1 e1⟩, h3⟩)
theorem s_forR {ta : TA} {tu : TS} {j : Nat} {n : Int} (h : EvA ta σ H [.int n]) (hn : -100000 ≤ n ∧ n ≤ 100000) (Pv : Nat → L2.St → Hp → Prop) (h0 : ∀ H1, Ex H H1 → Pv 0 σ H1)
    (hs : ∀ (i : Nat) σ' H', (i : Int) < n → Pv i σ' H' → tu { D with nx := Pv (i + 1), ct := Pv (i + 1), bk := D.nx } (σ'.set j (some (.int (i : Int)))) H') (hd : ∀ σ' H', Pv n.toNat σ' H' → D.nx σ' H') : tFor (iRng1 ta) (gName j) tu D σ H :=
  h H (Ex.refl H) _ fun H1 e => ⟨n, rfl, by omega, by omega, for_range (lo := 0) (n := n.toNat) Pv (h0 H1 e) (fun i σ' H' hi p => by
    have e0 : (0 : Int) + (i : Int) = (i : Int) := Int.zero_add _
    show tu { D with nx := Pv (i + 1), ct := Pv (i + 1), bk := D.nx } (σ'.set j (some (.int ((0 : Int) + (i : Int))))) H'
    rw [e0]
    exact hs i σ' H' (by omega) p) hd⟩
theorem s_forU {xs : List V} {tl : TE} {g : TG} {tu : TS} {K : PySem.W.Frag} (h : EvU tl σ H xs) (Pv : Addr → Nat → L2.St → Hp → Prop) (h0 : ∀ p H1, H p = none → Ex H H1 → H1 p = some (.tup xs) → Pv p 0 σ H1) (hl : ∀ p i σ' H', i ≤ xs.length → Pv p i σ' H' → SqT K H' p xs)
    (hs : ∀ p i x σ' H', xs[i]? = some x → Pv p i σ' H' → g x σ' H' fun σ2 H2 => tu { D with nx := Pv p (i + 1), ct := Pv p (i + 1), bk := D.nx } σ2 H2) (hd : ∀ p σ' H', Pv p xs.length σ' H' → D.nx σ' H') : tFor (iTup K tl) g tu D σ H :=
  h H (Ex.refl H) _ fun p H1 hp e h1 => ⟨p, rfl, ⟨xs, st_of h1⟩, for_tup (Pv p) (h0 p H1 hp e h1) (hl p) (hs p) (hd p)⟩
theorem turn_long {P : Program} {w : World} {K : PySem.W.Frag} {tg : Expr} (it : Addr) (lo : Int) (n : Nat) : Turn P w K tg (Itr lo n) [it] it (fun i h => IsLongIter h it (lo + (i : Nat) * 1) ((n : Int) - (i : Nat)) 1) where
  mem := by simp
  obj := fun i h st b hb => by
    have e : b = it := by simpa using hb
    subst e
    exact ⟨_, st, fun v z => by
      have z' : Data.fields _ = Data.cell v := z
      cases z'⟩
  keep := fun i h h' st k => k it (by simp) _ st
  item := by
    intro X hP hw hK hc i pins s σ H E I hf st hg
    subst hP hw hK
    obtain ⟨f0, f1, f2, f3, f4, f5⟩ := hf it (by simp)
    have W := Walks.longrange (prog := X.prog) (w := X.w) (I.ok.hd hc) it lo 1 n
    refine W.item i s _ _ hg st fun v h' tk hv st' kk => ?_
    obtain ⟨t, rfl⟩ := hv
    have I1 : Inv X pins σ H { s with heap := h', toks := tk } := I.turned (fun b o hb e => kk b o (by simpa using hb) e) f0 f1 f3 f4 f5
    refine ⟨_, rfl, go_of (s := { s with heap := h', toks := tk }) (n := "longrange_iterator") st' rfl rfl (by decide) ⟨.int (lo + i), H, I1, ⟨t, ?_⟩, ⟨rfl, rfl⟩, st', fun b hb => (hf b hb).1⟩⟩
    rw [Int.mul_one]
  done := by
    intro X hP hw hK hc i pins s σ H E I hf st hg
    subst hP hw hK
    obtain ⟨f0, f1, f2, f3, f4, f5⟩ := hf it (by simp)
    exact wpAny_pyNext_long_end (I.ok.hd hc) st (by have : n ≤ i := hg; omega) fun h' eb => ⟨rfl, I.turned (t' := s.toks) (fun b o hb e => eb b o hb e) f0 f1 f3 f4 f5⟩
  self := fun _ _ _ _ _ st h => wpAny_pyIter_longiter st h
/-- a range object just made, of any bounds, walked -/
theorem range_itA {pins : List (Addr × Obj)} {σ : L2.St} {H : Hp} {s : Shared} {R : It → Hp → Prop} {E : Value → Shared → Prop} {lo hi : Int} {t u v : Tok} {tk : Nat} (I : Inv X pins σ H s)
    (q : R (Itr lo (hi - lo).toNat) H) : wpAny (model X.prog X.w) X.A (pyIter (.ref s.heap.objs.size)) (PIE X pins σ tg R) E { s with heap := s.heap.push { cls := .type "range", data := .fields #[.int lo t, .int hi u, .int 1 v] }, toks := tk } := by
  have I1 : Inv X pins σ H { s with heap := s.heap.push { cls := .type "range", data := .fields #[.int lo t, .int hi u, .int 1 v] }, toks := tk } := I.kept fun b o e => Heap.get?_push_of_some _ e
  have e1 : lo + ((0 : Nat) : Int) * 1 = lo := by simp
  have e2 : (((hi - lo).toNat : Nat) : Int) - ((0 : Nat) : Int) = Builtin.Range.rangeSize lo hi 1 := by rw [rangeSize_one]; split <;> omega
  cases hb : Builtin.Range.small lo hi 1 with
  | true =>
    refine wpAny_pyIter_range (IsRange.new ..) hb ?_
    refine ⟨(s.heap.push { cls := .type "range", data := .fields #[.int lo t, .int hi u, .int 1 v] }).objs.size, [(s.heap.push { cls := .type "range", data := .fields #[.int lo t, .int hi u, .int 1 v] }).objs.size], _, _, H, rfl,
      I1.kept (t' := tk) fun b o e => Heap.get?_push_of_some _ e, turn_range _ lo (hi - lo).toNat, ?_, fun b hb => ?_, q⟩
    · show IsRangeIter _ _ (lo + ((0 : Nat) : Int) * 1) ((((hi - lo).toNat : Nat) : Int) - ((0 : Nat) : Int)) 1
      rw [e1, e2]
      exact Heap.get?_push_size _ rfl
    · have e : b = (s.heap.push { cls := .type "range", data := .fields #[.int lo t, .int hi u, .int 1 v] }).objs.size := by simpa using hb
      subst e
      exact I1.fpOk (Nat.le_refl _) (I1.hok.fresh (Nat.le_refl _))
  | false =>
    refine wpAny_pyIter_longrange (IsRange.new ..) hb ?_
    refine ⟨(s.heap.push { cls := .type "range", data := .fields #[.int lo t, .int hi u, .int 1 v] }).objs.size, [(s.heap.push { cls := .type "range", data := .fields #[.int lo t, .int hi u, .int 1 v] }).objs.size], _, _, H, rfl,
      I1.kept (t' := tk) fun b o e => Heap.get?_push_of_some _ e, turn_long _ lo (hi - lo).toNat, ?_, fun b hb => ?_, q⟩
    · show IsLongIter _ _ (lo + ((0 : Nat) : Int) * 1) ((((hi - lo).toNat : Nat) : Int) - ((0 : Nat) : Int)) 1
      rw [e1, e2]
      exact Heap.get?_push_size _ rfl
    · have e : b = (s.heap.push { cls := .type "range", data := .fields #[.int lo t, .int hi u, .int 1 v] }).objs.size := by simpa using hb
      subst e
      exact I1.fpOk (Nat.le_refl _) (I1.hok.fresh (Nat.le_refl _))
def iRng2A (ta : TA) : TI := fun σ H R => ta σ H fun vs H1 => ∃ i j : Int, vs = [.int i, .int j] ∧ R (Itr i (j - i).toNat) H1
theorem pi_range2A {ta : TA} (hg : Gl X "range") (hm : X.mg "range" = none) (ha : PA X [a, b] ta) (hs : starEach [a, b] X.env = [(false, eval a X.env), (false, eval b X.env)]) (hs2 : starEach [b] X.env = [(false, eval b X.env)]) :
    PI X tg (.Call (.Name "range" p) [a, b] [] pos) (iRng2A ta) := by
  refine ⟨fun pins s σ H R I h => ?_⟩
  refine Call_ (ld_blt I hg hm boot_range (PyProof.Rows.callWith_type1 (thn (ha.run pos pins s σ H _ I h) fun us s1 ⟨vs, H1, I1, r1, q1⟩ => ?_) (by rw [hs, hs2]) (by rw [hs2]; rfl)))
  obtain ⟨i, j, e, q⟩ := q1
  subst e
  cases r1 with
  | cons r rr =>
    cases rr with
    | cons r' rr =>
      cases rr
      obtain ⟨t, rfl⟩ := r
      obtain ⟨t', rfl⟩ := r'
      exact call_range_2 (range_itA I1 q)
theorem s_forR2A {ta : TA} {tu : TS} {j : Nat} {lo n : Int} (h : EvA ta σ H [.int lo, .int n]) (Pv : Nat → L2.St → Hp → Prop) (h0 : ∀ H1, Ex H H1 → Pv 0 σ H1)
    (hs : ∀ (i : Nat) σ' H', lo + (i : Int) < n → Pv i σ' H' → tu { D with nx := Pv (i + 1), ct := Pv (i + 1), bk := D.nx } (σ'.set j (some (.int (lo + (i : Int))))) H') (hd : ∀ σ' H', Pv (n - lo).toNat σ' H' → D.nx σ' H') : tFor (iRng2A ta) (gName j) tu D σ H :=
  h H (Ex.refl H) _ fun H1 e => ⟨lo, n, rfl, for_range (lo := lo) (n := (n - lo).toNat) Pv (h0 H1 e) (fun i σ' H' hi p => hs i σ' H' (by omega) p) hd⟩
/-- for x in range(n) -/
theorem BW.forR (j : Nat) {n : Int} (m : X.mg "range" = none) (hN : X.N.Nodup) (h : EV X a σ H (.int n)) (hn : -100000 ≤ n ∧ n ≤ 100000) (Pv : Nat → L2.St → Hp → Prop) (h0 : ∀ H1, Ex H H1 → Pv 0 σ H1)
    (hs : ∀ (i : Nat) σ' H', (i : Int) < n → Pv i σ' H' → BW X body (Ends.turn X rest D (Pv (i + 1))) (σ'.set j (some (.int (i : Int)))) H') (hd : ∀ σ' H', Pv n.toNat σ' H' → BW X rest D σ' H')
    (hj : X.N[j]? = some x := by rfl) (hx : Loc X.env.scope x := by first | exact Or.inl rfl | exact Or.inr rfl) (hf : X.fn x = true ∨ X.env.scope.names.lookup x = some .local := by first | exact .inl rfl | exact .inr rfl) (hg : Gl X "range" := by rfl) (hst : noStar a = true := by rfl) (hc : X.calm = true := by rfl)
    (hp : PassesOwn (model X.prog X.w) X.A X.env X.xe := by first | exact PassesOwn.never | exact passes_of rfl) : BW X (.For (.Name x p) (.Call (.Name "range" pr) [a] [] p2) body [] pos :: rest) D σ H :=
  BW.cons (ps_for hp hc (pi_range1 hg m (pa_all (es := [a]) (by simp [hst])) (star_of hst [])) (pg_name (i := j) hN hj hx hf) pss_self) (s_forR (AV.one h).ev hn Pv h0 hs hd)
/-- for x in range(lo, n) -/
theorem BW.forR2 (j : Nat) {lo n : Int} (m : X.mg "range" = none) (hN : X.N.Nodup) (h : EV X a σ H (.int lo)) (h' : EV X b σ H (.int n)) (Pv : Nat → L2.St → Hp → Prop) (h0 : ∀ H1, Ex H H1 → Pv 0 σ H1)
    (hs : ∀ (i : Nat) σ' H', lo + (i : Int) < n → Pv i σ' H' → BW X body (Ends.turn X rest D (Pv (i + 1))) (σ'.set j (some (.int (lo + (i : Int))))) H') (hd : ∀ σ' H', Pv (n - lo).toNat σ' H' → BW X rest D σ' H')
    (hj : X.N[j]? = some x := by rfl) (hx : Loc X.env.scope x := by first | exact Or.inl rfl | exact Or.inr rfl) (hf : X.fn x = true ∨ X.env.scope.names.lookup x = some .local := by first | exact .inl rfl | exact .inr rfl) (hg : Gl X "range" := by rfl) (hst : noStar a = true := by rfl) (hst2 : noStar b = true := by rfl) (hc : X.calm = true := by rfl)
    (hp : PassesOwn (model X.prog X.w) X.A X.env X.xe := by first | exact PassesOwn.never | exact passes_of rfl) : BW X (.For (.Name x p) (.Call (.Name "range" pr) [a, b] [] p2) body [] pos :: rest) D σ H :=
  BW.cons (ps_for hp hc (pi_range2A hg m (pa_all (es := [a, b]) (by simp [hst, hst2])) (by rw [star_of hst, star_of hst2]; rfl) (star_of hst2 [])) (pg_name (i := j) hN hj hx hf) pss_self) (s_forR2A (AV.two h h').ev Pv h0 hs hd)
/-- for target in xs, a list that stands still; a list made on the way; a tuple made on the way -/
theorem BW.forL {g : TG} {q : Addr} (h : EV X iter σ H (.ref q)) (hq : SqL X.K H q xs) (hg : PG X tg g) (Pv : Nat → L2.St → Hp → Prop) (h0 : ∀ H1, Ex H H1 → Pv 0 σ H1) (hl : ∀ i σ' H', i ≤ xs.length → Pv i σ' H' → SqL X.K H' q xs)
    (hs : ∀ i x σ' H', xs[i]? = some x → Pv i σ' H' → g x σ' H' fun σ2 H2 => BW X body (Ends.turn X rest D (Pv (i + 1))) σ2 H2) (hd : ∀ σ' H', Pv xs.length σ' H' → BW X rest D σ' H')
    (hc : X.calm = true := by rfl) (hp : PassesOwn (model X.prog X.w) X.A X.env X.xe := by first | exact PassesOwn.never | exact passes_of rfl) (hfs : ∀ x, foldedSetIterable iter X.env x = pure x := by intro _; rfl) : BW X (.For tg iter body [] pos :: rest) D σ H :=
  BW.cons (ps_for hp hc (pi_list pe_self) hg pss_self hfs) (s_forL h.ev hq Pv h0 hl hs hd)
theorem BW.forNL {g : TG} (h : EL X iter σ H xs) (hg : PG X tg g) (Pv : Addr → Nat → L2.St → Hp → Prop) (h0 : ∀ p H1, H p = none → Ex H H1 → H1 p = some (.lst xs) → Pv p 0 σ H1) (hl : ∀ p i σ' H', i ≤ xs.length → Pv p i σ' H' → SqL X.K H' p xs)
    (hs : ∀ p i x σ' H', xs[i]? = some x → Pv p i σ' H' → g x σ' H' fun σ2 H2 => BW X body (Ends.turn X rest D (Pv p (i + 1))) σ2 H2) (hd : ∀ p σ' H', Pv p xs.length σ' H' → BW X rest D σ' H')
    (hc : X.calm = true := by rfl) (hp : PassesOwn (model X.prog X.w) X.A X.env X.xe := by first | exact PassesOwn.never | exact passes_of rfl) (hfs : ∀ x, foldedSetIterable iter X.env x = pure x := by intro _; rfl) : BW X (.For tg iter body [] pos :: rest) D σ H :=
  BW.cons (ps_for hp hc (pi_list pe_self) hg pss_self hfs) (s_forNL h.ev Pv h0 hl hs hd)
theorem BW.forNU {g : TG} (h : EU X iter σ H xs) (hg : PG X tg g) (Pv : Addr → Nat → L2.St → Hp → Prop) (h0 : ∀ p H1, H p = none → Ex H H1 → H1 p = some (.tup xs) → Pv p 0 σ H1) (hl : ∀ p i σ' H', i ≤ xs.length → Pv p i σ' H' → SqT X.K H' p xs)
    (hs : ∀ p i x σ' H', xs[i]? = some x → Pv p i σ' H' → g x σ' H' fun σ2 H2 => BW X body (Ends.turn X rest D (Pv p (i + 1))) σ2 H2) (hd : ∀ p σ' H', Pv p xs.length σ' H' → BW X rest D σ' H')
    (hc : X.calm = true := by rfl) (hp : PassesOwn (model X.prog X.w) X.A X.env X.xe := by first | exact PassesOwn.never | exact passes_of rfl) (hfs : ∀ x, foldedSetIterable iter X.env x = pure x := by intro _; rfl) : BW X (.For tg iter body [] pos :: rest) D σ H :=
  BW.cons (ps_for hp hc (pi_tup pe_self) hg pss_self hfs) (s_forU h.ev Pv h0 hl hs hd)
/-- a, b = e1, e2 -/
theorem BW.par (i j : Nat) {y : Str} {x1 x2 : V} {px py pt : Pos} {kt k2 pt2} (hN : X.N.Nodup) (ha : EV X a σ H x1) (hb : EV X b σ H x2) (k : ∀ H1, Ex H H1 → BW X rest D ((σ.set i (some x1)).set j (some x2)) H1)
    (hi : X.N[i]? = some x := by rfl) (hj : X.N[j]? = some y := by rfl) (hij : i ≠ j := by decide) (hx : X.env.scope.names.lookup x = some .local := by rfl) (hy : X.env.scope.names.lookup y = some .local := by rfl) (hc : X.calm = true := by rfl)
    (hw : swappedStores [.Tuple [.Name x px, .Name y py] kt pt] (.Tuple [a, b] k2 pt2) X.env = pure (some [x, y]) := by rfl)
    (hs : swapsWithSole [.Tuple [.Name x px, .Name y py] kt pt] (.Tuple [a, b] k2 pt2) pos.line X.env = pure false := by rfl) (hst : [a, b].all noStar = true := by rfl) :
    BW X (.Assign [.Tuple [.Name x px, .Name y py] kt pt] (.Tuple [a, b] k2 pt2) pos :: rest) D σ H :=
  BW.cons (ps_par hc hN hi hj hij hx hy (pa_all hst) hw hs) ((AV.two ha hb).ev H (Ex.refl H) _ fun H1 e => ⟨x1, x2, rfl, k H1 e⟩)
/-! ### list comprehensions -/
/-- what an element leads to, in the block -/
def EWb (X : Cx) (scope : Scope) (e : Expr) : TE := fun σ H Q => ∀ (s : Shared) (H0 : Hp) (C : Addr) (cl : List (Str × Addr)) (fp : List Addr), EW (X.blk s H0 scope (compEnvC scope cl C X.env) fp) e σ H Q
theorem pe_selfb {scope : Scope} {s : Shared} {H0 : Hp} {C : Addr} {cl : List (Str × Addr)} {fp : List Addr} : PE (X.blk s H0 scope (compEnvC scope cl C X.env) fp) e (EWb X scope e) := ⟨fun pins s' _ _ _ I h => (h s H0 C cl fp).run pins s' I⟩
/-- an element's value, in the block -/
def EVb (X : Cx) (scope : Scope) (e : Expr) (σ : L2.St) (H : Hp) (v : V) : Prop := ∀ (s : Shared) (H0 : Hp) (C : Addr) (cl : List (Str × Addr)) (fp : List Addr), EV (X.blk s H0 scope (compEnvC scope cl C X.env) fp) e σ H v
theorem EVb.ev {scope : Scope} (h : EVb X scope e σ H v) : Ev (EWb X scope e) σ H v := fun H1 e1 Q q s H0 C cl fp => (h s H0 C cl fp).ev H1 e1 Q q
structure LC (X : Cx) (e : Expr) (σ : L2.St) (H : Hp) (xs : List V) : Prop where
  el : EL X e σ H xs
  st : ∀ {i : Nat} {y : Str} {py spos : Pos} {rest : List Stmt} {D : Ends}, X.N[i]? = some y → X.env.scope.names.lookup y = some .local → swapsWith e (some (.Name y py)) spos.line X.env = pure true →
    (∀ q H1, H q = none → Ex H H1 → H1 q = some (.lst xs) → BW X rest D (σ.set i (some (.ref q))) H1) → BW X (.Assign [.Name y py] e spos :: rest) D σ H
theorem lc_of {elt : Expr} {scope : Scope} {own : List (Str × Nat)} {wi : TI} {g : TG} {xs : List V} (hc : X.calm = true) (hN : X.N.Nodup) (hi : PI X tg iter wi) (ok : BlkOk X.N X.env.scope scope own)
    (hg : ∀ (s : Shared) (H : Hp) (C : Addr) (cl : List (Str × Addr)) (fp : List Addr), PG (X.blk s H scope (compEnvC scope cl C X.env) fp) tg g) (hs : ∀ x, foldedSetIterable iter X.env x = pure x)
    (h : EvL (tLc wi g tYes (EWb X scope elt) (own.map (·.2))) σ H xs) : LC X (.ListComp elt [⟨tg, iter, [], 0⟩] scope pos) σ H xs :=
  ⟨EL.of (pe_lc hc hN hi ok hg (fun _ _ _ _ _ => pts_nil) (fun _ _ _ _ _ => pe_selfb) hs) h, fun hy hl hw k =>
    BW.cons (ps_setLc hc hN hy hl hw hi ok hg (fun _ _ _ _ _ => pts_nil) (fun _ _ _ _ _ => pe_selfb) hs) (h H (Ex.refl H) _ k)⟩
theorem BW.asgC (i : Nat) {y : Str} {py spos : Pos} {xs : List V} (h : LC X e σ H xs) (k : ∀ q H1, H q = none → Ex H H1 → H1 q = some (.lst xs) → BW X rest D (σ.set i (some (.ref q))) H1) (hy : X.N[i]? = some y := by rfl) (hl : X.env.scope.names.lookup y = some .local := by rfl)
    (hw : swapsWith e (some (.Name y py)) spos.line X.env = pure true := by exact sw_true rfl rfl rfl (by decide +kernel)) : BW X (.Assign [.Name y py] e spos :: rest) D σ H := h.st hy hl hw k
theorem given_all (n : Nat) (v : Nat → V) : given n (fun _ => true) v = (List.range n).map v := by
  unfold given
  rw [List.filter_eq_self.mpr (fun _ _ => rfl)]
theorem ev_yes {H : Hp} {σ : L2.St} : EvT tYes σ H true := fun H1 _ _ q => q H1 (Ex.refl H1)
/-- [e for x in range(n)] -/
theorem LC.range {elt : Expr} {scope : Scope} {j : Nat} {n : Int} (v : Nat → V) (m : X.mg "range" = none) (hN : X.N.Nodup) (ok : BlkOk X.N X.env.scope scope [(x, j)]) (h : EV X a σ H (.int n)) (hn : 0 ≤ n ∧ n ≤ 40000)
    (he : ∀ (i : Nat) H1, Ex H H1 → (i : Int) < n → EVb X scope elt ((wipe σ [j]).set j (some (.int (i : Int)))) H1 (v i))
    (hw : ∀ z, wipe ((wipe σ [j]).set j (some z)) [j] = wipe σ [j] := by intro _; rfl)
    (hg : ∀ (s : Shared) (H : Hp) (C : Addr) (cl : List (Str × Addr)) (fp : List Addr), PG (X.blk s H scope (compEnvC scope cl C X.env) fp) (.Name x p) (gName j) := by exact fun _ _ _ _ _ => pg_name (i := _) (by assumption) rfl (Or.inl rfl)) (hgl : Gl X "range" := by rfl) (hst : noStar a = true := by rfl) (hc : X.calm = true := by rfl) :
    LC X (.ListComp elt [⟨.Name x p, .Call (.Name "range" pr) [a] [] p2, [], 0⟩] scope pos) σ H ((List.range n.toNat).map v) := by
  refine lc_of (own := [(x, j)]) hc hN (pi_range1 hgl m (pa_all (es := [a]) (by simp [hst])) (star_of hst [])) ok hg (fun _ => rfl) ?_
  rw [← given_all]
  exact el_lcR1 (fun _ => true) v (AV.one h).ev hn hw (fun i H1 e1 hi => ev_yes) (fun i H1 e1 hi _ => (he i H1 e1 hi).ev)
/-- [e for x in xs] -/
theorem LC.list {elt : Expr} {scope : Scope} {j : Nat} {q : Addr} {xs : List V} (v : Nat → V) (hN : X.N.Nodup) (ok : BlkOk X.N X.env.scope scope [(x, j)]) (h : EV X iter σ H (.ref q)) (hq : SqL X.K H q xs) (hz : xs.length ≤ 40000)
    (he : ∀ (i : Nat) (y : V) H1, Ex H H1 → xs[i]? = some y → EVb X scope elt ((wipe σ [j]).set j (some y)) H1 (v i))
    (hw : ∀ z, wipe ((wipe σ [j]).set j (some z)) [j] = wipe σ [j] := by intro _; rfl)
    (hg : ∀ (s : Shared) (H : Hp) (C : Addr) (cl : List (Str × Addr)) (fp : List Addr), PG (X.blk s H scope (compEnvC scope cl C X.env) fp) (.Name x p) (gName j) := by exact fun _ _ _ _ _ => pg_name (i := _) (by assumption) rfl (Or.inl rfl)) (hc : X.calm = true := by rfl) (hfs : ∀ x, foldedSetIterable iter X.env x = pure x := by intro _; rfl) :
    LC X (.ListComp elt [⟨.Name x p, iter, [], 0⟩] scope pos) σ H ((List.range xs.length).map v) := by
  refine lc_of (own := [(x, j)]) hc hN (pi_list pe_self) ok hg hfs ?_
  rw [← given_all]
  exact el_lcL (fun _ => true) v h.ev hq hz hw (fun i y H1 e1 hi => ev_yes) (fun i y H1 e1 hi _ => (he i y H1 e1 hi).ev)
theorem LC.listN {elt : Expr} {scope : Scope} {j : Nat} {xs : List V} (v : Nat → V) (hN : X.N.Nodup) (ok : BlkOk X.N X.env.scope scope [(x, j)]) (h : EL X iter σ H xs) (hz : xs.length ≤ 40000)
    (he : ∀ (i : Nat) (y : V) H1, Ex H H1 → xs[i]? = some y → EVb X scope elt ((wipe σ [j]).set j (some y)) H1 (v i))
    (hw : ∀ z, wipe ((wipe σ [j]).set j (some z)) [j] = wipe σ [j] := by intro _; rfl)
    (hg : ∀ (s : Shared) (H : Hp) (C : Addr) (cl : List (Str × Addr)) (fp : List Addr), PG (X.blk s H scope (compEnvC scope cl C X.env) fp) (.Name x p) (gName j) := by exact fun _ _ _ _ _ => pg_name (i := _) (by assumption) rfl (Or.inl rfl)) (hc : X.calm = true := by rfl) (hfs : ∀ x, foldedSetIterable iter X.env x = pure x := by intro _; rfl) :
    LC X (.ListComp elt [⟨.Name x p, iter, [], 0⟩] scope pos) σ H ((List.range xs.length).map v) := by
  refine lc_of (own := [(x, j)]) hc hN (pi_list pe_self) ok hg hfs ?_
  rw [← given_all]
  exact el_lcNL (fun _ => true) v h.ev hz hw (fun i y H1 e1 hi => ev_yes) (fun i y H1 e1 hi _ => (he i y H1 e1 hi).ev)
end
end QR

namespace QR
open PySem PySem.Spec PyProof.Rows L2 Evl
/-! ### how many different ones a list of ints has -/
def distinct (ns : List Int) : Nat := (PyProof.Rows.firstMet (fun i => ns.getD i 0) ns.length).length
theorem firstMet_mem (f : Nat → Int) (y : Int) : ∀ i, y ∈ PyProof.Rows.firstMet f i ↔ ∃ j, j < i ∧ f j = y
  | 0 => by
    constructor
    · intro h
      cases h
    · rintro ⟨j, hj, _⟩
      omega
  | i + 1 => by
    have ih := firstMet_mem f y i
    rw [PyProof.Rows.firstMet_succ]
    show y ∈ (if (PyProof.Rows.firstMet f i).any (· == f i) then PyProof.Rows.firstMet f i else PyProof.Rows.firstMet f i ++ [f i]) ↔ _
    by_cases hb : (PyProof.Rows.firstMet f i).any (· == f i) = true
    · rw [if_pos hb, ih]
      constructor
      · rintro ⟨j, hj, e⟩
        exact ⟨j, by omega, e⟩
      · rintro ⟨j, hj, e⟩
        by_cases hji : j < i
        · exact ⟨j, hji, e⟩
        · have : j = i := by omega
          subst this
          obtain ⟨z, hz, ez⟩ := List.any_eq_true.mp hb
          have ez2 : z = f j := eq_of_beq ez
          rw [ez2, e] at hz
          exact ih.mp hz
    · rw [if_neg hb, List.mem_append, ih, List.mem_singleton]
      constructor
      · rintro (⟨j, hj, e⟩ | e)
        · exact ⟨j, by omega, e⟩
        · exact ⟨i, by omega, e.symm⟩
      · rintro ⟨j, hj, e⟩
        by_cases hji : j < i
        · exact .inl ⟨j, hji, e⟩
        · have : j = i := by omega
          subst this
          exact .inr e.symm
theorem firstMet_len (f : Nat → Int) : ∀ i, (PyProof.Rows.firstMet f i).length ≤ i ∧ ((PyProof.Rows.firstMet f i).length = i ↔ ∀ j k, j < k → k < i → f j ≠ f k)
  | 0 => ⟨Nat.le_refl _, by
    constructor
    · intro _ j k _ hk
      omega
    · intro _
      rfl⟩
  | i + 1 => by
    obtain ⟨h1, h2⟩ := firstMet_len f i
    have hm := firstMet_mem f (f i) i
    rw [PyProof.Rows.firstMet_succ]
    show (if (PyProof.Rows.firstMet f i).any (· == f i) then PyProof.Rows.firstMet f i else PyProof.Rows.firstMet f i ++ [f i]).length ≤ i + 1 ∧ ((if (PyProof.Rows.firstMet f i).any (· == f i) then PyProof.Rows.firstMet f i else PyProof.Rows.firstMet f i ++ [f i]).length = i + 1 ↔ _)
    by_cases hb : (PyProof.Rows.firstMet f i).any (· == f i) = true
    · rw [if_pos hb]
      refine ⟨by omega, ⟨fun z => by omega, fun z => ?_⟩⟩
      obtain ⟨y, hy, ey⟩ := List.any_eq_true.mp hb
      have ey2 : y = f i := eq_of_beq ey
      rw [ey2] at hy
      obtain ⟨j, hj, e⟩ := hm.mp hy
      exact absurd e (z j i hj (by omega))
    · rw [if_neg hb, List.length_append]
      refine ⟨by simp; omega, ⟨fun z j k hjk hk e => ?_, fun z => ?_⟩⟩
      · have z1 : (PyProof.Rows.firstMet f i).length = i := by simpa using z
        by_cases hki : k < i
        · exact h2.mp z1 j k hjk hki e
        · have : k = i := by omega
          subst this
          exact hb (List.any_eq_true.mpr ⟨f k, hm.mpr ⟨j, hjk, e⟩, by simp⟩)
      · have := h2.mpr fun j k hjk hk => z j k hjk (by omega)
        simp [this]
theorem distinct_le (ns : List Int) : distinct ns ≤ ns.length := (firstMet_len _ _).1
theorem distinct_iff (ns : List Int) : distinct ns = ns.length ↔ ns.Nodup := by
  unfold distinct
  rw [(firstMet_len _ _).2]
  constructor
  · intro h
    rw [List.Nodup, List.pairwise_iff_getElem]
    intro i j hi hj hij e
    refine h i j hij hj ?_
    simp [List.getD_eq_getElem?_getD, List.getElem?_eq_getElem hi, List.getElem?_eq_getElem hj, e]
  · intro h j k hjk hk e
    have hj : j < ns.length := by omega
    have := List.pairwise_iff_getElem.mp h j k hj hk hjk
    refine this ?_
    simpa [List.getD_eq_getElem?_getD, List.getElem?_eq_getElem hj, List.getElem?_eq_getElem hk] using e
def tLenSetA (K : PySem.W.Frag) (ta : TE) : TE := fun σ H Q => ta σ H fun x H1 => ∃ (l : Addr) (ns : List Int), x = .ref l ∧ SqL K H1 l (ns.map V.int) ∧ ns.length ≤ 4000 ∧ Q (.int (distinct ns : Nat)) H1
theorem pe_lenSetA {X : Cx} {a : Expr} {ta : TE} {p p2 q pos : Pos} (hg : Gl X "len") (hm : X.mg "len" = none) (hg2 : Gl X "set") (hm2 : X.mg "set" = none) (ha : PE X a ta) (hc : X.calm = true)
    (na : starEach [a] X.env = (false, eval a X.env) :: starEach [] X.env) : PE X (.Call (.Name "len" p) [.Call (.Name "set" p2) [a] [] q] [] pos) (tLenSetA X.K ta) := by
  refine ⟨fun pins s σ H Q I h => ?_⟩
  refine Call_ (ld_blt I hg hm boot_len ?_)
  refine PyProof.Rows.callWith_builtin1 (PyProof.Rows.args_cons ?_ rfl) rfl rfl
  refine Call_ (ld_blt I hg2 hm2 boot_set ?_)
  refine PyProof.Rows.callWith_type1 (PyProof.Rows.args_cons (thn (ha.run pins s σ H _ I h) fun v s1 ⟨x, H1, I1, r1, q1⟩ => PyProof.Rows.args_nil ?_) na) na rfl
  obtain ⟨l, ns, rfl, hq, hl, q1⟩ := q1
  cases r1
  obtain ⟨its, r, pl, hz⟩ := I1.list hq
  have hlen : its.toArray.size = ns.length := by rw [List.size_toArray, ← r.length, List.length_map]
  refine call_set_list (I1.ok.hd hc) pl.isList (by simpa using RZ.intsAre_vals r) (by rw [hlen]; unfold scanBound; omega) fun h' tk hS hk => ?_
  refine PyProof.Rows.args_nil ?_
  rw [hlen] at hS
  obtain ⟨o, es, ep, t, ho, hex, hd, _, _, _, hf, hn⟩ := hS
  have I2 : Inv X pins σ H1 { s1 with heap := h', toks := tk } := I1.kept fun b o e => hk b o (Heap.lt_size e) e
  have hdl := distinct_le ns
  unfold distinct at hdl
  exact call_len_set ho hex hd hf (by rw [hn] <;> omega) ⟨.int (distinct ns : Nat), H1, I2.tok _, ⟨_, by rw [hn]; rfl⟩, q1⟩
section
variable {X : Cx} {e a b c o : Expr} {es : List Expr} {st : Stmt} {body rest : List Stmt} {σ : L2.St} {H : Hp} {D : Ends} {Q : VK} {v x y z : V} {pos p p2 q2 pr : Pos} {vs xs : List V} {f m : Str}
theorem EV.lenSet {q : Addr} {ns : List Int} (mL : X.mg "len" = none) (mS : X.mg "set" = none) (h : EV X a σ H (.ref q)) (hq : SqL X.K H q (ns.map V.int)) (hl : ns.length ≤ 4000) (hg : Gl X "len" := by rfl) (hg2 : Gl X "set" := by rfl) (hc : X.calm = true := by rfl) (hs : noStar a = true := by rfl) :
    EV X (.Call (.Name "len" p) [.Call (.Name "set" p2) [a] [] q2] [] pos) σ H (.int (distinct ns : Nat)) :=
  EV.of (pe_lenSetA hg mL hg2 mS pe_self hc (star_of hs [])) fun H1 e1 Q k => h.ev H1 e1 _ fun H2 e2 => ⟨q, ns, rfl, ex_l (e1.trans e2) hq, hl, k H2 e2⟩
/-! ### enumerate -/
theorem el_lcE {K : PySem.W.Frag} {ta : TA} {te : TE} {q : Addr} {j1 j2 : Nat} {ws : List Nat} (v : Nat → V) (h : EvA ta σ H [.ref q]) (hx : SqL K H q xs) (hz : xs.length ≤ 40000)
    (hw : ∀ x y, wipe (((wipe σ ws).set j1 (some x)).set j2 (some y)) ws = wipe σ ws)
    (he : ∀ (i : Nat) (y : V) H1, Ex H H1 → xs[i]? = some y → Ev te (((wipe σ ws).set j1 (some (.int (i : Nat)))).set j2 (some y)) H1 (v i)) :
    EvL (tLc (iEnum K ta) (gTup K 2 (gCons (gName j1) (gCons (gName j2) gNil))) tYes te ws) σ H ((List.range xs.length).map v) := fun H0 e Q k => h H0 e _ fun H1 e1 => by
  refine ⟨q, xs, rfl, ex_l (e.trans e1) hx, fun Dl hD => ?_⟩
  rw [← given_all] at k
  refine ⟨fun i m H' => m = xs.length - i ∧ i ≤ xs.length ∧ Cw H1 (fun _ => true) v Dl i H', ⟨xs.length, by simp, Nat.zero_le _, hD, Ex.new hD, upd_same⟩, ?_⟩
  rintro i m H' ⟨rfl, hi, cw⟩
  have hq' := ex_l ((e.trans e1).trans cw.2.1) hx
  by_cases hlt : i < xs.length
  · refine .inr ⟨⟨xs, xs[i], hq', by simp [hlt]⟩, Cw H1 (fun _ => true) v Dl (i + 1), fun H2 c2 => ⟨xs.length - (i + 1), by omega, rfl, hlt, c2⟩, ?_⟩
    rintro x H2 ⟨T, y, rfl, nT, rfl, fy⟩
    have hy := fy xs hq'
    have cw2 : Cw H1 (fun _ => true) v Dl i (upd H' T (.tup [.int (i : Nat), y])) := by
      refine ⟨cw.1, cw.2.1.trans (Ex.new nT), ?_⟩
      rw [upd_ne (ne_of_none cw.2.2 nT)]
      exact cw.2.2
    refine ⟨T, [.int (i : Nat), y], rfl, .inl (.inl upd_same), rfl, .int (i : Nat), [y], rfl, y, [], rfl, rfl, hw _ _, ?_⟩
    exact cw_turn cw2 (by omega) ev_yes (fun _ => he i y H1 (e.trans e1) hy)
  · have : i = xs.length := by omega
    subst this
    exact .inl ⟨⟨xs, hq', Nat.le_refl _⟩, k Dl H' (fresh_back e1 cw.1) (e1.trans cw.2.1) cw.2.2⟩
/-- [e for r, p in enumerate(xs)] -/
theorem LC.enum {elt : Expr} {scope : Scope} {n1 n2 : Str} {j1 j2 : Nat} {q : Addr} {px py pt : Pos} {kt : Nat} (v : Nat → V) (mE : X.mg "enumerate" = none) (hN : X.N.Nodup) (ok : BlkOk X.N X.env.scope scope [(n1, j1), (n2, j2)]) (h : EV X a σ H (.ref q)) (hq : SqL X.K H q xs) (hz : xs.length ≤ 40000)
    (he : ∀ (i : Nat) (y : V) H1, Ex H H1 → xs[i]? = some y → EVb X scope elt (((wipe σ [j1, j2]).set j1 (some (.int (i : Nat)))).set j2 (some y)) H1 (v i))
    (hw : ∀ x y, wipe (((wipe σ [j1, j2]).set j1 (some x)).set j2 (some y)) [j1, j2] = wipe σ [j1, j2] := by intro _ _; rfl)
    (hg : ∀ (s : Shared) (H : Hp) (C : Addr) (cl : List (Str × Addr)) (fp : List Addr), PG (X.blk s H scope (compEnvC scope cl C X.env) fp) (.Tuple [.Name n1 px, .Name n2 py] kt pt) (gTup X.K 2 (gCons (gName j1) (gCons (gName j2) gNil))) := by
      exact fun _ _ _ _ _ => pg_tup rfl (pgs_cons (pg_name (i := _) (by assumption) rfl (Or.inl rfl)) (pgs_cons (pg_name (i := _) (by assumption) rfl (Or.inl rfl)) pgs_nil)))
    (hgl : Gl X "enumerate" := by rfl) (hst : noStar a = true := by rfl) (hc : X.calm = true := by rfl) :
    LC X (.ListComp elt [⟨.Tuple [.Name n1 px, .Name n2 py] kt pt, .Call (.Name "enumerate" pr) [a] [] p2, [], 0⟩] scope pos) σ H ((List.range xs.length).map v) :=
  lc_of (own := [(n1, j1), (n2, j2)]) hc hN (pi_enum hgl mE (pa_all (es := [a]) (by simp [hst])) (star_of hst [])) ok hg (fun _ => rfl) (el_lcE v (AV.one h).ev hq hz hw fun i y H1 e1 hi => (he i y H1 e1 hi).ev)
theorem s_forE {K : PySem.W.Frag} {ta : TA} {tu : TS} {q : Addr} {j1 j2 : Nat} (h : EvA ta σ H [.ref q]) (hx : SqL K H q xs) (Pv : Nat → L2.St → Hp → Prop) (h0 : ∀ H1, Ex H H1 → Pv 0 σ H1) (hl : ∀ i σ' H', i ≤ xs.length → Pv i σ' H' → SqL K H' q xs)
    (hs : ∀ (i : Nat) (y : V) σ' H' H2, xs[i]? = some y → Pv i σ' H' → Ex H' H2 → (∀ b, H2 b = none → H' b = none) → tu { D with nx := Pv (i + 1), ct := Pv (i + 1), bk := D.nx } ((σ'.set j1 (some (.int (i : Nat)))).set j2 (some y)) H2) (hd : ∀ σ' H', Pv xs.length σ' H' → D.nx σ' H') :
    tFor (iEnum K ta) (gTup K 2 (gCons (gName j1) (gCons (gName j2) gNil))) tu D σ H := h H (Ex.refl H) _ fun H1 e => by
  refine ⟨q, xs, rfl, ex_l e hx, fun i m σ' H' => m = xs.length - i ∧ i ≤ xs.length ∧ Pv i σ' H', ⟨xs.length, by simp, Nat.zero_le _, h0 H1 e⟩, ?_⟩
  rintro i m σ' H' ⟨rfl, hi, pv⟩
  have hq' := hl i σ' H' hi pv
  by_cases hlt : i < xs.length
  · refine .inr ⟨⟨xs, xs[i], hq', by simp [hlt]⟩, Pv (i + 1), fun σ2 H2 p2 => ⟨xs.length - (i + 1), by omega, rfl, hlt, p2⟩, ?_⟩
    rintro x H2 ⟨T, y, rfl, nT, rfl, fy⟩
    refine ⟨T, [.int (i : Nat), y], rfl, .inl (.inl upd_same), rfl, .int (i : Nat), [y], rfl, y, [], rfl, rfl, ?_⟩
    refine hs i y σ' H' _ (fy xs hq') pv (Ex.new nT) fun b hb => ?_
    by_cases hbT : b = T
    · rw [hbT]
      exact nT
    · rw [upd_ne hbT] at hb
      exact hb
  · have : i = xs.length := by omega
    subst this
    exact .inl ⟨⟨xs, hq', Nat.le_refl _⟩, hd σ' H' pv⟩
/-- for i, x in enumerate(xs) -/
theorem BW.forE (j1 j2 : Nat) {q : Addr} {n1 n2 : Str} {px py pt : Pos} {kt : Nat} (mE : X.mg "enumerate" = none) (hN : X.N.Nodup) (h : EV X a σ H (.ref q)) (hq : SqL X.K H q xs) (Pv : Nat → L2.St → Hp → Prop) (h0 : ∀ H1, Ex H H1 → Pv 0 σ H1) (hl : ∀ i σ' H', i ≤ xs.length → Pv i σ' H' → SqL X.K H' q xs)
    (hs : ∀ (i : Nat) (y : V) σ' H' H2, xs[i]? = some y → Pv i σ' H' → Ex H' H2 → (∀ b, H2 b = none → H' b = none) → BW X body (Ends.turn X rest D (Pv (i + 1))) ((σ'.set j1 (some (.int (i : Nat)))).set j2 (some y)) H2) (hd : ∀ σ' H', Pv xs.length σ' H' → BW X rest D σ' H')
    (hj1 : X.N[j1]? = some n1 := by rfl) (hx1 : Loc X.env.scope n1 := by first | exact Or.inl rfl | exact Or.inr rfl) (hf1 : X.fn n1 = true ∨ X.env.scope.names.lookup n1 = some .local := by first | exact .inl rfl | exact .inr rfl)
    (hj2 : X.N[j2]? = some n2 := by rfl) (hx2 : Loc X.env.scope n2 := by first | exact Or.inl rfl | exact Or.inr rfl) (hf2 : X.fn n2 = true ∨ X.env.scope.names.lookup n2 = some .local := by first | exact .inl rfl | exact .inr rfl)
    (hg : Gl X "enumerate" := by rfl) (hst : noStar a = true := by rfl) (hc : X.calm = true := by rfl)
    (hp : PassesOwn (model X.prog X.w) X.A X.env X.xe := by first | exact PassesOwn.never | exact passes_of rfl) : BW X (.For (.Tuple [.Name n1 px, .Name n2 py] kt pt) (.Call (.Name "enumerate" pr) [a] [] p2) body [] pos :: rest) D σ H :=
  BW.cons (ps_for hp hc (pi_enum hg mE (pa_all (es := [a]) (by simp [hst])) (star_of hst [])) (pg_tup hc (pgs_cons (pg_name (i := j1) hN hj1 hx1 hf1) (pgs_cons (pg_name (i := j2) hN hj2 hx2 hf2) pgs_nil))) pss_self) (s_forE (AV.one h).ev hq Pv h0 hl hs hd)
/-! ### objects -/
theorem EV.fld {ob C dx : Addr} {fs : List (Str × V)} (h : EV X e σ H (.ref ob)) (ho : H ob = some (.ins C dx fs)) (cl : Cls X.K C) (na : NoAttr X.K C f) (hl : fs.lookup f = some v) (hb : attributeBase e f X.env (eval e X.env) = eval e X.env := by rfl) : EV X (.Attribute e f pos) σ H v :=
  EV.of (pe_fld pe_self hb) fun H1 e1 Q k => h.ev H1 e1 _ fun H2 e2 => ⟨ob, C, dx, fs, v, rfl, e2 _ _ (e1 _ _ ho), cl, na, hl, k H2 e2⟩
/-- a method of the class at C keeps the promise -/
structure Mc (P : Program) (w : World) (K : PySem.W.Frag) (mg : Str → Option Value) (base : Heap) (k : Nat) (C : Addr) (m : Str) (sp : Sp) : Prop where
  ex : ∃ (f : Addr) (fd : FuncData) (ps : List Str), Cls K C ∧ Meth K C m f ∧ FnOk P w K mg base (L2.CX P w) k f fd ps sp ∧ Binds K fd ps []
theorem EV.meth {apos : Pos} {C ob dx : Addr} {fs : List (Str × V)} {sp : Sp} {k j : Nat} {pl : Sem Bool} (M : Mc X.prog X.w X.K X.mg X.base k C m sp) (hr : Room j X.A) (h : EV X o σ H (.ref ob)) (ho : H ob = some (.ins C dx fs)) (hl : fs.lookup m = none) (ha : AV X (e :: es) σ H vs) (hv : SpV sp (.ref ob :: vs) H z)
    (hk : k ≤ j := by decide) (hs : (e :: es).all noStar = true := by rfl)
    (ht : eval (.Call (.Attribute o m apos) (e :: es) [] pos) X.env = (do
      let ov ← eval o X.env
      standAt apos.atName
      let (f, first) ← holding [ov] (getMethod ov m pl)
      callWith pos f first (backTo pos (starEach (e :: es) X.env)) (backToKw pos (keywordEach [] X.env))) := by rfl) : EV X (.Call (.Attribute o m apos) (e :: es) [] pos) σ H z := by
  obtain ⟨f, fd, ps, cl, me, F, bn⟩ := M.ex
  refine EV.of (pe_meth (pl := pl) pe_self cl me F (hr.mono hk) bn .nil passL (pa_all hs) (star_of (List.all_eq_true.mp hs e List.mem_cons_self) es) (back_any es (List.all_eq_true.mpr fun e' he => List.all_eq_true.mp hs e' (List.mem_cons_of_mem _ he))) ht) fun H1 e1 Q kq => ?_
  refine h.ev H1 e1 _ fun H2 e2 => ⟨ob, dx, fs, rfl, e2 _ _ (e1 _ _ ho), hl, ?_⟩
  refine ha.ev H2 (e1.trans e2) _ fun H3 e3 => ?_
  rw [List.append_nil]
  exact hv H3 ((e1.trans e2).trans e3) Q (fun H4 e4 => kq H4 ((e2.trans e3).trans e4)) _
/-- a new instance of C with these fields -/
def EvI (te : TE) (σ : L2.St) (H : Hp) (C : Addr) (fs : List (Str × V)) : Prop := ∀ H1, Ex H H1 → ∀ Q : VK, (∀ q dx H2, H1 q = none → Ex H1 H2 → H2 q = some (.ins C dx fs) → Q (.ref q) H2) → te σ H1 Q
structure EI (X : Cx) (e : Expr) (σ : L2.St) (H : Hp) (C : Addr) (fs : List (Str × V)) : Prop where
  ev : EvI (EW X e) σ H C fs
theorem EI.go {C : Addr} {fs : List (Str × V)} (h : EI X e σ H C fs) (k : ∀ q dx H1, H q = none → Ex H H1 → H1 q = some (.ins C dx fs) → Q (.ref q) H1) : EW X e σ H Q := h.ev H (Ex.refl H) Q k
/-- the class of that name, at C, made by an __init__ that keeps the promise -/
structure Kc (P : Program) (w : World) (K : PySem.W.Frag) (mg : Str → Option Value) (base : Heap) (k : Nat) (x : Str) (C : Addr) (sp : Sp) : Prop where
  ex : ∃ (f : Addr) (fd : FuncData) (ps : List Str), Mk K C f ∧ FnOk P w K mg base (L2.CX P w) k f fd ps sp ∧ mg x = some (.ref C) ∧ Binds K fd ps []
/-- __init__ that sets the fields fs of the new instance -/
def spInit (C : Addr) (names : List Str) : Sp := fun vs H Q _ => ∃ (q dx : Addr) (us : List V), vs = .ref q :: us ∧ us.length = names.length ∧ H q = some (.ins C dx []) ∧
  ∀ H2, (∀ b u, b ≠ q → H b = some u → H2 b = some u) → H2 q = some (.ins C dx (names.zip us)) → Q .non H2
theorem EI.make {x : Str} {C : Addr} {names : List Str} {k j : Nat} (M : Kc X.prog X.w X.K X.mg X.base k x C (spInit C names)) (hr : Room j X.A) (ha : AV X (e :: es) σ H vs) (hl : vs.length = names.length := by rfl) (hk : k + 1 ≤ j := by decide) (hg : Gl X x := by rfl) (hs : (e :: es).all noStar = true := by rfl) (hdb : (x == ("__debug__" : Str)) = false := by decide) :
    EI X (.Call (.Name x p) (e :: es) [] pos) σ H C (names.zip vs) := by
  obtain ⟨f, fd, ps, mk, F, hm, bn⟩ := M.ex
  refine ⟨fun H1 e1 Q q => EW.of (pe_make mk F (hr.mono hk) hg hm bn .nil passL (pa_all hs) hdb (star_of (List.all_eq_true.mp hs e List.mem_cons_self) es) (back_any es (List.all_eq_true.mpr fun e' he => List.all_eq_true.mp hs e' (List.mem_cons_of_mem _ he)))) ?_⟩
  refine ha.ev H1 e1 _ fun H2 e2 => ?_
  intro x dx nx ndx nex
  rw [List.append_nil]
  refine ⟨x, dx, vs, rfl, hl, upd_same, fun H3 keep h3 => ⟨rfl, ?_⟩⟩
  refine q x dx H3 (fresh_back e2 nx) (fun b u hb => ?_) h3
  have hb2 := e2 _ _ hb
  have n1 : b ≠ x := ne_of_none hb2 nx
  refine keep b u n1 ?_
  rw [upd_ne n1, upd_ne (ne_of_none hb2 ndx)]
  exact hb2
/-- self.f = e -/
theorem BW.setF {ob C dx : Addr} {fs : List (Str × V)} {apos : Pos} (hv : EV X e σ H v) (h : EV X o σ H (.ref ob)) (ho : H ob = some (.ins C dx fs)) (cl : Cls X.K C) (na : NoAttr X.K C f) (hl : fs.length < 1000) (k : ∀ H1, Ex H H1 → BW X rest D σ (upd H1 ob (.ins C dx (putF f v fs))))
    (hs : swapsWith e (some (.Attribute o f apos)) pos.line X.env = pure false := by rfl) : BW X (.Assign [.Attribute o f apos] e pos :: rest) D σ H :=
  BW.cons (ps_fld pe_self pe_self hs) (hv.ev H (Ex.refl H) _ fun H1 e1 => h.ev H1 e1 _ fun H2 e2 => ⟨ob, C, dx, fs, rfl, e2 _ _ (e1 _ _ ho), cl, na, hl, k H2 (e1.trans e2)⟩)
/-- x = C(..); return C(..) -/
theorem BW.asgI {n : Str} (i : Nat) {C : Addr} {fs : List (Str × V)} (hN : X.N.Nodup) (h : EI X e σ H C fs) (k : ∀ q dx H1, H q = none → Ex H H1 → H1 q = some (.ins C dx fs) → BW X rest D (σ.set i (some (.ref q))) H1) (hi : X.N[i]? = some n := by rfl) (hx : Loc X.env.scope n := by first | exact Or.inl rfl | exact Or.inr rfl) (hs : swapsWith e (some (.Name n p)) pos.line X.env = pure false := by rfl) (hf : X.fn n = true ∨ X.env.scope.names.lookup n = some .local := by first | exact .inl rfl | exact .inr rfl) : BW X (.Assign [.Name n p] e pos :: rest) D σ H :=
  BW.asgW hN hi hx (h.go k) hs hf
theorem BW.retI {C : Addr} {fs : List (Str × V)} (h : EI X e σ H C fs) (k : ∀ q dx H1, H q = none → Ex H H1 → H1 q = some (.ins C dx fs) → D.rt (.ref q) H1) : BW X (.Return (some e) pos :: rest) D σ H := BW.retW (h.go k)
/-- a call that hands back a new instance -/
def SpI (sp : Sp) (vs : List V) (H : Hp) (C : Addr) (fs : List (Str × V)) : Prop := ∀ H1, Ex H H1 → ∀ Q : VK, (∀ q dx H2, H1 q = none → Ex H1 H2 → H2 q = some (.ins C dx fs) → Q (.ref q) H2) → ∀ E : XK, sp vs H1 Q E
theorem EI.call {x : Str} {C : Addr} {fs : List (Str × V)} {sp : Sp} {k j : Nat} (Cc : Fc X.prog X.w X.K X.mg X.base k x sp) (hr : Room j X.A) (ha : AV X (e :: es) σ H vs) (hv : SpI sp vs H C fs) (hk : k ≤ j := by decide) (hg : Gl X x := by rfl) (hs : (e :: es).all noStar = true := by rfl) (hdb : (x == ("__debug__" : Str)) = false := by decide) :
    EI X (.Call (.Name x p) (e :: es) [] pos) σ H C fs := ⟨fun H1 e1 Q q => EW.of (pe_fc Cc hr hk passL hg hs hdb) (ha.ev H1 e1 _ fun H2 e2 => by
      rw [List.append_nil]
      exact hv H2 (e1.trans e2) Q (fun r dx H3 nr e3 h3 => q r dx H3 (fresh_back e2 nr) (e2.trans e3) h3) _)⟩
/-- what a class of the program has: its instances are told by isinstance -/
structure Ci (K : PySem.W.Frag) (mg : Str → Option Value) (x : Str) (C : Addr) : Prop where
  cl : Cls K C
  mg : mg x = some (.ref C)
  ha : PySem.W.findIn K (.ref C) "__class__" = some (some (.builtin "object.__class__"))
  hn : PySem.W.specialIn K (.builtin "object.__class__") "__get__" = some (some (.builtin "getset_descriptor.__get__"))
  htk : PySem.W.takesIn K (.builtin "object.__class__") = some true
  hm : PySem.W.mroIn K C (.type "object") = some true
theorem Ci.ty {K : PySem.W.Frag} {mg : Str → Option Value} {x : Str} {C q dx : Addr} {fs : List (Str × V)} (c : Ci K mg x C) (h : H q = some (.ins C dx fs)) : TyX K H (.ref q) (.ref C) := .base (.ins h c.cl c.ha c.hn c.htk c.hm)
/-- isinstance(e, D), D a class of the program; e an instance of C -/
theorem EV.isC {x : Str} {C Dc q dx : Addr} {fs : List (Str × V)} {k : Bool} {pf : Pos} {n : Str} (mI : X.mg "isinstance" = none) (c : Ci X.K X.mg n C) (hD : X.mg x = some (.ref Dc)) (ha : EV X a σ H (.ref q)) (hq : H q = some (.ins C dx fs)) (hk : PySem.W.kitOne X.K (.ref C) (.ref Dc) = some k) (hg : Gl X "isinstance" := by rfl) (hgD : Gl X x := by rfl) (hs : [a, .Name x pf].all noStar = true := by rfl) (hd : (x == ("__debug__" : Str)) = false := by decide) :
    EV X (.Call (.Name "isinstance" p) [a, .Name x pf] [] pos) σ H (.bl k) := EV.isi mI ha (EV.glob hD hgD hd) (.own Dc) (c.ty hq) hk hg hs
/-! ### a comprehension over a tuple made on the way -/
theorem el_lcNU {K : PySem.W.Frag} {tl te : TE} {j : Nat} {ws : List Nat} (v : Nat → V) (h : EvU tl σ H xs) (hz : xs.length ≤ 40000) (hw : ∀ x, wipe ((wipe σ ws).set j (some x)) ws = wipe σ ws)
    (he : ∀ (i : Nat) (y : V) H1, Ex H H1 → xs[i]? = some y → Ev te ((wipe σ ws).set j (some y)) H1 (v i)) : EvL (tLc (iTup K tl) (gName j) tYes te ws) σ H ((List.range xs.length).map v) := fun H0 e Q q => h H0 e _ fun r H1 hr e1 hx => by
  rw [← given_all] at q
  exact ⟨r, rfl, ⟨xs, st_of hx⟩, fun Dl hD => lc_tup (xs := xs) (Cw H1 (fun _ => true) v Dl) ⟨hD, Ex.new hD, upd_same⟩ (fun i H' _ p => st_of (p.2.1 r _ hx))
    (fun i y H' hi p => ⟨hw y, cw_turn p (by have := (List.getElem?_eq_some_iff.mp hi).1; omega) ev_yes (fun _ => he i y H1 (e.trans e1) hi)⟩)
    (fun H' p => q Dl H' (fresh_back e1 p.1) (e1.trans p.2.1) p.2.2)⟩
theorem LC.tupN {elt iter : Expr} {scope : Scope} {n : Str} {j : Nat} (v : Nat → V) (hN : X.N.Nodup) (ok : BlkOk X.N X.env.scope scope [(n, j)]) (h : EU X iter σ H xs) (hz : xs.length ≤ 40000)
    (he : ∀ (i : Nat) (y : V) H1, Ex H H1 → xs[i]? = some y → EVb X scope elt ((wipe σ [j]).set j (some y)) H1 (v i))
    (hw : ∀ z, wipe ((wipe σ [j]).set j (some z)) [j] = wipe σ [j] := by intro _; rfl)
    (hg : ∀ (s : Shared) (H : Hp) (C : Addr) (cl : List (Str × Addr)) (fp : List Addr), PG (X.blk s H scope (compEnvC scope cl C X.env) fp) (.Name n p) (gName j) := by exact fun _ _ _ _ _ => pg_name (i := _) (by assumption) rfl (Or.inl rfl)) (hc : X.calm = true := by rfl) (hfs : ∀ x, foldedSetIterable iter X.env x = pure x := by intro _; rfl) :
    LC X (.ListComp elt [⟨.Name n p, iter, [], 0⟩] scope pos) σ H ((List.range xs.length).map v) :=
  lc_of (own := [(n, j)]) hc hN (pi_tup pe_self) ok hg hfs (el_lcNU v h.ev hz hw fun i y H1 e1 hi => (he i y H1 e1 hi).ev)
end
end QR

namespace QR
open PySem PySem.Spec PyProof.Rows L2 Evl
/-! ### data: what == sees -/
mutual
theorem Dp.ex {K : PySem.W.Frag} {H H' : Hp} (e : Ex H H') : ∀ {v : V} {d : PyData}, Dp K H v d → Dp K H' v d
  | _, _, .non => .non
  | _, _, .bl b => .bl b
  | _, _, .int i => .int i
  | _, _, .str x => .str x
  | _, _, .lst h a => .lst (ex_l e h) (DpAll.ex e a)
  | _, _, .tup h a => .tup (ex_t e h) (DpAll.ex e a)
theorem DpAll.ex {K : PySem.W.Frag} {H H' : Hp} (e : Ex H H') : ∀ {vs : List V} {ds : List PyData}, DpAll K H vs ds → DpAll K H' vs ds
  | _, _, .nil => .nil
  | _, _, .cons a b => .cons (Dp.ex e a) (DpAll.ex e b)
end
theorem dp_ints {K : PySem.W.Frag} {H : Hp} : ∀ ns : List Int, DpAll K H (ns.map V.int) (ns.map PyData.int)
  | [] => .nil
  | n :: ns => .cons (.int n) (dp_ints ns)
theorem dp_bls {K : PySem.W.Frag} {H : Hp} : ∀ ns : List Bool, DpAll K H (ns.map V.bl) (ns.map PyData.bool)
  | [] => .nil
  | n :: ns => .cons (.bl n) (dp_bls ns)
/-- a list of whole numbers, of truths, as data -/
abbrev dI (ns : List Int) : PyData := .list (ns.map PyData.int)
abbrev dB (ns : List Bool) : PyData := .list (ns.map PyData.bool)
theorem eqvA_ints : ∀ ns ms : List Int, PyData.eqvAll (ns.map PyData.int) (ms.map PyData.int) = decide (ns = ms)
  | [], [] => by simp [PyData.eqvAll]
  | [], _ :: _ => by simp [PyData.eqvAll]
  | _ :: _, [] => by simp [PyData.eqvAll]
  | n :: ns, m :: ms => by
    simp only [List.map_cons, PyData.eqvAll, PyData.eqv, eqvA_ints ns ms, List.cons.injEq, Bool.beq_eq_decide_eq, Bool.decide_and]
theorem eqvA_bls : ∀ ns ms : List Bool, PyData.eqvAll (ns.map PyData.bool) (ms.map PyData.bool) = decide (ns = ms)
  | [], [] => by simp [PyData.eqvAll]
  | [], _ :: _ => by simp [PyData.eqvAll]
  | _ :: _, [] => by simp [PyData.eqvAll]
  | n :: ns, m :: ms => by
    simp only [List.map_cons, PyData.eqvAll, PyData.eqv, eqvA_bls ns ms, List.cons.injEq, Bool.beq_eq_decide_eq, Bool.decide_and]
theorem eqv_ints (ns ms : List Int) : PyData.eqv (dI ns) (dI ms) = decide (ns = ms) := by
  simp only [PyData.eqv, eqvA_ints]
theorem eqv_bls (ns ms : List Bool) : PyData.eqv (dB ns) (dB ms) = decide (ns = ms) := by
  simp only [PyData.eqv, eqvA_bls]
theorem lay_ints : ∀ ns : List Int, PyData.canLayAll0 (ns.map PyData.int) = true
  | [] => rfl
  | n :: ns => by simp [PyData.canLayAll0, PyData.canLay0, lay_ints ns]
theorem lay_bls : ∀ ns : List Bool, PyData.canLayAll0 (ns.map PyData.bool) = true
  | [] => rfl
  | n :: ns => by simp [PyData.canLayAll0, PyData.canLay0, lay_bls ns]
theorem dep_ints : ∀ ns : List Int, PyData.depthAll (ns.map PyData.int) = 0
  | [] => rfl
  | n :: ns => by simp [PyData.depthAll, PyData.depth, dep_ints ns]
theorem dep_bls : ∀ ns : List Bool, PyData.depthAll (ns.map PyData.bool) = 0
  | [] => rfl
  | n :: ns => by simp [PyData.depthAll, PyData.depth, dep_bls ns]
theorem shaped_ints (ns : List Int) : SeqAt.shaped (dI ns) = true := by
  simp [SeqAt.shaped, PyData.canLay0, PyData.depth, lay_ints, dep_ints]
theorem shaped_bls (ns : List Bool) : SeqAt.shaped (dB ns) = true := by
  simp [SeqAt.shaped, PyData.canLay0, PyData.depth, lay_bls, dep_bls]
section
variable {X : Cx} {e a b c o tg iter : Expr} {es : List Expr} {st : Stmt} {body rest : List Stmt} {σ : L2.St} {H : Hp} {D : Ends} {Q : VK} {v x y z : V} {pos p p2 q2 pr : Pos} {vs xs : List V} {f m : Str}
/-! ### a list, new or not -/
structure ES (X : Cx) (e : Expr) (σ : L2.St) (H : Hp) (xs : List V) : Prop where
  ev : ∀ H1, Ex H H1 → ∀ Q : VK, (∀ p H2, Ex H1 H2 → SqL X.K H2 p xs → Q (.ref p) H2) → EW X e σ H1 Q
theorem ES.new (h : EL X e σ H xs) : ES X e σ H xs := ⟨fun H1 e1 Q q => h.ev H1 e1 Q fun p H2 _ e2 h2 => q p H2 e2 (sq_of h2)⟩
theorem ES.old {q : Addr} (h : EV X e σ H (.ref q)) (hq : SqL X.K H q xs) : ES X e σ H xs := ⟨fun H1 e1 Q k => h.ev H1 e1 Q fun H2 e2 => k q H2 e2 (ex_l (e1.trans e2) hq)⟩
theorem ES.is {ys : List V} (h : ES X e σ H xs) (q : xs = ys) : ES X e σ H ys := q ▸ h
theorem ES.mono {H' : Hp} (h : ES X e σ H xs) (e1 : Ex H H') : ES X e σ H' xs := ⟨fun H1 e2 Q q => h.ev H1 (e1.trans e2) Q q⟩
/-! ### data -/
structure ED (X : Cx) (e : Expr) (σ : L2.St) (H : Hp) (d : PyData) : Prop where
  ev : ∀ H1, Ex H H1 → ∀ Q : VK, (∀ v H2, Ex H1 H2 → Dp X.K H2 v d → Q v H2) → EW X e σ H1 Q
theorem ED.val {d : PyData} (h : EV X e σ H v) (hd : Dp X.K H v d) : ED X e σ H d := ⟨fun H1 e1 Q q => h.ev H1 e1 Q fun H2 e2 => q v H2 e2 (Dp.ex (e1.trans e2) hd)⟩
theorem ED.int {i : Int} (h : EV X e σ H (.int i)) : ED X e σ H (.int i) := ED.val h (.int i)
theorem ED.ints {ns : List Int} (h : ES X e σ H (ns.map V.int)) : ED X e σ H (dI ns) := ⟨fun H1 e1 Q q => h.ev H1 e1 Q fun p H2 e2 h2 => q _ H2 e2 (.lst h2 (dp_ints ns))⟩
theorem ED.bls {ns : List Bool} (h : ES X e σ H (ns.map V.bl)) : ED X e σ H (dB ns) := ⟨fun H1 e1 Q q => h.ev H1 e1 Q fun p H2 e2 h2 => q _ H2 e2 (.lst h2 (dp_bls ns))⟩
theorem EV.eqD {d d' : PyData} {k : Nat} (hr : Room k X.A) (ha : ED X a σ H d) (hb : ED X b σ H d') (s1 : SeqAt.shaped d = true) (s2 : SeqAt.shaped d' = true) : EV X (.Compare a [.Eq] [b] pos) σ H (.bl (PyData.eqv d d')) :=
  EV.of (pe_cmpR (op_eqD hr.units) pe_self pe_self (nomark _)) fun H1 e1 Q q => ha.ev H1 e1 _ fun v H2 e2 dv => hb.ev H2 (e1.trans e2) _ fun w H3 e3 dw => ⟨d, d', Dp.ex e3 dv, dw, s1, s2, q H3 (e2.trans e3)⟩
theorem EV.neD {d d' : PyData} {k : Nat} (hr : Room k X.A) (ha : ED X a σ H d) (hb : ED X b σ H d') (s1 : SeqAt.shaped d = true) (s2 : SeqAt.shaped d' = true) : EV X (.Compare a [.NotEq] [b] pos) σ H (.bl (!PyData.eqv d d')) :=
  EV.of (pe_cmpR (op_neD hr.units) pe_self pe_self (nomark _)) fun H1 e1 Q q => ha.ev H1 e1 _ fun v H2 e2 dv => hb.ev H2 (e1.trans e2) _ fun w H3 e3 dw => ⟨d, d', Dp.ex e3 dv, dw, s1, s2, q H3 (e2.trans e3)⟩
theorem TV.eqD {d d' : PyData} {k : Nat} (hr : Room k X.A) (ha : ED X a σ H d) (hb : ED X b σ H d') (s1 : SeqAt.shaped d = true) (s2 : SeqAt.shaped d' = true) : TV X (.Compare a [.Eq] [b] pos) σ H (PyData.eqv d d') :=
  TV.of (pt_cmpR (op_eqD hr.units) pe_self pe_self (nomark _)) fun H1 e1 Q q => ha.ev H1 e1 _ fun v H2 e2 dv => hb.ev H2 (e1.trans e2) _ fun w H3 e3 dw => ⟨d, d', Dp.ex e3 dv, dw, s1, s2, _, rfl, q H3 (e2.trans e3)⟩
theorem TV.neD {d d' : PyData} {k : Nat} (hr : Room k X.A) (ha : ED X a σ H d) (hb : ED X b σ H d') (s1 : SeqAt.shaped d = true) (s2 : SeqAt.shaped d' = true) : TV X (.Compare a [.NotEq] [b] pos) σ H (!PyData.eqv d d') :=
  TV.of (pt_cmpR (op_neD hr.units) pe_self pe_self (nomark _)) fun H1 e1 Q q => ha.ev H1 e1 _ fun v H2 e2 dv => hb.ev H2 (e1.trans e2) _ fun w H3 e3 dw => ⟨d, d', Dp.ex e3 dv, dw, s1, s2, _, rfl, q H3 (e2.trans e3)⟩
theorem EV.eqL {ns ms : List Int} {k : Nat} (hr : Room k X.A) (ha : ES X a σ H (ns.map V.int)) (hb : ES X b σ H (ms.map V.int)) : EV X (.Compare a [.Eq] [b] pos) σ H (.bl (decide (ns = ms))) := EV.isB (EV.eqD hr (ED.ints ha) (ED.ints hb) (shaped_ints _) (shaped_ints _)) (eqv_ints _ _)
theorem EV.neL {ns ms : List Int} {k : Nat} (hr : Room k X.A) (ha : ES X a σ H (ns.map V.int)) (hb : ES X b σ H (ms.map V.int)) : EV X (.Compare a [.NotEq] [b] pos) σ H (.bl (!decide (ns = ms))) := EV.isB (EV.neD hr (ED.ints ha) (ED.ints hb) (shaped_ints _) (shaped_ints _)) (by rw [eqv_ints])
theorem TV.eqL {ns ms : List Int} {k : Nat} (hr : Room k X.A) (ha : ES X a σ H (ns.map V.int)) (hb : ES X b σ H (ms.map V.int)) : TV X (.Compare a [.Eq] [b] pos) σ H (decide (ns = ms)) := TV.is (TV.eqD hr (ED.ints ha) (ED.ints hb) (shaped_ints _) (shaped_ints _)) (eqv_ints _ _)
theorem TV.neL {ns ms : List Int} {k : Nat} (hr : Room k X.A) (ha : ES X a σ H (ns.map V.int)) (hb : ES X b σ H (ms.map V.int)) : TV X (.Compare a [.NotEq] [b] pos) σ H (!decide (ns = ms)) := TV.is (TV.neD hr (ED.ints ha) (ED.ints hb) (shaped_ints _) (shaped_ints _)) (by rw [eqv_ints])
theorem TV.neLB {ns ms : List Bool} {k : Nat} (hr : Room k X.A) (ha : ES X a σ H (ns.map V.bl)) (hb : ES X b σ H (ms.map V.bl)) : TV X (.Compare a [.NotEq] [b] pos) σ H (!decide (ns = ms)) := TV.is (TV.neD hr (ED.bls ha) (ED.bls hb) (shaped_bls _) (shaped_bls _)) (by rw [eqv_bls])
theorem EV.eqLB {ns ms : List Bool} {k : Nat} (hr : Room k X.A) (ha : ES X a σ H (ns.map V.bl)) (hb : ES X b σ H (ms.map V.bl)) : EV X (.Compare a [.Eq] [b] pos) σ H (.bl (decide (ns = ms))) := EV.isB (EV.eqD hr (ED.bls ha) (ED.bls hb) (shaped_bls _) (shaped_bls _)) (eqv_bls _ _)
/-! ### calls whose first argument is a list, new or not -/
theorem EV.callS {w : Str} {sp : Sp} {k j : Nat} (C : Fc X.prog X.w X.K X.mg X.base k w sp) (hr : Room j X.A) (h : ES X e σ H xs) (ha : AV X es σ H vs) (hv : ∀ p H1, Ex H H1 → SqL X.K H1 p xs → SpV sp (.ref p :: vs) H1 z) (hk : k ≤ j := by decide) (hg : Gl X w := by rfl) (hs : (e :: es).all noStar = true := by rfl) (hdb : (w == ("__debug__" : Str)) = false := by decide) :
    EV X (.Call (.Name w p) (e :: es) [] pos) σ H z := EV.of (pe_fc C hr hk passL hg hs hdb) fun H1 e1 Q q => h.ev H1 e1 _ fun r H2 e2 hr2 => ha.ev H2 (e1.trans e2) _ fun H3 e3 => by
      show sp (V.ref r :: vs ++ []) H3 Q E0
      rw [List.append_nil]
      exact hv r H3 ((e1.trans e2).trans e3) (ex_l e3 hr2) H3 (Ex.refl H3) Q (fun H4 e4 => q H4 ((e2.trans e3).trans e4)) _
/-! ### xs.append(e), xs.count(e) -/
theorem BW.app {l : Addr} {apos : Pos} (hl : H l = some (.lst xs)) (ha : EV X a σ H (.ref l)) (h : EV X e σ H v) (hz : xs.length < 100000) (k : ∀ H1, Ex H H1 → BW X rest D σ (upd H1 l (.lst (xs ++ [v])))) (hs : noStar e = true := by rfl)
    (he : PE X (.Call (.Attribute a "append" apos) [e] [] p) (tBM X.K "list" rAppend (EW X a) (tArgs X [e])) := by exact pe_bm PySem.F.plainAttrs_list PySem.F.slot_list_append PySem.F.type_list_append mt_append pe_self (pa_all rfl))
    (hw : swapsWith (.Call (.Attribute a "append" apos) [e] [] p) none pos.line X.env = pure false := by rfl) : BW X (.Expr (.Call (.Attribute a "append" apos) [e] [] p) pos :: rest) D σ H :=
  BW.cons (ps_expr he hw) (ha.ev H (Ex.refl H) _ fun H1 e1 => ⟨.inl ⟨rfl, xs, sq_of (e1 l _ hl)⟩, (AV.one h).ev H1 e1 _ fun H2 e2 => ⟨l, xs, v, rfl, rfl, e2 l _ (e1 l _ hl), sz_lt hz, k H2 (e1.trans e2)⟩⟩)
end
theorem countP_eqU {x : V} : ∀ {xs : List V} {us : List Value}, Vals xs us → xs.all flatV = true → us.countP (eqU x) = xs.countP fun y => eqV y x
  | _, _, .nil, _ => rfl
  | y :: ys, _, .cons r t, h => by
    have h1 : flatV y = true := List.all_eq_true.mp h y List.mem_cons_self
    have h2 : ys.all flatV = true := List.all_eq_true.mpr fun z hz => List.all_eq_true.mp h z (List.mem_cons_of_mem _ hz)
    rw [List.countP_cons, List.countP_cons, countP_eqU t h2, eqU_of r h1]
def rCntV (K : PySem.W.Frag) : V → List V → Hp → VK → Prop := fun x xs H Q => ∃ (p : Addr) (ys : List V) (y : V), x = .ref p ∧ xs = [y] ∧ SqL K H p ys ∧ flatV y = true ∧ ys.all flatV = true ∧ Q (.int (ys.countP (fun z => eqV z y) : Nat)) H
theorem mt_cntV {X : Cx} : MtR X "list.count" (rCntV X.K) := by
  intro pins s σ H x xs v us Q I rx rxs h
  obtain ⟨p, ys, y, rfl, rfl, hs, hy, hf, q⟩ := h
  cases rx
  obtain ⟨u, rfl, ru⟩ := rxs.one
  obtain ⟨its, rv, ⟨⟨cls, dd, data, sl⟩, n, ho, hc, hdn, hd⟩, hlen⟩ := I.list hs
  simp only at hc hd
  subst hc hd
  refine call_meets PySem.F.slot_list_count ⟨_, ho, rfl⟩ PySem.F.entry_list_count (PySem.F.args_list_count_2 _ _)
    (SeqAt.list_countAt p its.toArray n dd sl u (eqU y)) ⟨ho, fun z hz => mem_eqAt ru hy rv hf z (by simpa using hz), ?_⟩
  have ec : its.toArray.toList.countP (eqU y) = ys.countP (fun z => eqV z y) := countP_eqU rv hf
  refine ⟨.int (ys.countP (fun z => eqV z y) : Nat), H, I.tok _, ⟨s.toks, ?_⟩, q⟩
  show Value.int ((its.toArray.toList.countP (eqU y) : Nat) : Int) s.toks = _
  rw [ec]
section
variable {X : Cx} {e a b c o tg iter : Expr} {es : List Expr} {st : Stmt} {body rest : List Stmt} {σ : L2.St} {H : Hp} {D : Ends} {Q : VK} {v x y z : V} {pos p p2 q2 pr apos : Pos} {vs xs : List V} {f m : Str}
theorem EV.count {l : Addr} (ha : EV X a σ H (.ref l)) (hl : SqL X.K H l xs) (h : EV X e σ H v) (hv : flatV v = true := by rfl) (hf : xs.all flatV = true := by rfl)
    (he : PE X (.Call (.Attribute a "count" apos) [e] [] p) (tBM X.K "list" (rCntV X.K) (EW X a) (tArgs X [e])) := by exact pe_bm PySem.F.plainAttrs_list PySem.F.slot_list_count PySem.F.type_list_count mt_cntV pe_self (pa_all rfl)) :
    EV X (.Call (.Attribute a "count" apos) [e] [] p) σ H (.int (xs.countP (fun z => eqV z v) : Nat)) :=
  EV.of he fun H1 e1 Q q => ha.ev H1 e1 _ fun H2 e2 => ⟨.inl ⟨rfl, xs, ex_l (e1.trans e2) hl⟩, (AV.one h).ev H2 (e1.trans e2) _ fun H3 e3 => ⟨l, xs, v, rfl, rfl, ex_l ((e1.trans e2).trans e3) hl, hv, hf, q H3 (e2.trans e3)⟩⟩
/-! ### for x in range(a, b, c) -/
theorem s_forR3 {ta : TA} {tu : TS} {j n : Nat} {lo hi cc : Int} (h : EvA ta σ H [.int lo, .int hi, .int cc]) (hn : RgC lo hi cc n) (Pv : Nat → L2.St → Hp → Prop) (h0 : ∀ H1, Ex H H1 → Pv 0 σ H1)
    (hs : ∀ (i : Nat) σ' H', i < n → Pv i σ' H' → tu { D with nx := Pv (i + 1), ct := Pv (i + 1), bk := D.nx } (σ'.set j (some (.int (lo + (i : Nat) * cc)))) H') (hd : ∀ σ' H', Pv n σ' H' → D.nx σ' H') : tFor (iRng3 ta) (gName j) tu D σ H :=
  h H (Ex.refl H) _ fun H1 e => ⟨lo, hi, cc, n, rfl, hn, for_rangeC (lo := lo) (c := cc) (n := n) Pv (h0 H1 e) hs hd⟩
theorem BW.forR3 (j n : Nat) {lo hi cc : Int} (mR : X.mg "range" = none) (hN : X.N.Nodup) (h : EV X a σ H (.int lo)) (h' : EV X b σ H (.int hi)) (h'' : EV X c σ H (.int cc)) (hn : RgC lo hi cc n) (Pv : Nat → L2.St → Hp → Prop) (h0 : ∀ H1, Ex H H1 → Pv 0 σ H1)
    (hs : ∀ (i : Nat) σ' H', i < n → Pv i σ' H' → BW X body (Ends.turn X rest D (Pv (i + 1))) (σ'.set j (some (.int (lo + (i : Nat) * cc)))) H') (hd : ∀ σ' H', Pv n σ' H' → BW X rest D σ' H')
    (hj : X.N[j]? = some f := by rfl) (hx : Loc X.env.scope f := by first | exact Or.inl rfl | exact Or.inr rfl) (hf : X.fn f = true ∨ X.env.scope.names.lookup f = some .local := by first | exact .inl rfl | exact .inr rfl) (hg : Gl X "range" := by rfl) (hst : [a, b, c].all noStar = true := by rfl) (hc : X.calm = true := by rfl)
    (hp : PassesOwn (model X.prog X.w) X.A X.env X.xe := by first | exact PassesOwn.never | exact passes_of rfl) : BW X (.For (.Name f p) (.Call (.Name "range" pr) [a, b, c] [] p2) body [] pos :: rest) D σ H :=
  BW.cons (ps_for hp hc (pi_range3 hg mR (pa_all hst) (star_of (List.all_eq_true.mp hst a List.mem_cons_self) [b, c]) (back_any [b, c] (List.all_eq_true.mpr fun e' he => List.all_eq_true.mp hst e' (List.mem_cons_of_mem _ he)))) (pg_name (i := j) hN hj hx hf) pss_self) (s_forR3 (AV.three h h' h'').ev hn Pv h0 hs hd)
theorem EV.and4 {d : Expr} {k1 k2 k3 k4 : Bool} (ha : EV X a σ H (.bl k1)) (hb : k1 = true → EV X b σ H (.bl k2)) (hc : k1 = true → k2 = true → EV X c σ H (.bl k3)) (hd : k1 = true → k2 = true → k3 = true → EV X d σ H (.bl k4)) : EV X (.BoolOp .And [a, b, c, d] pos) σ H (.bl (k1 && (k2 && (k3 && k4)))) := EV.and ha fun h => EV.and3 (hb h) (hc h) (hd h)
end
/-- an if without else whose branch falls through or leaves: what follows once -/
theorem BW.whenJ {X : Cx} {c : Expr} {s1 rest : List Stmt} {σ : L2.St} {H : Hp} {D : Ends} {pos : Pos} {k : Bool} (h : TV X c σ H k) (h2 : ∀ H1, Ex H H1 → BW X rest D σ H1) (h1 : k = true → (∀ H1, Ex H H1 → BW X rest D σ H1) → ∀ H1, Ex H H1 → BW X s1 (Ends.bef X rest D) σ H1) : BW X (.If c s1 [] pos :: rest) D σ H :=
  BW.when h (fun hk => h1 hk h2) (fun _ => h2)
/-! ### slices -/
theorem cut_upto (xs : List V) (k : Nat) : cutV xs none (some (k : Int)) = xs.take k := by
  unfold cutV
  rw [HT.sIx_nat, HT.sIx_none]
  show List.take (min k xs.length - 0) (List.drop 0 xs) = _
  rw [Nat.sub_zero, List.drop_zero]
  rcases Nat.le_total k xs.length with h | h
  · rw [Nat.min_eq_left h]
  · rw [Nat.min_eq_right h, List.take_length, List.take_of_length_le h]
theorem at_ints {ns : List Int} {i : Nat} (h : i < ns.length) : atI (ns.map V.int) (i : Int) = some (.int (ns.getD i 0)) := by
  refine atI_nat ?_
  rw [List.getElem?_map, List.getElem?_eq_getElem h, List.getD_eq_getElem?_getD, List.getElem?_eq_getElem h]
  rfl
end QR

namespace QR
open PySem PySem.Spec PyProof.Rows L2 Evl
/-! ### shapes: what a value looks like, through the heap -/
inductive Sh where
  | v (x : V)
  | lst (xs : List Sh)
  | tup (xs : List Sh)
  | ins (C : Addr) (fs : List (Str × V))
abbrev Sh.i (n : Int) : Sh := .v (.int n)
abbrev Sh.b (k : Bool) : Sh := .v (.bl k)
mutual
inductive Is (K : PySem.W.Frag) (H : Hp) : V → Sh → Prop
  | v (x : V) : Is K H x (.v x)
  | lst {p : Addr} {vs : List V} {xs : List Sh} : SqL K H p vs → IsAll K H vs xs → Is K H (.ref p) (.lst xs)
  | tup {p : Addr} {vs : List V} {xs : List Sh} : SqT K H p vs → IsAll K H vs xs → Is K H (.ref p) (.tup xs)
  | ins {p C dx : Addr} {fs : List (Str × V)} : H p = some (.ins C dx fs) → Is K H (.ref p) (.ins C fs)
inductive IsAll (K : PySem.W.Frag) (H : Hp) : List V → List Sh → Prop
  | nil : IsAll K H [] []
  | cons {v : V} {s : Sh} {vs : List V} {ss : List Sh} : Is K H v s → IsAll K H vs ss → IsAll K H (v :: vs) (s :: ss)
end
mutual
theorem Is.ex {K : PySem.W.Frag} {H H' : Hp} (e : Ex H H') : ∀ {v : V} {s : Sh}, Is K H v s → Is K H' v s
  | _, _, .v x => .v x
  | _, _, .lst h a => .lst (ex_l e h) (IsAll.ex e a)
  | _, _, .tup h a => .tup (ex_t e h) (IsAll.ex e a)
  | _, _, .ins h => .ins (e _ _ h)
theorem IsAll.ex {K : PySem.W.Frag} {H H' : Hp} (e : Ex H H') : ∀ {vs : List V} {ss : List Sh}, IsAll K H vs ss → IsAll K H' vs ss
  | _, _, .nil => .nil
  | _, _, .cons a b => .cons (Is.ex e a) (IsAll.ex e b)
end
theorem Is.vv {K : PySem.W.Frag} {H : Hp} {v x : V} (h : Is K H v (.v x)) : v = x := by cases h; rfl
theorem Is.ofL {K : PySem.W.Frag} {H : Hp} {v : V} {ss : List Sh} (h : Is K H v (.lst ss)) : ∃ p vs, v = .ref p ∧ SqL K H p vs ∧ IsAll K H vs ss := by
  cases h with
  | lst a b => exact ⟨_, _, rfl, a, b⟩
theorem Is.ofU {K : PySem.W.Frag} {H : Hp} {v : V} {ss : List Sh} (h : Is K H v (.tup ss)) : ∃ p vs, v = .ref p ∧ SqT K H p vs ∧ IsAll K H vs ss := by
  cases h with
  | tup a b => exact ⟨_, _, rfl, a, b⟩
theorem Is.ofI {K : PySem.W.Frag} {H : Hp} {v : V} {C : Addr} {fs : List (Str × V)} (h : Is K H v (.ins C fs)) : ∃ p dx, v = .ref p ∧ H p = some (.ins C dx fs) := by
  cases h with
  | ins a => exact ⟨_, _, rfl, a⟩
theorem IsAll.len {K : PySem.W.Frag} {H : Hp} : ∀ {vs : List V} {ss : List Sh}, IsAll K H vs ss → vs.length = ss.length
  | _, _, .nil => rfl
  | _, _, .cons _ b => congrArg (· + 1) b.len
theorem IsAll.at {K : PySem.W.Frag} {H : Hp} : ∀ {vs : List V} {ss : List Sh} {i : Nat} {s : Sh}, IsAll K H vs ss → ss[i]? = some s → ∃ v, vs[i]? = some v ∧ Is K H v s
  | _, _, i, _, .nil, h => by simp at h
  | _, _, 0, _, .cons a _, h => by
    cases Option.some.inj h
    exact ⟨_, rfl, a⟩
  | _, _, i + 1, _, .cons _ b, h => by
    obtain ⟨v, h1, h2⟩ := IsAll.at (i := i) b (by simpa using h)
    exact ⟨v, by simpa using h1, h2⟩
theorem IsAll.at' {K : PySem.W.Frag} {H : Hp} : ∀ {vs : List V} {ss : List Sh} {i : Nat} {v : V}, IsAll K H vs ss → vs[i]? = some v → ∃ s, ss[i]? = some s ∧ Is K H v s
  | _, _, i, _, .nil, h => by simp at h
  | _, _, 0, _, .cons a _, h => by
    cases Option.some.inj h
    exact ⟨_, rfl, a⟩
  | _, _, i + 1, _, .cons _ b, h => by
    obtain ⟨v, h1, h2⟩ := IsAll.at' (i := i) b (by simpa using h)
    exact ⟨v, by simpa using h1, h2⟩
theorem IsAll.append {K : PySem.W.Frag} {H : Hp} : ∀ {vs us : List V} {ss ts : List Sh}, IsAll K H vs ss → IsAll K H us ts → IsAll K H (vs ++ us) (ss ++ ts)
  | _, _, _, _, .nil, h => h
  | _, _, _, _, .cons a b, h => .cons a (IsAll.append b h)
theorem IsAll.take {K : PySem.W.Frag} {H : Hp} : ∀ {vs : List V} {ss : List Sh} (n : Nat), IsAll K H vs ss → IsAll K H (vs.take n) (ss.take n)
  | _, _, 0, _ => by simp; exact .nil
  | _, _, n + 1, .nil => .nil
  | _, _, n + 1, .cons a b => .cons a (IsAll.take n b)
theorem IsAll.vals {K : PySem.W.Frag} {H : Hp} : ∀ vs : List V, IsAll K H vs (vs.map Sh.v)
  | [] => .nil
  | v :: vs => .cons (.v v) (IsAll.vals vs)
theorem IsAll.valsE {K : PySem.W.Frag} {H : Hp} : ∀ {us vs : List V}, IsAll K H us (vs.map Sh.v) → us = vs
  | _, [], .nil => rfl
  | _, v :: vs, .cons a b => by rw [a.vv, IsAll.valsE b]
/-- a list of whole numbers -/
abbrev Sh.ints (ns : List Int) : Sh := .lst (ns.map fun n => .v (.int n))
abbrev Sh.bls (ns : List Bool) : Sh := .lst (ns.map fun n => .v (.bl n))
theorem ints_v (ns : List Int) : (ns.map fun n => Sh.v (V.int n)) = (ns.map V.int).map Sh.v := by rw [List.map_map]; rfl
theorem bls_v (ns : List Bool) : (ns.map fun n => Sh.v (V.bl n)) = (ns.map V.bl).map Sh.v := by rw [List.map_map]; rfl
theorem Is.ints {K : PySem.W.Frag} {H : Hp} {p : Addr} {ns : List Int} (h : SqL K H p (ns.map V.int)) : Is K H (.ref p) (Sh.ints ns) := .lst h (by rw [ints_v]; exact IsAll.vals _)
theorem Is.bls {K : PySem.W.Frag} {H : Hp} {p : Addr} {ns : List Bool} (h : SqL K H p (ns.map V.bl)) : Is K H (.ref p) (Sh.bls ns) := .lst h (by rw [bls_v]; exact IsAll.vals _)
theorem Is.ofInts {K : PySem.W.Frag} {H : Hp} {v : V} {ns : List Int} (h : Is K H v (Sh.ints ns)) : ∃ p, v = .ref p ∧ SqL K H p (ns.map V.int) := by
  obtain ⟨p, vs, rfl, h1, h2⟩ := h.ofL
  rw [ints_v] at h2
  exact ⟨p, rfl, by rw [← h2.valsE]; exact h1⟩
theorem Is.ofBls {K : PySem.W.Frag} {H : Hp} {v : V} {ns : List Bool} (h : Is K H v (Sh.bls ns)) : ∃ p, v = .ref p ∧ SqL K H p (ns.map V.bl) := by
  obtain ⟨p, vs, rfl, h1, h2⟩ := h.ofL
  rw [bls_v] at h2
  exact ⟨p, rfl, by rw [← h2.valsE]; exact h1⟩
/-! ### the judgement -/
structure EX (X : Cx) (e : Expr) (σ : L2.St) (H : Hp) (s : Sh) : Prop where
  ev : ∀ H1, Ex H H1 → ∀ Q : VK, (∀ v H2, Ex H1 H2 → Is X.K H2 v s → Q v H2) → EW X e σ H1 Q
structure AX (X : Cx) (es : List Expr) (σ : L2.St) (H : Hp) (ss : List Sh) : Prop where
  ev : ∀ H1, Ex H H1 → ∀ Q : List V → Hp → Prop, (∀ vs H2, Ex H1 H2 → IsAll X.K H2 vs ss → Q vs H2) → tArgs X es σ H1 Q
/-- a new list of these shapes -/
structure EN (X : Cx) (e : Expr) (σ : L2.St) (H : Hp) (ss : List Sh) : Prop where
  ev : ∀ H1, Ex H H1 → ∀ Q : VK, (∀ p vs H2, H1 p = none → Ex H1 H2 → H2 p = some (.lst vs) → IsAll X.K H2 vs ss → Q (.ref p) H2) → EW X e σ H1 Q
section
variable {X : Cx} {e a b c o tg iter : Expr} {es : List Expr} {st : Stmt} {body rest : List Stmt} {σ : L2.St} {H : Hp} {D : Ends} {Q : VK} {v x y z : V} {pos p p2 q2 pr apos : Pos} {vs xs : List V} {f m : Str} {s t : Sh} {ss ts : List Sh}
theorem EX.is (h : EX X e σ H s) (q : s = t) : EX X e σ H t := q ▸ h
theorem EX.mono {H' : Hp} (h : EX X e σ H s) (e1 : Ex H H') : EX X e σ H' s := ⟨fun H1 a Q q => h.ev H1 (e1.trans a) Q q⟩
theorem EX.go (h : EX X e σ H s) (k : ∀ v H1, Ex H H1 → Is X.K H1 v s → Q v H1) : EW X e σ H Q := h.ev H (Ex.refl H) Q k
theorem EX.val (h : EV X e σ H v) (hv : Is X.K H v s) : EX X e σ H s := ⟨fun H1 e1 Q q => h.ev H1 e1 Q fun H2 e2 => q v H2 e2 (hv.ex (e1.trans e2))⟩
theorem EX.vv (h : EV X e σ H v) : EX X e σ H (.v v) := EX.val h (.v v)
theorem EV.ofX (h : EX X e σ H (.v v)) : EV X e σ H v := ⟨fun H1 e1 Q q => h.ev H1 e1 Q fun u H2 e2 hu => by rw [hu.vv]; exact q H2 e2⟩
theorem EX.var (i : Nat) {n : Str} (h : σ[i]? = some (some v)) (hv : Is X.K H v s) (hN : X.N[i]? = some n := by rfl) (hvs : Vis X.env.scope n := by first | exact Or.inl rfl | exact Or.inr (Or.inl rfl) | exact Or.inr (Or.inr rfl)) (hd : (n == ("__debug__" : Str)) = false := by decide)
    (hcd : (n == ("__classdict__" : Str)) = false := by decide) : EX X (.Name n pos) σ H s := EX.val (EV.var i h hN hvs hd hcd) hv
theorem EX.new (h : EL X e σ H xs) : EX X e σ H (.lst (xs.map Sh.v)) := ⟨fun H1 e1 Q q => h.ev H1 e1 Q fun p H2 _ e2 h2 => q _ H2 e2 (.lst (sq_of h2) (IsAll.vals _))⟩
theorem EX.newA (h : EL X e σ H xs) (ha : IsAll X.K H xs ss) : EX X e σ H (.lst ss) := ⟨fun H1 e1 Q q => h.ev H1 e1 Q fun p H2 _ e2 h2 => q _ H2 e2 (.lst (sq_of h2) (ha.ex (e1.trans e2)))⟩
theorem EX.newI {ns : List Int} (h : EL X e σ H (ns.map V.int)) : EX X e σ H (Sh.ints ns) := (EX.new h).is (by rw [← ints_v])
theorem EX.newB {ns : List Bool} (h : EL X e σ H (ns.map V.bl)) : EX X e σ H (Sh.bls ns) := (EX.new h).is (by rw [← bls_v])
theorem EX.newU (h : EU X e σ H xs) : EX X e σ H (.tup (xs.map Sh.v)) := ⟨fun H1 e1 Q q => h.ev H1 e1 Q fun p H2 _ e2 h2 => q _ H2 e2 (.tup (st_of h2) (IsAll.vals _))⟩
theorem EX.ofN (h : EN X e σ H ss) : EX X e σ H (.lst ss) := ⟨fun H1 e1 Q q => h.ev H1 e1 Q fun p vs H2 _ e2 h2 ha => q _ H2 e2 (.lst (sq_of h2) ha)⟩
theorem EN.ofL (h : EL X e σ H xs) (ha : IsAll X.K H xs ss) : EN X e σ H ss := ⟨fun H1 e1 Q q => h.ev H1 e1 Q fun p H2 np e2 h2 => q p xs H2 np e2 h2 (ha.ex (e1.trans e2))⟩
theorem EN.is (h : EN X e σ H ss) (q : ss = ts) : EN X e σ H ts := q ▸ h
theorem EX.ins {C : Addr} {fs : List (Str × V)} (h : EI X e σ H C fs) : EX X e σ H (.ins C fs) := ⟨fun H1 e1 Q q => h.ev H1 e1 Q fun p dx H2 _ e2 h2 => q _ H2 e2 (.ins h2)⟩
theorem ES.ofX {ns : List Int} (h : EX X e σ H (Sh.ints ns)) : ES X e σ H (ns.map V.int) := ⟨fun H1 e1 Q q => h.ev H1 e1 Q fun v H2 e2 hv => by
  obtain ⟨p, rfl, hp⟩ := hv.ofInts
  exact q p H2 e2 hp⟩
theorem ES.ofXB {ns : List Bool} (h : EX X e σ H (Sh.bls ns)) : ES X e σ H (ns.map V.bl) := ⟨fun H1 e1 Q q => h.ev H1 e1 Q fun v H2 e2 hv => by
  obtain ⟨p, rfl, hp⟩ := hv.ofBls
  exact q p H2 e2 hp⟩
theorem EX.ofS {ns : List Int} (h : ES X e σ H (ns.map V.int)) : EX X e σ H (Sh.ints ns) := ⟨fun H1 e1 Q q => h.ev H1 e1 Q fun p H2 e2 hp => q _ H2 e2 (Is.ints hp)⟩
theorem AX.nil : AX X [] σ H [] := ⟨fun H1 _ _ q => q [] H1 (Ex.refl H1) .nil⟩
theorem AX.cons (h : EX X e σ H s) (hr : AX X es σ H ss) : AX X (e :: es) σ H (s :: ss) := ⟨fun H1 e1 Q q => h.ev H1 e1 _ fun v H2 e2 hv => hr.ev H2 (e1.trans e2) _ fun vs H3 e3 hs => q _ H3 (e2.trans e3) (.cons (hv.ex e3) hs)⟩
theorem AX.one (h : EX X e σ H s) : AX X [e] σ H [s] := AX.cons h AX.nil
theorem EN.lst (h : AX X es σ H ss) (hl : ss.length ≤ 100000 := by exact Nat.le_of_ble_eq_true rfl) (hs : es.all noStar = true := by rfl) : EN X (.List es pos) σ H ss :=
  ⟨fun H1 e1 Q q => EW.of (pe_lst (pa_all hs)) (h.ev H1 e1 _ fun vs H2 e2 ha => ⟨sz_of (by rw [ha.len]; exact hl), fun p hp => q p vs _ (fresh_back e2 hp) (e2.trans (Ex.new hp)) upd_same (ha.ex (Ex.new hp))⟩)⟩
theorem EX.lst (h : AX X es σ H ss) (hl : ss.length ≤ 100000 := by exact Nat.le_of_ble_eq_true rfl) (hs : es.all noStar = true := by rfl) : EX X (.List es pos) σ H (.lst ss) := EX.ofN (EN.lst h hl hs)
theorem EX.tup {x1 : Nat} (h : AX X es σ H ss) (hl : ss.length ≤ 100000 := by exact Nat.le_of_ble_eq_true rfl) (hs : es.all noStar = true := by rfl) : EX X (.Tuple es x1 pos) σ H (.tup ss) :=
  ⟨fun H1 e1 Q q => EW.of (pe_tup (pa_all hs)) (h.ev H1 e1 _ fun vs H2 e2 ha => ⟨sz_of (by rw [ha.len]; exact hl), fun p hp => q _ _ (e2.trans (Ex.new hp)) (.tup (st_of upd_same) (ha.ex (Ex.new hp)))⟩)⟩
/-! ### statements -/
theorem BW.asgX {n : Str} (i : Nat) (hN : X.N.Nodup) (h : EX X e σ H s) (k : ∀ v H1, Ex H H1 → Is X.K H1 v s → BW X rest D (σ.set i (some v)) H1) (hi : X.N[i]? = some n := by rfl) (hx : Loc X.env.scope n := by first | exact Or.inl rfl | exact Or.inr rfl) (hs : swapsWith e (some (.Name n p)) pos.line X.env = pure false := by rfl) (hf : X.fn n = true ∨ X.env.scope.names.lookup n = some .local := by first | exact .inl rfl | exact .inr rfl) : BW X (.Assign [.Name n p] e pos :: rest) D σ H :=
  BW.asgW hN hi hx (h.go k) hs hf
theorem BW.asgN {n : Str} (i : Nat) (hN : X.N.Nodup) (h : EN X e σ H ss) (k : ∀ q vs H1, H q = none → Ex H H1 → H1 q = some (.lst vs) → IsAll X.K H1 vs ss → BW X rest D (σ.set i (some (.ref q))) H1) (hi : X.N[i]? = some n := by rfl) (hx : Loc X.env.scope n := by first | exact Or.inl rfl | exact Or.inr rfl) (hs : swapsWith e (some (.Name n p)) pos.line X.env = pure false := by rfl) (hf : X.fn n = true ∨ X.env.scope.names.lookup n = some .local := by first | exact .inl rfl | exact .inr rfl) : BW X (.Assign [.Name n p] e pos :: rest) D σ H :=
  BW.asgW hN hi hx (h.ev H (Ex.refl H) _ k) hs hf
theorem BW.retX (h : EX X e σ H s) (k : ∀ v H1, Ex H H1 → Is X.K H1 v s → D.rt v H1) : BW X (.Return (some e) pos :: rest) D σ H := BW.retW (h.go k)
theorem BW.retN (h : EN X e σ H ss) (k : ∀ q vs H1, H q = none → Ex H H1 → H1 q = some (.lst vs) → IsAll X.K H1 vs ss → D.rt (.ref q) H1) : BW X (.Return (some e) pos :: rest) D σ H := BW.retW (h.ev H (Ex.refl H) _ k)
/-! ### reading -/
theorem atI_len {xs : List V} {i : Int} {v : V} (h : atI xs i = some v) : ∃ k : Nat, xs[k]? = some v ∧ ∀ ys : List V, ys.length = xs.length → atI ys i = ys[k]? := by
  unfold atI at h ⊢
  cases hk : ixN xs.length i with
  | none => rw [hk] at h; cases h
  | some k =>
    rw [hk] at h
    exact ⟨k, h, fun ys hy => by rw [hy, hk]; rfl⟩
/-- the place i of n -/
def IxAt (n : Nat) (i : Int) (k : Nat) : Prop := ixN n i = some k
theorem EX.ixL {i : Int} {k : Nat} (h : EX X a σ H (.lst ss)) (hi : EV X b σ H (.int i)) (hk : ixN ss.length i = some k) (hs : ss[k]? = some s) (hp : PlainIx b := by exact fun _ _ => rfl) : EX X (.Subscript a b pos) σ H s :=
  ⟨fun H1 e1 Q q => EW.of (pe_ix ix_list pe_self pe_self hp) (h.ev H1 e1 _ fun v H2 e2 hv => by
    obtain ⟨p, vs, rfl, hsq, ha⟩ := hv.ofL
    refine hi.ev H2 (e1.trans e2) _ fun H3 e3 => ?_
    obtain ⟨u, hu, iu⟩ := ha.at hs
    refine ⟨p, vs, i, u, rfl, rfl, ex_l e3 hsq, ?_, q u H3 (e2.trans e3) (iu.ex e3)⟩
    unfold atI
    rw [ha.len, hk]
    exact hu)⟩
theorem EX.ixT {i : Int} {k : Nat} (h : EX X a σ H (.tup ss)) (hi : EV X b σ H (.int i)) (hk : ixN ss.length i = some k) (hs : ss[k]? = some s) (hp : PlainIx b := by exact fun _ _ => rfl) : EX X (.Subscript a b pos) σ H s :=
  ⟨fun H1 e1 Q q => EW.of (pe_ix ix_tup pe_self pe_self hp) (h.ev H1 e1 _ fun v H2 e2 hv => by
    obtain ⟨p, vs, rfl, hsq, ha⟩ := hv.ofU
    refine hi.ev H2 (e1.trans e2) _ fun H3 e3 => ?_
    obtain ⟨u, hu, iu⟩ := ha.at hs
    refine ⟨p, vs, i, u, rfl, rfl, ex_t e3 hsq, ?_, q u H3 (e2.trans e3) (iu.ex e3)⟩
    unfold atI
    rw [ha.len, hk]
    exact hu)⟩
theorem EV.fldX {C : Addr} {fs : List (Str × V)} (h : EX X e σ H (.ins C fs)) (cl : Cls X.K C) (na : NoAttr X.K C f) (hl : fs.lookup f = some v) (hb : attributeBase e f X.env (eval e X.env) = eval e X.env := by rfl) : EV X (.Attribute e f pos) σ H v :=
  EV.of (pe_fld pe_self hb) fun H1 e1 Q k => h.ev H1 e1 _ fun u H2 e2 hu => by
    obtain ⟨ob, dx, rfl, ho⟩ := hu.ofI
    exact ⟨ob, C, dx, fs, v, rfl, ho, cl, na, hl, k H2 e2⟩
theorem EV.lenX (mL : X.mg "len" = none) (h : EX X a σ H (.lst ss)) (hg : Gl X "len" := by rfl) (hs : noStar a = true := by rfl) : EV X (.Call (.Name "len" p) [a] [] pos) σ H (.int (ss.length : Int)) :=
  EV.of (pe_callB call_len_seq hg mL PySem.boot_len (pa_all (es := [a]) (by simp [hs])) (by decide) (by decide) (star_of hs []) rfl) fun H1 e1 Q k => h.ev H1 e1 _ fun u H2 e2 hu => by
    obtain ⟨q, vs, rfl, hq, ha⟩ := hu.ofL
    exact ⟨q, vs, rfl, .inl hq, by rw [ha.len]; exact k H2 e2⟩
/-! ### loops over a list that stands still -/
theorem BW.forX {g : TG} (h : EX X iter σ H (.lst ss)) (hg : PG X tg g) (Pv : Hp → Nat → L2.St → Hp → Prop) (h0 : ∀ H1, Ex H H1 → Pv H1 0 σ H1) (hl : ∀ H1 i σ' H', Pv H1 i σ' H' → Ex H1 H')
    (hs : ∀ H1 i s v σ' H', Ex H H1 → ss[i]? = some s → Is X.K H' v s → Pv H1 i σ' H' → g v σ' H' fun σ2 H2 => BW X body (Ends.turn X rest D (Pv H1 (i + 1))) σ2 H2) (hd : ∀ H1 σ' H', Ex H H1 → Pv H1 ss.length σ' H' → BW X rest D σ' H')
    (hc : X.calm = true := by rfl) (hp : PassesOwn (model X.prog X.w) X.A X.env X.xe := by first | exact PassesOwn.never | exact passes_of rfl) (hfs : ∀ x, foldedSetIterable iter X.env x = pure x := by intro _; rfl) : BW X (.For tg iter body [] pos :: rest) D σ H := by
  refine BW.cons (ps_for hp hc (pi_list pe_self) hg pss_self hfs) (h.ev H (Ex.refl H) _ fun v H1 e1 hv => ?_)
  obtain ⟨q, vs, rfl, hq, ha⟩ := hv.ofL
  have hlen := ha.len
  refine ⟨q, rfl, ⟨vs, hq⟩, for_list (xs := vs) (Pv H1) (h0 H1 e1) (fun i σ' H' _ pv => ex_l (hl H1 i σ' H' pv) hq) (fun i x σ' H' hi pv => ?_) fun σ' H' pv => hd H1 σ' H' e1 (hlen ▸ pv)⟩
  obtain ⟨t, ht, it⟩ := ha.at' hi
  exact hs H1 i t x σ' H' e1 ht (it.ex (hl H1 i σ' H' pv)) pv
theorem el_lcX {K : PySem.W.Frag} {tl te : TE} {j : Nat} {ws : List Nat} (w : Nat → V) (h : ∀ H1, Ex H H1 → ∀ Q : VK, (∀ v H2, Ex H1 H2 → Is K H2 v (.lst ss) → Q v H2) → tl σ H1 Q) (hz : ss.length ≤ 40000) (hw : ∀ x, wipe ((wipe σ ws).set j (some x)) ws = wipe σ ws)
    (he : ∀ (i : Nat) (s : Sh) (y : V) H1, Ex H H1 → ss[i]? = some s → Is K H1 y s → Ev te ((wipe σ ws).set j (some y)) H1 (w i)) : EvL (tLc (iList K tl) (gName j) tYes te ws) σ H ((List.range ss.length).map w) := fun H0 e Q q => h H0 e _ fun u H1 e1 hu => by
  obtain ⟨a, vs, rfl, hx, ha⟩ := hu.ofL
  have hlen := ha.len
  rw [← given_all, ← hlen] at q
  exact ⟨a, rfl, ⟨vs, hx⟩, fun Dl hD => lc_list (xs := vs) (Cw H1 (fun _ => true) w Dl) ⟨hD, Ex.new hD, upd_same⟩ (fun i H' _ p => ex_l p.2.1 hx)
    (fun i y H' hi p => ⟨hw y, cw_turn p (by have := (List.getElem?_eq_some_iff.mp hi).1; omega) ev_yes (fun _ => by
      obtain ⟨s, hs, iy⟩ := ha.at' hi
      exact he i s y H1 (e.trans e1) hs iy)⟩)
    (fun H' p => q Dl H' (fresh_back e1 p.1) (e1.trans p.2.1) p.2.2)⟩
/-- [e for x in xs], xs by its shapes -/
theorem LC.listX {elt iter : Expr} {scope : Scope} {n : Str} {j : Nat} (w : Nat → V) (hN : X.N.Nodup) (ok : BlkOk X.N X.env.scope scope [(n, j)]) (h : EX X iter σ H (.lst ss)) (hz : ss.length ≤ 40000)
    (he : ∀ (i : Nat) (s : Sh) (y : V) H1, Ex H H1 → ss[i]? = some s → Is X.K H1 y s → EVb X scope elt ((wipe σ [j]).set j (some y)) H1 (w i))
    (hw : ∀ z, wipe ((wipe σ [j]).set j (some z)) [j] = wipe σ [j] := by intro _; rfl)
    (hg : ∀ (s : Shared) (H : Hp) (C : Addr) (cl : List (Str × Addr)) (fp : List Addr), PG (X.blk s H scope (compEnvC scope cl C X.env) fp) (.Name n p) (gName j) := by exact fun _ _ _ _ _ => pg_name (i := _) (by assumption) rfl (Or.inl rfl)) (hc : X.calm = true := by rfl) (hfs : ∀ x, foldedSetIterable iter X.env x = pure x := by intro _; rfl) :
    LC X (.ListComp elt [⟨.Name n p, iter, [], 0⟩] scope pos) σ H ((List.range ss.length).map w) :=
  lc_of (own := [(n, j)]) hc hN (pi_list pe_self) ok hg hfs (el_lcX w h.ev hz hw fun i s y H1 e1 hs iy => (he i s y H1 e1 hs iy).ev)
end
end QR

namespace QR
open PySem PySem.Spec PyProof.Rows L2 Evl
/-! ### xs + ys -/
def rCatS (K : PySem.W.Frag) : R2 := fun x y H Q => ∃ l b xs zs, x = .ref l ∧ y = .ref b ∧ SqL K H l xs ∧ SqL K H b zs ∧ xs.length + zs.length ≤ sizeLine ∧ ∀ p, H p = none → Q (.ref p) (upd H p (.lst (xs ++ zs)))
theorem op_catS {X : Cx} : OpR X (binaryOp .Add) (rCatS X.K) := by
  intro pins s σ H x y v u Q I rx ry h
  obtain ⟨l, b, xs, zs, rfl, rfl, hH, hB, hz, q⟩ := h
  cases rx
  cases ry
  obtain ⟨its, r, pl, hz1⟩ := I.list hH
  obtain ⟨its2, r2, pl2, hz2⟩ := I.list hB
  have hl := r.length
  have hl2 := r2.length
  obtain ⟨⟨cls, dd, data, sl⟩, ho, hc, n, hd⟩ := pl.isList
  obtain ⟨⟨cls2, dd2, data2, sl2⟩, ho2, hc2, n2, hd2⟩ := pl2.isList
  simp only at hc hd hc2 hd2
  subst hc hd hc2 hd2
  have e : its.toArray ++ its2.toArray = (its ++ its2).toArray := by simp
  refine concat_meets ⟨_, ho, rfl⟩ ⟨_, ho2, rfl⟩ noFill_list_add seq_list_add PySem.F.slot_list_add PySem.F.entry_list_add (PySem.F.args_list_add_2 _ _) (list_addW l b its.toArray its2.toArray n n2 dd dd2 sl sl2 (by simp; omega)) ⟨ho, ho2, ?_⟩
  rw [e]
  exact ⟨.ref _, _, I.lnew (t' := s.toks) (r.append r2) (by rw [List.length_append]; omega), rfl, q _ I.fresh⟩
/-! ### list(range(..)) -/
theorem vals_ints_of {lo c : Int} : ∀ {us : List Value} {k : Nat}, (∀ j v, us[j]? = some v → ∃ t, v = Value.int (lo + (k + j : Nat) * c) t) → Vals ((List.range' k us.length).map fun i : Nat => V.int (lo + (i : Nat) * c)) us
  | [], k, _ => .nil
  | u :: us, k, h => by
    obtain ⟨t, e⟩ := h 0 u rfl
    rw [List.length_cons, List.range'_succ, List.map_cons]
    refine .cons ⟨t, by rw [e]; simp⟩ (vals_ints_of (k := k + 1) fun j v hj => ?_)
    obtain ⟨t, e⟩ := h (j + 1) v (by simpa using hj)
    exact ⟨t, by rw [e, show k + (j + 1) = k + 1 + j by omega]⟩
def rngV (lo c : Int) (n : Nat) : List V := (List.range n).map fun i : Nat => V.int (lo + (i : Nat) * c)
section
variable {X : Cx} {e a b c o tg iter : Expr} {es : List Expr} {st : Stmt} {body rest : List Stmt} {σ : L2.St} {H : Hp} {D : Ends} {Q : VK} {v x y z : V} {pos p p2 q2 pr apos : Pos} {vs xs : List V} {f m : Str} {s t : Sh} {ss ts : List Sh}
/-- from a new range object on -/
theorem list_of_range {pins : List (Addr × Obj)} {s : Shared} {r : Addr} {lo hi cc : Int} {t u v : Tok} {n : Nat} (hc : X.calm = true) (I : Inv X pins σ H s) (hr : IsRange s.heap r lo hi cc t u v) (hs : Builtin.Range.small lo hi cc = true) (hn : Builtin.Range.rangeSize lo hi cc = n) (hl : n ≤ 100000)
    (q : ∀ p H2, H p = none → Ex H H2 → H2 p = some (.lst (rngV lo cc n)) → Q (.ref p) H2) : wpAny (model X.prog X.w) X.A (call (.type "list") [.ref r]) (EP X pins σ Q) X.xe s := by
  refine call_list_range (I.ok.hd hc) hr hs hn (by omega) fun h' tk acc c' kp e hi => ?_
  have hv : Vals (rngV lo cc n) acc.toList := by
    have := vals_ints_of (lo := lo) (c := cc) (us := acc.toList) (k := 0) (fun j v hj => by
      obtain ⟨t, e⟩ := hi.2 j v (by simpa using hj)
      exact ⟨t, by rw [e]; simp⟩)
    unfold rngV
    rw [List.range_eq_range']
    have hsz : acc.toList.length = n := by simpa using hi.1
    rw [hsz] at this
    exact this
  have hz : (rngV lo cc n).length ≤ sizeLine := by
    unfold rngV
    rw [List.length_map, List.length_range]
    exact Nat.le_trans hl (by decide)
  exact ⟨.ref s.heap.objs.size, _, I.laid (t' := tk) kp (Nat.le_refl _) (show ObjOk X.prog X.w _ h' _ (.lst (rngV lo cc n)) from ⟨hz, acc.toList, c', hv, by simpa using e⟩), rfl, q _ _ (I.hok.fresh (Nat.le_refl _)) (Ex.new (I.hok.fresh (Nat.le_refl _))) upd_same⟩
def tLR (tb : TA) : TE := fun σ H Q => tb σ H fun vs H1 => ∃ (lo hi cc : Int) (n : Nat), (vs = [.int hi] ∧ lo = 0 ∧ cc = 1 ∨ vs = [.int lo, .int hi] ∧ cc = 1 ∨ vs = [.int lo, .int hi, .int cc] ∧ cc ≠ 0 ∧ cc.natAbs < 1073741824) ∧
  Builtin.Range.small lo hi cc = true ∧ Builtin.Range.rangeSize lo hi cc = n ∧ n ≤ 100000 ∧ ∀ p H2, H1 p = none → Ex H1 H2 → H2 p = some (.lst (rngV lo cc n)) → Q (.ref p) H2
theorem pe_listRange {ta : TA} (hg : Gl X "list") (hm : X.mg "list" = none) (hg2 : Gl X "range") (hm2 : X.mg "range" = none) (hc : X.calm = true) (ha : PA X (e :: es) ta) (hs : (e :: es).all noStar = true) :
    PE X (.Call (.Name "list" p) [.Call (.Name "range" p2) (e :: es) [] q2] [] pos) (tLR ta) := by
  refine ⟨fun pins s σ H Q I h => ?_⟩
  refine wpAny_Call_Name_kw (ld_blt (u := .type "list") I hg hm (by decide +kernel) ?_ (by decide) (by decide))
  refine PyProof.Rows.callWith_type1 (PyProof.Rows.args_cons ?_ rfl) rfl rfl
  refine wpAny_Call_Name_kw (ld_blt I hg2 hm2 boot_range ?_ (by decide) (by decide))
  refine PyProof.Rows.callWith_type1 (thn (ha.run q2 pins s σ H _ I h) fun us s1 ⟨vs, H1, I1, r1, q1⟩ => ?_) (star_of (List.all_eq_true.mp hs e List.mem_cons_self) es) (back_any es (List.all_eq_true.mpr fun e' he => List.all_eq_true.mp hs e' (List.mem_cons_of_mem _ he)))
  obtain ⟨lo, hi, cc, n, hcase, hsm, hn, hl, q⟩ := q1
  rcases hcase with ⟨rfl, rfl, rfl⟩ | ⟨rfl, rfl⟩ | ⟨rfl, hc0, hcb⟩
  · cases r1 with
    | cons r rr =>
      cases rr
      obtain ⟨t, rfl⟩ := r
      refine call_range_1 (PyProof.Rows.args_nil ?_)
      have I2 : Inv X pins σ H1 { s1 with heap := s1.heap.push { cls := .type "range", data := .fields #[.int 0 s1.toks, .int hi t, .int 1 (s1.toks + 1)] }, toks := s1.toks + 1 + 1 } := I1.kept fun b o e => Heap.get?_push_of_some _ e
      exact list_of_range hc I2 (IsRange.new ..) hsm hn hl q
  · cases r1 with
    | cons r rr =>
      cases rr with
      | cons r' rr =>
        cases rr
        obtain ⟨t, rfl⟩ := r
        obtain ⟨t', rfl⟩ := r'
        refine call_range_2 (PyProof.Rows.args_nil ?_)
        have I2 : Inv X pins σ H1 { s1 with heap := s1.heap.push { cls := .type "range", data := .fields #[.int lo t, .int hi t', .int 1 s1.toks] }, toks := s1.toks + 1 } := I1.kept fun b o e => Heap.get?_push_of_some _ e
        exact list_of_range hc I2 (IsRange.new ..) hsm hn hl q
  · cases r1 with
    | cons r rr =>
      cases rr with
      | cons r' rr =>
        cases rr with
        | cons r'' rr =>
          cases rr
          obtain ⟨t, rfl⟩ := r
          obtain ⟨t', rfl⟩ := r'
          obtain ⟨t'', rfl⟩ := r''
          refine call_range_3 hc0 (PyProof.Rows.args_nil ?_) (Or.inl (PyProof.noPylong_small (by omega)))
          have I2 : Inv X pins σ H1 { s1 with heap := s1.heap.push { cls := .type "range", data := .fields #[.int lo t, .int hi t', .int cc t''] }, toks := s1.toks } := I1.kept fun b o e => Heap.get?_push_of_some _ e
          exact list_of_range hc I2 (IsRange.new ..) hsm hn hl q
theorem small_of {lo hi : Int} (h1 : -100000 ≤ lo) (h2 : lo ≤ 100000) (h3 : -100000 ≤ hi) (h4 : hi ≤ 100000) : Builtin.Range.small lo hi 1 = true := small_one (by omega) (by omega) (by omega) (by omega)
/-- list(range(n)), list(range(a, b)), list(range(a, b, c)) -/
theorem EL.listR1 {n : Int} (mL : X.mg "list" = none) (mR : X.mg "range" = none) (h : EV X a σ H (.int n)) (hn : 0 ≤ n ∧ n ≤ 100000) (hg : Gl X "list" := by rfl) (hg2 : Gl X "range" := by rfl) (hc : X.calm = true := by rfl) (hs : noStar a = true := by rfl) :
    EL X (.Call (.Name "list" p) [.Call (.Name "range" p2) [a] [] q2] [] pos) σ H ((List.range n.toNat).map fun i : Nat => V.int (i : Int)) :=
  EL.of (pe_listRange hg mL hg2 mR hc (pa_all (es := [a]) (by simp [hs])) (by simp [hs])) fun H1 e1 Q k => (AV.one h).ev H1 e1 _ fun H2 e2 => ⟨0, n, 1, n.toNat, .inl ⟨rfl, rfl, rfl⟩, small_of (by omega) (by omega) (by omega) (by omega), by rw [rangeSize_one]; split <;> omega, by omega, fun p H3 np e3 hp => k p H3 (fresh_back e2 np) (e2.trans e3) (by
    rw [hp]
    unfold rngV
    congr 2
    refine List.map_congr_left fun i _ => ?_
    show V.int (0 + (i : Int) * 1) = _
    rw [Int.mul_one, Int.zero_add])⟩
theorem EL.listR2 {lo n : Int} (mL : X.mg "list" = none) (mR : X.mg "range" = none) (h : EV X a σ H (.int lo)) (h' : EV X b σ H (.int n)) (hn : -1000 ≤ lo ∧ lo ≤ n ∧ n ≤ 90000) (hg : Gl X "list" := by rfl) (hg2 : Gl X "range" := by rfl) (hc : X.calm = true := by rfl) (hs : [a, b].all noStar = true := by rfl) :
    EL X (.Call (.Name "list" p) [.Call (.Name "range" p2) [a, b] [] q2] [] pos) σ H ((List.range (n - lo).toNat).map fun i : Nat => V.int (lo + (i : Int))) :=
  EL.of (pe_listRange hg mL hg2 mR hc (pa_all hs) hs) fun H1 e1 Q k => (AV.two h h').ev H1 e1 _ fun H2 e2 => ⟨lo, n, 1, (n - lo).toNat, .inr (.inl ⟨rfl, rfl⟩), small_of (by omega) (by omega) (by omega) (by omega), by rw [rangeSize_one]; split <;> omega, by omega, fun p H3 np e3 hp => k p H3 (fresh_back e2 np) (e2.trans e3) (by
    rw [hp]
    unfold rngV
    congr 2
    refine List.map_congr_left fun i _ => ?_
    rw [Int.mul_one])⟩
theorem EL.listR3 {lo hi cc : Int} (n : Nat) (mL : X.mg "list" = none) (mR : X.mg "range" = none) (h : EV X a σ H (.int lo)) (h' : EV X b σ H (.int hi)) (h'' : EV X c σ H (.int cc)) (hn : RgC lo hi cc n) (hl : n ≤ 100000) (hg : Gl X "list" := by rfl) (hg2 : Gl X "range" := by rfl) (hc : X.calm = true := by rfl) (hs : [a, b, c].all noStar = true := by rfl) :
    EL X (.Call (.Name "list" p) [.Call (.Name "range" p2) [a, b, c] [] q2] [] pos) σ H (rngV lo cc n) :=
  EL.of (pe_listRange hg mL hg2 mR hc (pa_all hs) hs) fun H1 e1 Q k => (AV.three h h' h'').ev H1 e1 _ fun H2 e2 => ⟨lo, hi, cc, n, .inr (.inr ⟨rfl, hn.1, hn.2.1⟩), hn.2.2.1, hn.2.2.2, hl, fun p H3 np e3 hp => k p H3 (fresh_back e2 np) (e2.trans e3) hp⟩
/-! ### xs + ys, list(xs), xs * k, slices -/
theorem EL.cat {ys : List V} (ha : ES X a σ H xs) (hb : ES X b σ H ys) (hz : xs.length + ys.length ≤ 100000) : EL X (.BinOp a .Add b pos) σ H (xs ++ ys) :=
  EL.of (pe_op op_catS pe_self pe_self) fun H1 e1 Q k => ha.ev H1 e1 _ fun p H2 e2 hp => hb.ev H2 (e1.trans e2) _ fun q H3 e3 hq => ⟨p, q, xs, ys, rfl, rfl, ex_l e3 hp, hq, sz_of hz, fun r hr => k r _ (fresh_back (e2.trans e3) hr) ((e2.trans e3).trans (Ex.new hr)) upd_same⟩
theorem EN.cat (ha : EX X a σ H (.lst ss)) (hb : EX X b σ H (.lst ts)) (hz : ss.length + ts.length ≤ 100000 := by exact Nat.le_of_ble_eq_true rfl) : EN X (.BinOp a .Add b pos) σ H (ss ++ ts) :=
  ⟨fun H1 e1 Q k => EW.of (pe_op op_catS pe_self pe_self) (ha.ev H1 e1 _ fun v H2 e2 hv => hb.ev H2 (e1.trans e2) _ fun u H3 e3 hu => by
    obtain ⟨p, vs, rfl, hp, h1⟩ := hv.ofL
    obtain ⟨q, us, rfl, hq, h2⟩ := hu.ofL
    exact ⟨p, q, vs, us, rfl, rfl, ex_l e3 hp, hq, sz_of (by rw [h1.len, h2.len]; exact hz), fun r hr => k r _ _ (fresh_back (e2.trans e3) hr) ((e2.trans e3).trans (Ex.new hr)) upd_same (((h1.ex e3).append h2).ex (Ex.new hr))⟩)⟩
theorem EL.listOf (mL : X.mg "list" = none) (ha : ES X a σ H xs) (hg : Gl X "list" := by rfl) (hs : noStar a = true := by rfl) : EL X (.Call (.Name "list" p) [a] [] pos) σ H xs :=
  EL.of (pe_callTy call_list_of hg mL (by decide +kernel) (pa_all (es := [a]) (by simp [hs])) (by decide) (by decide) (star_of hs []) rfl) fun H1 e1 Q k => ha.ev H1 e1 _ fun p H2 e2 hp => ⟨p, xs, rfl, .inl hp, fun l hl => k l _ (fresh_back e2 hl) (e2.trans (Ex.new hl)) upd_same⟩
theorem EN.listOf (mL : X.mg "list" = none) (ha : EX X a σ H (.lst ss)) (hg : Gl X "list" := by rfl) (hs : noStar a = true := by rfl) : EN X (.Call (.Name "list" p) [a] [] pos) σ H ss :=
  ⟨fun H1 e1 Q k => EW.of (pe_callTy call_list_of hg mL (by decide +kernel) (pa_all (es := [a]) (by simp [hs])) (by decide) (by decide) (star_of hs []) rfl) (ha.ev H1 e1 _ fun v H2 e2 hv => by
    obtain ⟨p, vs, rfl, hp, h1⟩ := hv.ofL
    exact ⟨p, vs, rfl, .inl hp, fun l hl => k l _ _ (fresh_back e2 hl) (e2.trans (Ex.new hl)) upd_same (h1.ex (Ex.new hl))⟩)⟩
theorem EL.rep {k : Int} (ha : EL X a σ H xs) (hb : EV X b σ H (.int k)) (hk : -(2 ^ 63) ≤ k ∧ k < 2 ^ 63) (hz : xs.length * k.toNat ≤ 100000) : EL X (.BinOp a .Mult b pos) σ H (List.replicate k.toNat xs).flatten :=
  EL.of (pe_op op_rep pe_self pe_self) fun H1 e1 Q q => ha.ev H1 e1 _ fun p H2 np e2 hp => hb.ev H2 (e1.trans e2) _ fun H3 e3 => ⟨p, k, xs, rfl, rfl, e3 _ _ hp, hk.1, hk.2, sz_of hz, fun r hr => q r _ (fresh_back (e2.trans e3) hr) ((e2.trans e3).trans (Ex.new hr)) upd_same⟩
theorem EL.rev {k : Nat} {p1 p3 : Pos} (ha : ES X a σ H xs) : EL X (.Subscript a (.Slice none none (some (.UnaryOp .USub (.Constant (.int 1) k p1) p2)) p3) pos) σ H xs.reverse :=
  EL.of (pe_revL pe_self) fun H1 e1 Q q => ha.ev H1 e1 _ fun p H2 e2 hp => ⟨p, xs, rfl, hp, fun r hr => q r _ (fresh_back e2 hr) (e2.trans (Ex.new hr)) upd_same⟩
theorem IsAll.rev {K : PySem.W.Frag} {H : Hp} : ∀ {vs : List V} {ss : List Sh}, IsAll K H vs ss → IsAll K H vs.reverse ss.reverse
  | _, _, .nil => .nil
  | _, _, .cons a b => by
    rw [List.reverse_cons, List.reverse_cons]
    exact (IsAll.rev b).append (.cons a .nil)
theorem IsAll.drop {K : PySem.W.Frag} {H : Hp} : ∀ {vs : List V} {ss : List Sh} (n : Nat), IsAll K H vs ss → IsAll K H (vs.drop n) (ss.drop n)
  | _, _, 0, h => h
  | _, _, n + 1, .nil => .nil
  | _, _, n + 1, .cons a b => IsAll.drop n b
/-- a slice of shapes -/
def cutS' (ss : List Sh) (lo hi : Option Int) : List Sh := (ss.drop (HT.sIx ss.length 0 lo)).take (HT.sIx ss.length ss.length hi - HT.sIx ss.length 0 lo)
theorem EN.slice {lo hi : Option Expr} {l h : Option Int} {tl th : TO} (ha : EX X a σ H (.lst ss)) (pl : PO X lo tl) (ph : PO X hi th) (hl : EvO tl σ H l) (hh : EvO th σ H h) : EN X (.Subscript a (.Slice lo hi none p2) pos) σ H (cutS' ss l h) :=
  ⟨fun H1 e1 Q k => EW.of (pe_slice sl_list pe_self pl ph) (ha.ev H1 e1 _ fun v H2 e2 hv => hl H2 (e1.trans e2) _ fun H3 e3 => hh H3 ((e1.trans e2).trans e3) _ fun H4 e4 => by
    obtain ⟨q, vs, rfl, hq, h1⟩ := hv.ofL
    refine ⟨q, vs, rfl, ex_l (e3.trans e4) hq, fun r hr => k r _ _ (fresh_back ((e2.trans e3).trans e4) hr) (((e2.trans e3).trans e4).trans (Ex.new hr)) upd_same ?_⟩
    unfold cutV cutS'
    rw [h1.len]
    exact (((h1.ex (e3.trans e4)).drop _).take _).ex (Ex.new hr))⟩
/-- xs[:n] -/
theorem cutS_upto (ss : List Sh) (k : Nat) : cutS' ss none (some (k : Int)) = ss.take k := by
  unfold cutS'
  rw [HT.sIx_nat, HT.sIx_none]
  show List.take (min k ss.length - 0) (List.drop 0 ss) = _
  rw [Nat.sub_zero, List.drop_zero]
  rcases Nat.le_total k ss.length with h | h
  · rw [Nat.min_eq_left h]
  · rw [Nat.min_eq_right h, List.take_length, List.take_of_length_le h]
theorem EN.upto {n : Nat} (ha : EX X a σ H (.lst ss)) (hb : EV X b σ H (.int (n : Int))) : EN X (.Subscript a (.Slice none (some b) none p2) pos) σ H (ss.take n) :=
  (EN.slice ha po_none (po_some pe_self) eo_none (eo_some hb.ev)).is (cutS_upto ss n)
/-! ### x -= e, x += e -/
theorem BW.augS {n : Str} (i : Nat) {u w : Int} (hN : X.N.Nodup) (hx : σ[i]? = some (some (.int u))) (h : EV X e σ H (.int w)) (k : ∀ H1, Ex H H1 → BW X rest D (σ.set i (some (.int (u - w)))) H1)
    (hi : X.N[i]? = some n := by rfl) (hl : Loc X.env.scope n := by first | exact Or.inl rfl | exact Or.inr rfl) (hf : X.fn n = true ∨ X.env.scope.names.lookup n = some .local := by first | exact .inl rfl | exact .inr rfl) : BW X (.AugAssign (.Name n p) .Sub e pos :: rest) D σ H :=
  BW.cons (ps_aug (i := i) hN hi hl pe_self ip_sub hf) ⟨.int u, hx, h.ev H (Ex.refl H) _ fun H1 e1 => ⟨u, w, rfl, rfl, k H1 e1⟩⟩
/-! ### a, b = x over a pair; pairs in loops -/
theorem g_pair {K : PySem.W.Frag} {j1 j2 : Nat} {u w : V} {R : L2.St → Hp → Prop} (h : Is K H v (.tup [.v u, .v w])) (k : R ((σ.set j1 (some u)).set j2 (some w)) H) : gTup K 2 (gCons (gName j1) (gCons (gName j2) gNil)) v σ H R := by
  obtain ⟨p, vs, rfl, hp, ha⟩ := h.ofU
  have e : vs = [u, w] := IsAll.valsE (vs := [u, w]) ha
  subst e
  exact ⟨p, [u, w], rfl, hp, rfl, u, [w], rfl, w, [], rfl, rfl, k⟩
/-! ### xs[i] = e; xs.extend(ys); xs.insert(i, v); xs.index(v) -/
theorem BW.setL {l : Addr} {j : Nat} {apos : Pos} (hl : H l = some (.lst xs)) (h : EV X e σ H v) (ho : EV X a σ H (.ref l)) (hi : EV X b σ H (.int (j : Int))) (hj : j < xs.length) (k : ∀ H1, Ex H H1 → BW X rest D σ (upd H1 l (.lst (xs.set j v))))
    (hg : PG X (.Subscript a b apos) (gSub (EW X a) (EW X b) rSetL) := by exact pg_sub pe_self pe_self set_list) (hs : swapsWithSole [.Subscript a b apos] e pos.line X.env = pure false := by rfl) (hw : swappedStores [.Subscript a b apos] e X.env = pure none := by rfl) : BW X (.Assign [.Subscript a b apos] e pos :: rest) D σ H :=
  BW.cons (ps_asg pe_self hg hs hw) (s_setL (D := { D with nx := BW X rest D }) hl h.ev ho.ev hi.ev hj k)
theorem BW.extend {l q : Addr} {ys : List V} (hl : H l = some (.lst xs)) (ha : EV X a σ H (.ref l)) (h : EL X e σ H ys) (hz : xs.length + ys.length ≤ 100000) (k : ∀ H1, Ex H H1 → BW X rest D σ (upd H1 l (.lst (xs ++ ys)))) (hs : noStar e = true := by rfl)
    (he : PE X (.Call (.Attribute a "extend" apos) [e] [] p) (tBM X.K "list" rExtend (EW X a) (tArgs X [e])) := by exact pe_bm PySem.F.plainAttrs_list PySem.F.slot_list_extend PySem.F.type_list_extend mt_extend pe_self (pa_all rfl))
    (hw : swapsWith (.Call (.Attribute a "extend" apos) [e] [] p) none pos.line X.env = pure false := by rfl) : BW X (.Expr (.Call (.Attribute a "extend" apos) [e] [] p) pos :: rest) D σ H :=
  BW.cons (ps_expr he hw) (ha.ev H (Ex.refl H) _ fun H1 e1 => ⟨.inl ⟨rfl, xs, sq_of (e1 l _ hl)⟩, h.ev H1 e1 _ fun q H2 np e2 hq => ⟨l, q, xs, ys, rfl, rfl, e2 l _ (e1 l _ hl), hq, sz_of hz, k H2 (e1.trans e2)⟩⟩)
/-! ### what follows, once -/
theorem BW.mono {D' : Ends} {st : List Stmt} (h : BW X st D σ H) (hn : ∀ σ' H', D.nx σ' H' → D'.nx σ' H') (hr : ∀ v H', D.rt v H' → D'.rt v H') (hb : ∀ σ' H', D.bk σ' H' → D'.bk σ' H') (hc : ∀ σ' H', D.ct σ' H' → D'.ct σ' H') : BW X st D' σ H :=
  ⟨fun pins s I => thn (h.run pins s I) fun f s1 q => by
    cases f with
    | next =>
      obtain ⟨σ', H', I', q⟩ := q
      exact ⟨σ', H', I', hn _ _ q⟩
    | brk =>
      obtain ⟨σ', H', I', q⟩ := q
      exact ⟨σ', H', I', hb _ _ q⟩
    | cont =>
      obtain ⟨σ', H', I', q⟩ := q
      exact ⟨σ', H', I', hc _ _ q⟩
    | ret u =>
      obtain ⟨v, σ', H', I', r, q⟩ := q
      exact ⟨v, σ', H', I', r, hr _ _ q⟩⟩
/-- an if whose ways meet in Mid -/
theorem BW.iteC {s1 s2 : List Stmt} {k : Bool} (Mid : L2.St → Hp → Prop) (h : TV X c σ H k) (h1 : k = true → ∀ H1, Ex H H1 → BW X s1 { D with nx := Mid } σ H1) (h2 : k = false → ∀ H1, Ex H H1 → BW X s2 { D with nx := Mid } σ H1) (k' : ∀ σ' H', Mid σ' H' → BW X rest D σ' H') : BW X (.If c s1 s2 pos :: rest) D σ H :=
  BW.ite h (fun hk H1 e1 => (h1 hk H1 e1).mono k' (fun _ _ z => z) (fun _ _ z => z) (fun _ _ z => z)) (fun hk H1 e1 => (h2 hk H1 e1).mono k' (fun _ _ z => z) (fun _ _ z => z) (fun _ _ z => z))
theorem BW.whenC {s1 : List Stmt} {k : Bool} (Mid : L2.St → Hp → Prop) (h : TV X c σ H k) (h1 : k = true → ∀ H1, Ex H H1 → BW X s1 { D with nx := Mid } σ H1) (h2 : k = false → ∀ H1, Ex H H1 → Mid σ H1) (k' : ∀ σ' H', Mid σ' H' → BW X rest D σ' H') : BW X (.If c s1 [] pos :: rest) D σ H :=
  BW.iteC Mid h h1 (fun hk H1 e1 => BW.nil (h2 hk H1 e1)) k'
end
end QR

namespace QR
open PySem PySem.Spec PyProof.Rows L2 Evl
/-! ### the heap but for one list that grows -/
def hide (H : Hp) (l : Addr) : Hp := fun b => if b = l then none else H b
theorem hide_at {H : Hp} {l b : Addr} (h : b ≠ l) : hide H l b = H b := if_neg h
theorem hide_ex {H : Hp} {l : Addr} : Ex (hide H l) H := fun b o h => by
  unfold hide at h
  split at h
  · cases h
  · exact h
theorem hide_mono {H H1 : Hp} {l : Addr} (e : Ex H H1) : Ex (hide H l) (hide H1 l) := fun b o h => by
  unfold hide at h ⊢
  split at h
  · cases h
  · rename_i hb
    rw [if_neg hb]
    exact e _ _ h
theorem hide_upd {H : Hp} {l : Addr} {o : HO} : hide (upd H l o) l = hide H l := funext fun b => by
  unfold hide
  split
  · rfl
  · rename_i hb
    rw [upd_ne hb]
/-- a heap that does not know l stays, if l changes -/
theorem ex_hide {H0 H : Hp} {l : Addr} (e : Ex H0 H) (n : H0 l = none) : Ex H0 (hide H l) := fun b o h => by
  rw [hide_at (ne_of_none h n)]
  exact e _ _ h
theorem hide_out {H : Hp} {l : Addr} {o : HO} : Ex (hide H l) (upd H l o) := fun b u h => by
  unfold hide at h
  split at h
  · cases h
  · rename_i hb
    rw [upd_ne hb]
    exact h
theorem Is.hideT {K : PySem.W.Frag} {H : Hp} {l : Addr} {v : V} {us xs : List V} (h : Is K H v (.tup (us.map Sh.v))) (hl : H l = some (.lst xs)) : Is K (hide H l) v (.tup (us.map Sh.v)) := by
  obtain ⟨p, vs, rfl, hp, ha⟩ := h.ofU
  have e := ha.valsE
  subst e
  refine .tup ?_ (IsAll.vals _)
  rcases hp with (h | ⟨o, h⟩) | h
  · refine Or.inl (Or.inl ?_)
    rw [hide_at (by rintro rfl; rw [hl] at h; cases h)]
    exact h
  · refine Or.inl (Or.inr ⟨o, ?_⟩)
    rw [hide_at (by rintro rfl; rw [hl] at h; cases h)]
    exact h
  · exact Or.inr h
theorem Is.hideI {K : PySem.W.Frag} {H : Hp} {l : Addr} {v : V} {C : Addr} {fs : List (Str × V)} {xs : List V} (h : Is K H v (.ins C fs)) (hl : H l = some (.lst xs)) : Is K (hide H l) v (.ins C fs) := by
  obtain ⟨p, dx, rfl, hp⟩ := h.ofI
  refine .ins (dx := dx) ?_
  rw [hide_at (by rintro rfl; rw [hl] at hp; cases hp)]
  exact hp
section
variable {X : Cx} {e a b c o tg iter : Expr} {es : List Expr} {st : Stmt} {body rest : List Stmt} {σ : L2.St} {H : Hp} {D : Ends} {Q : VK} {v x y z : V} {pos p p2 q2 pr apos : Pos} {vs xs : List V} {f m : Str} {s t : Sh} {ss ts : List Sh}
theorem BW.appX {l : Addr} (hl : H l = some (.lst xs)) (ha : EV X a σ H (.ref l)) (h : EX X e σ H s) (hz : xs.length < 100000) (k : ∀ v H1, Ex H H1 → Is X.K H1 v s → BW X rest D σ (upd H1 l (.lst (xs ++ [v])))) (hs : noStar e = true := by rfl)
    (he : PE X (.Call (.Attribute a "append" apos) [e] [] p) (tBM X.K "list" rAppend (EW X a) (tArgs X [e])) := by exact pe_bm PySem.F.plainAttrs_list PySem.F.slot_list_append PySem.F.type_list_append mt_append pe_self (pa_all rfl))
    (hw : swapsWith (.Call (.Attribute a "append" apos) [e] [] p) none pos.line X.env = pure false := by rfl) : BW X (.Expr (.Call (.Attribute a "append" apos) [e] [] p) pos :: rest) D σ H :=
  BW.cons (ps_expr he hw) (ha.ev H (Ex.refl H) _ fun H1 e1 => ⟨.inl ⟨rfl, xs, sq_of (e1 l _ hl)⟩, h.ev H1 e1 _ fun v H2 e2 hv => ⟨l, xs, v, rfl, rfl, e2 l _ (e1 l _ hl), sz_lt hz, k v H2 (e1.trans e2) hv⟩⟩)
/-- the list that is appended is new -/
theorem BW.appL {l : Addr} {ys : List V} (hl : H l = some (.lst xs)) (ha : EV X a σ H (.ref l)) (h : EL X e σ H ys) (hz : xs.length < 100000) (k : ∀ q H1, H q = none → Ex H H1 → H1 q = some (.lst ys) → BW X rest D σ (upd H1 l (.lst (xs ++ [.ref q])))) (hs : noStar e = true := by rfl)
    (he : PE X (.Call (.Attribute a "append" apos) [e] [] p) (tBM X.K "list" rAppend (EW X a) (tArgs X [e])) := by exact pe_bm PySem.F.plainAttrs_list PySem.F.slot_list_append PySem.F.type_list_append mt_append pe_self (pa_all rfl))
    (hw : swapsWith (.Call (.Attribute a "append" apos) [e] [] p) none pos.line X.env = pure false := by rfl) : BW X (.Expr (.Call (.Attribute a "append" apos) [e] [] p) pos :: rest) D σ H :=
  BW.cons (ps_expr he hw) (ha.ev H (Ex.refl H) _ fun H1 e1 => ⟨.inl ⟨rfl, xs, sq_of (e1 l _ hl)⟩, h.ev H1 e1 _ fun q H2 np e2 hq => ⟨l, xs, .ref q, rfl, rfl, e2 l _ (e1 l _ hl), sz_lt hz, k q H2 (fresh_back e1 np) (e1.trans e2) hq⟩⟩)
end
section
variable {X : Cx} {e a b c d o : Expr} {es : List Expr} {σ : L2.St} {H : Hp} {z : V} {pos p : Pos} {xs : List V} {w : Str} {sp : Sp} {k j : Nat} {ss : List Sh}
/-- a call whose arguments are told by their shapes -/
theorem EV.callA (C : Fc X.prog X.w X.K X.mg X.base k w sp) (hr : Room j X.A) (ha : AX X (e :: es) σ H ss) (hv : ∀ vs H1, Ex H H1 → IsAll X.K H1 vs ss → SpV sp vs H1 z) (hk : k ≤ j := by decide) (hg : Gl X w := by rfl) (hs : (e :: es).all noStar = true := by rfl) (hdb : (w == ("__debug__" : Str)) = false := by decide) :
    EV X (.Call (.Name w p) (e :: es) [] pos) σ H z := EV.of (pe_fc C hr hk passL hg hs hdb) fun H1 e1 Q q => ha.ev H1 e1 _ fun vs H2 e2 hvs => by
      show sp (vs ++ []) H2 Q E0
      rw [List.append_nil]
      exact hv vs H2 (e1.trans e2) hvs H2 (Ex.refl H2) Q (fun H3 e3 => q H3 (e2.trans e3)) _
theorem EL.callA (C : Fc X.prog X.w X.K X.mg X.base k w sp) (hr : Room j X.A) (ha : AX X (e :: es) σ H ss) (hv : ∀ vs H1, Ex H H1 → IsAll X.K H1 vs ss → SpL sp vs H1 xs) (hk : k ≤ j := by decide) (hg : Gl X w := by rfl) (hs : (e :: es).all noStar = true := by rfl) (hdb : (w == ("__debug__" : Str)) = false := by decide) :
    EL X (.Call (.Name w p) (e :: es) [] pos) σ H xs := EL.of (pe_fc C hr hk passL hg hs hdb) fun H1 e1 Q q => ha.ev H1 e1 _ fun vs H2 e2 hvs => by
      show sp (vs ++ []) H2 Q E0
      rw [List.append_nil]
      exact hv vs H2 (e1.trans e2) hvs H2 (Ex.refl H2) Q (fun r H3 nr e3 h3 => q r H3 (fresh_back e2 nr) (e2.trans e3) h3) _
theorem EI.callA {C : Addr} {fs : List (Str × V)} (Cc : Fc X.prog X.w X.K X.mg X.base k w sp) (hr : Room j X.A) (ha : AX X (e :: es) σ H ss) (hv : ∀ vs H1, Ex H H1 → IsAll X.K H1 vs ss → SpI sp vs H1 C fs) (hk : k ≤ j := by decide) (hg : Gl X w := by rfl) (hs : (e :: es).all noStar = true := by rfl) (hdb : (w == ("__debug__" : Str)) = false := by decide) :
    EI X (.Call (.Name w p) (e :: es) [] pos) σ H C fs := ⟨fun H1 e1 Q q => EW.of (pe_fc Cc hr hk passL hg hs hdb) (ha.ev H1 e1 _ fun vs H2 e2 hvs => by
      show sp (vs ++ []) H2 Q E0
      rw [List.append_nil]
      exact hv vs H2 (e1.trans e2) hvs H2 (Ex.refl H2) Q (fun r dx H3 nr e3 h3 => q r dx H3 (fresh_back e2 nr) (e2.trans e3) h3) _)⟩
theorem IsAll.two {K : PySem.W.Frag} {H : Hp} {vs : List V} {s t : Sh} (h : IsAll K H vs [s, t]) : ∃ u v, vs = [u, v] ∧ Is K H u s ∧ Is K H v t := by
  cases h with
  | cons a b => cases b with
    | cons b c => cases c with
      | nil => exact ⟨_, _, rfl, a, b⟩
theorem IsAll.one {K : PySem.W.Frag} {H : Hp} {vs : List V} {s : Sh} (h : IsAll K H vs [s]) : ∃ u, vs = [u] ∧ Is K H u s := by
  cases h with
  | cons a b => cases b with
    | nil => exact ⟨_, rfl, a⟩
theorem IsAll.three {K : PySem.W.Frag} {H : Hp} {vs : List V} {s t r : Sh} (h : IsAll K H vs [s, t, r]) : ∃ u v x, vs = [u, v, x] ∧ Is K H u s ∧ Is K H v t ∧ Is K H x r := by
  cases h with
  | cons a b =>
    obtain ⟨u, v, rfl, h1, h2⟩ := IsAll.two b
    exact ⟨_, _, _, rfl, a, h1, h2⟩
theorem AX.two {s t : Sh} (h : EX X a σ H s) (h2 : EX X b σ H t) : AX X [a, b] σ H [s, t] := AX.cons h (AX.one h2)
theorem AX.three {s t r : Sh} (h : EX X a σ H s) (h2 : EX X b σ H t) (h3 : EX X c σ H r) : AX X [a, b, c] σ H [s, t, r] := AX.cons h (AX.two h2 h3)
theorem TV.or4 {k1 k2 k3 k4 : Bool} (h : TV X a σ H k1) (h2 : k1 = false → TV X b σ H k2) (h3 : k1 = false → k2 = false → TV X c σ H k3) (h4 : k1 = false → k2 = false → k3 = false → TV X d σ H k4) : TV X (.BoolOp .Or [a, b, c, d] pos) σ H (k1 || (k2 || (k3 || k4))) := TV.bool (LV.or h fun q => LV.or (h2 q) fun r => LV.or (h3 q r) fun t => LV.or1 (h4 q r t))
end
theorem in0 (a b : Int) : inV (.int a) [.int 0, .int b] = decide (a = 0 ∨ a = b) := by
  have : (∀ x : Int, eqV (.int x) (.int a) = decide (a = x)) := fun x => by simp [eqV, Bool.beq_eq_decide_eq, eq_comm]
  simp only [inV, List.any_cons, List.any_nil, Bool.or_false, this, Bool.decide_or]
end QR

namespace QR
open PySem PySem.Spec PyProof.Rows L2 Evl
/-! ### the end: what the head tells -/
theorem fun_ofD {K : PySem.W.Frag} {x qual : Str} {st : Stmt} {f : Addr} {fd : FuncData} (F : FunD K x qual (defArgs st) (defBody st) (defScope st) [] [] f fd) : Fun K x qual st f fd := by
  obtain ⟨⟨oc, od, dV, kV, doc, pm, an, cdv, ct, osl, e, lk, hcd, hd, _⟩, kp⟩ := F
  rcases hd with ⟨_, rfl⟩ | ⟨hn, _⟩
  · exact ⟨⟨oc, od, kV, doc, pm, an, cdv, ct, osl, e, lk, hcd⟩, kp⟩
  · exact absurd rfl hn
/-- a def of the top, a method of a class -/
def dG (x : Str) (st : Stmt) : He.DefD := ⟨(x, none), x, x, defArgs st, defBody st, defScope st, [], []⟩
def dM (C m q : Str) (st : Stmt) : He.DefD := ⟨(C, some m), m, q, defArgs st, defBody st, defScope st, [], []⟩
abbrev ga (K : PySem.W.Frag) (x : Str) : Addr := He.ga K x
/-- what the kit of classes must say -/
def ciB (K : PySem.W.Frag) (x : Str) : Bool :=
  He.eqO (PySem.W.findIn K (.ref (ga K x)) "__class__") (some (some (.builtin "object.__class__"))) &&
  (He.eqO (PySem.W.specialIn K (.builtin "object.__class__") "__get__") (some (some (.builtin "getset_descriptor.__get__"))) &&
  (decide (PySem.W.takesIn K (.builtin "object.__class__") = some true) && decide (PySem.W.mroIn K (ga K x) (.type "object") = some true)))
def kitBB (K : PySem.W.Frag) (x y : Str) (b : Bool) : Bool := decide (PySem.W.kitOne K (.ref (ga K x)) (.ref (ga K y)) = some b)
theorem ci_ok {K : PySem.W.Frag} {mg : Str → Option Value} {x : Str} (hm : mg x = some (.ref (ga K x))) (hc : (He.Fa.cls x).ok K = true) (h : ciB K x = true) : Ci K mg x (ga K x) := by
  obtain ⟨h1, h⟩ := He.ba h
  obtain ⟨h2, h⟩ := He.ba h
  obtain ⟨h3, h4⟩ := He.ba h
  exact ⟨He.cls_ok hc, hm, He.eqO_ok h1, He.eqO_ok h2, of_decide_eq_true h3, of_decide_eq_true h4⟩
theorem kit_ok {K : PySem.W.Frag} {x y : Str} {b : Bool} (h : kitBB K x y b = true) : PySem.W.kitOne K (.ref (ga K x)) (.ref (ga K y)) = some b := of_decide_eq_true h
/-- the free names -/
def freeL : List Str := ["isinstance", "int", "bool", "list", "len", "all", "any", "abs", "range", "sum", "min", "max", "set", "enumerate", "sorted", "tuple", "str", "ValueError"]
section
variable {K : PySem.W.Frag} {h : Heap} {mg : Str → Option Value} {fa : List He.Fa} {fn : List He.DefD}
theorem fact_of (c : He.SaysD fa fn K) {f : He.Fa} (hf : f ∈ fa) : f.ok K = true := c.facts hf
theorem glo_of (X : K.In h) (G : h.Ns mainGlobals mg) (c : He.SaysD fa fn K) {x : Str} (hf : He.Fa.glo x ∈ fa) : mg x = some (.ref (ga K x)) := He.glo_ok X G (c.facts hf)
theorem free_of (X : K.In h) (G : h.Ns mainGlobals mg) (c : He.SaysD fa fn K) {x : Str} (hf : He.Fa.free x ∈ fa) : mg x = none := He.free_ok X G (c.facts hf)
end
end QR

namespace QR
open PySem PySem.Spec PyProof.Rows L2 Evl
/-! ### C() of a class without an __init__ of its own -/
structure MkN (K : PySem.W.Frag) (C : Addr) : Prop where
  makes : PySem.W.makesIn K C = true
  init : PySem.W.findIn K (.ref C) "__init__" = some (some (.builtin "object.__init__"))
  kp : PySem.W.keepIn K (.ref C) = true
def mkNB (K : PySem.W.Frag) (x : Str) : Bool := PySem.W.makesIn K (ga K x) && (He.eqO (PySem.W.findIn K (.ref (ga K x)) "__init__") (some (some (.builtin "object.__init__"))) && PySem.W.keepIn K (.ref (ga K x)))
theorem mkN_of {K : PySem.W.Frag} {x : Str} (h : mkNB K x = true) : MkN K (ga K x) := by
  obtain ⟨h1, h⟩ := He.ba h
  obtain ⟨h2, h3⟩ := He.ba h
  exact ⟨h1, He.eqO_ok h2, h3⟩
section
variable {X : Cx} {e a b c o : Expr} {es : List Expr} {rest : List Stmt} {D : Ends} {σ : L2.St} {H : Hp} {Q : VK} {v z : V} {pos p : Pos} {vs xs : List V} {x : Str} {C : Addr}
theorem run_makeN {pins : List (Addr × Obj)} {s : Shared} (M : MkN X.K C) (I : Inv X pins σ H s) (h : ∀ x dx, H x = none → H dx = none → dx ≠ x → Q (.ref x) (upd (upd H dx (.own x)) x (.ins C dx []))) :
    wpAny (model X.prog X.w) X.A (call (.ref C) []) (EP X pins σ Q) X.xe s := by
  have hq := h (s.heap.objs.size + 1) s.heap.objs.size (I.hok.fresh (Nat.le_succ _)) (I.hok.fresh (Nat.le_refl _)) (Nat.ne_of_lt (Nat.lt_succ_self _))
  have I2 := Inv.made (C := C) I
  refine wpAny_call (make_map0 I.kIn M.makes M.init (fun self => PySem.W.Looks.of_pure (PySem.W.oi_bind self)) ?_)
  have e2 : ((s.heap.push PySem.W.emptyDict).push (PySem.W.instObj C s.heap.objs.size)).get? (s.heap.objs.size + 1) = some (PySem.W.instObj C s.heap.objs.size) := by
    have := Heap.get?_push_size (s.heap.push PySem.W.emptyDict) (o := PySem.W.instObj C s.heap.objs.size) rfl
    rwa [Heap.size_push] at this
  have Y := PySem.W.makes_of (M := model X.prog X.w) I.kIn M.makes
  have t1 : PySem.W.Looks (model X.prog X.w) ((s.heap.push PySem.W.emptyDict).push (PySem.W.instObj C s.heap.objs.size)) (typeOf (.ref (s.heap.objs.size + 1))) (.ref C) := (PySem.W.Looks.ld e2).andThen .now
  have t2 : PySem.W.Looks (model X.prog X.w) ((s.heap.push PySem.W.emptyDict).push (PySem.W.instObj C s.heap.objs.size)) (isInstance (.ref (s.heap.objs.size + 1)) (.type "object")) true := t1.andThen (Y.top.keeps fun b o e => Heap.get?_push_of_some _ (Heap.get?_push_of_some _ e))
  refine codeAny_call_builtin PySem.W.oi_plain PySem.W.entry_oi (@PySem.W.check_slot (model X.prog X.w) _ _ _ "object.__init__" "object" "__init__" (.ref (s.heap.objs.size + 1)) [] [] _ PySem.W.oi_kind PySem.W.oi_split t2 (PySem.W.oi_args (.ref (s.heap.objs.size + 1))) ?_)
  rw [PySem.W.oi_run]
  exact wpAny_pure (And.intro rfl ⟨V.ref (s.heap.objs.size + 1), _, I2, rfl, hq⟩)
theorem EI.make0 (M : MkN X.K C) (hm : X.mg x = some (.ref C)) (hg : Gl X x := by rfl) (hdb : (x == ("__debug__" : Str)) = false := by decide) : EI X (.Call (.Name x p) [] [] pos) σ H C [] :=
  ⟨fun H1 e1 Q q => ⟨fun pins s I => by
    refine wpAny_Call_Name_kw (ld_glob I hg hm ?_ hdb)
    refine PySem.W.callWith_K0 I.kIn M.kp (run_makeN M I fun x dx nx ndx ne => ?_)
    refine q x dx _ nx (fun b u hb => ?_) upd_same
    rw [upd_ne (ne_of_none hb nx), upd_ne (ne_of_none hb ndx)]
    exact hb⟩⟩
theorem pt_chain3 {d : Expr} {ta tb tc td : TE} {op op' op'' : CmpOp} {r r' r'' : R2} (ho : OpR X (compareOp op) r) (ho' : OpR X (compareOp op') r') (ho'' : OpR X (compareOp op'') r'') (ha : PE X a ta) (hb : PE X b tb) (hc : PE X c tc) (hd : PE X d td)
    (hm : lastMarks [op, op', op''] [b, c, d] = false) : PT X (.Compare a [op, op', op''] [b, c, d] pos) (tTest (tChain3 r r' r'' ta tb tc td)) := by
  refine ⟨fun pins s σ H Q I h => ?_⟩
  refine isTrue_chain (thn (ha.run pins s σ H _ I h) fun v s1 ⟨x, H1, I1, r1, q1⟩ => test_link (thn (hb.run pins s1 σ H1 _ I1 q1) fun u s2 ⟨y, H2, I2, r2, q2⟩ =>
    thn (ho pins s2 σ H2 x y v u _ I2 r1 r2 q2) fun d s3 ⟨z, H3, I3, r3, k, e, q3⟩ => ?_)) hm
  subst e
  cases r3
  refine wpAny_truthy_bool ?_
  cases k with
  | false =>
    obtain ⟨k', e', q'⟩ := q3
    cases e'
    exact ite_ff ⟨H3, I3, q'⟩
  | true =>
    refine ite_tt (test_link (thn (hc.run pins s3 σ H3 _ I3 q3) fun w' s4 ⟨z', H4, I4, r4, q4⟩ => thn (ho' pins s4 σ H4 y z' u w' _ I4 r2 r4 q4) fun d' s5 ⟨z2, H5, I5, r5, k2, e2, q5⟩ => ?_))
    subst e2
    cases r5
    refine wpAny_truthy_bool ?_
    cases k2 with
    | false =>
      obtain ⟨k', e', q'⟩ := q5
      cases e'
      exact ite_ff ⟨H5, I5, q'⟩
    | true =>
      refine ite_tt (test_last (thn (hd.run pins s5 σ H5 _ I5 q5) fun w2 s6 ⟨z3, H6, I6, r6, q6⟩ => thn (ho'' pins s6 σ H6 z' z3 w' w2 _ I6 r4 r6 q6) fun d3 s7 ⟨z4, H7, I7, r7, k3, e3, q7⟩ => ?_))
      subst e3
      cases r7
      exact wpAny_truthy_bool ⟨H7, I7, q7⟩
theorem TV.leLtLt {d : Expr} {i j k l : Int} (ha : EV X a σ H (.int i)) (hb : EV X b σ H (.int j)) (hc : EV X c σ H (.int k)) (hd : EV X d σ H (.int l)) : TV X (.Compare a [.LtE, .Lt, .Lt] [b, c, d] pos) σ H (decide (i ≤ j) && (decide (j < k) && decide (k < l))) := by
  refine TV.of (pt_chain3 op_le op_lt op_lt pe_self pe_self pe_self pe_self (nomark d)) fun H1 e Q q => ?_
  refine ha.ev H1 e _ fun H2 e2 => hb.ev H2 (e.trans e2) _ fun H3 e3 => ⟨i, j, rfl, rfl, decide (i ≤ j), rfl, ?_⟩
  have g4 := e2.trans e3
  cases hk1 : decide (i ≤ j) with
  | false => exact ⟨_, rfl, by rw [hk1] at q; exact q H3 g4⟩
  | true =>
    refine hc.ev H3 (e.trans g4) _ fun H5 e5 => ⟨j, k, rfl, rfl, decide (j < k), rfl, ?_⟩
    have g6 := g4.trans e5
    cases hk2 : decide (j < k) with
    | false => exact ⟨_, rfl, by rw [hk1, hk2] at q; exact q H5 g6⟩
    | true => exact hd.ev H5 (e.trans g6) _ fun H7 e7 => ⟨k, l, rfl, rfl, _, rfl, by rw [hk1, hk2] at q; exact q H7 (g6.trans e7)⟩
/-! ### a call of a def that a slot holds -/
structure Hc (P : Program) (w : World) (K : PySem.W.Frag) (mg : Str → Option Value) (base : Heap) (k : Nat) (f : Addr) (sp : Sp) : Prop where
  ex : ∃ (fd : FuncData) (ps : List Str), FnOk P w K mg base (L2.CX P w) k f fd ps sp ∧ PySem.W.keepIn K (.ref f) = true ∧ Binds K fd ps []
theorem Hc.of {P : Program} {w : World} {K : PySem.W.Frag} {mg : Str → Option Value} {base : Heap} {k : Nat} {x : Str} {sp : Sp} (C : Fc P w K mg base k x sp) : ∃ f, mg x = some (.ref f) ∧ Hc P w K mg base k f sp := by
  obtain ⟨f, fd, ps, F, hm, kp, bn⟩ := C.ex
  exact ⟨f, hm, ⟨fd, ps, F, kp, bn⟩⟩
theorem EV.callL {f : Addr} {sp : Sp} {k j : Nat} (i : Nat) (F : Hc X.prog X.w X.K X.mg X.base k f sp) (hr : Room j X.A) (hi : σ[i]? = some (some (.ref f))) (ha : AV X (e :: es) σ H vs) (hv : SpV sp vs H z) (hk : k ≤ j := by decide)
    (hN : X.N[i]? = some x := by rfl) (hvs : Vis X.env.scope x := by first | exact Or.inl rfl | exact Or.inr (Or.inl rfl) | exact Or.inr (Or.inr rfl)) (hs : (e :: es).all noStar = true := by rfl) (hdb : (x == ("__debug__" : Str)) = false := by decide) (hcd : (x == ("__classdict__" : Str)) = false := by decide) :
    EV X (.Call (.Name x p) (e :: es) [] pos) σ H z := by
  obtain ⟨fd, ps, F, kp, bn⟩ := F.ex
  refine EV.of (pe_callL (i := i) (f := f) (dvs := []) F (hr.mono hk) hN hvs kp bn .nil passL (pa_all hs) hdb hcd (star_of (List.all_eq_true.mp hs e List.mem_cons_self) es) (back_any es (List.all_eq_true.mpr fun e' he => List.all_eq_true.mp hs e' (List.mem_cons_of_mem _ he)))) fun H1 e1 Q q => ⟨hi, ha.ev H1 e1 _ fun H2 e2 => ?_⟩
  rw [List.append_nil]
  exact hv H2 (e1.trans e2) Q (fun H3 e3 => q H3 (e2.trans e3)) _
/-- x = [e, ..], told so that the list may grow -/
theorem BW.asgD {n : Str} {ss : List Sh} (i : Nat) {lp : Pos} (hN : X.N.Nodup) (h : AX X es σ H ss) (k : ∀ q vs H1, H q = none → Ex H (hide H1 q) → H1 q = some (.lst vs) → IsAll X.K (hide H1 q) vs ss → BW X rest D (σ.set i (some (.ref q))) H1) (hl : ss.length ≤ 100000 := by exact Nat.le_of_ble_eq_true rfl) (hs : es.all noStar = true := by rfl)
    (hi : X.N[i]? = some n := by rfl) (hx : Loc X.env.scope n := by first | exact Or.inl rfl | exact Or.inr rfl) (hw : swapsWith (.List es lp) (some (.Name n p)) pos.line X.env = pure false := by rfl) (hf : X.fn n = true ∨ X.env.scope.names.lookup n = some .local := by first | exact .inl rfl | exact .inr rfl) : BW X (.Assign [.Name n p] (.List es lp) pos :: rest) D σ H :=
  BW.asgW hN hi hx (EW.of (pe_lst (pa_all hs)) (h.ev H (Ex.refl H) _ fun vs H2 e2 ha => ⟨sz_of (by rw [ha.len]; exact hl), fun q hq => k q vs _ (fresh_back e2 hq) (ex_hide (e2.trans (Ex.new hq)) (fresh_back e2 hq)) upd_same (ha.ex (ex_hide (Ex.new hq) hq))⟩)) hw hf
/-- xs.insert(i, v) -/
theorem BW.insert {l : Addr} {n : Nat} {apos : Pos} (hl : H l = some (.lst xs)) (ha : EV X a σ H (.ref l)) (h1 : EV X b σ H (.int (n : Int))) (h2 : EV X c σ H v) (hn : n < 2 ^ 62) (hz : xs.length < 100000) (k : ∀ H1, Ex H H1 → BW X rest D σ (upd H1 l (.lst (xs.take n ++ [v] ++ xs.drop n)))) (hs : [b, c].all noStar = true := by rfl)
    (he : PE X (.Call (.Attribute a "insert" apos) [b, c] [] p) (tBM X.K "list" (fun x vs H Q => ∃ (l : Addr) (xs : List V) (i : Int) (y : V), x = .ref l ∧ vs = [.int i, y] ∧ H l = some (.lst xs) ∧ xs.length < sizeLine ∧ 0 ≤ i ∧ i < 2 ^ 63 ∧ Q .non (upd H l (.lst (xs.take i.toNat ++ [y] ++ xs.drop i.toNat)))) (EW X a) (tArgs X [b, c])) := by exact pe_bm PySem.F.plainAttrs_list PySem.F.slot_list_insert PySem.F.type_list_insert mt_insert pe_self (pa_all rfl))
    (hw : swapsWith (.Call (.Attribute a "insert" apos) [b, c] [] p) none pos.line X.env = pure false := by rfl) : BW X (.Expr (.Call (.Attribute a "insert" apos) [b, c] [] p) pos :: rest) D σ H :=
  BW.cons (ps_expr he hw) (ha.ev H (Ex.refl H) _ fun H1 e1 => ⟨.inl ⟨rfl, xs, sq_of (e1 l _ hl)⟩, (AV.two h1 h2).ev H1 e1 _ fun H2 e2 => ⟨l, xs, (n : Int), v, rfl, rfl, e2 l _ (e1 l _ hl), sz_lt hz, by omega, by omega, k H2 (e1.trans e2)⟩⟩)
theorem EL.ite {k : Bool} (ht : TV X c σ H k) (h1 : k = true → EL X a σ H xs) (h2 : k = false → EL X b σ H xs) : EL X (.IfExp c a b pos) σ H xs :=
  ⟨fun H1 e1 Q q => EW.of (pe_ifExp pt_self pe_self pe_self) (ht.ev H1 e1 _ fun H2 e2 => by
    cases k with
    | true => exact (h1 rfl).ev H2 (e1.trans e2) Q fun p H3 np e3 hp => q p H3 (fresh_back e2 np) (e2.trans e3) hp
    | false => exact (h2 rfl).ev H2 (e1.trans e2) Q fun p H3 np e3 hp => q p H3 (fresh_back e2 np) (e2.trans e3) hp)⟩
theorem EI.ite {k : Bool} {fs : List (Str × V)} (ht : TV X c σ H k) (h1 : k = true → EI X a σ H C fs) (h2 : k = false → EI X b σ H C fs) : EI X (.IfExp c a b pos) σ H C fs :=
  ⟨fun H1 e1 Q q => EW.of (pe_ifExp pt_self pe_self pe_self) (ht.ev H1 e1 _ fun H2 e2 => by
    cases k with
    | true => exact (h1 rfl).ev H2 (e1.trans e2) Q fun p dx H3 np e3 hp => q p dx H3 (fresh_back e2 np) (e2.trans e3) hp
    | false => exact (h2 rfl).ev H2 (e1.trans e2) Q fun p dx H3 np e3 hp => q p dx H3 (fresh_back e2 np) (e2.trans e3) hp)⟩
/-- o.m(e, ..), all told by shapes -/
theorem EV.methX {m : Str} {apos : Pos} {fs : List (Str × V)} {ss : List Sh} {sp : Sp} {k j : Nat} {pl : Sem Bool} (M : Mc X.prog X.w X.K X.mg X.base k C m sp) (hr : Room j X.A) (h : EX X o σ H (.ins C fs)) (hl : fs.lookup m = none) (ha : AX X (e :: es) σ H ss)
    (hv : ∀ q dx vs H1, Ex H H1 → H1 q = some (.ins C dx fs) → IsAll X.K H1 vs ss → SpV sp (.ref q :: vs) H1 z) (hk : k ≤ j := by decide) (hs : (e :: es).all noStar = true := by rfl)
    (ht : eval (.Call (.Attribute o m apos) (e :: es) [] pos) X.env = (do
      let ov ← eval o X.env
      standAt apos.atName
      let (f, first) ← holding [ov] (getMethod ov m pl)
      callWith pos f first (backTo pos (starEach (e :: es) X.env)) (backToKw pos (keywordEach [] X.env))) := by rfl) : EV X (.Call (.Attribute o m apos) (e :: es) [] pos) σ H z := by
  obtain ⟨f, fd, ps, cl, me, F, bn⟩ := M.ex
  refine EV.of (pe_meth (pl := pl) pe_self cl me F (hr.mono hk) bn .nil passL (pa_all hs) (star_of (List.all_eq_true.mp hs e List.mem_cons_self) es) (back_any es (List.all_eq_true.mpr fun e' he => List.all_eq_true.mp hs e' (List.mem_cons_of_mem _ he))) ht) fun H1 e1 Q kq => ?_
  refine h.ev H1 e1 _ fun v H2 e2 hi => ?_
  obtain ⟨ob, dx, rfl, ho⟩ := hi.ofI
  refine ⟨ob, dx, fs, rfl, ho, hl, ?_⟩
  refine ha.ev H2 (e1.trans e2) _ fun vs H3 e3 hvs => ?_
  rw [List.append_nil]
  exact hv ob dx vs H3 ((e1.trans e2).trans e3) (e3 _ _ ho) hvs H3 (Ex.refl H3) Q (fun H4 e4 => kq H4 ((e2.trans e3).trans e4)) _
/-! ### a new list of shapes of which only R is known -/
structure EQ (X : Cx) (e : Expr) (σ : L2.St) (H : Hp) (R : List Sh → Prop) : Prop where
  ev : ∀ H1, Ex H H1 → ∀ Q : VK, (∀ ss p vs H2, R ss → H1 p = none → Ex H1 H2 → H2 p = some (.lst vs) → IsAll X.K H2 vs ss → Q (.ref p) H2) → EW X e σ H1 Q
theorem EQ.ofN {ss : List Sh} (h : EN X e σ H ss) : EQ X e σ H (· = ss) := ⟨fun H1 e1 Q q => h.ev H1 e1 Q fun p vs H2 np e2 hp ha => q ss p vs H2 rfl np e2 hp ha⟩
theorem BW.asgQ {n : Str} {R : List Sh → Prop} (i : Nat) (hN : X.N.Nodup) (h : EQ X e σ H R) (k : ∀ ss q vs H1, R ss → H q = none → Ex H H1 → H1 q = some (.lst vs) → IsAll X.K H1 vs ss → BW X rest D (σ.set i (some (.ref q))) H1) (hi : X.N[i]? = some n := by rfl) (hx : Loc X.env.scope n := by first | exact Or.inl rfl | exact Or.inr rfl) (hs : swapsWith e (some (.Name n p)) pos.line X.env = pure false := by rfl) (hf : X.fn n = true ∨ X.env.scope.names.lookup n = some .local := by first | exact .inl rfl | exact .inr rfl) : BW X (.Assign [.Name n p] e pos :: rest) D σ H :=
  BW.asgW hN hi hx (h.ev H (Ex.refl H) _ k) hs hf
theorem EQ.cat {R S : List Sh → Prop} (ha : EQ X a σ H R) (hb : EQ X b σ H S) (hz : ∀ ss ts, R ss → S ts → ss.length + ts.length ≤ 100000) : EQ X (.BinOp a .Add b pos) σ H (fun us => ∃ ss ts, us = ss ++ ts ∧ R ss ∧ S ts) :=
  ⟨fun H1 e1 Q k => EW.of (pe_op op_catS pe_self pe_self) (ha.ev H1 e1 _ fun ss p vs H2 hR np e2 hp h1 => hb.ev H2 (e1.trans e2) _ fun ts q us H3 hS nq e3 hq h2 =>
    ⟨p, q, vs, us, rfl, rfl, sq_of (e3 _ _ hp), sq_of hq, sz_of (by rw [h1.len, h2.len]; exact hz ss ts hR hS), fun r hr => k (ss ++ ts) r _ _ ⟨ss, ts, rfl, hR, hS⟩ (fresh_back (e2.trans e3) hr) ((e2.trans e3).trans (Ex.new hr)) upd_same (((h1.ex e3).append h2).ex (Ex.new hr))⟩)⟩
theorem BW.forQ {tg iter : Expr} {body : List Stmt} {g : TG} {R : List Sh → Prop} (h : EQ X iter σ H R) (hg : PG X tg g) (Pv : List Sh → Hp → Nat → L2.St → Hp → Prop) (h0 : ∀ ss H1, R ss → Ex H H1 → Pv ss H1 0 σ H1) (hl : ∀ ss H1 i σ' H', Pv ss H1 i σ' H' → Ex H1 H')
    (hs : ∀ ss H1 i s v σ' H', R ss → Ex H H1 → ss[i]? = some s → Is X.K H' v s → Pv ss H1 i σ' H' → g v σ' H' fun σ2 H2 => BW X body (Ends.turn X rest D (Pv ss H1 (i + 1))) σ2 H2) (hd : ∀ ss H1 σ' H', R ss → Ex H H1 → Pv ss H1 ss.length σ' H' → BW X rest D σ' H')
    (hc : X.calm = true := by rfl) (hp : PassesOwn (model X.prog X.w) X.A X.env X.xe := by first | exact PassesOwn.never | exact passes_of rfl) (hfs : ∀ x, foldedSetIterable iter X.env x = pure x := by intro _; rfl) : BW X (.For tg iter body [] pos :: rest) D σ H := by
  refine BW.cons (ps_for hp hc (pi_list pe_self) hg pss_self hfs) (h.ev H (Ex.refl H) _ fun ss q vs H1 hR nq e1 hq ha => ?_)
  have hlen := ha.len
  refine ⟨q, rfl, ⟨vs, sq_of hq⟩, for_list (xs := vs) (Pv ss H1) (h0 ss H1 hR e1) (fun i σ' H' _ pv => sq_of (hl ss H1 i σ' H' pv _ _ hq)) (fun i x σ' H' hi pv => ?_) fun σ' H' pv => hd ss H1 σ' H' hR e1 (hlen ▸ pv)⟩
  obtain ⟨t, ht, it⟩ := ha.at' hi
  exact hs ss H1 i t x σ' H' hR e1 ht (it.ex (hl ss H1 i σ' H' pv)) pv
end
end QR

namespace QR
open PySem PySem.Spec PyProof.Rows L2 Evl
/-! ### lists of lists of whole numbers, as data -/
abbrev dLL (Ls : List (List Int)) : PyData := .list (Ls.map dI)
theorem eqvA_lists : ∀ Ls Ms : List (List Int), PyData.eqvAll (Ls.map dI) (Ms.map dI) = decide (Ls = Ms)
  | [], [] => by simp [PyData.eqvAll]
  | [], _ :: _ => by simp [PyData.eqvAll]
  | _ :: _, [] => by simp [PyData.eqvAll]
  | n :: ns, m :: ms => by
    have h := eqv_ints n m
    simp only [List.map_cons, PyData.eqvAll, h, eqvA_lists ns ms, List.cons.injEq, Bool.decide_and]
theorem eqv_lists (Ls Ms : List (List Int)) : PyData.eqv (dLL Ls) (dLL Ms) = decide (Ls = Ms) := by
  simp only [PyData.eqv, eqvA_lists]
theorem lay_lists : ∀ Ls : List (List Int), PyData.canLayAll0 (Ls.map dI) = true
  | [] => rfl
  | n :: ns => by simp [PyData.canLayAll0, PyData.canLay0, lay_ints, lay_lists ns]
theorem dep_lists : ∀ Ls : List (List Int), PyData.depthAll (Ls.map dI) ≤ 1
  | [] => Nat.zero_le _
  | n :: ns => by
    have := dep_lists ns
    simp [PyData.depthAll, PyData.depth, dep_ints]
    omega
theorem shaped_lists (Ls : List (List Int)) : SeqAt.shaped (dLL Ls) = true := by
  have := dep_lists Ls
  simp [SeqAt.shaped, PyData.canLay0, PyData.depth, lay_lists]
  omega
theorem dp_lists {K : PySem.W.Frag} {H : Hp} : ∀ {Ls : List (List Int)} {vs : List V}, IsAll K H vs (Ls.map Sh.ints) → DpAll K H vs (Ls.map dI)
  | [], _, .nil => .nil
  | L :: Ls, _, .cons a b => by
    obtain ⟨p, rfl, hp⟩ := a.ofInts
    exact .cons (.lst hp (dp_ints L)) (dp_lists b)
section
variable {X : Cx} {e a b c o : Expr} {es : List Expr} {rest : List Stmt} {D : Ends} {σ : L2.St} {H : Hp} {Q : VK} {v z : V} {pos p : Pos} {vs xs ys : List V} {x : Str} {C : Addr} {s t : Sh}
theorem ED.lists {Ls : List (List Int)} (h : EX X e σ H (.lst (Ls.map Sh.ints))) : ED X e σ H (dLL Ls) := ⟨fun H1 e1 Q q => h.ev H1 e1 Q fun v H2 e2 hv => by
  obtain ⟨p, vs, rfl, hp, ha⟩ := hv.ofL
  exact q _ H2 e2 (.lst hp (dp_lists ha))⟩
theorem TV.neLL {Ls Ms : List (List Int)} {k : Nat} (hr : Room k X.A) (ha : EX X a σ H (.lst (Ls.map Sh.ints))) (hb : EX X b σ H (.lst (Ms.map Sh.ints))) : TV X (.Compare a [.NotEq] [b] pos) σ H (!decide (Ls = Ms)) := TV.is (TV.neD hr (ED.lists ha) (ED.lists hb) (shaped_lists _) (shaped_lists _)) (by rw [eqv_lists])
/-- x, y = e1, e2, told by shapes -/
theorem BW.parA (i j : Nat) {n m : Str} {px py pt : Pos} {kt k2 pt2} (hN : X.N.Nodup) (ha : AX X [a, b] σ H [s, t]) (k : ∀ v w H1, Ex H H1 → Is X.K H1 v s → Is X.K H1 w t → BW X rest D ((σ.set i (some v)).set j (some w)) H1)
    (hi : X.N[i]? = some n := by rfl) (hj : X.N[j]? = some m := by rfl) (hij : i ≠ j := by decide) (hx : X.env.scope.names.lookup n = some .local := by rfl) (hy : X.env.scope.names.lookup m = some .local := by rfl) (hc : X.calm = true := by rfl)
    (hw : swappedStores [.Tuple [.Name n px, .Name m py] kt pt] (.Tuple [a, b] k2 pt2) X.env = pure (some [n, m]) := by rfl)
    (hs : swapsWithSole [.Tuple [.Name n px, .Name m py] kt pt] (.Tuple [a, b] k2 pt2) pos.line X.env = pure false := by rfl) (hst : [a, b].all noStar = true := by rfl) :
    BW X (.Assign [.Tuple [.Name n px, .Name m py] kt pt] (.Tuple [a, b] k2 pt2) pos :: rest) D σ H :=
  BW.cons (ps_par hc hN hi hj hij hx hy (pa_all hst) hw hs) (ha.ev H (Ex.refl H) _ fun vs H1 e1 hvs => by
    obtain ⟨v, w, rfl, hv, hw⟩ := hvs.two
    exact ⟨v, w, rfl, k v w H1 e1 hv hw⟩)
/-- x, y = e1, e2 by way of a pair (where a name is a cell) -/
theorem BW.parT (i j : Nat) {n m : Str} {px py pt : Pos} {kt k2 pt2} (hN : X.N.Nodup) (ha : AX X [a, b] σ H [s, t]) (k : ∀ v w H1, Ex H H1 → Is X.K H1 v s → Is X.K H1 w t → BW X rest D ((σ.set i (some v)).set j (some w)) H1)
    (hi : X.N[i]? = some n := by rfl) (hj : X.N[j]? = some m := by rfl) (hx : Loc X.env.scope n := by first | exact Or.inl rfl | exact Or.inr rfl) (hy : Loc X.env.scope m := by first | exact Or.inl rfl | exact Or.inr rfl) (hc : X.calm = true := by rfl)
    (hf1 : X.fn n = true ∨ X.env.scope.names.lookup n = some .local := by first | exact .inl rfl | exact .inr rfl) (hf2 : X.fn m = true ∨ X.env.scope.names.lookup m = some .local := by first | exact .inl rfl | exact .inr rfl)
    (hs : swapsWithSole [.Tuple [.Name n px, .Name m py] kt pt] (.Tuple [a, b] k2 pt2) pos.line X.env = pure false := by rfl) (hw : swappedStores [.Tuple [.Name n px, .Name m py] kt pt] (.Tuple [a, b] k2 pt2) X.env = pure none := by rfl) (hst : [a, b].all noStar = true := by rfl)
    (h1 : (assignEach [.Tuple [.Name n px, .Name m py] kt pt] X.env).map (·.2) = [assign (.Tuple [.Name n px, .Name m py] kt pt) X.env] := by rfl) :
    BW X (.Assign [.Tuple [.Name n px, .Name m py] kt pt] (.Tuple [a, b] k2 pt2) pos :: rest) D σ H :=
  BW.cons (ps_asg pe_self (pg_tup hc (pgs_cons (pg_name (i := i) hN hi hx hf1) (pgs_cons (pg_name (i := j) hN hj hy hf2) pgs_nil))) hs hw h1) ((EX.tup ha (Nat.le_of_ble_eq_true rfl) hst).ev H (Ex.refl H) _ fun v H1 e1 hv => by
    obtain ⟨p, vs, rfl, hp, hvs⟩ := hv.ofU
    obtain ⟨u, w, rfl, hu, hw⟩ := hvs.two
    exact ⟨p, [u, w], rfl, hp, rfl, u, [w], rfl, w, [], rfl, rfl, k u w H1 e1 hu hw⟩)
/-- x = [e1, e2], both new lists; their places -/
theorem BW.asgLL {n : Str} (i : Nat) {lp : Pos} (hN : X.N.Nodup) (ha : EL X a σ H xs) (hb : EL X b σ H ys) (k : ∀ l p q H1, H l = none → H p = none → H q = none → p ≠ q → l ≠ p → l ≠ q → Ex H H1 → H1 l = some (.lst [.ref p, .ref q]) → H1 p = some (.lst xs) → H1 q = some (.lst ys) → BW X rest D (σ.set i (some (.ref l))) H1)
    (hs : [a, b].all noStar = true := by rfl) (hi : X.N[i]? = some n := by rfl) (hx : Loc X.env.scope n := by first | exact Or.inl rfl | exact Or.inr rfl) (hw : swapsWith (.List [a, b] lp) (some (.Name n p)) pos.line X.env = pure false := by rfl) (hf : X.fn n = true ∨ X.env.scope.names.lookup n = some .local := by first | exact .inl rfl | exact .inr rfl) : BW X (.Assign [.Name n p] (.List [a, b] lp) pos :: rest) D σ H :=
  BW.asgW hN hi hx (EW.of (pe_lst (pa_all hs)) (ha.ev H (Ex.refl H) _ fun p H1 np e1 hp => hb.ev H1 e1 _ fun q H2 nq e2 hq => ⟨sz_of (Nat.le_of_ble_eq_true rfl), fun l hl => by
    have hp2 := e2 _ _ hp
    have lp : l ≠ p := fun z => by rw [z, hp2] at hl; cases hl
    have lq : l ≠ q := fun z => by rw [z, hq] at hl; cases hl
    have pq : p ≠ q := fun z => by rw [← z, hp] at nq; cases nq
    exact k l p q _ (fresh_back (e1.trans e2) hl) np (fresh_back e1 nq) pq lp lq ((e1.trans e2).trans (Ex.new hl)) upd_same (by rw [upd_ne lp.symm]; exact hp2) (by rw [upd_ne lq.symm]; exact hq)⟩)) hw hf
/-- xs.index(v) -/
theorem EV.index {l : Addr} {ns : List Int} {i : Int} {apos : Pos} (ha : EV X a σ H (.ref l)) (hl : SqL X.K H l (ns.map V.int)) (h : EV X e σ H (.int i)) (hm : i ∈ ns)
    (he : PE X (.Call (.Attribute a "index" apos) [e] [] p) (tBM X.K "list" (rIndex X.K) (EW X a) (tArgs X [e])) := by exact pe_bm PySem.F.plainAttrs_list PySem.F.slot_list_index PySem.F.type_list_index mt_index pe_self (pa_all rfl)) :
    EV X (.Call (.Attribute a "index" apos) [e] [] p) σ H (.int (ns.idxOf i : Nat)) :=
  EV.of he fun H1 e1 Q q => ha.ev H1 e1 _ fun H2 e2 => ⟨.inl ⟨rfl, _, ex_l (e1.trans e2) hl⟩, (AV.one h).ev H2 (e1.trans e2) _ fun H3 e3 => by
    have hlt := List.idxOf_lt_length_of_mem hm
    refine ⟨l, ns.map V.int, .int i, ns.idxOf i, .int i, rfl, rfl, ex_l ((e1.trans e2).trans e3) hl, rfl, ?_, ?_, ?_, ?_, q H3 (e2.trans e3)⟩
    · rw [List.all_map]
      exact List.all_eq_true.mpr fun _ _ => rfl
    · rw [List.getElem?_map, List.getElem?_eq_getElem hlt, List.getElem_idxOf hlt]
      rfl
    · simp [eqV]
    · intro m z' hm' hz
      rw [List.getElem?_map] at hz
      cases hz2 : ns[m]? with
      | none => rw [hz2] at hz; cases hz
      | some c =>
        rw [hz2] at hz
        cases Option.some.inj hz
        have hne : c ≠ i := by
          intro e
          have h1 := List.not_of_lt_findIdx (p := fun x => x == i) (xs := ns) (show m < ns.findIdx (fun x => x == i) from hm')
          have := (List.getElem?_eq_some_iff.mp hz2)
          obtain ⟨hlt2, hc⟩ := this
          rw [hc, e] at h1
          simp at h1
        simp [eqV, hne]⟩
end
end QR

namespace QR
open PySem PySem.Spec PyProof.Rows L2 Evl LamX
/-! ### a def whose code object is known; lambdas handed on -/
section
variable {P : Program} {w : World} {K : PySem.W.Frag} {mg : Str → Option Value} {base : Heap}
theorem fun_code {x qual : Str} {st : Stmt} {p : He.Defn} {fd : FuncData} (F : Fun K x qual st (He.fAd K p) fd) : fd.code = .ref (He.codeOf K p) := by
  obtain ⟨oc, od, kV, doc, pm, an, cdv, ct, osl, e, lk, hcd⟩ := F.ex
  obtain ⟨c, rfl⟩ := He.codeIn_ref hcd
  have e2 : fd.code = .ref c := by rw [e]
  rw [He.codeOf_eq lk e2]
  exact e2
/-- a def from which nothing is let out, its code object known -/
theorem okBc {x qual : Str} {st : Stmt} {f c : Addr} {fd : FuncData} {N ps : List Str} {k : Nat} {sp : Sp} (F : Fun K x qual st f fd) (hcode : fd.code = .ref c) (S : FnScope N ps (defScope st)) (len : ∀ vs H Q E, sp vs H Q E → vs.length = ps.length)
    (hbody : ∀ (A : Around) (outer : List Env) (s : Shared) (H : Hp) (vs : List V) (Q : VK) (E : XK), Room k (A.deeper (envOfC qual (defScope st) s.heap.objs.size f (.ref c))) → sp vs H Q E →
      BW (cxOf (L2.CX P w) P w K mg base N qual (defScope st) f (.ref c) A outer s H E).nox (defBody st) { nx := fun _ H' => Q .non H', rt := Q } (start N vs) H) : FnOk P w K mg base (L2.CX P w) (k + 1) f fd ps sp := by
  obtain ⟨oc, od, kV, doc, pm, an, cdv, ct, osl, rfl, lk, hcd⟩ := F.ex
  have e : cdv = .ref c := hcode
  subst e
  exact fn_of lk hcd S len fun A outer s H vs Q E hr hsp => ⟨_, pss_self.nox, hbody A outer s H vs Q E hr hsp⟩
end
/-- what the lambda's body leads to: σ the maker's slots -/
def LamT (X : Cx) (k : Nat) (body : Expr) (scope : Scope) (f c' : Addr) (E : XK) : TE := fun σ HZ Q => ∀ (A : Around) (outer : List Env) (s : Shared) (H : Hp), Room k (A.deeper (lamEnv X scope s.heap.objs.size f c')) → EW (lamCx X A outer s H E scope f c') body σ HZ Q
/-- x(), x a slot that holds the lambda f of X, in the def that got it (Z, entered at s): what the body raises is taken at these slots -/
theorem EW.act {X : Cx} {pins : List (Addr × Obj)} {σ : L2.St} {H : Hp} {s : Shared} {CXg : CXT} {Eg : XK} {Ng : List Str} {qg : Str} {sg : Scope} {g f c' : Addr} {cdg pm ctv : Value} {params : Arguments} {body : Expr} {scope : Scope} {k i : Nat} {a : Str} {pn : List (Addr × Obj)} {xe : Value → Shared → Prop} {W : WX} {E : XK} {p1 p2 : Pos} {σZ : L2.St} {HZ : Hp} {QZ : VK}
    (I : Inv X pins σ H s) (L : LamS X.env.scope scope) (hf : s.heap.get? f = some (PySem.W.kla_obj "<lambda>" (X.env.qual ++ "<lambda>") params body scope (cloFrom X.env.cells scope.names []) pm c' ctv)) (hfn : H f = none) (hfr : f ∉ frs X.stack)
    (hbind : bindArgs (PySem.W.kla_fn "<lambda>" (X.env.qual ++ "<lambda>") params body scope (cloFrom X.env.cells scope.names []) pm (.ref c') ctv) ⟨[], []⟩ = pure [])
    (tk : Takes ((cxOf CXg X.prog X.w X.K X.mg X.base Ng qg sg g cdg X.A X.stack s H Eg).tr pn xe) W) (hW : ∀ cls d H', E cls d H' → W cls d σZ H') (hr : Room (k + 1) (X.A.deeper (envOfC qg sg s.heap.objs.size g cdg)))
    (hN : Ng[i]? = some a) (hv : Vis sg a) (hs : σZ[i]? = some (some (.ref f))) (hc : HZ c' = some (CodeO c' (X.env.qual ++ "<lambda>"))) (ht : LamT X k body scope f c' E σ HZ QZ)
    (hd : (a == ("__debug__" : Str)) = false := by decide) (hcd : (a == ("__classdict__" : Str)) = false := by decide) :
    EW ((cxOf CXg X.prog X.w X.K X.mg X.base Ng qg sg g cdg X.A X.stack s H Eg).tr pn xe) (.Call (.Name a p1) [] [] p2) σZ HZ QZ := by
  refine ⟨fun pinsZ sZ IZ => wpAny_Call_Name_kw (thn ((pe_var (pos := p1) (i := i) hN hv hd hcd).run pinsZ sZ σZ HZ (fun v H1 => v = .ref f ∧ H1 = HZ) IZ ⟨.ref f, hs, rfl, rfl⟩) fun u s1 ⟨v, H1, I1, r1, ev, eH⟩ => ?_)⟩
  subst ev eH
  obtain rfl : u = Value.ref f := r1
  have of1 := I1.base.keep f _ hf hfn hfr (fun z => nomatch (show f ∈ ([] : List Addr) from z))
  refine PySem.W.callWith_F0 ⟨_, _, _, _, of1⟩ ?_
  obtain ⟨⟨oc, vs, t, hoc, hdc, hvc⟩, _, _⟩ := I1.hok c' _ hc
  have rc : codeAny (model X.prog X.w) (X.A.deeper (envOfC qg sg s.heap.objs.size g cdg)) (.call (.ref f) ⟨[], []⟩) (CR (L2.CX X.prog X.w) (envOfC qg sg s.heap.objs.size g cdg :: X.stack) X.prog X.w H1 s1 QZ E) s1 := by
    refine PySem.W.kla_callFunE hr.depth of1 rfl L.co L.gen rfl ⟨c', oc, vs, t, rfl, hoc, hdc, hvc⟩ ?_
    rw [hbind]
    refine wpAny_pure (wpAny_newFunctionEnv (fun y hy => (L.own y hy).2) (fun y hy => absurd hy (by simp)) (fun h₁ hns hsb => ⟨I1.nolimit.fresh _ hsb, ?_⟩) L.kind)
    have kp : ∀ b o, s1.heap.get? b = some o → h₁.get? b = some o := fun b o e => hsb.extBut b o (Nat.ne_of_lt (Heap.lt_size e)) (Heap.get?_push_of_some _ e)
    have J : Inv (lamCx X (X.A.deeper (envOfC qg sg s.heap.objs.size g cdg)) (envOfC qg sg s.heap.objs.size g cdg :: X.stack) s1 H1 E scope f c') [] σ H1 { s1 with heap := h₁, toks := s1.toks + ([] : List (Str × Value)).length } := lam_start2 I L I1.env0 hr.hd I1.base hns kp
    show codeAny _ _ (.expr body (lamEnv X scope s1.heap.objs.size f c')) _ _
    exact PySem.W.kla_codeExpr (wpAny_mono ((ht _ _ s1 H1 (hr.deeper _)).run [] _ J) (fun v s' ⟨w', H', J', rv, q⟩ => ⟨w', H', J'.os, J'.bare, J'.base, J'.hok, rv, q⟩) fun e s' hq => hq)
  refine wpAny_call (codeAny_mono rc fun r s' hq => ?_)
  cases r with
  | error e => exact tk e s' (XE.of_call I1 (fun cls d H' h => hW cls d H' h) hq)
  | ok fl =>
    cases fl with
    | ret u => exact I1.after hq
    | next => exact False.elim hq
    | brk => exact False.elim hq
    | cont => exact False.elim hq
section
variable {X : Cx} {σ : L2.St} {H : Hp} {Q : VK}
/-- x(lambda: body, i): hw tells what x does with it -/
theorem EW.lam2 {T : List (Addr × Str)} {x a b : Str} {g c P : Addr} {k : Nat} {st : Stmt} {fd : FuncData} {Ng : List Str} {params : Arguments} {body : Expr} {scope : Scope} {i : Int} {j : Nat} {p lpos pc pos : Pos}
    (F : Fun X.K x x st g fd) (hm : X.mg x = some (.ref g)) (hb : L2.Binds X.K fd [a, b] []) (Sg : FnScope Ng [a, b] (defScope st)) (hNg : Ng[0]? = some a) (hva : Vis (defScope st) a)
    (TB : TabB X.base X.mg c P) (hcode : X.env.code = .ref c) (hmT : (P, X.env.qual ++ "<lambda>") ∈ T) (hu : ∀ p ∈ T, p.1 = P → p.2 = X.env.qual ++ "<lambda>") (hr : Room (k + 2) X.A) (hT : Tabs T H) (L : LamS X.env.scope scope)
    (hw : ∀ (f c' : Addr) (H1 : Hp) (cdv : Value) (s : Shared), ExtN H H1 → Tabs T H1 → H1 c' = some (CodeO c' (X.env.qual ++ "<lambda>")) → Room (k + 1) (X.A.deeper (envOfC x (defScope st) s.heap.objs.size g cdv)) →
      (∀ (W : WX) (pn : List (Addr × Obj)) (xe : Value → Shared → Prop) (E : XK) (p1 p2 : Pos), Takes ((cxOf (L2.CX X.prog X.w) X.prog X.w X.K X.mg X.base Ng x (defScope st) g cdv X.A X.stack s H1 E0).tr pn xe) W → ∀ (σZ : L2.St) (HZ : Hp) (QZ : VK), (∀ cls d H', E cls d H' → W cls d σZ H') → σZ[0]? = some (some (.ref f)) → HZ c' = some (CodeO c' (X.env.qual ++ "<lambda>")) → LamT X k body scope f c' E σ HZ QZ →
          EW ((cxOf (L2.CX X.prog X.w) X.prog X.w X.K X.mg X.base Ng x (defScope st) g cdv X.A X.stack s H1 E0).tr pn xe) (.Call (.Name a p1) [] [] p2) σZ HZ QZ) →
      BW (cxOf (L2.CX X.prog X.w) X.prog X.w X.K X.mg X.base Ng x (defScope st) g cdv X.A X.stack s H1 E0).nox (defBody st) { nx := fun _ H' => Q .non H', rt := Q } (start Ng [.ref f, .int i]) H1)
    (hg : Gl X x := by rfl) (hdef : defaultsOf params X.env = ([], []) := by rfl)
    (hbind : ∀ (q : Str) (cl : List (Str × Addr)) (pm cv ctv : Value), bindArgs (PySem.W.kla_fn "<lambda>" q params body scope cl pm cv ctv) ⟨[], []⟩ = pure [] := by intros; rfl)
    (hdb : (x == ("__debug__" : Str)) = false := by decide) (hd : (a == ("__debug__" : Str)) = false := by decide) (hcd : (a == ("__classdict__" : Str)) = false := by decide) :
    EW X (.Call (.Name x p) [.Lambda params body scope lpos, .Constant (.int i) j pc] [] pos) σ H Q := by
  refine ⟨fun pins s I => ?_⟩
  obtain ⟨oc, od, kV, doc, pm, an, cdv, ct, osl, rfl, lk, hcg⟩ := F.ex
  refine wpAny_Call_Name_kw (ld_glob I hg hm ?_ hdb)
  refine PySem.W.callWith_K (h₀ := X.base) I.ok.mod.kin F.kp ?_ (by rfl) (by rfl)
  show wpAny _ _ (spliced ((false, eval (.Lambda params body scope lpos) X.env) :: (false, eval (.Constant (.int i) j pc) X.env) :: backTo pos (starEach [] X.env))) _ _ s
  refine Calls.spliced_cons (lam_make2 I TB hcode hmT hu hT hdef (L.has I.ok) fun f c' pm' ctv H1 s' I1 eN T1 hf hfn hfr hco => ?_)
  refine Calls.spliced_cons (wpAny_Constant_int ?_)
  have I2 := I1.tok (s'.toks + 1)
  refine Calls.spliced_nil ⟨I2.kIn, ?_⟩
  have rc : codeAny (model X.prog X.w) X.A (.call (.ref g) ⟨[.ref f, .int i s'.toks], []⟩) (CR (L2.CX X.prog X.w) X.stack X.prog X.w H1 { s' with toks := s'.toks + 1 } Q E0) { s' with toks := s'.toks + 1 } := by
    refine run_ofS (N := Ng) (ps := [a, b]) (us := [.ref f, .int i s'.toks]) (vs := [.ref f, .int i]) lk hcg Sg hr I2.env0 (hb _ [.ref f, .int i s'.toks] I2.kIn rfl) (.cons rfl (.cons ⟨_, rfl⟩ .nil)) rfl fun hr' => ?_
    refine ⟨_, pss_self.nox, hw f c' H1 cdv _ eN T1 hco hr' fun W pn xe E p1 p2 tk σZ HZ QZ hW h1 h2 h3 => ?_⟩
    exact EW.act (i := 0) (k := k) I2 L hf hfn hfr (hbind _ _ _ _ _) tk hW hr' hNg hva h1 h2 h3 hd hcd
  refine wpAny_call (codeAny_mono rc fun r s2 hq => ?_)
  cases r with
  | error e => exact passL pins σ H1 _ e s2 I2 hq
  | ok fl =>
    cases fl with
    | ret u => exact I2.after hq
    | next => exact False.elim hq
    | brk => exact False.elim hq
    | cont => exact False.elim hq
end
/-! ### try .. except x as n, as a block -/
section
variable {X : Cx} {σ : L2.St} {H : Hp} {D : Ends} {rest body suite : List Stmt} {b₀ : Stmt} {x n : Str} {c : Value} {np pos pos' : Pos} {Wout : WX}
/-- what the clause makes of an exception -/
def tSuite (X : Cx) (st : List Stmt) : Addr → Value → Option Addr → TS := fun a cls d D σ H => ∀ (oe : Obj) (pn : List (Addr × Obj)), Zc cls d oe → (∃ vs, oe.data = .fields vs) → BW (X.suite a ((a, oe) :: pn)) st D σ H
theorem BW.tryAs (i : Nat) (nd : X.N.Nodup) (hc : Names X x c) (tk : Takes X Wout)
    (hb : ∀ (W : WX) (pn : List (Addr × Obj)) (xe : Value → Shared → Prop), W = wAs X.K c i (tSuite X (b₀ :: suite)) Wout (Ends.bef X rest D) → Takes (X.tr pn xe) W → BW (X.tr pn xe) body (Ends.bef X rest D) σ H)
    (hs : X.stack = X.env :: X.outer := by rfl) (hf : X.env.frame = some X.env.locals := by rfl) (hi : X.N[i]? = some n := by rfl) (hln : X.env.kindOf n = some .local := by rfl) :
    BW X (.Try body [.ExceptHandler (some (.Name x np)) (some n) (b₀ :: suite) pos'] [] [] pos :: rest) D σ H := by
  refine BW.cons (ps_try_as (i := i) (tb := fun W D σ H => ∀ (pn : List (Addr × Obj)) (xe : Value → Shared → Prop), Takes (X.tr pn xe) W → BW (X.tr pn xe) body D σ H) (ts := tSuite X (b₀ :: suite)) hs hf nd hi hln hc tk (fun W pn xe tk' _ => ⟨fun pins s σ H D I h => (h pn xe tk').run pins s I⟩)
    (fun a oe cls d pn hz hf => ⟨fun pins s σ H D I h => (h oe pn hz hf).run pins s I⟩)) ?_
  intro pn xe tk'
  exact hb _ pn xe rfl tk'
end
end QR

namespace QR
open PySem PySem.Spec PyProof.Rows L2 Evl LamX
/-! ### lambdas that are kept: known objects of the heap -/
structure LF where
  qual : Str
  params : Arguments
  body : Expr
  scope : Scope
  cl : List (Str × Addr)
  c : Addr
abbrev LF.fd (F : LF) (pm ctv : Value) : FuncData := PySem.W.kla_fn "<lambda>" F.qual F.params F.body F.scope F.cl pm (.ref F.c) ctv
/-- the object at f is the lambda F -/
def LmO (f : Addr) (F : LF) : HO := .ext fun h => ∃ (od : Option Addr) (sl : Array (Option Value)) (pm ctv : Value), h.get? f = some (⟨.type "function", od, .func (F.fd pm ctv), sl⟩ : Obj)
theorem lmO_ne {f : Addr} {F : LF} (ps : Array Value) : LmO f F ≠ .tbl ps := fun z => by
  unfold LmO at z
  cases z
theorem lmO_at {P : Program} {w : World} {H : Hp} {h : Heap} {f : Addr} {F : LF} (hok : HOk P w H h) (e : H f = some (LmO f F)) : ∃ (od : Option Addr) (sl : Array (Option Value)) (pm ctv : Value), h.get? f = some (⟨.type "function", od, .func (F.fd pm ctv), sl⟩ : Obj) := (hok f _ e).1
theorem codeO_rec {P : Program} {w : World} {H : Hp} {h : Heap} {c : Addr} {q : Str} (hok : HOk P w H h) (e : H c = some (CodeO c q)) : h.CodeRec (.ref c) q := by
  obtain ⟨⟨oc, vs, t, h1, h2, h3⟩, _, _⟩ := hok c _ e
  exact ⟨c, oc, vs, t, rfl, h1, h2, h3⟩
section
variable {X : Cx} {pins : List (Addr × Obj)} {σ : L2.St} {H : Hp} {s : Shared}
theorem inv_lam {F : LF} {o : Obj} {t' : Nat} {pm ctv : Value} (I : Inv X pins σ H s) (ho : o = { cls := .type "function", data := .func (F.fd pm ctv) }) :
    Inv X pins σ (upd H s.heap.objs.size (LmO s.heap.objs.size F)) { s with heap := s.heap.push o, toks := t' } := by
  subst ho
  refine I.laid (a := s.heap.objs.size) (fun b u e => Heap.get?_push_of_some _ e) (Nat.le_refl _) ?_
  have e : (s.heap.push ({ cls := .type "function", data := .func (F.fd pm ctv) } : Obj)).get? s.heap.objs.size = some ({ cls := .type "function", data := .func (F.fd pm ctv) } : Obj) := Heap.get?_push_size _ rfl
  exact ⟨⟨_, _, pm, ctv, e⟩, ⟨_, e⟩, fun h1 h2 ⟨od, sl, p, t, z⟩ st => ⟨od, sl, p, t, st _ z⟩⟩
/-- the lambda is made and known: its code object is new, or found in the table -/
theorem lam_make3 {T : List (Addr × Str)} {c P : Addr} {params : Arguments} {body : Expr} {scope : Scope} {pos : Pos} {E : Value → Shared → Prop} {Q : Value → Shared → Prop} (I : Inv X pins σ H s) (TB : TabB X.base X.mg c P) (hcode : X.env.code = .ref c)
    (hm : (P, X.env.qual ++ "<lambda>") ∈ T) (hu : ∀ p ∈ T, p.1 = P → p.2 = X.env.qual ++ "<lambda>") (hT : Tabs T H) (hdef : defaultsOf params X.env = ([], [])) (hfree : ∀ y ∈ scope.names, y.2 = .free → ∃ c, X.env.cells.lookup y.1 = some c)
    (h : ∀ (f c' : Addr) (H1 : Hp) (s' : Shared), Inv X pins σ H1 s' → ExtN H H1 → (∀ b, H1 b = none → H b = none) → Tabs T H1 → H f = none → H1 f = some (LmO f ⟨X.env.qual ++ "<lambda>", params, body, scope, cloFrom X.env.cells scope.names [], c'⟩) → H1 c' = some (CodeO c' (X.env.qual ++ "<lambda>")) → Q (.ref f) s') :
    wpAny (model X.prog X.w) X.A (eval (.Lambda params body scope pos) X.env) Q E s := by
  obtain ⟨ps, hP, ht, ha⟩ := hT _ hm
  refine PySem.W.kla_eval hdef ?_
  have bP : s.heap.BuiltinsAt X.mg P := TB.bm.keeps I.bk
  have hP' : s.heap.get? P = some { cls := .none, data := .fields ps } := I.hok P _ hP
  have un : ∀ {H : Hp} {a b : Addr} {o : HO}, upd H a o b = none → H b = none := fun {H a b o} e => by
    unfold upd at e
    split at e
    · cases e
    · exact e
  cases hc : codeAmong pos ps.toList with
  | none =>
    refine PySem.W.kla_makeFunction (mg := X.mg) (c := c) (P := P) (ps := ps) (closure_ok hfree) I.ok.glob (I.mod.glob.keeps I.bk) hcode (TB.code.keeps I.bk) hP' ht hc TB.gP bP fun c' ctv h' tk hx hge hlt hrec htb => ?_
    obtain ⟨c2, oc, vs, t, e2, hoc, hd, hv⟩ := hrec
    cases e2
    have nC : H c' = none := I.hok.fresh hge
    have I1 := inv_table (t' := tk) (more := #[rawInt pos.line, rawInt pos.col, .ref c']) (h' := h') I hP (fun b o hb e => hx b o hb e) htb hge ⟨oc, vs, t, hoc, hd, hv⟩
    have hE : ExtN H (upd (upd H P (.tbl (ps ++ #[rawInt pos.line, rawInt pos.col, .ref c']))) c' (CodeO c' (X.env.qual ++ "<lambda>"))) := fun b o e n => by
      rw [upd_ne (ne_of_none e nC), upd_ne (fun z => n ps (Option.some.inj (e.symm.trans (by rw [z]; exact hP))))]
      exact e
    have eL : (ps ++ #[rawInt pos.line, rawInt pos.col, .ref c']).toList = ps.toList ++ [rawInt pos.line, rawInt pos.col, .ref c'] := by simp
    have T1 : Tabs T (upd (upd H P (.tbl (ps ++ #[rawInt pos.line, rawInt pos.col, .ref c']))) c' (CodeO c' (X.env.qual ++ "<lambda>"))) := fun p hp => by
      by_cases hb : p.1 = P
      · rw [hu p hp hb, hb]
        refine ⟨_, by rw [upd_ne (ne_of_none hP nC), upd_same], by rw [eL]; exact PySem.TriplesOk_snoc _ _ _ _ ht, fun p' cv hcv => ?_⟩
        rw [eL] at hcv
        rcases among_app _ ht hcv with z | z
        · obtain ⟨c0, e1, e2⟩ := ha p' cv z
          exact ⟨c0, e1, hE _ _ e2 codeO_ne⟩
        · exact ⟨c', z, upd_same⟩
      · obtain ⟨ps', a1, a2, a3⟩ := hT p hp
        refine ⟨ps', by rw [upd_ne (ne_of_none a1 nC), upd_ne hb]; exact a1, a2, fun p' cv hcv => ?_⟩
        obtain ⟨c0, e1, e2⟩ := a3 p' cv hcv
        exact ⟨c0, e1, hE _ _ e2 codeO_ne⟩
    have nF := I1.hok.fresh (Nat.le_refl _)
    have I2 := inv_lam (F := ⟨X.env.qual ++ "<lambda>", params, body, scope, cloFrom X.env.cells scope.names [], c'⟩) (t' := tk) (pm := (X.mg "__name__").getD .none) (ctv := ctv) I1 rfl
    refine h h'.objs.size c' _ _ I2 (fun b o e n => ?_) (fun b e => un (un (un e))) (T1.ext fun b o e => ?_) (I.hok.fresh (Nat.le_trans hge (Nat.le_of_lt hlt))) upd_same ?_
    · have e1 := hE b o e n
      exact (upd_ne (ne_of_none e1 nF)).trans e1
    · exact (upd_ne (ne_of_none e nF)).trans e
    · exact (upd_ne (Nat.ne_of_lt hlt)).trans upd_same
  | some cv =>
    obtain ⟨c', e, hco⟩ := ha pos cv hc
    subst e
    refine PySem.W.kla_makeFunctionHit (mg := X.mg) (c := c) (P := P) (ps := ps) (closure_ok hfree) I.ok.glob (I.mod.glob.keeps I.bk) hcode (TB.code.keeps I.bk) hP' ht hc bP fun ctv h' tk hx hsz => ?_
    have I1 : Inv X pins σ H { s with heap := h', toks := tk } := I.kept hx
    have nF : H h'.objs.size = none := I1.hok.fresh (Nat.le_refl _)
    have I2 := inv_lam (F := ⟨X.env.qual ++ "<lambda>", params, body, scope, cloFrom X.env.cells scope.names [], c'⟩) (t' := tk) (pm := (X.mg "__name__").getD .none) (ctv := ctv) I1 rfl
    refine h h'.objs.size c' _ _ I2 (fun b o e n => ?_) (fun b e => un e) (hT.ext fun b o e => ?_) nF upd_same ?_
    · exact (upd_ne (ne_of_none e nF)).trans e
    · exact (upd_ne (ne_of_none e nF)).trans e
    · exact (upd_ne (ne_of_none hco nF)).trans hco
end
section
variable {X : Cx} {σ : L2.St} {H : Hp} {Q : VK}
/-- lambda ..: e, as a value -/
theorem EW.lam {T : List (Addr × Str)} {c P : Addr} {params : Arguments} {body : Expr} {scope : Scope} {pos : Pos} (TB : TabB X.base X.mg c P) (hcode : X.env.code = .ref c) (hm : (P, X.env.qual ++ "<lambda>") ∈ T) (hu : ∀ p ∈ T, p.1 = P → p.2 = X.env.qual ++ "<lambda>") (hT : Tabs T H)
    (hfree : ∀ y ∈ scope.names, y.2 = .free → X.env.scope.names.lookup y.1 = some .cell ∨ X.env.scope.names.lookup y.1 = some .free)
    (h : ∀ (f c' : Addr) (H1 : Hp), ExtN H H1 → (∀ b, H1 b = none → H b = none) → Tabs T H1 → H f = none → H1 f = some (LmO f ⟨X.env.qual ++ "<lambda>", params, body, scope, cloFrom X.env.cells scope.names [], c'⟩) → H1 c' = some (CodeO c' (X.env.qual ++ "<lambda>")) → Q (.ref f) H1)
    (hdef : defaultsOf params X.env = ([], []) := by rfl) : EW X (.Lambda params body scope pos) σ H Q :=
  ⟨fun pins s I => lam_make3 I TB hcode hm hu hT hdef (fun y hy e => (hfree y hy e).elim (fun k => I.ok.has _ (.inl k)) (fun k => I.ok.has _ (.inr k))) fun f c' H1 s' I1 eN hn T1 nf hf hc => ⟨.ref f, H1, I1, rfl, h f c' H1 eN hn T1 nf hf hc⟩⟩
end
/-! ### called -/
section
variable {P : Program} {w : World} {K : PySem.W.Frag} {mg : Str → Option Value} {base : Heap}
/-- a lambda that captures nothing, called with us -/
theorem run_lam {F : LF} {f : Addr} {N ps : List Str} {k : Nat} {A : Around} {outer : List Env} {s : Shared} {H : Hp} {us : List Value} {vs : List V} {Q : VK} {E : XK} (S : FnScope N ps F.scope) (hr : Room (k + 1) A) (e0 : Env0 P w K mg base A outer s H) (hf : H f = some (LmO f F)) (hc : H F.c = some (CodeO F.c F.qual)) (hcl : F.cl = [])
    (hb : ∀ pm ctv, bindArgs (F.fd pm ctv) ⟨us, []⟩ = pure (ps.zip us)) (r : Vals vs us) (hl : vs.length = ps.length)
    (hbody : Room k (A.deeper (envOfC F.qual F.scope s.heap.objs.size f (.ref F.c))) → EW (cxOf (L2.CX P w) P w K mg base N F.qual F.scope f (.ref F.c) A outer s H E) F.body (start N vs) H Q) :
    codeAny (model P w) A (.call (.ref f) ⟨us, []⟩) (CR (L2.CX P w) outer P w H s Q E) s := by
  obtain ⟨od, sl, pm, ctv, ho⟩ := lmO_at e0.hok hf
  have lim : s.heap.NoLimit := e0.mod.nolimit.keeps fun b o e => (e0.bs b o e).1
  have hkind : ∀ y ∈ ps.zip us, F.scope.names.lookup y.1 = some .local ∨ (F.scope.names.lookup y.1 = some .cell ∧ ((cellsFrom (s.heap.objs.size + 1) F.scope.names []).lookup y.1).isSome = true) := fun ⟨n, v⟩ hy => by
    rcases S.par n (List.of_mem_zip hy).1 with q | q
    · exact .inl q
    · exact .inr ⟨q, PySem.W.cellsFrom_some _ _ _ (.inl q)⟩
  refine PySem.W.kla_callFunE hr.depth ho rfl S.co S.gen rfl (codeO_rec e0.hok hc) ?_
  rw [hb]
  refine wpAny_pure ?_
  show wpAny _ _ (newFunctionEnv F.scope mainGlobals F.cl (ps.zip us) (F.qual ++ ".<locals>.") (some f) (.ref F.c) none builtinsNs) _ _ _
  rw [hcl]
  refine wpAny_newFunctionEnv_cells S.kind hkind fun env he s1 x => ?_
  subst he
  refine ⟨lim.keeps x.toInCall.keep, ?_⟩
  have I : Inv (cxOf (L2.CX P w) P w K mg base N F.qual F.scope f (.ref F.c) A outer s H E) [] (start N vs) H s1 := inv_start S hr.hd e0 hl r x
  exact PySem.W.kla_codeExpr (wpAny_mono ((hbody (hr.deeper _)).run [] _ I) (fun v s' ⟨w', H', J', rv, q⟩ => ⟨w', H', J'.os, J'.bare, J'.base, J'.hok, rv, q⟩) fun e s' hq => hq)
end
section
variable {X : Cx} {e : Expr} {es : List Expr} {σ : L2.St} {H : Hp} {Q : VK} {p pos : Pos} {x : Str} {k j : Nat}
/-- x(e, ..), x a slot that holds such a lambda; what it raises is taken at these slots (W) -/
theorem EW.callLam {F : LF} {f : Addr} {N ps : List Str} {W : WX} (i : Nat) (S : FnScope N ps F.scope) (hr : Room j X.A) (hs : σ[i]? = some (some (.ref f))) (hcl : F.cl = []) (tk : Takes X W)
    (hb : ∀ us pm ctv, us.length = ps.length → bindArgs (F.fd pm ctv) ⟨us, []⟩ = pure (ps.zip us))
    (ha : tArgs X (e :: es) σ H fun vs H1 => vs.length = ps.length ∧ H1 f = some (LmO f F) ∧ H1 F.c = some (CodeO F.c F.qual) ∧ ∀ (A : Around) (outer : List Env) (s : Shared), Room k (A.deeper (envOfC F.qual F.scope s.heap.objs.size f (.ref F.c))) → EW (cxOf (L2.CX X.prog X.w) X.prog X.w X.K X.mg X.base N F.qual F.scope f (.ref F.c) A outer s H1 (fun cls d H' => W cls d σ H')) F.body (start N vs) H1 Q)
    (hf : H f = some (LmO f F)) (hk : k + 1 ≤ j := by decide) (hN : X.N[i]? = some x := by rfl) (hv : Vis X.env.scope x := by first | exact Or.inl rfl | exact Or.inr (Or.inl rfl) | exact Or.inr (Or.inr rfl)) (hst : (e :: es).all noStar = true := by rfl) (hd : (x == ("__debug__" : Str)) = false := by decide) (hcd : (x == ("__classdict__" : Str)) = false := by decide) :
    EW X (.Call (.Name x p) (e :: es) [] pos) σ H Q := by
  have at_ : ∀ {pins : List (Addr × Obj)} {H : Hp} {s : Shared}, Inv X pins σ H s → H f = some (LmO f F) → PySem.W.FnAt f s.heap := fun I e => by
    obtain ⟨od, sl, pm, ctv, ho⟩ := lmO_at I.hok e
    exact ⟨_, od, _, sl, ho⟩
  refine ⟨fun pins s I => wpAny_Call_Name_kw (thn ((pe_var (pos := p) (i := i) hN hv hd hcd).run pins s σ H (fun v H1 => v = .ref f ∧ H1 = H) I ⟨.ref f, hs, rfl, rfl⟩) fun u s1 ⟨v, H1, I1, r1, ev, eH⟩ => ?_)⟩
  subst ev eH
  obtain rfl : u = Value.ref f := r1
  refine PySem.W.callWith_F (first := []) (at_ I1 hf) (thn ((pa_all (X := X) hst).run pos pins s1 σ H1 _ I1 ha) fun us s2 ⟨vs, H2, I2, r, hl, h1, h2, q⟩ => ⟨at_ I2 h1, ?_⟩) (star_of (List.all_eq_true.mp hst e List.mem_cons_self) es) (back_any es (List.all_eq_true.mpr fun e' he => List.all_eq_true.mp hst e' (List.mem_cons_of_mem _ he)))
  show wpAny _ _ (PySem.call (.ref f) us) _ _ _
  refine wpAny_call (codeAny_mono (run_lam (k := k) S (hr.mono hk) I2.env0 h1 h2 hcl (fun pm ctv => hb us pm ctv (by rw [← r.length]; exact hl)) r hl fun hr' => q _ _ _ hr') fun r s' hq => ?_)
  cases r with
  | error e => exact tk e s' (XE.of_call I2 (fun cls d H' h => h) hq)
  | ok fl =>
    cases fl with
    | ret u => exact I2.after hq
    | next => exact False.elim hq
    | brk => exact False.elim hq
    | cont => exact False.elim hq
end
end QR

namespace QR
open PySem PySem.Spec PyProof.Rows L2 Evl LamX
/-! ### tests and values whose heap is not merely more -/
section
variable {X : Cx} {e a b c : Expr} {es : List Expr} {σ : L2.St} {H : Hp} {Q : VK} {R : Bool → Hp → Prop} {pos p p2 pr : Pos} {rest body : List Stmt} {D : Ends} {k : Bool} {xs : List V}
/-- e, a bool -/
theorem TW.val (h : EW X e σ H fun v H1 => ∃ c, v = .bl c ∧ R c H1) (he : ∀ whole, isTrue e X.env whole = (do let v ← whole; standAt e.pos; holding [v] (truthy v)) := by intro _; rfl) : TW X e σ H R := TW.of (pt_val pe_self he) h
theorem TW.not (h : TW X a σ H fun c H1 => R (!c) H1) : TW X (.UnaryOp .Not a pos) σ H R := TW.of (pt_not pt_self) h
/-- a or b, a by its value -/
theorem TW.or2 (ha : TV X a σ H k) (h1 : k = true → ∀ H1, Ex H H1 → R true H1) (hb : k = false → ∀ H1, Ex H H1 → TW X b σ H1 R) : TW X (.BoolOp .Or [a, b] pos) σ H R := by
  refine TW.of (PW.pt (pw_or pt_self (pw_or1 pt_self))) (ha.go fun H1 e1 => ?_)
  cases k with
  | true => exact h1 rfl H1 e1
  | false => exact hb rfl H1 e1
/-- a or b, both leave the heap otherwise -/
theorem TW.or2W (h : TW X a σ H fun c H1 => (c = true → R true H1) ∧ (c = false → TW X b σ H1 R)) : TW X (.BoolOp .Or [a, b] pos) σ H R := by
  refine TW.of (PW.pt (pw_or pt_self (pw_or1 pt_self))) (?_ : TW X a σ H _)
  refine ⟨fun pins s I => thn (h.run pins s I) fun k s1 ⟨H1, I1, q⟩ => ⟨H1, I1, ?_⟩⟩
  cases k with
  | true => exact q.1 rfl
  | false => exact q.2 rfl
/-- a or b as a value -/
theorem EW.or2 (ha : EV X a σ H (.bl k)) (h1 : k = true → ∀ H1, Ex H H1 → Q (.bl true) H1) (hb : k = false → ∀ H1, Ex H H1 → EW X b σ H1 Q) : EW X (.BoolOp .Or [a, b] pos) σ H Q := by
  refine EW.of (pe_or pe_self (pe_one pe_self)) (ha.go fun H1 e1 => ⟨k, rfl, ?_⟩)
  cases k with
  | true => exact h1 rfl H1 e1
  | false => exact hb rfl H1 e1
/-- an if without else whose test comes out false -/
theorem BW.skipW {s1 : List Stmt} (h : TW X c σ H fun k H1 => k = false ∧ BW X rest D σ H1) : BW X (.If c s1 [] pos :: rest) D σ H := by
  refine BW.iteW ⟨fun pins s I => thn (h.run pins s I) fun k s1 ⟨H1, I1, q⟩ => ⟨H1, I1, ?_⟩⟩
  obtain ⟨rfl, q⟩ := q
  exact ⟨(fun z => nomatch z), fun _ => BW.nil q⟩
/-- for i, x in enumerate([..]), the list made on the way -/
theorem BW.forEN (j1 j2 : Nat) {n1 n2 : Str} {px py pt : Pos} {kt : Nat} (mE : X.mg "enumerate" = none) (hN : X.N.Nodup) (h : EL X a σ H xs) (Pv : Addr → Nat → L2.St → Hp → Prop) (h0 : ∀ q H1, H q = none → Ex H H1 → H1 q = some (.lst xs) → Pv q 0 σ H1) (hl : ∀ q i σ' H', i ≤ xs.length → Pv q i σ' H' → SqL X.K H' q xs)
    (hs : ∀ q (i : Nat) (y : V) σ' H' H2, xs[i]? = some y → Pv q i σ' H' → Ex H' H2 → (∀ b, H2 b = none → H' b = none) → BW X body (Ends.turn X rest D (Pv q (i + 1))) ((σ'.set j1 (some (.int (i : Nat)))).set j2 (some y)) H2) (hd : ∀ q σ' H', Pv q xs.length σ' H' → BW X rest D σ' H')
    (hj1 : X.N[j1]? = some n1 := by rfl) (hx1 : Loc X.env.scope n1 := by first | exact Or.inl rfl | exact Or.inr rfl) (hf1 : X.fn n1 = true ∨ X.env.scope.names.lookup n1 = some .local := by first | exact .inl rfl | exact .inr rfl)
    (hj2 : X.N[j2]? = some n2 := by rfl) (hx2 : Loc X.env.scope n2 := by first | exact Or.inl rfl | exact Or.inr rfl) (hf2 : X.fn n2 = true ∨ X.env.scope.names.lookup n2 = some .local := by first | exact .inl rfl | exact .inr rfl)
    (hg : Gl X "enumerate" := by rfl) (hst : noStar a = true := by rfl) (hc : X.calm = true := by rfl)
    (hp : PassesOwn (model X.prog X.w) X.A X.env X.xe := by first | exact PassesOwn.never | exact passes_of rfl) : BW X (.For (.Tuple [.Name n1 px, .Name n2 py] kt pt) (.Call (.Name "enumerate" pr) [a] [] p2) body [] pos :: rest) D σ H := by
  refine BW.cons (ps_for hp hc (pi_enum hg mE (pa_all (es := [a]) (by simp [hst])) (star_of hst [])) (pg_tup hc (pgs_cons (pg_name (i := j1) hN hj1 hx1 hf1) (pgs_cons (pg_name (i := j2) hN hj2 hx2 hf2) pgs_nil))) pss_self) (h.ev H (Ex.refl H) _ fun q H1 nq e1 hq => ?_)
  exact s_forE (K := X.K) (ta := fun σ H Q => Q [.ref q] H) (q := q) (D := { D with nx := BW X rest D }) (fun H2 e2 Q k => k H2 (Ex.refl H2)) (sq_of hq) (fun i σ' H' => Pv q i σ' H') (fun H2 e2 => h0 q H2 nq (e1.trans e2) (e2 _ _ hq)) (hl q) (hs q) (hd q)
end
/-! ### tables of the makers of lambdas -/
def lamQ (x : Str) : Str := x ++ ".<locals>." ++ "<lambda>"
def tabA (K : PySem.W.Frag) (x : Str) : Addr := (He.cT K (x, none)).2
def tabL (K : PySem.W.Frag) (ns : List Str) : List (Addr × Str) := ns.map fun x => (tabA K x, lamQ x)
theorem tabL_mem {K : PySem.W.Frag} {ns : List Str} {x : Str} (h : x ∈ ns) : (tabA K x, lamQ x) ∈ tabL K ns := List.mem_map.mpr ⟨x, h, rfl⟩
theorem tabL_one {K : PySem.W.Frag} : ∀ {ns : List Str} {x : Str}, (ns.map (tabA K)).Nodup → x ∈ ns → ∀ p ∈ tabL K ns, p.1 = tabA K x → p.2 = lamQ x
  | [], x, _, hx, _, _, _ => by cases hx
  | y :: ns, x, nd, hx, p, hp, he => by
    rw [List.map_cons, List.nodup_cons] at nd
    rcases List.mem_cons.mp hp with rfl | hp'
    · rcases List.mem_cons.mp hx with rfl | hx'
      · rfl
      · exact absurd (List.mem_map.mpr ⟨x, hx', he.symm⟩) nd.1
    · rcases List.mem_cons.mp hx with rfl | hx'
      · obtain ⟨z, hz, rfl⟩ := List.mem_map.mp hp'
        exact absurd (List.mem_map.mpr ⟨z, hz, he⟩) nd.1
      · exact tabL_one nd.2 hx' p hp' he
/-- what a maker of lambdas needs of its table -/
structure Tm (K : PySem.W.Frag) (mg : Str → Option Value) (base : Heap) (ns : List Str) (x : Str) : Prop where
  tb : TabB base mg (He.cT K (x, none)).1 (tabA K x)
  mem : (tabA K x, lamQ x) ∈ tabL K ns
  one : ∀ p ∈ tabL K ns, p.1 = tabA K x → p.2 = lamQ x
theorem extN_hide {H0 H H' : Hp} {l : Addr} (e : ExtN H H') (h : Ex H0 H) (ht : ∀ b ps, H0 b ≠ some (.tbl ps)) : Ex H0 H' := fun b o hb => e b o (h b o hb) fun ps z => ht b ps (by rw [hb, z])
theorem ExtN.l {H H' : Hp} {p : Addr} {xs : List V} (e : ExtN H H') (h : H p = some (.lst xs)) : H' p = some (.lst xs) := e p _ h (fun ps z => nomatch z)
end QR

namespace QR
/-! ### the mathematics of the told setting -/
def colE (m r : Int) : Int := if m % 6 ≠ 2 then (if r < m / 2 then 2 * r + 1 else 2 * (r - m / 2)) else if r < m / 2 then (2 * r + m / 2 - 1) % m else m - 1 - (2 * (m - 1 - r) + m / 2 - 1) % m
def rowE (m c : Int) : Int := if m % 6 ≠ 2 then (if c % 2 = 1 then c / 2 else m / 2 + c / 2) else if (c - m / 2 + 1) % m % 2 = 0 then (c - m / 2 + 1) % m / 2 else m - 1 - (m - c - m / 2) % m / 2
def colF (n r : Int) : Int := if n % 2 = 1 then (if r = n - 1 then r else colE (n - 1) r) else colE n r
def rowF (n c : Int) : Int := if n % 2 = 1 then (if c = n - 1 then c else rowE (n - 1) c) else rowE n c
theorem mod_lo {x m : Int} (h0 : 0 ≤ x) (h1 : x < m) : x % m = x := Int.emod_eq_of_lt h0 h1
theorem mod_hi {x m : Int} (h0 : m ≤ x) (h1 : x < 2 * m) : x % m = x - m := by
  have : x % m = (x - m) % m := by rw [Int.sub_emod_right]
  rw [this]
  exact Int.emod_eq_of_lt (by omega) (by omega)
theorem mod_neg {x m : Int} (h0 : -m ≤ x) (h1 : x < 0) : x % m = x + m := by
  have : x % m = (x + m) % m := by rw [Int.add_emod_right]
  rw [this]
  exact Int.emod_eq_of_lt (by omega) (by omega)
/-- the column, by cases -/
def ColC (m r c : Int) : Prop := (m % 6 ≠ 2 ∧ (r < m / 2 ∧ c = 2 * r + 1 ∨ m / 2 ≤ r ∧ c = 2 * (r - m / 2))) ∨
  (m % 6 = 2 ∧ (r < m / 2 ∧ (c = 2 * r + m / 2 - 1 ∧ c < m ∨ c = 2 * r + m / 2 - 1 - m ∧ 0 ≤ c) ∨ m / 2 ≤ r ∧ (c = m - 1 - (2 * (m - 1 - r) + m / 2 - 1) ∧ 0 ≤ c ∨ c = m - 1 - (2 * (m - 1 - r) + m / 2 - 1 - m) ∧ c < m)))
theorem col_c {m r : Int} (he : m % 2 = 0) (h0 : 0 ≤ r) (h1 : r < m) : ColC m r (colE m r) := by
  unfold colE ColC
  by_cases h6 : m % 6 = 2
  · right
    refine ⟨h6, ?_⟩
    rw [if_neg (by omega)]
    by_cases hr : r < m / 2
    · left
      refine ⟨hr, ?_⟩
      rw [if_pos hr]
      by_cases hx : 2 * r + m / 2 - 1 < m
      · left
        rw [mod_lo (by omega) hx]
        omega
      · right
        rw [mod_hi (by omega) (by omega)]
        omega
    · right
      refine ⟨by omega, ?_⟩
      rw [if_neg hr]
      by_cases hx : 2 * (m - 1 - r) + m / 2 - 1 < m
      · left
        rw [mod_lo (by omega) hx]
        omega
      · right
        rw [mod_hi (by omega) (by omega)]
        omega
  · left
    refine ⟨h6, ?_⟩
    rw [if_pos h6]
    by_cases hr : r < m / 2
    · left
      rw [if_pos hr]
      omega
    · right
      rw [if_neg hr]
      omega
theorem colE_bounds {m r : Int} (he : m % 2 = 0) (h0 : 0 ≤ r) (h1 : r < m) : 0 ≤ colE m r ∧ colE m r < m := by
  have h := col_c he h0 h1
  unfold ColC at h
  omega
theorem colE_off {m r : Int} (he : m % 2 = 0) (h2 : m ≠ 2) (h0 : 0 ≤ r) (h1 : r < m) : colE m r ≠ r := by
  have h := col_c he h0 h1
  unfold ColC at h
  omega
theorem colE_peace {m r s : Int} (he : m % 2 = 0) (h2 : m ≠ 2) (h0 : 0 ≤ r) (h1 : r < s) (h3 : s < m) : colE m r ≠ colE m s ∧ colE m r - colE m s ≠ s - r ∧ colE m s - colE m r ≠ s - r := by
  have a := col_c he h0 (by omega : r < m)
  have b := col_c he (by omega : 0 ≤ s) h3
  generalize colE m r = c at a ⊢
  generalize colE m s = d at b ⊢
  unfold ColC at a b
  rcases a with ⟨a6, a | a⟩ | ⟨a6, ⟨ar, a | a⟩ | ⟨ar, a | a⟩⟩ <;> rcases b with ⟨b6, b | b⟩ | ⟨b6, ⟨br, b | b⟩ | ⟨br, b | b⟩⟩ <;> first | (exfalso; omega) | (refine ⟨?_, ?_, ?_⟩ <;> omega)
theorem rowE_col {m r : Int} (he : m % 2 = 0) (h0 : 0 ≤ r) (h1 : r < m) : rowE m (colE m r) = r := by
  have h := col_c he h0 h1
  generalize colE m r = c at h ⊢
  unfold ColC at h
  unfold rowE
  rcases h with ⟨h6, h | h⟩ | ⟨h6, ⟨hr, h | h⟩ | ⟨hr, h | h⟩⟩
  · rw [if_pos h6, if_pos (by omega)]
    omega
  · rw [if_pos h6, if_neg (by omega)]
    omega
  · rw [if_neg (by omega)]
    have e : (c - m / 2 + 1) % m = 2 * r := by rw [mod_lo (by omega) (by omega)]; omega
    rw [e, if_pos (by omega)]
    omega
  · rw [if_neg (by omega)]
    have e : (c - m / 2 + 1) % m = 2 * r := by rw [mod_neg (by omega) (by omega)]; omega
    rw [e, if_pos (by omega)]
    omega
  · rw [if_neg (by omega)]
    have e : (c - m / 2 + 1) % m % 2 = 1 := by
      by_cases hx : 0 ≤ c - m / 2 + 1
      · rw [mod_lo hx (by omega)]
        omega
      · rw [mod_neg (x := c - m / 2 + 1) (m := m) (by omega) (by omega)]
        omega
    rw [if_neg (by omega)]
    have e2 : (m - c - m / 2) % m = 2 * (m - 1 - r) := by rw [mod_lo (by omega) (by omega)]; omega
    rw [e2]
    omega
  · rw [if_neg (by omega)]
    have e : (c - m / 2 + 1) % m % 2 = 1 := by
      by_cases hx : 0 ≤ c - m / 2 + 1
      · rw [mod_lo hx (by omega)]
        omega
      · rw [mod_neg (x := c - m / 2 + 1) (m := m) (by omega) (by omega)]
        omega
    rw [if_neg (by omega)]
    have e2 : (m - c - m / 2) % m = 2 * (m - 1 - r) := by rw [mod_neg (by omega) (by omega)]; omega
    rw [e2]
    omega
theorem rowE_c {m c : Int} (he : m % 2 = 0) (h2 : m ≠ 2) (h0 : 0 ≤ c) (h1 : c < m) : 0 ≤ rowE m c ∧ rowE m c < m ∧ colE m (rowE m c) = c := by
  unfold rowE
  by_cases h6 : m % 6 = 2
  · rw [if_neg (by omega)]
    by_cases hx : 0 ≤ c - m / 2 + 1
    · rw [mod_lo hx (by omega)]
      by_cases hp : (c - m / 2 + 1) % 2 = 0
      · rw [if_pos hp]
        refine ⟨by omega, by omega, ?_⟩
        unfold colE
        rw [if_neg (by omega), if_pos (by omega), mod_lo (by omega) (by omega)]
        omega
      · rw [if_neg hp]
        by_cases hy : 0 ≤ m - c - m / 2
        · rw [mod_lo hy (by omega)]
          refine ⟨by omega, by omega, ?_⟩
          unfold colE
          rw [if_neg (by omega), if_neg (by omega), mod_lo (by omega) (by omega)]
          omega
        · rw [mod_neg (by omega) (by omega)]
          refine ⟨by omega, by omega, ?_⟩
          unfold colE
          rw [if_neg (by omega), if_neg (by omega), mod_hi (by omega) (by omega)]
          omega
    · rw [mod_neg (x := c - m / 2 + 1) (m := m) (by omega) (by omega)]
      by_cases hp : (c - m / 2 + 1 + m) % 2 = 0
      · rw [if_pos hp]
        refine ⟨by omega, by omega, ?_⟩
        unfold colE
        rw [if_neg (by omega), if_pos (by omega), mod_hi (by omega) (by omega)]
        omega
      · rw [if_neg hp]
        by_cases hy : 0 ≤ m - c - m / 2
        · rw [mod_lo hy (by omega)]
          refine ⟨by omega, by omega, ?_⟩
          unfold colE
          rw [if_neg (by omega), if_neg (by omega), mod_lo (by omega) (by omega)]
          omega
        · rw [mod_neg (by omega) (by omega)]
          refine ⟨by omega, by omega, ?_⟩
          unfold colE
          rw [if_neg (by omega), if_neg (by omega), mod_hi (by omega) (by omega)]
          omega
  · rw [if_pos h6]
    by_cases hp : c % 2 = 1
    · rw [if_pos hp]
      refine ⟨by omega, by omega, ?_⟩
      unfold colE
      rw [if_pos h6, if_pos (by omega)]
      omega
    · rw [if_neg hp]
      refine ⟨by omega, by omega, ?_⟩
      unfold colE
      rw [if_pos h6, if_neg (by omega)]
      omega
theorem colF_bounds {n r : Int} (h0 : 0 ≤ r) (h1 : r < n) : 0 ≤ colF n r ∧ colF n r < n := by
  unfold colF
  split
  · split
    · omega
    · have := colE_bounds (m := n - 1) (r := r) (by omega) h0 (by omega)
      omega
  · exact colE_bounds (by omega) h0 h1
theorem rowF_col {n r : Int} (h0 : 0 ≤ r) (h1 : r < n) : rowF n (colF n r) = r := by
  unfold colF rowF
  split
  · split
    · omega
    · have := colE_bounds (m := n - 1) (r := r) (by omega) h0 (by omega)
      rw [if_neg (by omega)]
      exact rowE_col (by omega) h0 (by omega)
  · exact rowE_col (by omega) h0 h1
theorem rowF_c {n c : Int} (h2 : n ≠ 2) (h3 : n ≠ 3) (h0 : 0 ≤ c) (h1 : c < n) : 0 ≤ rowF n c ∧ rowF n c < n ∧ colF n (rowF n c) = c := by
  unfold rowF
  split
  · rename_i hn
    split
    · rename_i hc
      refine ⟨by omega, by omega, ?_⟩
      unfold colF
      rw [if_pos hn, if_pos hc]
    · obtain ⟨a, b, d⟩ := rowE_c (m := n - 1) (c := c) (by omega) (by omega) h0 (by omega)
      refine ⟨a, by omega, ?_⟩
      unfold colF
      rw [if_pos hn, if_neg (by omega)]
      exact d
  · rename_i hn
    obtain ⟨a, b, d⟩ := rowE_c (m := n) (c := c) (by omega) h2 h0 h1
    refine ⟨a, b, ?_⟩
    unfold colF
    rw [if_neg hn]
    exact d
theorem colF_peace' {n r s : Int} (h2 : n ≠ 2) (h3 : n ≠ 3) (h0 : 0 ≤ r) (h1 : r < s) (hs : s < n) : colF n r ≠ colF n s ∧ colF n r - colF n s ≠ s - r ∧ colF n s - colF n r ≠ s - r := by
  unfold colF
  split
  · rw [if_neg (by omega)]
    split
    · rename_i hl
      have := colE_bounds (m := n - 1) (r := r) (by omega) h0 (by omega)
      have := colE_off (m := n - 1) (r := r) (by omega) (by omega) h0 (by omega)
      omega
    · exact colE_peace (by omega) (by omega) h0 h1 (by omega)
  · exact colE_peace (by omega) h2 h0 h1 hs
/-- no two take one another -/
theorem colF_peace {n r s : Int} (h2 : n ≠ 2) (h3 : n ≠ 3) (h0 : 0 ≤ r) (h0' : r < n) (h1 : 0 ≤ s) (h1' : s < n) (hne : r ≠ s) : (colF n r - colF n s).natAbs ≠ 0 ∧ (colF n r - colF n s).natAbs ≠ (r - s).natAbs := by
  rcases Int.lt_or_gt_of_ne hne with h | h
  · have := colF_peace' h2 h3 h0 h h1'
    omega
  · have := colF_peace' h2 h3 h1 h h0'
    omega
end QR

namespace QR
open PySem PySem.Spec PyProof.Rows L2 Evl

def topS (i : Nat) : Stmt := PySem.Challenge.pw_queenrows_k09_handed_stays.main.body.getD i (.Pass ⟨0, 0, 0, 0⟩)
/-! is_number : 0:thing 1:least -/
abbrev s_is_number : Stmt := topS 8
abbrev n_is_number : List Str := ["thing", "least"]
theorem sc_is_number : FnScope n_is_number ["thing", "least"] (defScope s_is_number) := ⟨rfl, rfl, rfl, by decide +kernel, rfl, by decide +kernel, by decide +kernel⟩
/-! check_size : 0:size -/
abbrev s_check_size : Stmt := topS 9
abbrev n_check_size : List Str := ["size"]
theorem sc_check_size : FnScope n_check_size ["size"] (defScope s_check_size) := ⟨rfl, rfl, rfl, by decide +kernel, rfl, by decide +kernel, by decide +kernel⟩
/-! check_setting : 0:setting 1:column -/
abbrev s_check_setting : Stmt := topS 10
abbrev n_check_setting : List Str := ["setting", "column"]
theorem sc_check_setting : FnScope n_check_setting ["setting"] (defScope s_check_setting) := ⟨rfl, rfl, rfl, by decide +kernel, rfl, by decide +kernel, by decide +kernel⟩
/-! take : 0:setting 1:one 2:other 3:apart -/
abbrev s_take : Stmt := topS 11
abbrev n_take : List Str := ["setting", "one", "other", "apart"]
theorem sc_take : FnScope n_take ["setting", "one", "other"] (defScope s_take) := ⟨rfl, rfl, rfl, by decide +kernel, rfl, by decide +kernel, by decide +kernel⟩
/-! take_joined : 0:setting 1:one 2:other 3:size 4:on -/
abbrev s_take_joined : Stmt := topS 12
abbrev n_take_joined : List Str := ["setting", "one", "other", "size", "on"]
theorem sc_take_joined : FnScope n_take_joined ["setting", "one", "other"] (defScope s_take_joined) := ⟨rfl, rfl, rfl, by decide +kernel, rfl, by decide +kernel, by decide +kernel⟩
/-! first_taking : 0:setting 1:taking 2:other 3:one -/
abbrev s_first_taking : Stmt := topS 13
abbrev n_first_taking : List Str := ["setting", "taking", "other", "one"]
theorem sc_first_taking : FnScope n_first_taking ["setting", "taking"] (defScope s_first_taking) := ⟨rfl, rfl, rfl, by decide +kernel, rfl, by decide +kernel, by decide +kernel⟩
/-! mirrored : 0:setting 1:column -/
abbrev s_mirrored : Stmt := topS 15
abbrev n_mirrored : List Str := ["setting", "column"]
theorem sc_mirrored : FnScope n_mirrored ["setting"] (defScope s_mirrored) := ⟨rfl, rfl, rfl, by decide +kernel, rfl, by decide +kernel, by decide +kernel⟩
/-! upended : 0:setting -/
abbrev s_upended : Stmt := topS 16
abbrev n_upended : List Str := ["setting"]
theorem sc_upended : FnScope n_upended ["setting"] (defScope s_upended) := ⟨rfl, rfl, rfl, by decide +kernel, rfl, by decide +kernel, by decide +kernel⟩
/-! exchanged : 0:setting 1:row -/
abbrev s_exchanged : Stmt := topS 17
abbrev n_exchanged : List Str := ["setting", "row"]
theorem sc_exchanged : FnScope n_exchanged ["setting"] (defScope s_exchanged) := ⟨rfl, rfl, rfl, by decide +kernel, rfl, by decide +kernel, by decide +kernel⟩
/-! product : 0:outer 1:inner 2:found 3:high 4:low -/
abbrev s_product : Stmt := topS 18
abbrev n_product : List Str := ["outer", "inner", "found", "high", "low"]
theorem sc_product : FnScope n_product ["outer", "inner"] (defScope s_product) := ⟨rfl, rfl, rfl, by decide +kernel, rfl, by decide +kernel, by decide +kernel⟩
/-! Peace.shows : 0:self 1:setting -/
abbrev s_Peace_shows : Stmt := inClass (topS 21) 0
abbrev n_Peace_shows : List Str := ["self", "setting"]
theorem sc_Peace_shows : FnScope n_Peace_shows ["self", "setting"] (defScope s_Peace_shows) := ⟨rfl, rfl, rfl, by decide +kernel, rfl, by decide +kernel, by decide +kernel⟩
/-! JoinedPeace.shows : 0:self 1:setting -/
abbrev s_JoinedPeace_shows : Stmt := inClass (topS 22) 0
abbrev n_JoinedPeace_shows : List Str := ["self", "setting"]
theorem sc_JoinedPeace_shows : FnScope n_JoinedPeace_shows ["self", "setting"] (defScope s_JoinedPeace_shows) := ⟨rfl, rfl, rfl, by decide +kernel, rfl, by decide +kernel, by decide +kernel⟩
/-! Take.__init__ : 0:self 1:one 2:other -/
abbrev s_Take___init__ : Stmt := inClass (topS 23) 0
abbrev n_Take___init__ : List Str := ["self", "one", "other"]
theorem sc_Take___init__ : FnScope n_Take___init__ ["self", "one", "other"] (defScope s_Take___init__) := ⟨rfl, rfl, rfl, by decide +kernel, rfl, by decide +kernel, by decide +kernel⟩
/-! Take.shows : 0:self 1:setting -/
abbrev s_Take_shows : Stmt := inClass (topS 23) 1
abbrev n_Take_shows : List Str := ["self", "setting"]
theorem sc_Take_shows : FnScope n_Take_shows ["self", "setting"] (defScope s_Take_shows) := ⟨rfl, rfl, rfl, by decide +kernel, rfl, by decide +kernel, by decide +kernel⟩
/-! JoinedTake.__init__ : 0:self 1:one 2:other -/
abbrev s_JoinedTake___init__ : Stmt := inClass (topS 24) 0
abbrev n_JoinedTake___init__ : List Str := ["self", "one", "other"]
theorem sc_JoinedTake___init__ : FnScope n_JoinedTake___init__ ["self", "one", "other"] (defScope s_JoinedTake___init__) := ⟨rfl, rfl, rfl, by decide +kernel, rfl, by decide +kernel, by decide +kernel⟩
/-! JoinedTake.shows : 0:self 1:setting -/
abbrev s_JoinedTake_shows : Stmt := inClass (topS 24) 1
abbrev n_JoinedTake_shows : List Str := ["self", "setting"]
theorem sc_JoinedTake_shows : FnScope n_JoinedTake_shows ["self", "setting"] (defScope s_JoinedTake_shows) := ⟨rfl, rfl, rfl, by decide +kernel, rfl, by decide +kernel, by decide +kernel⟩
/-! told : 0:setting 1:found -/
abbrev s_told : Stmt := topS 26
abbrev n_told : List Str := ["setting", "found"]
theorem sc_told : FnScope n_told ["setting"] (defScope s_told) := ⟨rfl, rfl, rfl, by decide +kernel, rfl, by decide +kernel, by decide +kernel⟩
/-! told_joined : 0:setting 1:found -/
abbrev s_told_joined : Stmt := topS 27
abbrev n_told_joined : List Str := ["setting", "found"]
theorem sc_told_joined : FnScope n_told_joined ["setting"] (defScope s_told_joined) := ⟨rfl, rfl, rfl, by decide +kernel, rfl, by decide +kernel, by decide +kernel⟩
/-! column_of : 0:size 1:row 2:half -/
abbrev s_column_of : Stmt := topS 29
abbrev n_column_of : List Str := ["size", "row", "half"]
theorem sc_column_of : FnScope n_column_of ["size", "row"] (defScope s_column_of) := ⟨rfl, rfl, rfl, by decide +kernel, rfl, by decide +kernel, by decide +kernel⟩
/-! check_peaceful : 0:size -/
abbrev s_check_peaceful : Stmt := topS 30
abbrev n_check_peaceful : List Str := ["size"]
theorem sc_check_peaceful : FnScope n_check_peaceful ["size"] (defScope s_check_peaceful) := ⟨rfl, rfl, rfl, by decide +kernel, rfl, by decide +kernel, by decide +kernel⟩
/-! setting : 0:size 1:row -/
abbrev s_setting : Stmt := topS 31
abbrev n_setting : List Str := ["size", "row"]
theorem sc_setting : FnScope n_setting ["size"] (defScope s_setting) := ⟨rfl, rfl, rfl, by decide +kernel, rfl, by decide +kernel, by decide +kernel⟩
/-! _law_copied : 0:_law_thing 1:_law_one -/
abbrev s_law_copied : Stmt := topS 33
abbrev n_law_copied : List Str := ["_law_thing", "_law_one"]
theorem sc_law_copied : FnScope n_law_copied ["_law_thing"] (defScope s_law_copied) := ⟨rfl, rfl, rfl, by decide +kernel, rfl, by decide +kernel, by decide +kernel⟩
/-! _law_spoiled : 0:_law_thing 1:_law_one -/
abbrev s_law_spoiled : Stmt := topS 34
abbrev n_law_spoiled : List Str := ["_law_thing", "_law_one"]
theorem sc_law_spoiled : FnScope n_law_spoiled ["_law_thing"] (defScope s_law_spoiled) := ⟨rfl, rfl, rfl, by decide +kernel, rfl, by decide +kernel, by decide +kernel⟩
/-! _law_laid : 0:_law_mine 1:_law_other 2:_law_at 3:_law_one -/
abbrev s_law_laid : Stmt := topS 35
abbrev n_law_laid : List Str := ["_law_mine", "_law_other", "_law_at", "_law_one"]
theorem sc_law_laid : FnScope n_law_laid ["_law_mine", "_law_other"] (defScope s_law_laid) := ⟨rfl, rfl, rfl, by decide +kernel, rfl, by decide +kernel, by decide +kernel⟩
/-! _law_door_right : 0:_law_ask 1:_law_one 2:_law_other 3:_law_mine 4:_law_given 5:_law_before -/
abbrev s_law_door_right : Stmt := topS 36
abbrev n_law_door_right : List Str := ["_law_ask", "_law_one", "_law_other", "_law_mine", "_law_given", "_law_before"]
theorem sc_law_door_right : FnScope n_law_door_right ["_law_ask", "_law_one", "_law_other"] (defScope s_law_door_right) := ⟨rfl, rfl, rfl, by decide +kernel, rfl, by decide +kernel, by decide +kernel⟩
/-! _law_told : 0:_law_found -/
abbrev s_law_told : Stmt := topS 37
abbrev n_law_told : List Str := ["_law_found"]
theorem sc_law_told : FnScope n_law_told ["_law_found"] (defScope s_law_told) := ⟨rfl, rfl, rfl, by decide +kernel, rfl, by decide +kernel, by decide +kernel⟩
/-! _law_free_right : 0:_law_ask 1:_law_holds 2:_law_one 3:_law_other 4:_law_mine 5:_law_things 6:_law_found -/
abbrev s_law_free_right : Stmt := topS 38
abbrev n_law_free_right : List Str := ["_law_ask", "_law_holds", "_law_one", "_law_other", "_law_mine", "_law_things", "_law_found"]
theorem sc_law_free_right : FnScope n_law_free_right ["_law_ask", "_law_holds", "_law_one", "_law_other"] (defScope s_law_free_right) := ⟨rfl, rfl, rfl, by decide +kernel, rfl, by decide +kernel, by decide +kernel⟩
/-! law : 0:_law_script 1:_law_cells 2:_law_more 3:_law_asks 4:_law_frees 5:_law_size 6:_law_one 7:_law_other 8:_law_given 9:_law_ask 10:_law_holds -/
abbrev s_law : Stmt := topS 39
abbrev n_law : List Str := ["_law_script", "_law_cells", "_law_more", "_law_asks", "_law_frees", "_law_size", "_law_one", "_law_other", "_law_given", "_law_ask", "_law_holds"]
theorem sc_law : FnScope n_law ["_law_script"] (defScope s_law) := ⟨rfl, rfl, rfl, by decide +kernel, rfl, by decide +kernel, by decide +kernel⟩
end QR

namespace QR
open PySem PySem.Spec PyProof.Rows L2 Evl
/-- the built-ins' names are the built-ins' -/
structure Bl (mg : Str → Option Value) : Prop where
  isinstance : mg "isinstance" = none
  int : mg "int" = none
  bool : mg "bool" = none
  list : mg "list" = none
  len : mg "len" = none
  all : mg "all" = none
  any : mg "any" = none
  abs : mg "abs" = none
  range : mg "range" = none
  sum : mg "sum" = none
  min : mg "min" = none
  max : mg "max" = none
  set : mg "set" = none
  enumerate : mg "enumerate" = none
  sorted : mg "sorted" = none
  tuple : mg "tuple" = none
  str : mg "str" = none
  valueError : mg "ValueError" = none
def numB : V → Int → Bool
  | .int i, l => decide (l ≤ i)
  | _, _ => false
def kinds : List String := ["NoneType", "bool", "int", "str", "list", "tuple", "dict"]
theorem num_kit {K : PySem.W.Frag} {H : Hp} {x : V} {n : String} (ty : TyX K H x (.type n)) (hn : n ∈ kinds) :
    (∃ i, x = .int i ∧ n = "int") ∨ (∃ b, x = .bl b ∧ n = "bool") ∨ ((∀ l, numB x l = false) ∧ kitB n "int" = some false) := by
  cases ty with
  | base b =>
    cases b with
    | non => exact .inr (.inr ⟨fun _ => rfl, by decide +kernel⟩)
    | bl b => exact .inr (.inl ⟨b, rfl, rfl⟩)
    | int i => exact .inl ⟨i, rfl, rfl⟩
    | str x => exact .inr (.inr ⟨fun _ => rfl, by decide +kernel⟩)
    | flt x => exact absurd hn (by decide)
    | lst h => exact .inr (.inr ⟨fun _ => rfl, by decide +kernel⟩)
    | frz h => exact .inr (.inr ⟨fun _ => rfl, by decide +kernel⟩)
    | tup h => exact .inr (.inr ⟨fun _ => rfl, by decide +kernel⟩)
    | dK h => exact .inr (.inr ⟨fun _ => rfl, by decide +kernel⟩)
    | dT h => exact .inr (.inr ⟨fun _ => rfl, by decide +kernel⟩)
  | byt b => exact absurd hn (by decide)
  | set h => exact absurd hn (by decide)
  | kList h c => exact .inr (.inr ⟨fun _ => rfl, by decide +kernel⟩)
  | kTuple h c => exact .inr (.inr ⟨fun _ => rfl, by decide +kernel⟩)
  | kDict h c => exact .inr (.inr ⟨fun _ => rfl, by decide +kernel⟩)
  | fTuple h => exact .inr (.inr ⟨fun _ => rfl, by decide +kernel⟩)
  | fDict h => exact .inr (.inr ⟨fun _ => rfl, by decide +kernel⟩)
theorem boot_int' : bootBuiltins "int" = some (.type "int") := by decide +kernel
theorem boot_bool' : bootBuiltins "bool" = some (.type "bool") := by decide +kernel
theorem boot_list' : bootBuiltins "list" = some (.type "list") := by decide +kernel
section
variable {P : Program} {w : World} {K : PySem.W.Frag} {mg : Str → Option Value} {base : Heap}
/-! ### is_number -/
def spIsNum (K : PySem.W.Frag) : Sp := fun vs H Q _ => ∃ (x : V) (l : Int) (n : String), vs = [x, .int l] ∧ TyX K H x (.type n) ∧ n ∈ kinds ∧ RetV (.bl (numB x l)) H Q
theorem ok_is_number {f : Addr} {fd : FuncData} (F : Fun K "is_number" "is_number" s_is_number f fd) (B : Bl mg) : FnOk P w K mg base (L2.CX P w) 1 f fd ["thing", "least"] (spIsNum K) := by
  refine okB F sc_is_number (fun vs H Q E h => ?_) (fun cdv A outer s H vs Q E hr h => ?_)
  · obtain ⟨x, l, n, rfl, _⟩ := h
    rfl
  · obtain ⟨x, l, n, rfl, ty, hn, q⟩ := h
    rcases num_kit ty hn with ⟨i, rfl, rfl⟩ | ⟨b, rfl, rfl⟩ | ⟨hf, hk⟩
    · exact BW.ret (EV.isB (EV.and3 (EV.isT B.isinstance B.int boot_int' (EV.var 0 rfl) ty (k := true) (by decide +kernel)) (fun _ => EV.not (EV.isT B.isinstance B.bool boot_bool' (EV.var 0 rfl) ty (k := false) (by decide +kernel))) (fun _ _ => EV.ge (EV.var 0 rfl) (EV.var 1 rfl))) (by simp [numB])) q
    · exact BW.ret (EV.isB (EV.and3 (k3 := false) (EV.isT B.isinstance B.int boot_int' (EV.var 0 rfl) ty (k := true) (by decide +kernel)) (fun _ => EV.not (EV.isT B.isinstance B.bool boot_bool' (EV.var 0 rfl) ty (k := true) (by decide +kernel))) (fun _ z => nomatch z)) (by simp [numB])) q
    · exact BW.ret (EV.isB (EV.and3 (k2 := false) (k3 := false) (EV.isT B.isinstance B.int boot_int' (EV.var 0 rfl) ty hk) (fun z => nomatch z) (fun z => nomatch z)) (by simp [hf])) q
theorem sv_isnum {H : Hp} {x : V} {l : Int} {n : String} (ty : TyX K H x (.type n)) (hn : n ∈ kinds := by decide) : SpV (spIsNum K) [x, .int l] H (.bl (numB x l)) := fun H1 e1 Q q _ => ⟨x, l, n, rfl, TyX.ex ty e1, hn, q⟩
end
end QR

namespace QR
open PySem PySem.Spec PyProof.Rows L2 Evl
/-! ### the refusals -/
inductive Ek where
  | size | place | setting | none | peace
  deriving DecidableEq
def Ek.name : Ek → Str
  | .size => "BadSize"
  | .place => "BadPlace"
  | .setting => "BadSetting"
  | .none => "NoSetting"
  | .peace => "NoPeace"
structure Xc (K : PySem.W.Frag) (mg : Str → Option Value) (x : Str) (C : Addr) : Prop where
  xP : PySem.W.excIn K C He.veBase "ValueError.__new__" = true
  gP : mg x = some (.ref C)
  kP : PySem.W.keepIn K (.ref C) = true
  bP : PySem.W.subIn K (.ref C) (.type "BaseException") = some true
  tP : PySem.W.typeIn K (.ref C) = some (.type "type")
section
variable {X : Cx} {e a b c : Expr} {es : List Expr} {σ : L2.St} {H : Hp} {D : Ends} {rest : List Stmt} {pos p p2 pos' : Pos} {vs : List V} {x : Str} {W : WX} {C : Addr}
theorem BW.raise {m : Str} {j : Nat} (ec : Xc X.K X.mg x C) (tk : Takes X W) (h : W (.ref C) none σ H) (hc : X.calm = true := by rfl) (hg : Gl X x := by rfl) (hdb : (x == ("__debug__" : Str)) = false := by decide) :
    BW X (.Raise (some (.Call (.Name x p) [.Constant (.str m) j p2] [] pos)) none pos' :: rest) D σ H :=
  BW.cons (ps_raise hc tk (pmk_own PySem.F.excBase_ValueError ec.xP ec.gP ec.kP (raises_own ec.bP ec.tP) hg hdb)) h
/-- f(e, ..) as a statement, f may refuse -/
theorem BW.exprX {sp : Sp} {k j : Nat} {E : XK} (C : Fc X.prog X.w X.K X.mg X.base k x sp) (hr : Room j X.A) (tk : Takes X (fun cls d _ H => E cls d H)) (ha : AV X (e :: es) σ H vs) (hv : ∀ H1, Ex H H1 → sp vs H1 (fun _ H2 => BW X rest D σ H2) E)
    (hk : k ≤ j := by decide) (hg : Gl X x := by rfl) (hs : (e :: es).all noStar = true := by rfl) (hdb : (x == ("__debug__" : Str)) = false := by decide) (hw : swapsWith (.Call (.Name x p) (e :: es) [] pos) none pos'.line X.env = pure false := by rfl) :
    BW X (.Expr (.Call (.Name x p) (e :: es) [] pos) pos' :: rest) D σ H :=
  BW.exprW (EW.callX C hr tk (ha.ev H (Ex.refl H) _ fun H1 e1 => hv H1 e1) hk hg hs hdb) hw
end
/-- what a looking def does: nothing, or a refusal -/
def Res (xa : Ek → Addr) (o : Option Ek) (v : V) (H : Hp) (Q : VK) (E : XK) : Prop := match o with
  | none => RetV v H Q
  | some k => ∀ H2, Ex H H2 → E (.ref (xa k)) none H2
theorem Res.good {xa : Ek → Addr} {o : Option Ek} {v : V} {H : Hp} {Q : VK} {E : XK} (h : Res xa o v H Q E) (ho : o = none) : RetV v H Q := by subst ho; exact h
theorem Res.bad {xa : Ek → Addr} {o : Option Ek} {v : V} {H : Hp} {Q : VK} {E : XK} {k : Ek} (h : Res xa o v H Q E) (ho : o = some k) : ∀ H2, Ex H H2 → E (.ref (xa k)) none H2 := by subst ho; exact h
/-- a def that refuses or gives v -/
def SpX (sp : Sp) (xa : Ek → Addr) (vs : List V) (H : Hp) (o : Option Ek) (v : V) : Prop := ∀ H1, Ex H H1 → ∀ (Q : VK) (E : XK), Res xa o v H1 Q E → sp vs H1 Q E
theorem SpX.v {sp : Sp} {xa : Ek → Addr} {vs : List V} {H : Hp} {v : V} (h : SpX sp xa vs H none v) : SpV sp vs H v := fun H1 e1 Q q E => h H1 e1 Q E q
section
variable {P : Program} {w : World} {K : PySem.W.Frag} {mg : Str → Option Value} {base : Heap} {xa : Ek → Addr}
/-- a value of the kinds that are handed in -/
def Kd? (K : PySem.W.Frag) (H : Hp) (x : V) : Prop := ∃ n : String, TyX K H x (.type n) ∧ n ∈ kinds
theorem Kd?.ex {H H' : Hp} {x : V} (h : Kd? K H x) (e : Ex H H') : Kd? K H' x := let ⟨n, h1, h2⟩ := h; ⟨n, TyX.ex h1 e, h2⟩
theorem Kd?.int {H : Hp} {i : Int} : Kd? K H (.int i) := ⟨"int", .base (.int i), by decide⟩
theorem Kd?.bl {H : Hp} {i : Bool} : Kd? K H (.bl i) := ⟨"bool", .base (.bl i), by decide⟩
theorem Kd?.non {H : Hp} : Kd? K H .non := ⟨"NoneType", .base .non, by decide⟩
theorem Kd?.str {H : Hp} {z : Str} : Kd? K H (.str z) := ⟨"str", .base (.str z), by decide⟩
theorem Kd?.lst {H : Hp} {p : Addr} {xs : List V} (h : SqL K H p xs) : Kd? K H (.ref p) := ⟨"list", ty_list h, by decide⟩
theorem Kd?.tup {H : Hp} {p : Addr} {xs : List V} (h : SqT K H p xs) : Kd? K H (.ref p) := ⟨"tuple", ty_tup h, by decide⟩
theorem sv_isnum' {H : Hp} {x : V} {l : Int} (h : Kd? K H x) : SpV (spIsNum K) [x, .int l] H (.bl (numB x l)) := by
  obtain ⟨n, ty, hn⟩ := h
  exact sv_isnum ty hn
theorem numB_int {x : V} {l : Int} (h : numB x l = true) : ∃ i, x = .int i ∧ l ≤ i := by
  cases x with
  | int i => exact ⟨i, rfl, of_decide_eq_true h⟩
  | _ => exact nomatch h
end
end QR

namespace QR
open PySem PySem.Spec PyProof.Rows L2 Evl
section
variable {P : Program} {w : World} {K : PySem.W.Frag} {mg : Str → Option Value} {base : Heap} {xa : Ek → Addr}
/-! ### check_size -/
def ckSize (x : V) : Option Ek := if numB x 1 = true then none else some .size
def spCkSize (K : PySem.W.Frag) (xa : Ek → Addr) : Sp := fun vs H Q E => ∃ x, vs = [x] ∧ Kd? K H x ∧ Res xa (ckSize x) .non H Q E
theorem ok_check_sizeX {f : Addr} {fd : FuncData} (F : Fun K "check_size" "check_size" s_check_size f fd) (Cn : Fc P w K mg base 1 "is_number" (spIsNum K)) (xS : Xc K mg "BadSize" (xa .size)) : FnOk P w K mg base (L2.CX P w) 2 f fd ["size"] (spCkSize K xa) := by
  refine okR F sc_check_size (fun vs H Q E h => ?_) (fun cdv A outer s H vs Q E hr h => ?_)
  · obtain ⟨n, rfl, _⟩ := h
    rfl
  · obtain ⟨x, rfl, kd, q⟩ := h
    refine BW.when (TV.not (TV.val (EV.call Cn hr (AV.two (EV.var 0 rfl) EV.int) (sv_isnum' kd)))) (fun hk H1 e1 => ?_) (fun hk H1 e1 => ?_)
    · exact BW.raise xS (takes_of rfl rfl rfl rfl) (q.bad (by unfold ckSize; rw [if_neg (by simpa using hk)]) H1 e1)
    · exact BW.nil (q.good (by unfold ckSize; rw [if_pos (by simpa using hk)]) H1 e1)
theorem sx_size {H : Hp} {x : V} (h : Kd? K H x) : SpX (spCkSize K xa) xa [x] H (ckSize x) .non := fun H1 e1 Q E r => ⟨x, rfl, h.ex e1, r⟩
end
end QR

namespace QR
open PySem PySem.Spec PyProof.Rows L2 Evl
/-- the refusals' classes as the head tells them -/
theorem xc_of {K : PySem.W.Frag} {h : Heap} {mg : Str → Option Value} (X : K.In h) (G : h.Ns mainGlobals mg) {x : Str} (g : (He.Fa.glo x).ok K = true) (e : (He.Fa.exc x).ok K = true) : Xc K mg x (ga K x) := by
  obtain ⟨h1, h2, h3, h4⟩ := He.exc_ok e
  exact ⟨h1, He.glo_ok X G g, h2, h3, h4⟩
def excB (ks : List Ek) (K : PySem.W.Frag) : Bool := ks.all fun k => (He.Fa.glo k.name).ok K && (He.Fa.exc k.name).ok K
theorem exc_of {K : PySem.W.Frag} {h : Heap} {mg : Str → Option Value} {ks : List Ek} (X : K.In h) (G : h.Ns mainGlobals mg) (hb : excB ks K = true) (k : Ek) (hk : k ∈ ks) : Xc K mg k.name (ga K k.name) := by
  obtain ⟨h1, h2⟩ := He.ba (List.all_eq_true.mp hb k hk)
  exact xc_of X G h1 h2
abbrev xaOf (K : PySem.W.Frag) : Ek → Addr := fun k => ga K k.name
end QR

namespace QR
open PySem PySem.Spec PyProof.Rows L2 Evl
/-- a class of the program, its fields -/
structure Cs (K : PySem.W.Frag) (mg : Str → Option Value) (x : Str) (C : Addr) (flds : List Str) : Prop extends Ci K mg x C where
  na : ∀ f ∈ flds, NoAttr K C f
end QR

namespace QR
open PySem PySem.Spec PyProof.Rows L2 Evl
/-! ### the classes of the answers -/
inductive Kd where
  | S | B | P | JP | T | JT
  deriving DecidableEq
def Kd.name : Kd → Str
  | .S => "Step"
  | .B => "Barred"
  | .P => "Peace"
  | .JP => "JoinedPeace"
  | .T => "Take"
  | .JT => "JoinedTake"
def Kd.flds : Kd → List Str
  | .S => ["step"]
  | .B => ["by"]
  | .T => ["one", "other"]
  | .JT => ["one", "other"]
  | _ => []
structure Ans (K : PySem.W.Frag) (mg : Str → Option Value) (ad : Kd → Addr) (CA : Addr) : Prop where
  cs : ∀ k, Cs K mg k.name (ad k) k.flds
  kit : ∀ a b, PySem.W.kitOne K (.ref (ad a)) (.ref (ad b)) = some (decide (a = b))
  kitA : ∀ a, PySem.W.kitOne K (.ref (ad a)) (.ref CA) = some true
  gA : mg "Answer" = some (.ref CA)
section
variable {X : Cx} {e a b c o : Expr} {σ : L2.St} {H : Hp} {pos p pf : Pos} {ad : Kd → Addr} {CA : Addr}
/-- isinstance(e, C) of an answer -/
theorem EV.isK (A : Ans X.K X.mg ad CA) (mI : X.mg "isinstance" = none) {k : Kd} (d : Kd) {x : Str} {q dx : Addr} {fs : List (Str × V)} (ha : EV X a σ H (.ref q)) (hq : H q = some (.ins (ad k) dx fs)) (hx : x = d.name := by rfl) (hg : Gl X "isinstance" := by rfl) (hgD : Gl X x := by rfl) (hs : [a, .Name x pf].all noStar = true := by rfl) (hd : (x == ("__debug__" : Str)) = false := by decide) :
    EV X (.Call (.Name "isinstance" p) [a, .Name x pf] [] pos) σ H (.bl (decide (k = d))) :=
  EV.isC mI (A.cs k).toCi (by rw [hx]; exact (A.cs d).mg) ha hq (A.kit k d) hg hgD hs hd
theorem EV.isA (A : Ans X.K X.mg ad CA) (mI : X.mg "isinstance" = none) {k : Kd} {q dx : Addr} {fs : List (Str × V)} (ha : EV X a σ H (.ref q)) (hq : H q = some (.ins (ad k) dx fs)) (hg : Gl X "isinstance" := by rfl) (hgD : Gl X "Answer" := by rfl) (hs : [a, .Name "Answer" pf].all noStar = true := by rfl) :
    EV X (.Call (.Name "isinstance" p) [a, .Name "Answer" pf] [] pos) σ H (.bl true) :=
  EV.isC mI (A.cs k).toCi A.gA ha hq (A.kitA k) hg hgD hs
/-- a field of an answer -/
theorem EV.fldK (A : Ans X.K X.mg ad CA) {k : Kd} {f : Str} {v : V} {q dx : Addr} {fs : List (Str × V)} (h : EV X e σ H (.ref q)) (hq : H q = some (.ins (ad k) dx fs)) (hl : fs.lookup f = some v) (hf : f ∈ k.flds := by decide) (hb : attributeBase e f X.env (eval e X.env) = eval e X.env := by rfl) : EV X (.Attribute e f pos) σ H v :=
  EV.fld h hq (A.cs k).cl ((A.cs k).na f hf) hl hb
/-- isinstance of an answer told by its shape -/
theorem EV.isKX (A : Ans X.K X.mg ad CA) (mI : X.mg "isinstance" = none) {k : Kd} (d : Kd) {x : Str} {fs : List (Str × V)} (ha : EX X a σ H (.ins (ad k) fs)) (hx : x = d.name := by rfl) (hg : Gl X "isinstance" := by rfl) (hgD : Gl X x := by rfl) (hs : [a, .Name x pf].all noStar = true := by rfl) (hd : (x == ("__debug__" : Str)) = false := by decide) :
    EV X (.Call (.Name "isinstance" p) [a, .Name x pf] [] pos) σ H (.bl (decide (k = d))) := by
  have hb : EX X (.Name x pf) σ H (.v (.ref (ad d))) := EX.vv (EV.glob (by rw [hx]; exact (A.cs d).mg) hgD hd)
  refine EV.of (pe_callB call_isi hg mI (by decide +kernel) (pa_all hs) (by decide) (by decide) (star_of (List.all_eq_true.mp hs a List.mem_cons_self) _) (back_any _ (List.all_eq_true.mpr fun e' he => List.all_eq_true.mp hs e' (List.mem_cons_of_mem _ he)))) fun H1 e1 Q q => (AX.two ha hb).ev H1 e1 _ fun vs H2 e2 hvs => ?_
  obtain ⟨u, v, rfl, hu, hv⟩ := hvs.two
  obtain ⟨r, dx, rfl, hr⟩ := hu.ofI
  cases hv.vv
  exact ⟨.ref r, .ref (ad d), .ref (ad k), .ref (ad d), _, rfl, .own _, (A.cs k).toCi.ty hr, A.kit k d, q H2 e2⟩
end
end QR

namespace QR
open PySem PySem.Spec PyProof.Rows L2 Evl
def allKd : List Kd := [.S, .B, .P, .JP, .T, .JT]
theorem allKd_mem (k : Kd) : k ∈ allKd := by cases k <;> decide
def ansB (K : PySem.W.Frag) : Bool := (He.Fa.glo "Answer").ok K && allKd.all fun a => (He.Fa.glo a.name).ok K && ((He.Fa.cls a.name).ok K && (ciB K a.name && ((a.flds.all fun f => (He.Fa.noat a.name f).ok K) && (kitBB K a.name "Answer" true && allKd.all fun b => kitBB K a.name b.name (decide (a = b))))))
theorem ans_of {K : PySem.W.Frag} {h : Heap} {mg : Str → Option Value} (X : K.In h) (G : h.Ns mainGlobals mg) (hb : ansB K = true) : Ans K mg (fun k => ga K k.name) (ga K "Answer") := by
  obtain ⟨h1, h2⟩ := He.ba hb
  have key : ∀ k : Kd, _ := fun k => List.all_eq_true.mp h2 k (allKd_mem k)
  refine ⟨fun k => ?_, fun a b => ?_, fun a => ?_, He.glo_ok X G h1⟩
  · obtain ⟨g, z⟩ := He.ba (key k)
    obtain ⟨c, z⟩ := He.ba z
    obtain ⟨i, z⟩ := He.ba z
    obtain ⟨n, z⟩ := He.ba z
    exact ⟨ci_ok (He.glo_ok X G g) c i, fun f hf => He.noat_ok (List.all_eq_true.mp n f hf)⟩
  · obtain ⟨_, z⟩ := He.ba (key a)
    obtain ⟨_, z⟩ := He.ba z
    obtain ⟨_, z⟩ := He.ba z
    obtain ⟨_, z⟩ := He.ba z
    obtain ⟨_, z⟩ := He.ba z
    exact kit_ok (List.all_eq_true.mp z b (allKd_mem b))
  · obtain ⟨_, z⟩ := He.ba (key a)
    obtain ⟨_, z⟩ := He.ba z
    obtain ⟨_, z⟩ := He.ba z
    obtain ⟨_, z⟩ := He.ba z
    obtain ⟨z, _⟩ := He.ba z
    exact kit_ok z
end QR

namespace QR
open PySem PySem.Spec PyProof.Rows L2 Evl
theorem at_map {ns : List Int} {i : Nat} {y : V} (h : (ns.map V.int)[i]? = some y) : y = .int (ns.getD i 0) ∧ i < ns.length := by
  rw [List.getElem?_map] at h
  have hi : i < ns.length := by
    rcases Nat.lt_or_ge i ns.length with g | g
    · exact g
    · rw [List.getElem?_eq_none g] at h
      cases h
  rw [List.getElem?_eq_getElem hi] at h
  refine ⟨?_, hi⟩
  rw [List.getD_eq_getElem?_getD, List.getElem?_eq_getElem hi]
  exact (Option.some.inj h).symm
/-! ### _law_peace -/
def byOf (n : Int) (j : Bool) : Int := if j = true then n else 5 * n
def upsOf (ns : List Int) (m : Int) : List Int := (List.range ns.length).map fun i : Nat => (ns.getD i 0 + (i : Int)) % m
def downsOf (ns : List Int) (m : Int) : List Int := (List.range ns.length).map fun i : Nat => (ns.getD i 0 - (i : Int)) % m
def peaceB (ns : List Int) (j : Bool) : Bool :=
  decide (((distinct ns : Nat) : Int) = (ns.length : Int)) && (decide (((distinct (upsOf ns (byOf ns.length j)) : Nat) : Int) = (ns.length : Int)) && decide (((distinct (downsOf ns (byOf ns.length j)) : Nat) : Int) = (ns.length : Int)))
theorem ups_len (ns : List Int) (m : Int) : (upsOf ns m).length = ns.length := by simp [upsOf]
theorem downs_len (ns : List Int) (m : Int) : (downsOf ns m).length = ns.length := by simp [downsOf]
end QR

namespace QR
/-! ### peace by columns and slopes, and by two and two -/
def takeB (ns : List Int) (i k : Nat) : Bool := decide ((((ns.getD i 0 - ns.getD k 0).natAbs : Nat) : Int) = 0) || decide ((((ns.getD i 0 - ns.getD k 0).natAbs : Nat) : Int) = ((((i : Int) - (k : Int)).natAbs : Nat) : Int))
def takeJB (ns : List Int) (i k : Nat) : Bool := decide (ns.getD i 0 - ns.getD k 0 = 0) || (decide ((ns.getD i 0 - ns.getD k 0 - (i : Int) + (k : Int)) % (ns.length : Int) = 0) || decide ((ns.getD i 0 - ns.getD k 0 + (i : Int) - (k : Int)) % (ns.length : Int) = 0))
def takes (j : Bool) (ns : List Int) (i k : Nat) : Bool := if j = true then takeJB ns i k else takeB ns i k
theorem nodup_getD (xs : List Int) : xs.Nodup ↔ ∀ i k, i < k → k < xs.length → xs.getD i 0 ≠ xs.getD k 0 := by
  rw [List.Nodup, List.pairwise_iff_getElem]
  constructor
  · intro h i k hik hk
    have := h i k (by omega) hk hik
    simpa [List.getD_eq_getElem?_getD, List.getElem?_eq_getElem hk, List.getElem?_eq_getElem (show i < xs.length by omega)] using this
  · intro h i k hi hk hik
    have := h i k hik hk
    simpa [List.getD_eq_getElem?_getD, List.getElem?_eq_getElem hk, List.getElem?_eq_getElem hi] using this
theorem ups_getD {ns : List Int} {m : Int} {i : Nat} (h : i < ns.length) : (upsOf ns m).getD i 0 = (ns.getD i 0 + (i : Int)) % m := by
  unfold upsOf
  simp [List.getD_eq_getElem?_getD, h]
theorem downs_getD {ns : List Int} {m : Int} {i : Nat} (h : i < ns.length) : (downsOf ns m).getD i 0 = (ns.getD i 0 - (i : Int)) % m := by
  unfold downsOf
  simp [List.getD_eq_getElem?_getD, h]
theorem mod_zero_small {x m : Int} (h1 : -m < x) (h2 : x < m) : x % m = 0 ↔ x = 0 := by
  constructor
  · intro h
    by_cases hx : 0 ≤ x
    · rw [Int.emod_eq_of_lt hx h2] at h
      exact h
    · have : x % m = x + m := by
        have e : x % m = (x + m) % m := by rw [Int.add_emod_right]
        rw [e]
        exact Int.emod_eq_of_lt (by omega) (by omega)
      omega
  · intro h
    subst h
    exact Int.zero_emod m
theorem mod_eq_iff {a b m : Int} : a % m = b % m ↔ (a - b) % m = 0 := Int.emod_eq_emod_iff_emod_sub_eq_zero
theorem peaceB_iff (ns : List Int) (j : Bool) : peaceB ns j = true ↔ ∀ i k : Nat, i < k → k < ns.length → ns.getD i 0 ≠ ns.getD k 0 ∧ (ns.getD i 0 + (i : Int) - (ns.getD k 0 + (k : Int))) % byOf ns.length j ≠ 0 ∧ (ns.getD i 0 - (i : Int) - (ns.getD k 0 - (k : Int))) % byOf ns.length j ≠ 0 := by
  unfold peaceB
  simp only [Bool.and_eq_true, decide_eq_true_eq]
  have c : ∀ xs : List Int, xs.length = ns.length → ((((distinct xs : Nat) : Int) = (ns.length : Int)) ↔ xs.Nodup) := fun xs hl => by
    rw [← distinct_iff, hl]
    omega
  rw [c ns rfl, c _ (ups_len _ _), c _ (downs_len _ _), nodup_getD, nodup_getD, nodup_getD, ups_len, downs_len]
  constructor
  · rintro ⟨h1, h2, h3⟩ i k hik hk
    have a := h2 i k hik hk
    have b := h3 i k hik hk
    rw [ups_getD (by omega), ups_getD hk] at a
    rw [downs_getD (by omega), downs_getD hk] at b
    exact ⟨h1 i k hik hk, fun z => a (mod_eq_iff.mpr z), fun z => b (mod_eq_iff.mpr z)⟩
  · intro h
    refine ⟨fun i k hik hk => (h i k hik hk).1, fun i k hik hk => ?_, fun i k hik hk => ?_⟩
    · rw [ups_getD (by omega), ups_getD hk]
      exact fun z => (h i k hik hk).2.1 (mod_eq_iff.mp z)
    · rw [downs_getD (by omega), downs_getD hk]
      exact fun z => (h i k hik hk).2.2 (mod_eq_iff.mp z)
theorem getD_mem {ns : List Int} {i : Nat} (h : i < ns.length) : ns.getD i 0 ∈ ns := by
  rw [List.getD_eq_getElem?_getD, List.getElem?_eq_getElem h]
  exact List.getElem_mem h
/-- at peace on the board: no two take one another -/
theorem peaceB_false {ns : List Int} (hb : ∀ c ∈ ns, 0 ≤ c ∧ c < (ns.length : Int)) : peaceB ns false = true ↔ ∀ i k : Nat, i < k → k < ns.length → takeB ns i k = false := by
  rw [peaceB_iff]
  refine forall_congr' fun i => forall_congr' fun k => forall_congr' fun hik => forall_congr' fun hk => ?_
  have b1 := hb _ (getD_mem (show i < ns.length by omega))
  have b2 := hb _ (getD_mem hk)
  have m : byOf ns.length false = 5 * (ns.length : Int) := rfl
  unfold takeB
  rw [m, Ne, Ne, Ne, mod_zero_small (by omega) (by omega), mod_zero_small (by omega) (by omega)]
  simp only [Bool.or_eq_false_iff, decide_eq_false_iff_not]
  omega
theorem neg_mod_zero {x m : Int} : (-x) % m = 0 ↔ x % m = 0 := by
  constructor
  · intro h
    exact Int.emod_eq_zero_of_dvd (Int.dvd_neg.mp (Int.dvd_of_emod_eq_zero h))
  · intro h
    exact Int.emod_eq_zero_of_dvd (Int.dvd_neg.mpr (Int.dvd_of_emod_eq_zero h))
theorem peaceB_true {ns : List Int} : peaceB ns true = true ↔ ∀ i k : Nat, i < k → k < ns.length → takeJB ns i k = false := by
  rw [peaceB_iff]
  refine forall_congr' fun i => forall_congr' fun k => forall_congr' fun hik => forall_congr' fun hk => ?_
  have m : byOf ns.length true = (ns.length : Int) := rfl
  unfold takeJB
  rw [m]
  simp only [Bool.or_eq_false_iff, decide_eq_false_iff_not]
  have e1 : ns.getD i 0 + (i : Int) - (ns.getD k 0 + (k : Int)) = ns.getD i 0 - ns.getD k 0 + (i : Int) - (k : Int) := by omega
  have e2 : ns.getD i 0 - (i : Int) - (ns.getD k 0 - (k : Int)) = ns.getD i 0 - ns.getD k 0 - (i : Int) + (k : Int) := by omega
  rw [e1, e2]
  constructor
  · rintro ⟨h1, h2, h3⟩
    exact ⟨by omega, h3, h2⟩
  · rintro ⟨h1, h2, h3⟩
    exact ⟨by omega, h3, h2⟩
theorem peaceB_takes {ns : List Int} (hb : ∀ c ∈ ns, 0 ≤ c ∧ c < (ns.length : Int)) (j : Bool) : peaceB ns j = true ↔ ∀ i k : Nat, i < k → k < ns.length → takes j ns i k = false := by
  cases j with
  | true => exact peaceB_true
  | false => exact peaceB_false hb
end QR

namespace QR
/-! ### the first two that take one another -/
def NoTake (j : Bool) (ns : List Int) : Prop := ∀ b, b < ns.length → ∀ a, a < b → takes j ns a b = false
def IsFirst (j : Bool) (ns : List Int) (a b : Nat) : Prop := (a < b ∧ b < ns.length) ∧ takes j ns a b = true ∧ (∀ b', b' < b → ∀ a', a' < b' → takes j ns a' b' = false) ∧ ∀ a', a' < a → takes j ns a' b = false
def FirstIs (j : Bool) (ns : List Int) : Option (Nat × Nat) → Prop
  | none => NoTake j ns
  | some (a, b) => IsFirst j ns a b
theorem first_in (t : Nat → Bool) : ∀ n, (∀ a, a < n → t a = false) ∨ ∃ a, a < n ∧ t a = true ∧ ∀ a', a' < a → t a' = false
  | 0 => .inl fun a h => by omega
  | n + 1 => by
    rcases first_in t n with h | ⟨a, h1, h2, h3⟩
    · cases ht : t n with
      | true => exact .inr ⟨n, by omega, ht, fun a' ha => h a' ha⟩
      | false =>
        refine .inl fun a ha => ?_
        by_cases han : a < n
        · exact h a han
        · have : a = n := by omega
          subst this
          exact ht
    · exact .inr ⟨a, by omega, h2, h3⟩
theorem first_to (t : Nat → Nat → Bool) : ∀ n, (∀ b, b < n → ∀ a, a < b → t a b = false) ∨ ∃ a b, (a < b ∧ b < n) ∧ t a b = true ∧ (∀ b', b' < b → ∀ a', a' < b' → t a' b' = false) ∧ ∀ a', a' < a → t a' b = false
  | 0 => .inl fun a h => by omega
  | n + 1 => by
    rcases first_to t n with h | ⟨a, b, h1, h2, h3, h4⟩
    · rcases first_in (fun a => t a n) n with g | ⟨a, g1, g2, g3⟩
      · refine .inl fun b hb a ha => ?_
        by_cases hbn : b < n
        · exact h b hbn a ha
        · have : b = n := by omega
          subst this
          exact g a ha
      · exact .inr ⟨a, n, ⟨g1, by omega⟩, g2, h, g3⟩
    · exact .inr ⟨a, b, ⟨h1.1, by omega⟩, h2, h3, h4⟩
theorem first_ex (j : Bool) (ns : List Int) : ∃ o, FirstIs j ns o := by
  rcases first_to (takes j ns) ns.length with h | ⟨a, b, h1, h2, h3, h4⟩
  · exact ⟨none, h⟩
  · exact ⟨some (a, b), h1, h2, h3, h4⟩
theorem first_one {j : Bool} {ns : List Int} {a b a' b' : Nat} (h : IsFirst j ns a b) (g : IsFirst j ns a' b') : a = a' ∧ b = b' := by
  obtain ⟨h1, h2, h3, h4⟩ := h
  obtain ⟨g1, g2, g3, g4⟩ := g
  have hb : b = b' := by
    rcases Nat.lt_trichotomy b b' with z | z | z
    · have := g3 b z a h1.1
      rw [h2] at this
      cases this
    · exact z
    · have := h3 b' z a' g1.1
      rw [g2] at this
      cases this
  subst hb
  refine ⟨?_, rfl⟩
  rcases Nat.lt_trichotomy a a' with z | z | z
  · have := g4 a z
    rw [h2] at this
    cases this
  · exact z
  · have := h4 a' z
    rw [g2] at this
    cases this
theorem first_none {j : Bool} {ns : List Int} {o : Option (Nat × Nat)} (h : FirstIs j ns o) (g : NoTake j ns) : o = none := by
  cases o with
  | none => rfl
  | some p =>
    obtain ⟨h1, h2, _, _⟩ := (h : IsFirst j ns p.1 p.2)
    have := g p.2 h1.2 p.1 h1.1
    rw [h2] at this
    cases this
theorem first_some {j : Bool} {ns : List Int} {o : Option (Nat × Nat)} {a b : Nat} (h : FirstIs j ns o) (g : IsFirst j ns a b) : o = some (a, b) := by
  cases o with
  | none =>
    obtain ⟨g1, g2, _, _⟩ := g
    have := (h : NoTake j ns) b g1.2 a g1.1
    rw [g2] at this
    cases this
  | some p =>
    obtain ⟨e1, e2⟩ := first_one (h : IsFirst j ns p.1 p.2) g
    obtain ⟨p1, p2⟩ := p
    simp only at e1 e2
    rw [e1, e2]
theorem first_peace {j : Bool} {ns : List Int} {o : Option (Nat × Nat)} (hb : ∀ c ∈ ns, 0 ≤ c ∧ c < (ns.length : Int)) (h : FirstIs j ns o) : o.isNone = peaceB ns j := by
  cases o with
  | none =>
    have : peaceB ns j = true := (peaceB_takes hb j).mpr fun i k hik hk => (h : NoTake j ns) k hk i hik
    rw [this]
    rfl
  | some p =>
    obtain ⟨h1, h2, _, _⟩ := (h : IsFirst j ns p.1 p.2)
    cases hp : peaceB ns j with
    | false => rfl
    | true =>
      have := (peaceB_takes hb j).mp hp p.1 p.2 h1.1 h1.2
      rw [h2] at this
      cases this
/-- the search as a function, to be run -/
def firstF (j : Bool) (ns : List Int) : Option (Nat × Nat) := (List.range ns.length).findSome? fun b => ((List.range b).find? fun a => takes j ns a b).map fun a => (a, b)
end QR

namespace QR
/-! ### settings made of others -/
def Bd (ns : List Int) : Prop := ∀ c ∈ ns, 0 ≤ c ∧ c < (ns.length : Int)
def mirL (ns : List Int) : List Int := ns.map fun c => (ns.length : Int) - 1 - c
def exL (ns : List Int) : List Int := (List.range ns.length).map fun r : Nat => ((ns.idxOf (r : Int) : Nat) : Int)
def prodL (o i : List Int) : List Int := (List.range (o.length * i.length)).map fun r : Nat => o.getD (r / i.length) 0 * (i.length : Int) + i.getD (r % i.length) 0
theorem mirL_len (ns : List Int) : (mirL ns).length = ns.length := by simp [mirL]
theorem mirL_bd {ns : List Int} (h : Bd ns) : Bd (mirL ns) := by
  intro c hc
  rw [mirL_len]
  obtain ⟨d, hd, rfl⟩ := List.mem_map.mp hc
  have := h d hd
  omega
theorem rev_bd {ns : List Int} (h : Bd ns) : Bd ns.reverse := fun c hc => by
  rw [List.length_reverse]
  exact h c (List.mem_reverse.mp hc)
theorem prodL_len (o i : List Int) : (prodL o i).length = o.length * i.length := by simp [prodL]
theorem prodL_getD {o i : List Int} {r : Nat} (h : r < o.length * i.length) : (prodL o i).getD r 0 = o.getD (r / i.length) 0 * (i.length : Int) + i.getD (r % i.length) 0 := by
  unfold prodL
  simp [List.getD_eq_getElem?_getD, h]
theorem bd_getD {ns : List Int} (h : Bd ns) {i : Nat} (hi : i < ns.length) : 0 ≤ ns.getD i 0 ∧ ns.getD i 0 < (ns.length : Int) := h _ (getD_mem hi)
theorem prodL_bd {o i : List Int} (ho : Bd o) (hi : Bd i) (h1 : 0 < i.length) : Bd (prodL o i) := by
  intro c hc
  rw [prodL_len]
  unfold prodL at hc
  obtain ⟨r, hr, rfl⟩ := List.mem_map.mp hc
  have hr := List.mem_range.mp hr
  have a := bd_getD ho (i := r / i.length) (Nat.div_lt_of_lt_mul (by rw [Nat.mul_comm]; exact hr))
  have b := bd_getD hi (i := r % i.length) (Nat.mod_lt _ h1)
  generalize o.getD (r / i.length) 0 = x at a
  generalize i.getD (r % i.length) 0 = y at b
  rw [Int.natCast_mul]
  constructor
  · have := Int.mul_nonneg a.1 (show (0 : Int) ≤ (i.length : Int) by omega)
    omega
  · have h2 : (x + 1) * (i.length : Int) ≤ (o.length : Int) * (i.length : Int) := Int.mul_le_mul_of_nonneg_right (by omega) (by omega)
    rw [Int.add_mul, Int.one_mul] at h2
    omega
/-- taking one another, by places -/
theorem takeB_iff (ns : List Int) (a b : Nat) : takeB ns a b = true ↔ ns.getD a 0 = ns.getD b 0 ∨ ns.getD a 0 - ns.getD b 0 = (a : Int) - (b : Int) ∨ ns.getD a 0 - ns.getD b 0 = (b : Int) - (a : Int) := by
  unfold takeB
  rw [Bool.or_eq_true, decide_eq_true_eq, decide_eq_true_eq]
  omega
theorem takeJB_iff (ns : List Int) (a b : Nat) : takeJB ns a b = true ↔ ns.getD a 0 = ns.getD b 0 ∨ (ns.getD a 0 - ns.getD b 0 - ((a : Int) - (b : Int))) % (ns.length : Int) = 0 ∨ (ns.getD a 0 - ns.getD b 0 + ((a : Int) - (b : Int))) % (ns.length : Int) = 0 := by
  unfold takeJB
  rw [Bool.or_eq_true, Bool.or_eq_true, decide_eq_true_eq, decide_eq_true_eq, decide_eq_true_eq]
  rw [show ns.getD a 0 - ns.getD b 0 - (a : Int) + (b : Int) = ns.getD a 0 - ns.getD b 0 - ((a : Int) - (b : Int)) by omega, show ns.getD a 0 - ns.getD b 0 + (a : Int) - (b : Int) = ns.getD a 0 - ns.getD b 0 + ((a : Int) - (b : Int)) by omega]
  constructor
  · rintro (h | h | h)
    · exact .inl (by omega)
    · exact .inr (.inl h)
    · exact .inr (.inr h)
  · rintro (h | h | h)
    · exact .inl (by omega)
    · exact .inr (.inl h)
    · exact .inr (.inr h)
theorem takeJB_symm {ns : List Int} {a b : Nat} (h : takeJB ns a b = true) : takeJB ns b a = true := by
  rw [takeJB_iff] at h ⊢
  rcases h with h | h | h
  · exact .inl h.symm
  · refine .inr (.inl ?_)
    rw [← neg_mod_zero, show -(ns.getD b 0 - ns.getD a 0 - ((b : Int) - (a : Int))) = ns.getD a 0 - ns.getD b 0 - ((a : Int) - (b : Int)) by omega]
    exact h
  · refine .inr (.inr ?_)
    rw [← neg_mod_zero, show -(ns.getD b 0 - ns.getD a 0 + ((b : Int) - (a : Int))) = ns.getD a 0 - ns.getD b 0 + ((a : Int) - (b : Int)) by omega]
    exact h
theorem takeB_symm {ns : List Int} {a b : Nat} (h : takeB ns a b = true) : takeB ns b a = true := by
  rw [takeB_iff] at h ⊢
  omega
theorem noTake_ne {j : Bool} {ns : List Int} (h : NoTake j ns) {a b : Nat} (ha : a < ns.length) (hb : b < ns.length) (ht : takes j ns a b = true) : a = b := by
  rcases Nat.lt_trichotomy a b with z | z | z
  · rw [h b hb a z] at ht
    cases ht
  · exact z
  · have : takes j ns b a = true := by
      cases j with
      | true => exact takeJB_symm ht
      | false => exact takeB_symm ht
    rw [h a ha b z] at this
    cases this
theorem mul_add_mod {x y w : Int} : (x * w + y) % w = y % w := by
  rw [Int.add_comm, Int.add_mul_emod_self_right]
theorem mul_mod_zero {x n w : Int} (hw : 0 < w) : (x * w) % (n * w) = 0 ↔ x % n = 0 := by
  rw [Int.mul_comm x w, Int.mul_comm n w, Int.mul_emod_mul_of_pos _ _ hw]
  constructor
  · intro h
    rcases Int.mul_eq_zero.mp h with z | z
    · omega
    · exact z
  · intro h
    rw [h, Int.mul_zero]
/-- two places of the product: the inner ones are one -/
theorem prod_inner {i : List Int} (hi : NoTake true i) {b b' : Nat} (hb : b < i.length) (hb' : b' < i.length) {z : Int} (h : (i.getD b 0 - i.getD b' 0 - ((b : Int) - (b' : Int))) % (i.length : Int) = 0 ∨ (i.getD b 0 - i.getD b' 0 + ((b : Int) - (b' : Int))) % (i.length : Int) = 0) : b = b' :=
  noTake_ne hi hb hb' ((takeJB_iff i b b').mpr (.inr h))
theorem div_split {r n w : Nat} (hw : 0 < w) (h : r < n * w) : r / w < n ∧ r % w < w ∧ (r : Int) = ((r / w : Nat) : Int) * (w : Int) + ((r % w : Nat) : Int) := by
  refine ⟨Nat.div_lt_of_lt_mul (by rw [Nat.mul_comm]; exact h), Nat.mod_lt _ hw, ?_⟩
  have := Nat.div_add_mod r w
  rw [← Int.natCast_mul, ← Int.natCast_add]
  rw [Nat.mul_comm] at this
  omega
theorem prod_peace {o i : List Int} (ho : NoTake false o) (hi : NoTake true i) (bo : Bd o) (bi : Bd i) (h1 : 0 < i.length) : NoTake false (prodL o i) := by
  intro s hs r hrs
  rw [prodL_len] at hs
  cases ht : takes false (prodL o i) r s with
  | false => rfl
  | true =>
    exfalso
    have hr : r < o.length * i.length := by omega
    have ht' := (takeB_iff _ _ _).mp ht
    rw [prodL_getD hr, prodL_getD hs] at ht'
    obtain ⟨a1, b1, e1⟩ := div_split h1 hr
    obtain ⟨a2, b2, e2⟩ := div_split h1 hs
    have ba := bd_getD bi b1
    have bb := bd_getD bi b2
    have hw : (0 : Int) < (i.length : Int) := by omega
    -- the inner places
    have hin : r % i.length = s % i.length := by
      generalize hq1 : r / i.length = a at *
      generalize hq2 : s / i.length = a' at *
      generalize hq3 : r % i.length = b at *
      generalize hq4 : s % i.length = b' at *
      rw [e1, e2] at ht'
      generalize o.getD a 0 = x at *
      generalize o.getD a' 0 = x' at *
      rcases ht' with h | h | h
      · have := congrArg (· % (i.length : Int)) h
        simp only [mul_add_mod] at this
        rw [Int.emod_eq_of_lt ba.1 ba.2, Int.emod_eq_of_lt bb.1 bb.2] at this
        exact noTake_ne hi b1 b2 ((takeJB_iff i b b').mpr (.inl this))
      · refine prod_inner (z := 0) hi b1 b2 (.inl ?_)
        have e : i.getD b 0 - i.getD b' 0 - ((b : Int) - (b' : Int)) = (-(x - x' - ((a : Int) - (a' : Int)))) * (i.length : Int) + 0 := by
          rw [Int.neg_mul, Int.sub_mul, Int.sub_mul, Int.sub_mul]
          omega
        rw [e, mul_add_mod]
        rfl
      · refine prod_inner (z := 0) hi b1 b2 (.inr ?_)
        have e : i.getD b 0 - i.getD b' 0 + ((b : Int) - (b' : Int)) = (-(x - x' + ((a : Int) - (a' : Int)))) * (i.length : Int) + 0 := by
          rw [Int.neg_mul, Int.add_mul, Int.sub_mul, Int.sub_mul]
          omega
        rw [e, mul_add_mod]
        rfl
    have hout : r / i.length = s / i.length := by
      rw [hin] at ht' e1
      generalize hq1 : r / i.length = a at *
      generalize hq2 : s / i.length = a' at *
      generalize s % i.length = b' at *
      refine noTake_ne ho a1 a2 ((takeB_iff o a a').mpr ?_)
      rw [e1, e2] at ht'
      generalize o.getD a 0 = x at *
      generalize o.getD a' 0 = x' at *
      rcases ht' with h | h | h
      · refine .inl (Int.eq_of_mul_eq_mul_right (show (i.length : Int) ≠ 0 by omega) (by omega))
      · refine .inr (.inl (Int.eq_of_mul_eq_mul_right (show (i.length : Int) ≠ 0 by omega) ?_))
        rw [Int.sub_mul, Int.sub_mul]
        omega
      · refine .inr (.inr (Int.eq_of_mul_eq_mul_right (show (i.length : Int) ≠ 0 by omega) ?_))
        rw [Int.sub_mul, Int.sub_mul]
        omega
    have : r = s := by
      have := Nat.div_add_mod r i.length
      have := Nat.div_add_mod s i.length
      rw [hin, hout] at *
      omega
    omega
theorem prod_joined {o i : List Int} (hi : NoTake true i) (bi : Bd i) (h1 : 0 < i.length) (ho1 : 0 < o.length) : NoTake true (prodL o i) ↔ NoTake true o := by
  have hw : (0 : Int) < (i.length : Int) := by omega
  constructor
  · intro h
    intro b hb a hab
    cases ht : takes true o a b with
    | false => rfl
    | true =>
      exfalso
      have hb' : b * i.length < o.length * i.length := Nat.mul_lt_mul_of_pos_right hb h1
      have ha' : a * i.length < o.length * i.length := Nat.mul_lt_mul_of_pos_right (by omega) h1
      have hlt : a * i.length < b * i.length := Nat.mul_lt_mul_of_pos_right hab h1
      have key : takes true (prodL o i) (a * i.length) (b * i.length) = true := by
        refine (takeJB_iff _ _ _).mpr ?_
        rw [prodL_getD ha', prodL_getD hb', prodL_len, Nat.mul_div_cancel _ h1, Nat.mul_div_cancel _ h1, Nat.mul_mod_left, Nat.mul_mod_left, Int.natCast_mul, Int.natCast_mul, Int.natCast_mul]
        have ht' := (takeJB_iff _ _ _).mp ht
        generalize o.getD a 0 = x at *
        generalize o.getD b 0 = y at *
        rcases ht' with h | h | h
        · exact .inl (by rw [h])
        · refine .inr (.inl ?_)
          rw [show x * (i.length : Int) + i.getD 0 0 - (y * (i.length : Int) + i.getD 0 0) - ((a : Int) * (i.length : Int) - (b : Int) * (i.length : Int)) = (x - y - ((a : Int) - (b : Int))) * (i.length : Int) by rw [Int.sub_mul, Int.sub_mul, Int.sub_mul]; omega, mul_mod_zero hw]
          exact h
        · refine .inr (.inr ?_)
          rw [show x * (i.length : Int) + i.getD 0 0 - (y * (i.length : Int) + i.getD 0 0) + ((a : Int) * (i.length : Int) - (b : Int) * (i.length : Int)) = (x - y + ((a : Int) - (b : Int))) * (i.length : Int) by rw [Int.add_mul, Int.sub_mul, Int.sub_mul]; omega, mul_mod_zero hw]
          exact h
      have := h (b * i.length) (by rw [prodL_len]; exact hb') (a * i.length) hlt
      rw [key] at this
      cases this
  · intro ho
    intro s hs r hrs
    rw [prodL_len] at hs
    cases ht : takes true (prodL o i) r s with
    | false => rfl
    | true =>
      exfalso
      have hr : r < o.length * i.length := by omega
      have ht' := (takeJB_iff _ _ _).mp ht
      rw [prodL_getD hr, prodL_getD hs, prodL_len, Int.natCast_mul] at ht'
      obtain ⟨a1, b1, e1⟩ := div_split h1 hr
      obtain ⟨a2, b2, e2⟩ := div_split h1 hs
      have ba := bd_getD bi b1
      have bb := bd_getD bi b2
      have red : ∀ x : Int, x % ((o.length : Int) * (i.length : Int)) = 0 → x % (i.length : Int) = 0 := fun x hx => Int.emod_eq_zero_of_dvd (Int.dvd_trans (Int.dvd_mul_left _ _) (Int.dvd_of_emod_eq_zero hx))
      have hin : r % i.length = s % i.length := by
        generalize hq1 : r / i.length = a at *
        generalize hq2 : s / i.length = a' at *
        generalize hq3 : r % i.length = b at *
        generalize hq4 : s % i.length = b' at *
        rw [e1, e2] at ht'
        generalize o.getD a 0 = x at *
        generalize o.getD a' 0 = x' at *
        rcases ht' with h | h | h
        · have := congrArg (· % (i.length : Int)) h
          simp only [mul_add_mod] at this
          rw [Int.emod_eq_of_lt ba.1 ba.2, Int.emod_eq_of_lt bb.1 bb.2] at this
          exact noTake_ne hi b1 b2 ((takeJB_iff i b b').mpr (.inl this))
        · refine prod_inner (z := 0) hi b1 b2 (.inl ?_)
          have h := red _ h
          rw [show x * (i.length : Int) + i.getD b 0 - (x' * (i.length : Int) + i.getD b' 0) - ((a : Int) * (i.length : Int) + (b : Int) - ((a' : Int) * (i.length : Int) + (b' : Int))) = (x - x' - ((a : Int) - (a' : Int))) * (i.length : Int) + (i.getD b 0 - i.getD b' 0 - ((b : Int) - (b' : Int))) by rw [Int.sub_mul, Int.sub_mul, Int.sub_mul]; omega, mul_add_mod] at h
          exact h
        · refine prod_inner (z := 0) hi b1 b2 (.inr ?_)
          have h := red _ h
          rw [show x * (i.length : Int) + i.getD b 0 - (x' * (i.length : Int) + i.getD b' 0) + ((a : Int) * (i.length : Int) + (b : Int) - ((a' : Int) * (i.length : Int) + (b' : Int))) = (x - x' + ((a : Int) - (a' : Int))) * (i.length : Int) + (i.getD b 0 - i.getD b' 0 + ((b : Int) - (b' : Int))) by rw [Int.add_mul, Int.sub_mul, Int.sub_mul]; omega, mul_add_mod] at h
          exact h
      have hout : r / i.length = s / i.length := by
        rw [hin] at ht' e1
        generalize hq1 : r / i.length = a at *
        generalize hq2 : s / i.length = a' at *
        generalize s % i.length = b' at *
        refine noTake_ne ho a1 a2 ((takeJB_iff o a a').mpr ?_)
        rw [e1, e2] at ht'
        generalize o.getD a 0 = x at *
        generalize o.getD a' 0 = x' at *
        rcases ht' with h | h | h
        · exact .inl (Int.eq_of_mul_eq_mul_right (show (i.length : Int) ≠ 0 by omega) (by omega))
        · refine .inr (.inl ?_)
          rw [show x * (i.length : Int) + i.getD b' 0 - (x' * (i.length : Int) + i.getD b' 0) - ((a : Int) * (i.length : Int) + (b' : Int) - ((a' : Int) * (i.length : Int) + (b' : Int))) = (x - x' - ((a : Int) - (a' : Int))) * (i.length : Int) by rw [Int.sub_mul, Int.sub_mul, Int.sub_mul]; omega, mul_mod_zero hw] at h
          exact h
        · refine .inr (.inr ?_)
          rw [show x * (i.length : Int) + i.getD b' 0 - (x' * (i.length : Int) + i.getD b' 0) + ((a : Int) * (i.length : Int) + (b' : Int) - ((a' : Int) * (i.length : Int) + (b' : Int))) = (x - x' + ((a : Int) - (a' : Int))) * (i.length : Int) by rw [Int.add_mul, Int.sub_mul, Int.sub_mul]; omega, mul_mod_zero hw] at h
          exact h
      have : r = s := by
        have := Nat.div_add_mod r i.length
        have := Nat.div_add_mod s i.length
        rw [hin, hout] at *
        omega
      omega
/-! ### every row is some column -/
theorem nodup_sub : ∀ (l m : List Int), l.Nodup → (∀ x ∈ l, x ∈ m) → l.length ≤ m.length
  | [], _, _, _ => Nat.zero_le _
  | x :: l, m, hn, hs => by
    have hx : x ∈ m := hs x List.mem_cons_self
    rw [List.nodup_cons] at hn
    have := nodup_sub l (m.erase x) hn.2 fun y hy => (List.mem_erase_of_ne (fun e : y = x => hn.1 (by rw [← e]; exact hy))).mpr (hs y (List.mem_cons_of_mem _ hy))
    rw [List.length_erase_of_mem hx] at this
    have : 0 < m.length := List.length_pos_of_mem hx
    rw [List.length_cons]
    omega
theorem all_cols {ns : List Int} (hp : NoTake false ns) (hb : Bd ns) {r : Nat} (hr : r < ns.length) : (r : Int) ∈ ns := by
  have hn : ns.Nodup := by
    rw [nodup_getD]
    intro i k hik hk e
    have := hp k hk i hik
    have ht : takes false ns i k = true := (takeB_iff ns i k).mpr (.inl e)
    rw [ht] at this
    cases this
  apply Classical.byContradiction
  intro hm
  have h := nodup_sub ns (((List.range ns.length).map fun i : Nat => (i : Int)).erase (r : Int)) hn fun x hx => by
    refine (List.mem_erase_of_ne (fun e : x = (r : Int) => hm (by rw [← e]; exact hx))).mpr ?_
    have := hb x hx
    exact List.mem_map.mpr ⟨x.toNat, List.mem_range.mpr (by omega), by omega⟩
  rw [List.length_erase_of_mem (List.mem_map.mpr ⟨r, List.mem_range.mpr hr, rfl⟩)] at h
  simp at h
  omega
theorem exL_len (ns : List Int) : (exL ns).length = ns.length := by simp [exL]
theorem exL_bd {ns : List Int} (hp : NoTake false ns) (hb : Bd ns) : Bd (exL ns) := by
  intro c hc
  rw [exL_len]
  unfold exL at hc
  obtain ⟨r, hr, rfl⟩ := List.mem_map.mp hc
  have := List.idxOf_lt_length_of_mem (all_cols hp hb (List.mem_range.mp hr))
  omega
end QR

namespace QR
open PySem PySem.Spec PyProof.Rows L2 Evl
section
variable {P : Program} {w : World} {K : PySem.W.Frag} {mg : Str → Option Value} {base : Heap} {xa : Ek → Addr}
/-! ### take, take_joined -/
def spTk (K : PySem.W.Frag) (j : Bool) : Sp := fun vs H Q _ => ∃ (q : Addr) (ns : List Int) (a b : Nat), vs = [.ref q, .int (a : Int), .int (b : Int)] ∧ SqL K H q (ns.map V.int) ∧ a < ns.length ∧ b < ns.length ∧ RetV (.bl (takes j ns a b)) H Q
theorem ok_take {f : Addr} {fd : FuncData} (F : Fun K "take" "take" s_take f fd) (B : Bl mg) : FnOk P w K mg base (L2.CX P w) 1 f fd ["setting", "one", "other"] (spTk K false) := by
  refine okB F sc_take (fun vs H Q E h => ?_) (fun cdv A outer s H vs Q E hr h => ?_)
  · obtain ⟨q, ns, a, b, rfl, _⟩ := h
    rfl
  · obtain ⟨q, ns, a, b, rfl, hq, ha, hb, k⟩ := h
    have nd := sc_take.nd
    refine BW.asg 3 nd (EV.abs B.abs (EV.sub (EV.ixL (EV.var 0 rfl) (EV.var 1 rfl) hq (at_ints ha)) (EV.ixL (EV.var 0 rfl) (EV.var 2 rfl) hq (at_ints hb)))) fun H1 e1 => ?_
    exact BW.ret (EV.or2 (EV.eq (EV.var 3 rfl) EV.int) (fun _ => EV.eq (EV.var 3 rfl) (EV.abs B.abs (EV.sub (EV.var 1 rfl) (EV.var 2 rfl))))) fun H2 e2 => k H2 (e1.trans e2)
theorem ok_take_joined {f : Addr} {fd : FuncData} (F : Fun K "take_joined" "take_joined" s_take_joined f fd) (B : Bl mg) : FnOk P w K mg base (L2.CX P w) 1 f fd ["setting", "one", "other"] (spTk K true) := by
  refine okB F sc_take_joined (fun vs H Q E h => ?_) (fun cdv A outer s H vs Q E hr h => ?_)
  · obtain ⟨q, ns, a, b, rfl, _⟩ := h
    rfl
  · obtain ⟨q, ns, a, b, rfl, hq, ha, hb, k⟩ := h
    have nd := sc_take_joined.nd
    have hlen : ((ns.map V.int).length : Int) = (ns.length : Int) := by simp
    refine BW.asg 3 nd (EV.isI (EV.len B.len (EV.var 0 rfl) hq) hlen) fun H1 e1 => ?_
    refine BW.asg 4 nd (EV.sub (EV.ixL (EV.var 0 rfl) (EV.var 1 rfl) (ex_l e1 hq) (at_ints ha)) (EV.ixL (EV.var 0 rfl) (EV.var 2 rfl) (ex_l e1 hq) (at_ints hb))) fun H2 e2 => ?_
    exact BW.ret (EV.or3 (EV.eq (EV.var 4 rfl) EV.int) (fun _ => EV.eq (EV.mod (EV.add (EV.sub (EV.var 4 rfl) (EV.var 1 rfl)) (EV.var 2 rfl)) (EV.var 3 rfl) (by omega)) EV.int) (fun _ _ => EV.eq (EV.mod (EV.sub (EV.add (EV.var 4 rfl) (EV.var 1 rfl)) (EV.var 2 rfl)) (EV.var 3 rfl) (by omega)) EV.int)) fun H3 e3 => k H3 ((e1.trans e2).trans e3)
theorem sv_tk {H : Hp} {j : Bool} {q : Addr} {ns : List Int} {a b : Nat} (hq : SqL K H q (ns.map V.int)) (ha : a < ns.length) (hb : b < ns.length) : SpV (spTk K j) [.ref q, .int (a : Int), .int (b : Int)] H (.bl (takes j ns a b)) := fun H1 e1 Q k _ => ⟨q, ns, a, b, rfl, ex_l e1 hq, ha, hb, k⟩
/-! ### first_taking -/
def RetF (o : Option (Nat × Nat)) (H : Hp) (Q : VK) : Prop := (o = none → RetV .non H Q) ∧ ∀ a b, o = some (a, b) → ∀ p H2, H p = none → Ex H H2 → H2 p = some (.tup [.int (a : Int), .int (b : Int)]) → Q (.ref p) H2
def spFirst (P : Program) (w : World) (K : PySem.W.Frag) (mg : Str → Option Value) (base : Heap) : Sp := fun vs H Q _ => ∃ (q f : Addr) (ns : List Int) (j : Bool) (o : Option (Nat × Nat)), vs = [.ref q, .ref f] ∧ SqL K H q (ns.map V.int) ∧ ns.length ≤ 1000 ∧ Hc P w K mg base 1 f (spTk K j) ∧ FirstIs j ns o ∧ RetF o H Q
theorem ok_first_taking {f : Addr} {fd : FuncData} (F : Fun K "first_taking" "first_taking" s_first_taking f fd) (B : Bl mg) : FnOk P w K mg base (L2.CX P w) 2 f fd ["setting", "taking"] (spFirst P w K mg base) := by
  refine okB F sc_first_taking (fun vs H Q E h => ?_) (fun cdv A outer s H vs Q E hr h => ?_)
  · obtain ⟨q, g, ns, j, o, rfl, _⟩ := h
    rfl
  · obtain ⟨q, g, ns, j, o, rfl, hq, hl, hc, ho, k⟩ := h
    have nd := sc_first_taking.nd
    have hlen : ((ns.map V.int).length : Int) = (ns.length : Int) := by simp
    refine BW.forR 2 B.range nd (EV.isI (EV.len B.len (EV.var 0 rfl) hq) hlen) ⟨by omega, by omega⟩ (fun i σ' H' => Ex H H' ∧ (∀ b, b < i → ∀ a, a < b → takes j ns a b = false) ∧ ∃ y2 y3, σ' = [some (.ref q), some (.ref g), y2, y3]) (fun H1 e1 => ⟨e1, fun b hb => by omega, _, _, rfl⟩) ?_ ?_
    · rintro i σ' H' hi ⟨ex, hf, y2, y3, rfl⟩
      refine BW.forR 3 B.range nd (EV.var 2 rfl) ⟨by omega, by omega⟩ (fun i2 σ' H' => Ex H H' ∧ (∀ a, a < i2 → takes j ns a i = false) ∧ ∃ y3, σ' = [some (.ref q), some (.ref g), some (.int (i : Int)), y3]) (fun H1 e1 => ⟨ex.trans e1, fun b hb => by omega, _, rfl⟩) ?_ ?_
      · rintro i2 σ2 H2 hi2 ⟨ex2, hf2, y3, rfl⟩
        refine BW.when (TV.val (EV.callL 1 hc hr rfl (AV.three (EV.var 0 rfl) (EV.var 3 rfl) (EV.var 2 rfl)) (sv_tk (ex_l ex2 hq) (by omega) (by omega)))) (fun hk H3 e3 => ?_) (fun hk H3 e3 => ?_)
        · have hfi : IsFirst j ns i2 i := ⟨⟨by omega, by omega⟩, hk, hf, hf2⟩
          have e : o = some (i2, i) := first_some ho hfi
          refine BW.retU (EU.tup (AV.two (EV.var 3 rfl) (EV.var 2 rfl))) fun p H4 np e4 hp => k.2 i2 i e p H4 (fresh_back (ex2.trans e3) np) ((ex2.trans e3).trans e4) hp
        · refine BW.nil ⟨ex2.trans e3, fun a ha => ?_, _, rfl⟩
          by_cases h : a < i2
          · exact hf2 a h
          · have : a = i2 := by omega
            subst this
            exact hk
      · rintro σ2 H2 ⟨ex2, hf2, y3, rfl⟩
        refine BW.nil ⟨ex2, fun b hb a ha => ?_, _, _, rfl⟩
        by_cases h : b < i
        · exact hf b h a ha
        · have : b = i := by omega
          subst this
          exact hf2 a (by omega)
    · rintro σ' H' ⟨ex, hf, y2, y3, rfl⟩
      have e : o = none := first_none ho fun b hb a ha => hf b (by omega) a ha
      exact BW.ret EV.non fun H2 e2 => k.1 e H2 (ex.trans e2)
end
section
variable {P : Program} {w : World} {K : PySem.W.Frag} {mg : Str → Option Value} {base : Heap} {xa : Ek → Addr}
/-- o is None of what first_taking tells -/
theorem EV.firstN {X : Cx} {e a b : Expr} {σ : L2.St} {H : Hp} {p pos pos2 : Pos} {k : Nat} {o : Option (Nat × Nat)} {ns : List Int} {j : Bool} {q g : Addr} (C : Fc X.prog X.w X.K X.mg X.base 2 "first_taking" (spFirst X.prog X.w X.K X.mg X.base)) (hr : Room k X.A)
    (ha : EV X a σ H (.ref q)) (hb : EV X b σ H (.ref g)) (hc : Hc X.prog X.w X.K X.mg X.base 1 g (spTk X.K j)) (hq : SqL X.K H q (ns.map V.int)) (hl : ns.length ≤ 1000) (ho : FirstIs j ns o) (hn : EV X e σ H .non) (hk : 2 ≤ k := by decide) (hg : Gl X "first_taking" := by rfl) (hs : [a, b].all noStar = true := by rfl) :
    EV X (.Compare (.Call (.Name "first_taking" p) [a, b] [] pos2) [.Is] [e] pos) σ H (.bl o.isNone) := by
  refine EV.of (pe_cmpR op_isN pe_self pe_self (nomark _)) fun H1 e1 Q kq => ?_
  refine EW.call C hr (AV.ev (AV.two ha hb) H1 e1 _ fun H2 e2 => ⟨q, g, ns, j, o, rfl, ex_l (e1.trans e2) hq, hl, hc, ho, ?_, ?_⟩) hk hg hs
  · intro h H3 e3
    refine hn.ev H3 ((e1.trans e2).trans e3) _ fun H4 e4 => ⟨rfl, ?_⟩
    subst h
    exact kq H4 ((e2.trans e3).trans e4)
  · intro x y h r H3 nr e3 hr3
    refine hn.ev H3 ((e1.trans e2).trans e3) _ fun H4 e4 => ⟨rfl, ?_⟩
    subst h
    exact kq H4 ((e2.trans e3).trans e4)
end
end QR

namespace QR
open PySem PySem.Spec PyProof.Rows L2 Evl
section
variable {P : Program} {w : World} {K : PySem.W.Frag} {mg : Str → Option Value} {base : Heap} {xa : Ek → Addr} {ad : Kd → Addr} {CA : Addr}
/-! ### the answers' shows -/
def spPeaceShows (K : PySem.W.Frag) (j : Bool) (C : Addr) : Sp := fun vs H Q _ => ∃ (p dx q : Addr) (ns : List Int) (o : Option (Nat × Nat)), vs = [.ref p, .ref q] ∧ H p = some (.ins C dx []) ∧ SqL K H q (ns.map V.int) ∧ ns.length ≤ 1000 ∧ FirstIs j ns o ∧ RetV (.bl o.isNone) H Q
theorem ok_Peace_shows {f C : Addr} {fd : FuncData} (F : Fun K "shows" "Peace.shows" s_Peace_shows f fd) (c_first : Fc P w K mg base 2 "first_taking" (spFirst P w K mg base)) (c_take : Fc P w K mg base 1 "take" (spTk K false)) : FnOk P w K mg base (L2.CX P w) 3 f fd ["self", "setting"] (spPeaceShows K false C) := by
  obtain ⟨g, gm, hc⟩ := Hc.of c_take
  refine okB F sc_Peace_shows (fun vs H Q E h => ?_) (fun cdv A outer s H vs Q E hr h => ?_)
  · obtain ⟨p, dx, q, ns, o, rfl, _⟩ := h
    rfl
  · obtain ⟨p, dx, q, ns, o, rfl, hp, hq, hl, ho, k⟩ := h
    exact BW.ret (EV.firstN c_first hr (EV.var 1 rfl) (EV.glob gm) hc hq hl ho EV.non) k
theorem ok_JoinedPeace_shows {f C : Addr} {fd : FuncData} (F : Fun K "shows" "JoinedPeace.shows" s_JoinedPeace_shows f fd) (c_first : Fc P w K mg base 2 "first_taking" (spFirst P w K mg base)) (c_take : Fc P w K mg base 1 "take_joined" (spTk K true)) : FnOk P w K mg base (L2.CX P w) 3 f fd ["self", "setting"] (spPeaceShows K true C) := by
  obtain ⟨g, gm, hc⟩ := Hc.of c_take
  refine okB F sc_JoinedPeace_shows (fun vs H Q E h => ?_) (fun cdv A outer s H vs Q E hr h => ?_)
  · obtain ⟨p, dx, q, ns, o, rfl, _⟩ := h
    rfl
  · obtain ⟨p, dx, q, ns, o, rfl, hp, hq, hl, ho, k⟩ := h
    exact BW.ret (EV.firstN c_first hr (EV.var 1 rfl) (EV.glob gm) hc hq hl ho EV.non) k
theorem ok_Take_init {f C : Addr} {fd : FuncData} {x : Str} (F : Fun K "__init__" "Take.__init__" s_Take___init__ f fd) (c : Cs K mg x C ["one", "other"]) : FnOk P w K mg base (L2.CX P w) 1 f fd ["self", "one", "other"] (spInit C ["one", "other"]) := by
  refine okB F sc_Take___init__ (fun vs H Q E h => ?_) (fun cdv A outer s H vs Q E hr h => ?_)
  · obtain ⟨q, dx, us, rfl, hl, _⟩ := h
    simpa using hl
  · obtain ⟨q, dx, us, rfl, hl, hq, k⟩ := h
    obtain ⟨u, v, rfl⟩ : ∃ u v, us = [u, v] := match us, hl with | [u, v], _ => ⟨u, v, rfl⟩
    refine BW.setF (EV.var 1 rfl) (EV.var 0 rfl) hq c.cl (c.na _ (by decide)) (by decide) fun H1 e1 => ?_
    refine BW.setF (EV.var 2 rfl) (EV.var 0 rfl) upd_same c.cl (c.na _ (by decide)) (Nat.le_of_ble_eq_true rfl) fun H2 e2 => BW.nil (k _ (fun b u hb hu => ?_) upd_same)
    rw [upd_ne hb]
    refine e2 _ _ ?_
    rw [upd_ne hb]
    exact e1 _ _ hu
theorem ok_JoinedTake_init {f C : Addr} {fd : FuncData} {x : Str} (F : Fun K "__init__" "JoinedTake.__init__" s_JoinedTake___init__ f fd) (c : Cs K mg x C ["one", "other"]) : FnOk P w K mg base (L2.CX P w) 1 f fd ["self", "one", "other"] (spInit C ["one", "other"]) := by
  refine okB F sc_JoinedTake___init__ (fun vs H Q E h => ?_) (fun cdv A outer s H vs Q E hr h => ?_)
  · obtain ⟨q, dx, us, rfl, hl, _⟩ := h
    simpa using hl
  · obtain ⟨q, dx, us, rfl, hl, hq, k⟩ := h
    obtain ⟨u, v, rfl⟩ : ∃ u v, us = [u, v] := match us, hl with | [u, v], _ => ⟨u, v, rfl⟩
    refine BW.setF (EV.var 1 rfl) (EV.var 0 rfl) hq c.cl (c.na _ (by decide)) (by decide) fun H1 e1 => ?_
    refine BW.setF (EV.var 2 rfl) (EV.var 0 rfl) upd_same c.cl (c.na _ (by decide)) (Nat.le_of_ble_eq_true rfl) fun H2 e2 => BW.nil (k _ (fun b u hb hu => ?_) upd_same)
    rw [upd_ne hb]
    refine e2 _ _ ?_
    rw [upd_ne hb]
    exact e1 _ _ hu
/-- whether the two rows are in order and take one another -/
def tkShows (j : Bool) (ns : List Int) (a b : Int) : Bool := (decide (0 ≤ a) && (decide (a < b) && decide (b < (ns.length : Int)))) && takes j ns a.toNat b.toNat
def fsT (a b : Int) : List (Str × V) := [("one", .int a), ("other", .int b)]
def spTakeShows (K : PySem.W.Frag) (j : Bool) (C : Addr) : Sp := fun vs H Q _ => ∃ (p dx q : Addr) (ns : List Int) (a b : Int), vs = [.ref p, .ref q] ∧ H p = some (.ins C dx (fsT a b)) ∧ SqL K H q (ns.map V.int) ∧ RetV (.bl (tkShows j ns a b)) H Q
theorem ok_Take_shows {f C : Addr} {fd : FuncData} {x : Str} (F : Fun K "shows" "Take.shows" s_Take_shows f fd) (B : Bl mg) (c : Cs K mg x C ["one", "other"]) (c_take : Fc P w K mg base 1 "take" (spTk K false)) : FnOk P w K mg base (L2.CX P w) 2 f fd ["self", "setting"] (spTakeShows K false C) := by
  refine okB F sc_Take_shows (fun vs H Q E h => ?_) (fun cdv A outer s H vs Q E hr h => ?_)
  · obtain ⟨p, dx, q, ns, a, b, rfl, _⟩ := h
    rfl
  · obtain ⟨p, dx, q, ns, a, b, rfl, hp, hq, k⟩ := h
    have n1 := c.na "one" (by decide)
    have n2 := c.na "other" (by decide)
    have l1 : (fsT a b).lookup ("one" : Str) = some (V.int a) := rfl
    have l2 : (fsT a b).lookup ("other" : Str) = some (V.int b) := rfl
    have hlen : ((ns.map V.int).length : Int) = (ns.length : Int) := by simp
    refine BW.ret (EV.and2 (EV.leLtLt EV.int (EV.fld (EV.var 0 rfl) hp c.cl n1 l1) (EV.fld (EV.var 0 rfl) hp c.cl n2 l2) (EV.isI (EV.len B.len (EV.var 1 rfl) hq) hlen)) (fun h1 => ?_)) k
    simp only [Bool.and_eq_true, decide_eq_true_eq] at h1
    have ea : a = ((a.toNat : Nat) : Int) := by omega
    have eb : b = ((b.toNat : Nat) : Int) := by omega
    exact EV.call c_take hr (AV.three (EV.var 1 rfl) (EV.is (EV.fld (EV.var 0 rfl) hp c.cl n1 l1) (congrArg V.int ea)) (EV.is (EV.fld (EV.var 0 rfl) hp c.cl n2 l2) (congrArg V.int eb))) (sv_tk hq (by omega) (by omega))
theorem ok_JoinedTake_shows {f C : Addr} {fd : FuncData} {x : Str} (F : Fun K "shows" "JoinedTake.shows" s_JoinedTake_shows f fd) (B : Bl mg) (c : Cs K mg x C ["one", "other"]) (c_take : Fc P w K mg base 1 "take_joined" (spTk K true)) : FnOk P w K mg base (L2.CX P w) 2 f fd ["self", "setting"] (spTakeShows K true C) := by
  refine okB F sc_JoinedTake_shows (fun vs H Q E h => ?_) (fun cdv A outer s H vs Q E hr h => ?_)
  · obtain ⟨p, dx, q, ns, a, b, rfl, _⟩ := h
    rfl
  · obtain ⟨p, dx, q, ns, a, b, rfl, hp, hq, k⟩ := h
    have n1 := c.na "one" (by decide)
    have n2 := c.na "other" (by decide)
    have l1 : (fsT a b).lookup ("one" : Str) = some (V.int a) := rfl
    have l2 : (fsT a b).lookup ("other" : Str) = some (V.int b) := rfl
    have hlen : ((ns.map V.int).length : Int) = (ns.length : Int) := by simp
    refine BW.ret (EV.and2 (EV.leLtLt EV.int (EV.fld (EV.var 0 rfl) hp c.cl n1 l1) (EV.fld (EV.var 0 rfl) hp c.cl n2 l2) (EV.isI (EV.len B.len (EV.var 1 rfl) hq) hlen)) (fun h1 => ?_)) k
    simp only [Bool.and_eq_true, decide_eq_true_eq] at h1
    have ea : a = ((a.toNat : Nat) : Int) := by omega
    have eb : b = ((b.toNat : Nat) : Int) := by omega
    exact EV.call c_take hr (AV.three (EV.var 1 rfl) (EV.is (EV.fld (EV.var 0 rfl) hp c.cl n1 l1) (congrArg V.int ea)) (EV.is (EV.fld (EV.var 0 rfl) hp c.cl n2 l2) (congrArg V.int eb))) (sv_tk hq (by omega) (by omega))
end
end QR

namespace QR
open PySem PySem.Spec PyProof.Rows L2 Evl
/-! ### check_setting -/
def colB (n : Nat) : V → Bool
  | .int i => decide (0 ≤ i) && decide (i < (n : Int))
  | _ => false
def ckList (xs : List V) : Option Ek := if (1 ≤ xs.length ∧ xs.length ≤ 200) ∧ xs.all (colB xs.length) = true then none else some .setting
inductive SetIs (K : PySem.W.Frag) (H : Hp) : V → Option Ek → Prop
  | lst {p : Addr} {xs : List V} : SqL K H p xs → (∀ y ∈ xs, Kd? K H y) → SetIs K H (.ref p) (ckList xs)
  | oth {x : V} {n : String} : TyX K H x (.type n) → n ∈ kinds → n ≠ "list" → SetIs K H x (some .setting)
theorem SetIs.ex {K : PySem.W.Frag} {H H' : Hp} {x : V} {o : Option Ek} (h : SetIs K H x o) (e : Ex H H') : SetIs K H' x o := by
  cases h with
  | lst a b => exact .lst (ex_l e a) fun y hy => (b y hy).ex e
  | oth a b c => exact .oth (TyX.ex a e) b c
theorem SetIs.no {K : PySem.W.Frag} {H : Hp} {x : V} {o : Option Ek} (h : SetIs K H x o) : o = none ∨ o = some .setting := by
  cases h with
  | lst a b =>
    unfold ckList
    split
    · exact .inl rfl
    · exact .inr rfl
  | oth a b c => exact .inr rfl
theorem nolist : ∀ n ∈ kinds, n ≠ "list" → kitB n "list" = some false := by decide +kernel
theorem ckList_ints {ns : List Int} (h1 : 1 ≤ ns.length) (h2 : ns.length ≤ 200) (hb : ∀ c ∈ ns, 0 ≤ c ∧ c < (ns.length : Int)) : ckList (ns.map V.int) = none := by
  unfold ckList
  rw [if_pos]
  refine ⟨by rw [List.length_map]; exact ⟨h1, h2⟩, List.all_eq_true.mpr fun x hx => ?_⟩
  obtain ⟨c, hc, rfl⟩ := List.mem_map.mp hx
  have := hb c hc
  simp [colB, this]
theorem SetIs.ints {K : PySem.W.Frag} {H : Hp} {p : Addr} {ns : List Int} (h : SqL K H p (ns.map V.int)) (h1 : 1 ≤ ns.length) (h2 : ns.length ≤ 200) (hb : ∀ c ∈ ns, 0 ≤ c ∧ c < (ns.length : Int)) : SetIs K H (.ref p) none := by
  rw [← ckList_ints h1 h2 hb]
  exact .lst h fun y hy => by
    obtain ⟨c, hc, rfl⟩ := List.mem_map.mp hy
    exact Kd?.int
def spCkSetting (K : PySem.W.Frag) (xa : Ek → Addr) : Sp := fun vs H Q E => ∃ x o, vs = [x] ∧ SetIs K H x o ∧ Res xa o .non H Q E
section
variable {P : Program} {w : World} {K : PySem.W.Frag} {mg : Str → Option Value} {base : Heap} {xa : Ek → Addr}
theorem ok_check_setting {f : Addr} {fd : FuncData} (F : Fun K "check_setting" "check_setting" s_check_setting f fd) (B : Bl mg) (Cn : Fc P w K mg base 1 "is_number" (spIsNum K)) (xS : Xc K mg "BadSetting" (xa .setting)) (gM : ∃ t, mg "MOST" = some (.int 200 t)) : FnOk P w K mg base (L2.CX P w) 2 f fd ["setting"] (spCkSetting K xa) := by
  obtain ⟨tM, gM⟩ := gM
  refine okR F sc_check_setting (fun vs H Q E h => ?_) (fun cdv A outer s H vs Q E hr h => ?_)
  · obtain ⟨x, o, rfl, _⟩ := h
    rfl
  · obtain ⟨x, o, rfl, hx, q⟩ := h
    have nd := sc_check_setting.nd
    cases hx with
    | oth ty hk hn =>
      refine BW.take (TV.is (TV.or2 (k2 := false) (TV.not (TV.val (EV.isT B.isinstance B.list boot_list' (EV.var 0 rfl) ty (k := false) (nolist _ hk hn)))) (fun z => nomatch z)) rfl) fun H1 e1 => ?_
      exact BW.raise xS (takes_of rfl rfl rfl rfl) (q H1 e1)
    | @lst p xs hp hk =>
      refine BW.when (TV.or2 (TV.not (TV.val (EV.isT B.isinstance B.list boot_list' (EV.var 0 rfl) (ty_list hp) (k := true) (by decide +kernel)))) (fun _ => TV.not (TV.leLe EV.int (EV.len B.len (EV.var 0 rfl) hp) (EV.globI gM)))) (fun hk1 H1 e1 => ?_) (fun hk1 H1 e1 => ?_)
      · refine BW.raise xS (takes_of rfl rfl rfl rfl) (q.bad ?_ H1 e1)
        unfold ckList
        rw [if_neg]
        rintro ⟨⟨z1, z2⟩, _⟩
        simp only [Bool.not_true, Bool.false_or, Bool.not_eq_true', Bool.and_eq_false_iff, decide_eq_false_iff_not] at hk1
        omega
      · have hl : 1 ≤ (xs.length : Int) ∧ (xs.length : Int) ≤ 200 := by
          have hk2 := hk1
          simp only [Bool.not_true, Bool.false_or, Bool.not_eq_false', Bool.and_eq_true, decide_eq_true_eq] at hk2
          exact hk2
        refine BW.when (TV.not (TV.val (EV.allN (bs := xs.map (colB xs.length)) B.all (EL.is (LC.list (j := 1) (fun i => .bl (colB xs.length (xs.getD i .non))) nd (blkOk_by (N := n_check_setting) (sc := defScope s_check_setting) (by decide +kernel)) (EV.var 0 rfl) (ex_l e1 hp) (by omega) (fun i y H2 e2 hi s0 H0 C0 cl fp => ?_)).el ?_)))) (fun hk2 H2 e2 => ?_) (fun hk2 H2 e2 => ?_)
        · have hm : y ∈ xs := List.mem_of_getElem? hi
          have hg : xs.getD i .non = y := by rw [List.getD_eq_getElem?_getD, hi]; rfl
          rw [hg]
          have e12 := e1.trans e2
          have kd := (hk y hm).ex e12
          by_cases hb : numB y 0 = true
          · obtain ⟨c, rfl, hc⟩ := numB_int hb
            refine EV.isB (EV.and2 (EV.call Cn hr (AV.two (EV.var 1 rfl) EV.int) (sv_isnum' kd)) (fun _ => EV.lt (EV.var 1 rfl) (EV.len B.len (EV.var 0 rfl) (ex_l e12 hp)))) ?_
            simp [numB, colB]
          · refine EV.isB (EV.and2 (k2 := false) (EV.call Cn hr (AV.two (EV.var 1 rfl) EV.int) (sv_isnum' kd)) (fun z => absurd z hb)) ?_
            have h0 : numB y 0 = false := by simpa using hb
            rw [h0]
            cases y with
            | int c =>
              have : ¬ 0 ≤ c := of_decide_eq_false h0
              simp [colB, this]
            | _ => rfl
        · apply List.ext_getElem
          · simp
          · intro i h1 h2
            simp at h1 h2 ⊢
            rw [List.getElem?_eq_getElem h1]
            rfl
        · refine BW.raise xS (takes_of rfl rfl rfl rfl) (q.bad ?_ H2 (e1.trans e2))
          unfold ckList
          rw [if_neg]
          rintro ⟨_, z⟩
          have : ¬ xs.all (colB xs.length) = true := by
            intro z2
            rw [List.all_map] at hk2
            have : (xs.all (id ∘ colB xs.length)) = true := z2
            rw [this] at hk2
            cases hk2
          exact this z
        · refine BW.nil (q.good ?_ H2 (e1.trans e2))
          unfold ckList
          rw [if_pos]
          refine ⟨by omega, ?_⟩
          rw [List.all_map] at hk2
          have : (xs.all (id ∘ colB xs.length)) = true := by simpa using hk2
          exact this
theorem sx_setg {H : Hp} {x : V} {o : Option Ek} (h : SetIs K H x o) : SpX (spCkSetting K xa) xa [x] H o .non := fun H1 e1 Q E r => ⟨x, o, rfl, h.ex e1, r⟩
end
end QR

namespace QR
open PySem PySem.Spec PyProof.Rows L2 Evl
section
variable {P : Program} {w : World} {K : PySem.W.Frag} {mg : Str → Option Value} {base : Heap} {xa : Ek → Addr}
/-! ### column_of, row_at -/
def spColOf : Sp := fun vs H Q _ => ∃ n r : Int, vs = [.int n, .int r] ∧ 0 ≤ r ∧ r < n ∧ RetV (.int (colF n r)) H Q
theorem ok_column_of {f : Addr} {fd : FuncData} (F : Fun K "column_of" "column_of" s_column_of f fd) : FnOk P w K mg base (L2.CX P w) 1 f fd ["size", "row"] spColOf := by
  refine okB F sc_column_of (fun vs H Q E h => ?_) (fun cdv A outer s H vs Q E hr h => ?_)
  · obtain ⟨n, r, rfl, _⟩ := h
    rfl
  · obtain ⟨n, r, rfl, h0, h1, k⟩ := h
    have nd := sc_column_of.nd
    refine BW.whenC (fun σ' H' => Ex H H' ∧ ∃ m : Int, σ' = [some (.int m), some (.int r), none] ∧ r < m ∧ colF n r = colE m r) (TV.eq (EV.mod (EV.var 0 rfl) EV.int (by decide)) EV.int) (fun hk H1 e1 => ?_) (fun hk H1 e1 => ?_) ?_
    · have hk' : n % 2 = 1 := of_decide_eq_true hk
      refine BW.when (TV.eq (EV.var 1 rfl) (EV.sub (EV.var 0 rfl) EV.int)) (fun hj H2 e2 => ?_) (fun hj H2 e2 => ?_)
      · have hj' : r = n - 1 := of_decide_eq_true hj
        refine BW.ret (EV.var 1 rfl) fun H3 e3 => ?_
        have q := k H3 ((e1.trans e2).trans e3)
        unfold colF at q
        rw [if_pos hk', if_pos hj'] at q
        exact q
      · have hj' : r ≠ n - 1 := of_decide_eq_false hj
        refine BW.augS 0 nd rfl EV.int fun H3 e3 => BW.nil ⟨(e1.trans e2).trans e3, n - 1, rfl, by omega, ?_⟩
        unfold colF
        rw [if_pos hk', if_neg hj']
    · have hk' : n % 2 ≠ 1 := of_decide_eq_false hk
      refine ⟨e1, n, rfl, h1, ?_⟩
      unfold colF
      rw [if_neg hk']
    · rintro σ' H' ⟨ex, m, rfl, hm, hc⟩
      refine BW.asg 2 nd (EV.fdiv (EV.var 0 rfl) EV.int (by decide)) fun H2 e2 => ?_
      refine BW.when (TV.ne (EV.mod (EV.var 0 rfl) EV.int (by decide)) EV.int) (fun hk H3 e3 => ?_) (fun hk H3 e3 => ?_)
      · refine BW.ret (EV.isI (j := colF n r) (EV.iteI (TV.lt (EV.var 1 rfl) (EV.var 2 rfl)) (fun h1 => (EV.add (EV.mul EV.int (EV.var 1 rfl) (mul_small (.inl ⟨by decide, by decide⟩))) EV.int)) (fun h1 => (EV.mul EV.int (EV.sub (EV.var 1 rfl) (EV.var 2 rfl)) (mul_small (.inl ⟨by decide, by decide⟩))))) ?_) fun H4 e4 => k H4 (((ex.trans e2).trans e3).trans e4)
        rw [hc]
        unfold colE
        rw [if_pos (show m % 6 ≠ 2 from of_decide_eq_true hk)]
        simp only [decide_eq_true_eq]
      · refine BW.when (TV.lt (EV.var 1 rfl) (EV.var 2 rfl)) (fun hj H4 e4 => ?_) (fun hj H4 e4 => ?_)
        · refine BW.ret (EV.isI (j := colF n r) (EV.mod (EV.sub (EV.add (EV.mul EV.int (EV.var 1 rfl) (mul_small (.inl ⟨by decide, by decide⟩))) (EV.var 2 rfl)) EV.int) (EV.var 0 rfl) (by omega)) ?_) fun H5 e5 => k H5 ((((ex.trans e2).trans e3).trans e4).trans e5)
          rw [hc]
          unfold colE
          rw [if_neg (show ¬ m % 6 ≠ 2 from of_decide_eq_false hk), if_pos (show r < m / 2 from of_decide_eq_true hj)]
        · refine BW.ret (EV.isI (j := colF n r) (EV.sub (EV.sub (EV.var 0 rfl) EV.int) (EV.mod (EV.sub (EV.add (EV.mul EV.int (EV.sub (EV.sub (EV.var 0 rfl) EV.int) (EV.var 1 rfl)) (mul_small (.inl ⟨by decide, by decide⟩))) (EV.var 2 rfl)) EV.int) (EV.var 0 rfl) (by omega))) ?_) fun H5 e5 => k H5 ((((ex.trans e2).trans e3).trans e4).trans e5)
          rw [hc]
          unfold colE
          rw [if_neg (show ¬ m % 6 ≠ 2 from of_decide_eq_false hk), if_neg (show ¬ r < m / 2 from of_decide_eq_false hj)]
theorem sv_colOf {H : Hp} {n r : Int} (h0 : 0 ≤ r) (h1 : r < n) : SpV spColOf [.int n, .int r] H (.int (colF n r)) := fun H1 e1 Q q _ => ⟨n, r, rfl, h0, h1, q⟩
/-! ### check_peaceful -/
def ckPeace (x : V) : Option Ek := if numB x 1 = true then (if x = .int 2 ∨ x = .int 3 then some .none else none) else some .size
def spCkPeace (K : PySem.W.Frag) (xa : Ek → Addr) : Sp := fun vs H Q E => ∃ x, vs = [x] ∧ Kd? K H x ∧ Res xa (ckPeace x) .non H Q E
theorem in23v (b : Int) : inV (.int b) [.int 2, .int 3] = decide (b = 2 ∨ b = 3) := by
  have : (∀ x : Int, eqV (.int x) (.int b) = decide (b = x)) := fun x => by simp [eqV, Bool.beq_eq_decide_eq, eq_comm]
  simp only [inV, List.any_cons, List.any_nil, Bool.or_false, this, Bool.decide_or]
theorem ok_check_peacefulX {f : Addr} {fd : FuncData} (F : Fun K "check_peaceful" "check_peaceful" s_check_peaceful f fd) (Cs : Fc P w K mg base 2 "check_size" (spCkSize K xa)) (xN : Xc K mg "NoSetting" (xa .none)) : FnOk P w K mg base (L2.CX P w) 3 f fd ["size"] (spCkPeace K xa) := by
  refine okR F sc_check_peaceful (fun vs H Q E h => ?_) (fun cdv A outer s H vs Q E hr h => ?_)
  · obtain ⟨n, rfl, _⟩ := h
    rfl
  · obtain ⟨x, rfl, kd, q⟩ := h
    refine BW.exprX Cs hr (takes_of (E := E) rfl rfl rfl rfl) (AV.one (EV.var 0 rfl)) fun H1 e1 => sx_size kd H1 e1 _ E ?_
    by_cases hx : numB x 1 = true
    · have ho : ckSize x = none := by unfold ckSize; rw [if_pos hx]
      rw [ho]
      intro H2 e2
      obtain ⟨i, rfl, hi⟩ := numB_int hx
      refine BW.when (TV.inU (EV.var 0 rfl) (EU.tup (AV.cons EV.int (AV.cons EV.int AV.nil)))) (fun hk H3 e3 => ?_) (fun hk H3 e3 => ?_)
      · rw [in23v] at hk
        refine BW.raise xN (takes_of (E := E) rfl rfl rfl rfl) (q.bad ?_ H3 ((e1.trans e2).trans e3))
        unfold ckPeace
        rw [if_pos hx, if_pos (by simpa using of_decide_eq_true hk)]
      · rw [in23v] at hk
        refine BW.nil (q.good ?_ H3 ((e1.trans e2).trans e3))
        unfold ckPeace
        rw [if_pos hx, if_neg (by simpa using of_decide_eq_false hk)]
    · have ho : ckSize x = some .size := by unfold ckSize; rw [if_neg hx]
      rw [ho]
      exact fun H2 e2 => q.bad (by unfold ckPeace; rw [if_neg hx]) H2 (e1.trans e2)
theorem sx_peace {H : Hp} {x : V} (h : Kd? K H x) : SpX (spCkPeace K xa) xa [x] H (ckPeace x) .non := fun H1 e1 Q E r => ⟨x, rfl, h.ex e1, r⟩
def intV : V → Int
  | .int i => i
  | _ => 0
theorem ckPeace_none {x : V} (h : ckPeace x = none) : ∃ n, x = .int n ∧ 1 ≤ n ∧ n ≠ 2 ∧ n ≠ 3 := by
  unfold ckPeace at h
  by_cases hx : numB x 1 = true
  · obtain ⟨i, rfl, hi⟩ := numB_int hx
    rw [if_pos hx] at h
    by_cases h2 : V.int i = .int 2 ∨ V.int i = .int 3
    · rw [if_pos h2] at h
      cases h
    · refine ⟨i, rfl, hi, fun z => h2 (.inl (by rw [z])), fun z => h2 (.inr (by rw [z]))⟩
  · rw [if_neg hx] at h
    cases h
theorem ckPeace_ok {n : Int} (h1 : 1 ≤ n) (h2 : n ≠ 2) (h3 : n ≠ 3) : ckPeace (.int n) = none := by
  unfold ckPeace
  rw [if_pos (by simp [numB, h1]), if_neg (by simp [h2, h3])]
end
end QR

namespace QR
open PySem PySem.Spec PyProof.Rows L2 Evl
section
variable {P : Program} {w : World} {K : PySem.W.Frag} {mg : Str → Option Value} {base : Heap} {xa : Ek → Addr}
/-! ### setting -/
def ckSet (x : V) : Option Ek := if numB x 1 = true then (if 200 < intV x then some .size else if x = .int 2 ∨ x = .int 3 then some .none else none) else some .size
def setL (n : Nat) : List Int := (List.range n).map fun i : Nat => colF n i
/-- refuses, or gives a new list -/
def ResL (xa : Ek → Addr) (o : Option Ek) (xs : List V) (H : Hp) (Q : VK) (E : XK) : Prop := match o with
  | none => RetL xs H Q
  | some k => ∀ H2, Ex H H2 → E (.ref (xa k)) none H2
theorem ResL.good {o : Option Ek} {xs : List V} {H : Hp} {Q : VK} {E : XK} (h : ResL xa o xs H Q E) (ho : o = none) : RetL xs H Q := by subst ho; exact h
theorem ResL.bad {o : Option Ek} {xs : List V} {H : Hp} {Q : VK} {E : XK} {k : Ek} (h : ResL xa o xs H Q E) (ho : o = some k) : ∀ H2, Ex H H2 → E (.ref (xa k)) none H2 := by subst ho; exact h
def SpLX (sp : Sp) (xa : Ek → Addr) (vs : List V) (H : Hp) (o : Option Ek) (xs : List V) : Prop := ∀ H1, Ex H H1 → ∀ (Q : VK) (E : XK), ResL xa o xs H1 Q E → sp vs H1 Q E
theorem SpLX.l {sp : Sp} {vs : List V} {H : Hp} {xs : List V} (h : SpLX sp xa vs H none xs) : SpL sp vs H xs := fun H1 e1 Q q E => h H1 e1 Q E q
def spSetting (K : PySem.W.Frag) (xa : Ek → Addr) : Sp := fun vs H Q E => ∃ x, vs = [x] ∧ Kd? K H x ∧ ResL xa (ckSet x) ((setL (intV x).toNat).map V.int) H Q E
theorem ckSet_size {x : V} (h : ckSize x = some .size) : ckSet x = some .size := by
  unfold ckSize at h
  unfold ckSet
  by_cases hx : numB x 1 = true
  · rw [if_pos hx] at h
    cases h
  · rw [if_neg hx]
theorem ok_settingX {f : Addr} {fd : FuncData} (F : Fun K "setting" "setting" s_setting f fd) (B : Bl mg) (Cs : Fc P w K mg base 2 "check_size" (spCkSize K xa)) (Cp : Fc P w K mg base 3 "check_peaceful" (spCkPeace K xa)) (Cc : Fc P w K mg base 1 "column_of" spColOf) (xS : Xc K mg "BadSize" (xa .size)) (gM : ∃ t, mg "MOST" = some (.int 200 t)) : FnOk P w K mg base (L2.CX P w) 4 f fd ["size"] (spSetting K xa) := by
  obtain ⟨tM, gM⟩ := gM
  refine okR F sc_setting (fun vs H Q E h => ?_) (fun cdv A outer s H vs Q E hr h => ?_)
  · obtain ⟨n, rfl, _⟩ := h
    rfl
  · obtain ⟨x, rfl, kd, q⟩ := h
    have nd := sc_setting.nd
    refine BW.exprX Cs hr (takes_of (E := E) rfl rfl rfl rfl) (AV.one (EV.var 0 rfl)) fun H1 e1 => sx_size kd H1 e1 _ E ?_
    by_cases hx : numB x 1 = true
    · have ho : ckSize x = none := by unfold ckSize; rw [if_pos hx]
      rw [ho]
      intro H2 e2
      obtain ⟨i, rfl, hi⟩ := numB_int hx
      have e12 := e1.trans e2
      refine BW.when (TV.gt (EV.var 0 rfl) (EV.globI gM)) (fun hk H3 e3 => ?_) (fun hk H3 e3 => ?_)
      · refine BW.raise xS (takes_of (E := E) rfl rfl rfl rfl) (q.bad ?_ H3 (e12.trans e3))
        unfold ckSet
        rw [if_pos hx, if_pos (show 200 < intV (.int i) from of_decide_eq_true hk)]
      · have hk' : ¬ 200 < i := of_decide_eq_false hk
        refine BW.exprX Cp hr (takes_of (E := E) rfl rfl rfl rfl) (AV.one (EV.var 0 rfl)) fun H4 e4 => sx_peace (Kd?.int) H4 e4 _ E ?_
        have e14 := (e12.trans e3).trans e4
        by_cases h2 : V.int i = .int 2 ∨ V.int i = .int 3
        · have ho2 : ckPeace (.int i) = some .none := by unfold ckPeace; rw [if_pos hx, if_pos h2]
          rw [ho2]
          refine fun H5 e5 => q.bad ?_ H5 (e14.trans e5)
          unfold ckSet
          rw [if_pos hx, if_neg (show ¬ 200 < intV (.int i) from hk'), if_pos h2]
        · have ho2 : ckPeace (.int i) = none := by unfold ckPeace; rw [if_pos hx, if_neg h2]
          rw [ho2]
          intro H5 e5
          refine BW.retL (EL.is (ys := (setL i.toNat).map V.int) (LC.range (j := 1) (fun j => .int (colF i j)) B.range nd (blkOk_by (N := n_setting) (sc := defScope s_setting) (by decide +kernel)) (EV.var 0 rfl) ⟨by omega, by omega⟩ (fun j H6 e6 hj s0 H0 C0 cl fp => EV.call Cc hr (AV.two (EV.var 0 rfl) (EV.var 1 rfl)) (sv_colOf (by omega) hj))).el ?_) fun r H6 nr e6 h6 => ?_
          · unfold setL
            rw [List.map_map]
            have : ((i.toNat : Nat) : Int) = i := by omega
            rw [this]
            rfl
          · refine RetL.go (q.good ?_) (e14.trans e5) nr e6 h6
            unfold ckSet
            rw [if_pos hx, if_neg (show ¬ 200 < intV (.int i) from hk'), if_neg h2]
    · have ho : ckSize x = some .size := by unfold ckSize; rw [if_neg hx]
      rw [ho]
      exact fun H2 e2 => q.bad (ckSet_size ho) H2 (e1.trans e2)
theorem sx_setting {H : Hp} {x : V} (h : Kd? K H x) : SpLX (spSetting K xa) xa [x] H (ckSet x) ((setL (intV x).toNat).map V.int) := fun H1 e1 Q E r => ⟨x, rfl, h.ex e1, r⟩
theorem ckSet_ok {n : Int} (h1 : 1 ≤ n) (h2 : n ≠ 2) (h3 : n ≠ 3) (h4 : n ≤ 200) : ckSet (.int n) = none := by
  unfold ckSet
  rw [if_pos (by simp [numB, h1]), if_neg (by show ¬ 200 < n; omega), if_neg (by simp [h2, h3])]
theorem sl_setting {H : Hp} {n : Int} (h1 : 1 ≤ n) (h2 : n ≠ 2) (h3 : n ≠ 3) (h4 : n ≤ 200) : SpL (spSetting K xa) [.int n] H ((setL n.toNat).map V.int) := by
  have := sx_setting (K := K) (xa := xa) (H := H) (x := .int n) Kd?.int
  rw [ckSet_ok h1 h2 h3 h4] at this
  exact this.l
end
end QR

namespace QR
open PySem PySem.Spec PyProof.Rows L2 Evl
/-! ### mirrored, upended, exchanged -/
/-- a def over one setting: refused, or by o the list out -/
def spOne (K : PySem.W.Frag) (xa : Ek → Addr) (out : List Int → List Int) : Sp := fun vs H Q E => ∃ x o, vs = [x] ∧ SetIs K H x o ∧ (∀ k, o = some k → ∀ H2, Ex H H2 → E (.ref (xa k)) none H2) ∧
  (o = none → ∃ p ns, x = .ref p ∧ SqL K H p (ns.map V.int) ∧ ns.length ≤ 200 ∧ RetL ((out ns).map V.int) H Q)
def spExch (K : PySem.W.Frag) (xa : Ek → Addr) : Sp := fun vs H Q E => ∃ x o, vs = [x] ∧ SetIs K H x o ∧ (∀ k, o = some k → ∀ H2, Ex H H2 → E (.ref (xa k)) none H2) ∧
  (o = none → ∃ p ns fo, x = .ref p ∧ SqL K H p (ns.map V.int) ∧ ns.length ≤ 200 ∧ Bd ns ∧ FirstIs false ns fo ∧ (fo ≠ none → ∀ H2, Ex H H2 → E (.ref (xa .peace)) none H2) ∧ (fo = none → RetL ((exL ns).map V.int) H Q))
section
variable {P : Program} {w : World} {K : PySem.W.Frag} {mg : Str → Option Value} {base : Heap} {xa : Ek → Addr}
theorem ok_mirrored {f : Addr} {fd : FuncData} (F : Fun K "mirrored" "mirrored" s_mirrored f fd) (B : Bl mg) (Cs : Fc P w K mg base 2 "check_setting" (spCkSetting K xa)) : FnOk P w K mg base (L2.CX P w) 3 f fd ["setting"] (spOne K xa mirL) := by
  refine okR F sc_mirrored (fun vs H Q E h => ?_) (fun cdv Ar outer s H vs Q E hr h => ?_)
  · obtain ⟨x, o, rfl, _⟩ := h
    rfl
  · obtain ⟨x, o, rfl, hx, hE, hG⟩ := h
    have nd := sc_mirrored.nd
    refine BW.exprX Cs hr (takes_of (E := E) rfl rfl rfl rfl) (AV.one (EV.var 0 rfl)) fun H1 e1 => sx_setg hx H1 e1 _ E ?_
    cases o with
    | some k0 => exact fun H2 e2 => hE k0 rfl H2 (e1.trans e2)
    | none =>
      obtain ⟨p, ns, rfl, hp, hl, hQ⟩ := hG rfl
      intro H2 e2
      have e12 := e1.trans e2
      have hlen : ((ns.map V.int).length : Int) = (ns.length : Int) := by simp
      refine BW.retL (EL.is (ys := (mirL ns).map V.int) (LC.list (j := 1) (fun i => .int ((ns.length : Int) - 1 - ns.getD i 0)) nd (blkOk_by (N := n_mirrored) (sc := defScope s_mirrored) (by decide +kernel)) (EV.var 0 rfl) (ex_l e12 hp) (by simp; omega) (fun i y H3 e3 hi s0 H0 C0 cl fp => ?_)).el ?_) fun r H3 nr e3 hr3 => RetL.go hQ e12 nr e3 hr3
      · obtain ⟨rfl, _⟩ := at_map hi
        exact EV.sub (EV.sub (EV.isI (EV.len B.len (EV.var 0 rfl) (ex_l (e12.trans e3) hp)) hlen) EV.int) (EV.var 1 rfl)
      · unfold mirL
        rw [List.map_map]
        apply List.ext_getElem
        · simp
        · intro i h1 h2
          simp at h1 h2 ⊢
          rw [List.getElem?_eq_getElem h1]
          rfl
theorem ok_upended {f : Addr} {fd : FuncData} (F : Fun K "upended" "upended" s_upended f fd) (Cs : Fc P w K mg base 2 "check_setting" (spCkSetting K xa)) : FnOk P w K mg base (L2.CX P w) 3 f fd ["setting"] (spOne K xa List.reverse) := by
  refine okR F sc_upended (fun vs H Q E h => ?_) (fun cdv Ar outer s H vs Q E hr h => ?_)
  · obtain ⟨x, o, rfl, _⟩ := h
    rfl
  · obtain ⟨x, o, rfl, hx, hE, hG⟩ := h
    have nd := sc_upended.nd
    refine BW.exprX Cs hr (takes_of (E := E) rfl rfl rfl rfl) (AV.one (EV.var 0 rfl)) fun H1 e1 => sx_setg hx H1 e1 _ E ?_
    cases o with
    | some k0 => exact fun H2 e2 => hE k0 rfl H2 (e1.trans e2)
    | none =>
      obtain ⟨p, ns, rfl, hp, hl, hQ⟩ := hG rfl
      intro H2 e2
      have e12 := e1.trans e2
      exact BW.retL (EL.is (EL.rev (ES.old (EV.var 0 rfl) (ex_l e12 hp))) (by rw [List.map_reverse])) fun r H3 nr e3 hr3 => RetL.go hQ e12 nr e3 hr3
/-- first_taking(..) is not None, as a test -/
theorem TV.firstS {X : Cx} {e a b : Expr} {σ : L2.St} {H : Hp} {p pos pos2 : Pos} {k : Nat} {o : Option (Nat × Nat)} {ns : List Int} {j : Bool} {q g : Addr} (C : Fc X.prog X.w X.K X.mg X.base 2 "first_taking" (spFirst X.prog X.w X.K X.mg X.base)) (hr : Room k X.A)
    (ha : EV X a σ H (.ref q)) (hb : EV X b σ H (.ref g)) (hc : Hc X.prog X.w X.K X.mg X.base 1 g (spTk X.K j)) (hq : SqL X.K H q (ns.map V.int)) (hl : ns.length ≤ 1000) (ho : FirstIs j ns o) (hn : EV X e σ H .non) (hk : 2 ≤ k := by decide) (hg : Gl X "first_taking" := by rfl) (hs : [a, b].all noStar = true := by rfl) :
    TV X (.Compare (.Call (.Name "first_taking" p) [a, b] [] pos2) [.IsNot] [e] pos) σ H (!o.isNone) := by
  refine TV.of (pt_cmpR op_notN pe_self pe_self (nomark _)) fun H1 e1 Q kq => ?_
  refine EW.call C hr (AV.ev (AV.two ha hb) H1 e1 _ fun H2 e2 => ⟨q, g, ns, j, o, rfl, ex_l (e1.trans e2) hq, hl, hc, ho, ?_, ?_⟩) hk hg hs
  · intro h H3 e3
    refine hn.ev H3 ((e1.trans e2).trans e3) _ fun H4 e4 => ⟨rfl, _, rfl, ?_⟩
    subst h
    exact kq H4 ((e2.trans e3).trans e4)
  · intro x y h r H3 nr e3 hr3
    refine hn.ev H3 ((e1.trans e2).trans e3) _ fun H4 e4 => ⟨rfl, _, rfl, ?_⟩
    subst h
    exact kq H4 ((e2.trans e3).trans e4)
theorem ok_exchanged {f : Addr} {fd : FuncData} (F : Fun K "exchanged" "exchanged" s_exchanged f fd) (B : Bl mg) (Cs : Fc P w K mg base 2 "check_setting" (spCkSetting K xa)) (Cf : Fc P w K mg base 2 "first_taking" (spFirst P w K mg base)) (Ct : Fc P w K mg base 1 "take" (spTk K false)) (xN : Xc K mg "NoPeace" (xa .peace)) : FnOk P w K mg base (L2.CX P w) 3 f fd ["setting"] (spExch K xa) := by
  obtain ⟨g, gm, hc⟩ := Hc.of Ct
  refine okR F sc_exchanged (fun vs H Q E h => ?_) (fun cdv Ar outer s H vs Q E hr h => ?_)
  · obtain ⟨x, o, rfl, _⟩ := h
    rfl
  · obtain ⟨x, o, rfl, hx, hE, hG⟩ := h
    have nd := sc_exchanged.nd
    refine BW.exprX Cs hr (takes_of (E := E) rfl rfl rfl rfl) (AV.one (EV.var 0 rfl)) fun H1 e1 => sx_setg hx H1 e1 _ E ?_
    cases o with
    | some k0 => exact fun H2 e2 => hE k0 rfl H2 (e1.trans e2)
    | none =>
      obtain ⟨p, ns, fo, rfl, hp, hl, hb, ho, hN, hQ⟩ := hG rfl
      intro H2 e2
      have e12 := e1.trans e2
      have hlen : ((ns.map V.int).length : Int) = (ns.length : Int) := by simp
      refine BW.when (TV.firstS Cf hr (EV.var 0 rfl) (EV.glob gm) hc (ex_l e12 hp) (by omega) ho EV.non) (fun hk H3 e3 => ?_) (fun hk H3 e3 => ?_)
      · refine BW.raise xN (takes_of (E := E) rfl rfl rfl rfl) (hN ?_ H3 (e12.trans e3))
        intro z
        rw [z] at hk
        cases hk
      · have hfo : fo = none := by
          cases fo with
          | none => rfl
          | some z => cases hk
        have hno : NoTake false ns := by
          rw [hfo] at ho
          exact ho
        refine BW.retL (EL.is (ys := (exL ns).map V.int) (LC.range (j := 1) (fun i => .int ((ns.idxOf (i : Int) : Nat) : Int)) B.range nd (blkOk_by (N := n_exchanged) (sc := defScope s_exchanged) (by decide +kernel)) (EV.isI (EV.len B.len (EV.var 0 rfl) (ex_l (e12.trans e3) hp)) hlen) ⟨by omega, by omega⟩ (fun i H4 e4 hi s0 H0 C0 cl fp => EV.index (EV.var 0 rfl) (ex_l ((e12.trans e3).trans e4) hp) (EV.var 1 rfl) (all_cols hno hb (by omega)))).el ?_) fun r H4 nr e4 hr4 => RetL.go (hQ hfo) (e12.trans e3) nr e4 hr4
        unfold exL
        rw [List.map_map, Int.toNat_natCast]
        rfl
/-! ### product -/
def spProd (K : PySem.W.Frag) (xa : Ek → Addr) : Sp := fun vs H Q E => ∃ x y o o', vs = [x, y] ∧ SetIs K H x o ∧ SetIs K H y o' ∧ (∀ k, o = some k → ∀ H2, Ex H H2 → E (.ref (xa k)) none H2) ∧ (∀ k, o = none → o' = some k → ∀ H2, Ex H H2 → E (.ref (xa k)) none H2) ∧
  (o = none → o' = none → ∃ p q ns ms fo fi, x = .ref p ∧ y = .ref q ∧ SqL K H p (ns.map V.int) ∧ SqL K H q (ms.map V.int) ∧ ns.length ≤ 200 ∧ (1 ≤ ms.length ∧ ms.length ≤ 200) ∧ Bd ns ∧ Bd ms ∧ FirstIs false ns fo ∧ FirstIs true ms fi ∧
    (200 < ns.length * ms.length → ∀ H2, Ex H H2 → E (.ref (xa .setting)) none H2) ∧ (ns.length * ms.length ≤ 200 → (fo ≠ none ∨ fi ≠ none) → ∀ H2, Ex H H2 → E (.ref (xa .peace)) none H2) ∧ (ns.length * ms.length ≤ 200 → fo = none → fi = none → RetL ((prodL ns ms).map V.int) H Q))
theorem prod_step {ns ms : List Int} (h1 : 0 < ms.length) {i : Nat} (hi : i < ns.length) : (prodL ns ms).take ((i + 1) * ms.length) = (prodL ns ms).take (i * ms.length) ++ ms.map fun l => ns.getD i 0 * (ms.length : Int) + l := by
  apply List.ext_getElem
  · have : (i + 1) * ms.length ≤ ns.length * ms.length := Nat.mul_le_mul_right _ hi
    have h2 : i * ms.length ≤ ns.length * ms.length := Nat.mul_le_mul_right _ (by omega)
    simp only [List.length_take, prodL_len, List.length_append, List.length_map]
    rw [Nat.min_eq_left this, Nat.min_eq_left h2, Nat.add_mul]
    omega
  · intro r hr1 hr2
    have h3 : (i + 1) * ms.length ≤ ns.length * ms.length := Nat.mul_le_mul_right _ hi
    have h2 : i * ms.length ≤ ns.length * ms.length := Nat.mul_le_mul_right _ (by omega)
    have hlt : r < (i + 1) * ms.length := by
      simp only [List.length_take, prodL_len] at hr1
      omega
    rw [List.getElem_take, List.getElem_append]
    split
    · rw [List.getElem_take]
    · rename_i hge
      simp only [List.length_take, prodL_len] at hge
      rw [Nat.min_eq_left h2] at hge
      have e : (prodL ns ms)[r]'(by rw [prodL_len]; omega) = (prodL ns ms).getD r 0 := by
        rw [List.getD_eq_getElem?_getD, List.getElem?_eq_getElem (by rw [prodL_len]; omega)]
        rfl
      rw [e, prodL_getD (by omega)]
      have hlt' : r < i * ms.length + ms.length := by rw [Nat.add_mul] at hlt; omega
      have hd : r / ms.length = i := by
        rw [Nat.div_eq_of_lt_le]
        · omega
        · rw [Nat.add_mul]
          omega
      have hm : r % ms.length = r - i * ms.length := by
        have := Nat.div_add_mod r ms.length
        rw [hd, Nat.mul_comm] at this
        omega
      rw [hd, hm]
      simp only [List.getElem_map, List.length_take, prodL_len]
      congr 1
      rw [List.getD_eq_getElem?_getD, List.getElem?_eq_getElem (by omega)]
      simp only [Nat.min_eq_left h2]
      rfl
theorem ok_product {f : Addr} {fd : FuncData} (F : Fun K "product" "product" s_product f fd) (B : Bl mg) (Cs : Fc P w K mg base 2 "check_setting" (spCkSetting K xa)) (Cf : Fc P w K mg base 2 "first_taking" (spFirst P w K mg base)) (Ct : Fc P w K mg base 1 "take" (spTk K false)) (Cj : Fc P w K mg base 1 "take_joined" (spTk K true)) (xN : Xc K mg "NoPeace" (xa .peace)) (xS : Xc K mg "BadSetting" (xa .setting)) (gM : ∃ t, mg "MOST" = some (.int 200 t)) : FnOk P w K mg base (L2.CX P w) 3 f fd ["outer", "inner"] (spProd K xa) := by
  obtain ⟨tM, gM⟩ := gM
  obtain ⟨g, gm, hc⟩ := Hc.of Ct
  obtain ⟨g', gm', hc'⟩ := Hc.of Cj
  refine okR F sc_product (fun vs H Q E h => ?_) (fun cdv Ar outer s H vs Q E hr h => ?_)
  · obtain ⟨x, y, o, o', rfl, _⟩ := h
    rfl
  · obtain ⟨x, y, o, o', rfl, hx, hy, hE, hE', hG⟩ := h
    have nd := sc_product.nd
    refine BW.exprX Cs hr (takes_of (E := E) rfl rfl rfl rfl) (AV.one (EV.var 0 rfl)) fun H1 e1 => sx_setg hx H1 e1 _ E ?_
    cases o with
    | some k0 => exact fun H2 e2 => hE k0 rfl H2 (e1.trans e2)
    | none =>
    intro H2 e2
    have e12 := e1.trans e2
    refine BW.exprX Cs hr (takes_of (E := E) rfl rfl rfl rfl) (AV.one (EV.var 1 rfl)) fun H3 e3 => sx_setg (hy.ex e12) H3 e3 _ E ?_
    cases o' with
    | some k0 => exact fun H4 e4 => hE' k0 rfl rfl H4 ((e12.trans e3).trans e4)
    | none =>
    obtain ⟨p, q, ns, ms, fo, fi, rfl, rfl, hp, hq, hl, ⟨hm1, hm⟩, bn, bm, ho, hi, hS, hN, hQ⟩ := hG rfl rfl
    intro H4 e4
    have e14 := (e12.trans e3).trans e4
    have hp4 := ex_l e14 hp
    have hq4 := ex_l e14 hq
    have hlen : ((ns.map V.int).length : Int) = (ns.length : Int) := by simp
    have hlen' : ((ms.map V.int).length : Int) = (ms.length : Int) := by simp
    refine BW.when (TV.gt (EV.mul (EV.isI (EV.len B.len (EV.var 0 rfl) hp4) hlen) (EV.isI (EV.len B.len (EV.var 1 rfl) hq4) hlen') (mul_small (.inl ⟨by omega, by omega⟩))) (EV.globI gM)) (fun hk H5 e5 => ?_) (fun hk H5 e5 => ?_)
    · have hk' : (200 : Int) < (ns.length : Int) * (ms.length : Int) := of_decide_eq_true hk
      rw [← Int.natCast_mul] at hk'
      exact BW.raise xS (takes_of (E := E) rfl rfl rfl rfl) (hS (by omega) H5 (e14.trans e5))
    · have hk' : ¬ (200 : Int) < (ns.length : Int) * (ms.length : Int) := of_decide_eq_false hk
      rw [← Int.natCast_mul] at hk'
      have h200 : ns.length * ms.length ≤ 200 := by omega
      have e15 := e14.trans e5
      have hp5 := ex_l e5 hp4
      have hq5 := ex_l e5 hq4
      refine BW.when (TV.or2 (TV.firstS Cf hr (EV.var 0 rfl) (EV.glob gm) hc hp5 (by omega) ho EV.non) (fun _ => TV.firstS Cf hr (EV.var 1 rfl) (EV.glob gm') hc' hq5 (by omega) hi EV.non)) (fun hk H6 e6 => ?_) (fun hk H6 e6 => ?_)
      · refine BW.raise xN (takes_of (E := E) rfl rfl rfl rfl) (hN h200 ?_ H6 (e15.trans e6))
        cases fo with
        | some z => exact .inl (fun e => nomatch e)
        | none =>
          cases fi with
          | some z => exact .inr (fun e => nomatch e)
          | none => cases hk
      · obtain ⟨rfl, rfl⟩ : fo = none ∧ fi = none := by
          cases fo with
          | some z => cases hk
          | none =>
            cases fi with
            | some z => cases hk
            | none => exact ⟨rfl, rfl⟩
        have e16 := e15.trans e6
        refine BW.asgL 2 nd (EL.lst AV.nil) fun l H7 nl e7 hl7 => ?_
        have nl0 : H l = none := fresh_back e16 nl
        refine BW.forL (xs := ns.map V.int) (EV.var 0 rfl) (ex_l (e16.trans e7) hp) (pg_name (i := 3) nd rfl (Or.inr rfl)) (fun i σ' H' => Ex H (hide H' l) ∧ H' l = some (.lst (((prodL ns ms).take (i * ms.length)).map V.int)) ∧ ∃ y3, σ' = [some (.ref p), some (.ref q), some (.ref l), y3, none])
          (fun H8 e8 => ⟨ex_hide ((e16.trans e7).trans e8) nl0, by rw [Nat.zero_mul]; exact e8 _ _ hl7, _, rfl⟩) (fun i σ' H' _ pv => ex_l (pv.1.trans hide_ex) hp) ?_ ?_
        · rintro i x σ' H' hi' ⟨ex, hl', y3, rfl⟩
          obtain ⟨rfl, hil⟩ := at_map hi'
          show BW _ _ _ [some (.ref p), some (.ref q), some (.ref l), some (.int (ns.getD i 0)), none] H'
          have hqi := ex_l (ex.trans hide_ex) hq
          have hb := bd_getD bn hil
          refine BW.extend (q := l) (ys := (ms.map fun l => ns.getD i 0 * (ms.length : Int) + l).map V.int) hl' (EV.var 2 rfl) (EL.is (LC.list (j := 4) (fun j => .int (ns.getD i 0 * (ms.length : Int) + ms.getD j 0)) nd (blkOk_by (N := n_product) (sc := defScope s_product) (by decide +kernel)) (EV.var 1 rfl) hqi (by simp; omega) (fun j y Ha ea hj s0 H0 C0 cl fp => ?_)).el ?_) ?_ fun Ha ea => BW.nil ⟨?_, ?_, _, rfl⟩
          · obtain ⟨rfl, _⟩ := at_map hj
            exact EV.add (EV.mul (EV.var 3 rfl) (EV.isI (EV.len B.len (EV.var 1 rfl) (ex_l ea hqi)) hlen') (mul_small (.inl ⟨by omega, by omega⟩))) (EV.var 4 rfl)
          · rw [List.map_map]
            apply List.ext_getElem
            · simp
            · intro j h1 h2
              simp at h1 h2 ⊢
              rw [List.getElem?_eq_getElem h1]
              rfl
          · have : i * ms.length ≤ ns.length * ms.length := Nat.mul_le_mul_right _ (by omega)
            simp only [List.length_map, List.length_take, prodL_len]
            omega
          · rw [hide_upd]
            exact ex.trans (hide_mono ea)
          · rw [upd_same, prod_step (by omega) hil, List.map_append]
        · rintro σ' H' ⟨ex, hl', y3, rfl⟩
          rw [List.length_map, List.take_of_length_le (by rw [prodL_len]; exact Nat.le_refl _)] at hl'
          exact BW.ret (EV.var 2 rfl) fun H8 e8 => hQ h200 rfl rfl l H8 nl0 ((ex.trans hide_ex).trans e8) (e8 _ _ hl')
/-! ### good ones -/
theorem sl_one {H : Hp} {out : List Int → List Int} {p : Addr} {ns : List Int} (hp : SqL K H p (ns.map V.int)) (h1 : 1 ≤ ns.length) (h2 : ns.length ≤ 200) (hb : Bd ns) : SpL (spOne K xa out) [.ref p] H ((out ns).map V.int) := fun H1 e1 Q q E =>
  ⟨.ref p, none, rfl, SetIs.ints (ex_l e1 hp) h1 h2 hb, (fun k z => nomatch z), fun _ => ⟨p, ns, rfl, ex_l e1 hp, h2, q⟩⟩
theorem sl_exch {H : Hp} {p : Addr} {ns : List Int} (hp : SqL K H p (ns.map V.int)) (h1 : 1 ≤ ns.length) (h2 : ns.length ≤ 200) (hb : Bd ns) (ho : NoTake false ns) : SpL (spExch K xa) [.ref p] H ((exL ns).map V.int) := fun H1 e1 Q q E =>
  ⟨.ref p, none, rfl, SetIs.ints (ex_l e1 hp) h1 h2 hb, (fun k z => nomatch z), fun _ => ⟨p, ns, none, rfl, ex_l e1 hp, h2, hb, ho, (fun z => absurd rfl z), fun _ => q⟩⟩
theorem sl_prod {H : Hp} {p q : Addr} {ns ms : List Int} (hp : SqL K H p (ns.map V.int)) (hq : SqL K H q (ms.map V.int)) (h1 : 1 ≤ ns.length) (h2 : 1 ≤ ms.length) (h3 : ns.length * ms.length ≤ 200) (hb : Bd ns) (hb' : Bd ms) (ho : NoTake false ns) (hi : NoTake true ms) : SpL (spProd K xa) [.ref p, .ref q] H ((prodL ns ms).map V.int) := fun H1 e1 Q k E => by
  have l1 : ns.length ≤ 200 := Nat.le_trans (Nat.le_mul_of_pos_right _ (by omega)) h3
  have l2 : ms.length ≤ 200 := Nat.le_trans (Nat.le_mul_of_pos_left _ (by omega)) h3
  exact ⟨.ref p, .ref q, none, none, rfl, SetIs.ints (ex_l e1 hp) h1 l1 hb, SetIs.ints (ex_l e1 hq) h2 l2 hb', (fun k z => nomatch z), (fun k _ z => nomatch z), fun _ _ => ⟨p, q, ns, ms, none, none, rfl, rfl, ex_l e1 hp, ex_l e1 hq, l1, ⟨h2, l2⟩, hb, hb', ho, hi, (fun z => absurd h3 (by omega)), (fun _ z => by rcases z with z | z <;> exact absurd rfl z), fun _ _ _ => k⟩⟩
end
end QR

namespace QR
open PySem PySem.Spec PyProof.Rows L2 Evl
theorem modw_b {x : Int} {m : Nat} (h : 0 < m) : 0 ≤ x % (m : Int) ∧ x % (m : Int) < (m : Int) := ⟨Int.emod_nonneg _ (by omega), Int.emod_lt_of_pos _ (by omega)⟩
theorem board_of_joined {ns : List Int} (h : NoTake true ns) : NoTake false ns := by
  intro b hb a hab
  cases ht : takes false ns a b with
  | false => rfl
  | true =>
    have h1 := (takeB_iff ns a b).mp ht
    have : takes true ns a b = true := by
      refine (takeJB_iff ns a b).mpr ?_
      rcases h1 with z | z | z
      · exact .inl z
      · exact .inr (.inl (by rw [z, Int.sub_self]; exact Int.zero_emod _))
      · exact .inr (.inr (by rw [z, show (b : Int) - (a : Int) + ((a : Int) - (b : Int)) = 0 by omega]; exact Int.zero_emod _))
    rw [h b hb a hab] at this
    cases this
theorem setL_len' (n : Nat) : (setL n).length = n := by simp [setL]
theorem setL_bd (n : Nat) : Bd (setL n) := by
  intro c h
  rw [setL_len']
  unfold setL at h
  obtain ⟨i, hi, rfl⟩ := List.mem_map.mp h
  have := List.mem_range.mp hi
  exact colF_bounds (by omega) (by omega)
theorem setL_no {n : Nat} (h2 : n ≠ 2) (h3 : n ≠ 3) : NoTake false (setL n) := by
  intro b hb a hab
  rw [setL_len'] at hb
  cases ht : takes false (setL n) a b with
  | false => rfl
  | true =>
    have h1 := (takeB_iff _ a b).mp ht
    have g : ∀ i, i < n → (setL n).getD i 0 = colF n i := fun i hi => by
      unfold setL
      simp [List.getD_eq_getElem?_getD, hi]
    rw [g a (by omega), g b hb] at h1
    have := colF_peace (n := (n : Int)) (r := (a : Int)) (s := (b : Int)) (by omega) (by omega) (by omega) (by omega) (by omega) (by omega) (by omega)
    omega
theorem EL.prod {X : Cx} {a b : Expr} {σ : L2.St} {H : Hp} {p pos : Pos} {j : Nat} {o i : List Int} {xa : Ek → Addr} (C : Fc X.prog X.w X.K X.mg X.base 3 "product" (spProd X.K xa)) (hr : Room j X.A) (ha : EX X a σ H (Sh.ints o)) (hb : EX X b σ H (Sh.ints i)) (o1 : 1 ≤ o.length) (i1 : 1 ≤ i.length) (l2 : o.length * i.length ≤ 200) (bo : Bd o) (bi : Bd i) (no : NoTake false o) (ni : NoTake true i) (hk : 3 ≤ j := by decide) (hg : Gl X "product" := by rfl) (hs : [a, b].all noStar = true := by rfl) :
    EL X (.Call (.Name "product" p) [a, b] [] pos) σ H ((prodL o i).map V.int) :=
  EL.callA C hr (AX.two ha hb) (fun vs H1 e1 hvs => by
    obtain ⟨u, v, rfl, hu, hv⟩ := hvs.two
    obtain ⟨r, rfl, hr⟩ := hu.ofInts
    obtain ⟨t, rfl, ht⟩ := hv.ofInts
    exact sl_prod hr ht o1 i1 l2 bo bi no ni) hk hg hs
theorem EL.exch {X : Cx} {a : Expr} {σ : L2.St} {H : Hp} {p pos : Pos} {j : Nat} {o : List Int} {xa : Ek → Addr} (C : Fc X.prog X.w X.K X.mg X.base 3 "exchanged" (spExch X.K xa)) (hr : Room j X.A) (ha : EX X a σ H (Sh.ints o)) (o1 : 1 ≤ o.length) (l2 : o.length ≤ 200) (bo : Bd o) (no : NoTake false o) (hk : 3 ≤ j := by decide) (hg : Gl X "exchanged" := by rfl) (hs : [a].all noStar = true := by rfl) :
    EL X (.Call (.Name "exchanged" p) [a] [] pos) σ H ((exL o).map V.int) :=
  EL.callA C hr (AX.one ha) (fun vs H1 e1 hvs => by
    obtain ⟨u, rfl, hu⟩ := hvs.one
    obtain ⟨r, rfl, hr⟩ := hu.ofInts
    exact sl_exch hr o1 l2 bo no) hk hg hs
/-- a setting's first takers, by a look at it -/
theorem first_of_no {j : Bool} {ns : List Int} (h : NoTake j ns) : FirstIs j ns none := h
/-! ### refusals of the making defs -/
section
variable {X : Cx} {a b : Expr} {σ : L2.St} {H : Hp} {p pos : Pos} {j : Nat} {o i : List Int} {xa : Ek → Addr} {E : XK} {Q : VK}
/-- exchanged(o), o not at peace -/
theorem EW.exchNo (C : Fc X.prog X.w X.K X.mg X.base 3 "exchanged" (spExch X.K xa)) (hr : Room j X.A) (tk : Takes X (fun cls d _ H => E cls d H)) (ha : EX X a σ H (Sh.ints o)) (o1 : 1 ≤ o.length) (l2 : o.length ≤ 200) (bo : Bd o) (no : ¬ NoTake false o) (hE : ∀ H2, Ex H H2 → E (.ref (xa .peace)) none H2) (hk : 3 ≤ j := by decide) (hg : Gl X "exchanged" := by rfl) (hs : [a].all noStar = true := by rfl) :
    EW X (.Call (.Name "exchanged" p) [a] [] pos) σ H Q := by
  refine EW.callX C hr tk ((AX.one ha).ev H (Ex.refl H) _ fun vs H1 e1 hvs => ?_) hk hg hs
  obtain ⟨u, rfl, hu⟩ := hvs.one
  obtain ⟨r, rfl, hr⟩ := hu.ofInts
  obtain ⟨fo, ho⟩ := first_ex false o
  refine ⟨.ref r, none, rfl, SetIs.ints hr o1 l2 bo, (fun k z => nomatch z), fun _ => ⟨r, o, fo, rfl, hr, l2, bo, ho, fun _ H2 e2 => hE H2 (e1.trans e2), fun hn => ?_⟩⟩
  subst hn
  exact absurd ho no
/-- product(o, i), one of them not at peace -/
theorem EW.prodNo (C : Fc X.prog X.w X.K X.mg X.base 3 "product" (spProd X.K xa)) (hr : Room j X.A) (tk : Takes X (fun cls d _ H => E cls d H)) (ha : EX X a σ H (Sh.ints o)) (hb : EX X b σ H (Sh.ints i)) (o1 : 1 ≤ o.length) (i1 : 1 ≤ i.length) (l2 : o.length * i.length ≤ 200) (bo : Bd o) (bi : Bd i) (no : ¬ (NoTake false o ∧ NoTake true i)) (hE : ∀ H2, Ex H H2 → E (.ref (xa .peace)) none H2) (hk : 3 ≤ j := by decide) (hg : Gl X "product" := by rfl) (hs : [a, b].all noStar = true := by rfl) :
    EW X (.Call (.Name "product" p) [a, b] [] pos) σ H Q := by
  refine EW.callX C hr tk ((AX.two ha hb).ev H (Ex.refl H) _ fun vs H1 e1 hvs => ?_) hk hg hs
  obtain ⟨u, v, rfl, hu, hv⟩ := hvs.two
  obtain ⟨r, rfl, hr⟩ := hu.ofInts
  obtain ⟨t, rfl, ht⟩ := hv.ofInts
  obtain ⟨fo, ho⟩ := first_ex false o
  obtain ⟨fi, hi⟩ := first_ex true i
  have lo : o.length ≤ 200 := Nat.le_trans (by simpa using Nat.mul_le_mul_left o.length i1) l2
  have li : i.length ≤ 200 := Nat.le_trans (by simpa using Nat.mul_le_mul_right i.length o1) l2
  refine ⟨.ref r, .ref t, none, none, rfl, SetIs.ints hr o1 lo bo, SetIs.ints ht i1 li bi, (fun k z => nomatch z), (fun k _ z => nomatch z), fun _ _ => ⟨r, t, o, i, fo, fi, rfl, rfl, hr, ht, lo, ⟨i1, li⟩, bo, bi, ho, hi, fun h => absurd h (by omega), fun _ _ H2 e2 => hE H2 (e1.trans e2), fun _ h1 h2 => ?_⟩⟩
  subst h1 h2
  exact absurd ⟨ho, hi⟩ no
end
/-! ### [e for x in range(a, b)] -/
section
variable {σ : L2.St} {H : Hp} {t : TT} {te : TE}
theorem el_lcR2 {ta : TA} {j : Nat} {vs : List Nat} {lo n : Int} (v : Nat → V) (h : EvA ta σ H [.int lo, .int n]) (hn : lo ≤ n ∧ n - lo ≤ 40000) (hw : ∀ x, wipe ((wipe σ vs).set j (some x)) vs = wipe σ vs)
    (he : ∀ (i : Nat) H1, Ex H H1 → lo + (i : Int) < n → Ev te ((wipe σ vs).set j (some (.int (lo + (i : Int))))) H1 (v i)) :
    EvL (tLc (iRng2A ta) (gName j) tYes te vs) σ H (given (n - lo).toNat (fun _ => true) v) := fun H0 e Q q => h H0 e _ fun H1 e1 => ⟨lo, n, rfl, fun Dl hD =>
  lc_range (lo := lo) (n := (n - lo).toNat) (Cw H1 (fun _ => true) v Dl) ⟨hD, Ex.new hD, upd_same⟩ (fun i H' hi p => ⟨hw _, cw_turn p (by omega) ev_yes (fun _ => he i H1 (e.trans e1) (by omega))⟩) (fun H' p => q Dl H' (fresh_back e1 p.1) (e1.trans p.2.1) p.2.2)⟩
end
theorem LC.range2 {X : Cx} {σ : L2.St} {H : Hp} {a b : Expr} {x : Str} {p pr p2 pos : Pos} {elt : Expr} {scope : Scope} {j : Nat} {lo n : Int} (v : Nat → V) (m : X.mg "range" = none) (hN : X.N.Nodup) (ok : BlkOk X.N X.env.scope scope [(x, j)]) (h : EV X a σ H (.int lo)) (h' : EV X b σ H (.int n)) (hn : lo ≤ n ∧ n - lo ≤ 40000)
    (he : ∀ (i : Nat) H1, Ex H H1 → lo + (i : Int) < n → EVb X scope elt ((wipe σ [j]).set j (some (.int (lo + (i : Int))))) H1 (v i))
    (hw : ∀ z, wipe ((wipe σ [j]).set j (some z)) [j] = wipe σ [j] := by intro _; rfl)
    (hg : ∀ (s : Shared) (H : Hp) (C : Addr) (cl : List (Str × Addr)) (fp : List Addr), PG (X.blk s H scope (compEnvC scope cl C X.env) fp) (.Name x p) (gName j) := by exact fun _ _ _ _ _ => pg_name (i := _) (by assumption) rfl (Or.inl rfl)) (hgl : Gl X "range" := by rfl) (hst : noStar a = true := by rfl) (hst2 : noStar b = true := by rfl) (hc : X.calm = true := by rfl) :
    LC X (.ListComp elt [⟨.Name x p, .Call (.Name "range" pr) [a, b] [] p2, [], 0⟩] scope pos) σ H ((List.range (n - lo).toNat).map v) := by
  refine lc_of (own := [(x, j)]) hc hN (pi_range2A hgl m (pa_all (es := [a, b]) (by simp [hst, hst2])) (by rw [star_of hst, star_of hst2]; rfl) (star_of hst2 [])) ok hg (fun _ => rfl) ?_
  rw [← given_all]
  exact el_lcR2 v (AV.two h h').ev hn hw (fun i H1 e1 hi => (he i H1 e1 hi).ev)
end QR

namespace QR
open PySem PySem.Spec PyProof.Rows L2 Evl
/-! ### the answers' own words, without Step and Barred -/
structure S4 (P : Program) (w : World) (K : PySem.W.Frag) (mg : Str → Option Value) (base : Heap) (ad : Kd → Addr) : Prop where
  sP : Mc P w K mg base 3 (ad .P) "shows" (spPeaceShows K false (ad .P))
  sJP : Mc P w K mg base 3 (ad .JP) "shows" (spPeaceShows K true (ad .JP))
  sT : Mc P w K mg base 2 (ad .T) "shows" (spTakeShows K false (ad .T))
  sJT : Mc P w K mg base 2 (ad .JT) "shows" (spTakeShows K true (ad .JT))
section
variable {P : Program} {w : World} {K : PySem.W.Frag} {mg : Str → Option Value} {base : Heap} {ad : Kd → Addr}
theorem sv_tkShows {j : Bool} {C : Addr} {H : Hp} {p dx q : Addr} {ns : List Int} {a b : Int} (hp : H p = some (.ins C dx (fsT a b))) (hq : SqL K H q (ns.map V.int)) : SpV (spTakeShows K j C) [.ref p, .ref q] H (.bl (tkShows j ns a b)) := fun H1 e1 Q k _ => ⟨p, dx, q, ns, a, b, rfl, e1 _ _ hp, ex_l e1 hq, k⟩
theorem sv_pcShows {j : Bool} {C : Addr} {H : Hp} {p dx q : Addr} {ns : List Int} {o : Option (Nat × Nat)} (hp : H p = some (.ins C dx [])) (hq : SqL K H q (ns.map V.int)) (hl : ns.length ≤ 1000) (ho : FirstIs j ns o) : SpV (spPeaceShows K j C) [.ref p, .ref q] H (.bl o.isNone) := fun H1 e1 Q k _ => ⟨p, dx, q, ns, o, rfl, e1 _ _ hp, ex_l e1 hq, hl, ho, k⟩
end
section
variable {X : Cx} {e a b c o : Expr} {es : List Expr} {σ : L2.St} {H : Hp} {pos p pf apos : Pos} {ad : Kd → Addr} {j k : Nat} {ns : List Int} {i l n t : Int}
/-- a call of shows; pl is found by rfl -/
theorem EV.shT {jd : Bool} {C : Addr} {pl : Sem Bool} (M : Mc X.prog X.w X.K X.mg X.base 2 C "shows" (spTakeShows X.K jd C)) (hr : Room j X.A) (h : EX X o σ H (.ins C (fsT i l))) (ha : EX X a σ H (Sh.ints ns)) (hk : 2 ≤ j := by decide) (hs : noStar a = true := by rfl)
    (ht : eval (.Call (.Attribute o "shows" apos) [a] [] pos) X.env = (do
      let ov ← eval o X.env
      standAt apos.atName
      let (f, first) ← holding [ov] (getMethod ov "shows" pl)
      callWith pos f first (backTo pos (starEach [a] X.env)) (backToKw pos (keywordEach [] X.env))) := by rfl) : EV X (.Call (.Attribute o "shows" apos) [a] [] pos) σ H (.bl (tkShows jd ns i l)) :=
  EV.methX (pl := pl) M hr h rfl (AX.one ha) (fun q dx vs H1 e1 hq hvs => by
    obtain ⟨u, rfl, hu⟩ := hvs.one
    obtain ⟨r, rfl, hr⟩ := hu.ofInts
    exact sv_tkShows hq hr) hk (by simp [hs]) ht
theorem EV.shP {jd : Bool} {C : Addr} {oo : Option (Nat × Nat)} {pl : Sem Bool} (M : Mc X.prog X.w X.K X.mg X.base 3 C "shows" (spPeaceShows X.K jd C)) (hr : Room j X.A) (h : EX X o σ H (.ins C [])) (ha : EX X a σ H (Sh.ints ns)) (hl : ns.length ≤ 1000) (ho : FirstIs jd ns oo) (hk : 3 ≤ j := by decide) (hs : noStar a = true := by rfl)
    (ht : eval (.Call (.Attribute o "shows" apos) [a] [] pos) X.env = (do
      let ov ← eval o X.env
      standAt apos.atName
      let (f, first) ← holding [ov] (getMethod ov "shows" pl)
      callWith pos f first (backTo pos (starEach [a] X.env)) (backToKw pos (keywordEach [] X.env))) := by rfl) : EV X (.Call (.Attribute o "shows" apos) [a] [] pos) σ H (.bl oo.isNone) :=
  EV.methX (pl := pl) M hr h rfl (AX.one ha) (fun q dx vs H1 e1 hq hvs => by
    obtain ⟨u, rfl, hu⟩ := hvs.one
    obtain ⟨r, rfl, hr⟩ := hu.ofInts
    exact sv_pcShows hq hr hl ho) hk (by simp [hs]) ht
end
def RetI' (C : Addr) (fs : List (Str × V)) (H : Hp) (Q : VK) : Prop := ∀ q dx H2, H q = none → Ex H H2 → H2 q = some (.ins C dx fs) → Q (.ref q) H2
/-- what is told -/
def kdT : Bool → Option (Nat × Nat) → Kd
  | false, none => .P
  | false, some _ => .T
  | true, none => .JP
  | true, some _ => .JT
def fsO : Option (Nat × Nat) → List (Str × V)
  | none => []
  | some (a, b) => fsT a b
def spTold (K : PySem.W.Frag) (xa : Ek → Addr) (ad : Kd → Addr) (j : Bool) : Sp := fun vs H Q E => ∃ x o, vs = [x] ∧ SetIs K H x o ∧ (∀ k, o = some k → ∀ H2, Ex H H2 → E (.ref (xa k)) none H2) ∧
  (o = none → ∃ p ns fo, x = .ref p ∧ SqL K H p (ns.map V.int) ∧ ns.length ≤ 200 ∧ FirstIs j ns fo ∧ RetI' (ad (kdT j fo)) (fsO fo) H Q)
section
variable {P : Program} {w : World} {K : PySem.W.Frag} {mg : Str → Option Value} {base : Heap} {xa : Ek → Addr} {ad : Kd → Addr} {CA : Addr}
/-- found = first_taking(setting, g) -/
theorem BW.asgF {X : Cx} {a b : Expr} {rest : List Stmt} {D : Ends} {σ : L2.St} {H : Hp} {p p0 pos pos2 : Pos} {n : Str} {k : Nat} {o : Option (Nat × Nat)} {ns : List Int} {j : Bool} {q g : Addr} (i : Nat) (hN : X.N.Nodup) (C : Fc X.prog X.w X.K X.mg X.base 2 "first_taking" (spFirst X.prog X.w X.K X.mg X.base)) (hr : Room k X.A)
    (ha : EV X a σ H (.ref q)) (hb : EV X b σ H (.ref g)) (hc : Hc X.prog X.w X.K X.mg X.base 1 g (spTk X.K j)) (hq : SqL X.K H q (ns.map V.int)) (hl : ns.length ≤ 1000) (ho : FirstIs j ns o)
    (h1 : o = none → ∀ H1, Ex H H1 → BW X rest D (σ.set i (some .non)) H1) (h2 : ∀ x y, o = some (x, y) → ∀ r H1, Ex H H1 → H1 r = some (.tup [.int (x : Int), .int (y : Int)]) → BW X rest D (σ.set i (some (.ref r))) H1)
    (hk : 2 ≤ k := by decide) (hg : Gl X "first_taking" := by rfl) (hs : [a, b].all noStar = true := by rfl)
    (hi : X.N[i]? = some n := by rfl) (hx : Loc X.env.scope n := by first | exact Or.inl rfl | exact Or.inr rfl) (hw : swapsWith (.Call (.Name "first_taking" p) [a, b] [] pos2) (some (.Name n p0)) pos.line X.env = pure false := by rfl) (hf : X.fn n = true ∨ X.env.scope.names.lookup n = some .local := by first | exact .inl rfl | exact .inr rfl) :
    BW X (.Assign [.Name n p0] (.Call (.Name "first_taking" p) [a, b] [] pos2) pos :: rest) D σ H :=
  BW.asgW hN hi hx (EW.call C hr ((AV.two ha hb).ev H (Ex.refl H) _ fun H2 e2 => ⟨q, g, ns, j, o, rfl, ex_l e2 hq, hl, hc, ho, fun h H3 e3 => h1 h H3 (e2.trans e3), fun x y h r H3 nr e3 hr3 => h2 x y h r H3 (e2.trans e3) hr3⟩) hk hg hs) hw hf
theorem EI.made {X : Cx} {e : Expr} {σ : L2.St} {H : Hp} {C C' : Addr} {fs fs' : List (Str × V)} (h : EI X e σ H C fs) (q : C = C') (r : fs = fs') : EI X e σ H C' fs' := by subst q r; exact h
theorem ok_told {f : Addr} {fd : FuncData} (F : Fun K "told" "told" s_told f fd) (gP : mg "Peace" = some (.ref (ad .P))) (kP : MkN K (ad .P)) (kT : Kc P w K mg base 1 "Take" (ad .T) (spInit (ad .T) ["one", "other"])) (Cs : Fc P w K mg base 2 "check_setting" (spCkSetting K xa)) (Cf : Fc P w K mg base 2 "first_taking" (spFirst P w K mg base)) (Ct : Fc P w K mg base 1 "take" (spTk K false)) : FnOk P w K mg base (L2.CX P w) 3 f fd ["setting"] (spTold K xa ad false) := by
  obtain ⟨g, gm, hc⟩ := Hc.of Ct
  refine okR F sc_told (fun vs H Q E h => ?_) (fun cdv Ar outer s H vs Q E hr h => ?_)
  · obtain ⟨x, o, rfl, _⟩ := h
    rfl
  · obtain ⟨x, o, rfl, hx, hE, hG⟩ := h
    have nd := sc_told.nd
    refine BW.exprX Cs hr (takes_of (E := E) rfl rfl rfl rfl) (AV.one (EV.var 0 rfl)) fun H1 e1 => sx_setg hx H1 e1 _ E ?_
    cases o with
    | some k0 => exact fun H2 e2 => hE k0 rfl H2 (e1.trans e2)
    | none =>
      obtain ⟨p, ns, fo, rfl, hp, hl, ho, hQ⟩ := hG rfl
      intro H2 e2
      have e12 := e1.trans e2
      refine BW.asgF 1 nd Cf hr (EV.var 0 rfl) (EV.glob gm) hc (ex_l e12 hp) (by omega) ho (fun hn H3 e3 => ?_) (fun x y hs r H3 e3 hr3 => ?_)
      · refine BW.retI (EI.made (C' := ad (kdT false fo)) (fs' := fsO fo) (EI.ite (TV.isN (EV.var 1 rfl) EV.non) (fun _ => EI.make0 kP gP) (fun z => by simp at z)) (by rw [hn]; rfl) (by rw [hn]; rfl)) fun r dx H4 nr e4 h4 => hQ r dx H4 (fresh_back (e12.trans e3) nr) ((e12.trans e3).trans e4) h4
      · refine BW.retI (EI.made (C' := ad (kdT false fo)) (fs' := fsO fo) (EI.ite (TV.isN (EV.var 1 rfl) EV.non) (fun z => by simp at z) (fun _ => EI.make kT hr (AV.two (EV.ixT (EV.var 1 rfl) EV.int (st_of hr3) (show atI _ (0 : Int) = some _ from rfl)) (EV.ixT (EV.var 1 rfl) EV.int (st_of hr3) (show atI _ (1 : Int) = some _ from rfl))))) (by rw [hs]; rfl) (by rw [hs]; rfl)) fun r dx H4 nr e4 h4 => hQ r dx H4 (fresh_back (e12.trans e3) nr) ((e12.trans e3).trans e4) h4
theorem ok_told_joined {f : Addr} {fd : FuncData} (F : Fun K "told_joined" "told_joined" s_told_joined f fd) (gJP : mg "JoinedPeace" = some (.ref (ad .JP))) (kJP : MkN K (ad .JP)) (kJT : Kc P w K mg base 1 "JoinedTake" (ad .JT) (spInit (ad .JT) ["one", "other"])) (Cs : Fc P w K mg base 2 "check_setting" (spCkSetting K xa)) (Cf : Fc P w K mg base 2 "first_taking" (spFirst P w K mg base)) (Ct : Fc P w K mg base 1 "take_joined" (spTk K true)) : FnOk P w K mg base (L2.CX P w) 3 f fd ["setting"] (spTold K xa ad true) := by
  obtain ⟨g, gm, hc⟩ := Hc.of Ct
  refine okR F sc_told_joined (fun vs H Q E h => ?_) (fun cdv Ar outer s H vs Q E hr h => ?_)
  · obtain ⟨x, o, rfl, _⟩ := h
    rfl
  · obtain ⟨x, o, rfl, hx, hE, hG⟩ := h
    have nd := sc_told_joined.nd
    refine BW.exprX Cs hr (takes_of (E := E) rfl rfl rfl rfl) (AV.one (EV.var 0 rfl)) fun H1 e1 => sx_setg hx H1 e1 _ E ?_
    cases o with
    | some k0 => exact fun H2 e2 => hE k0 rfl H2 (e1.trans e2)
    | none =>
      obtain ⟨p, ns, fo, rfl, hp, hl, ho, hQ⟩ := hG rfl
      intro H2 e2
      have e12 := e1.trans e2
      refine BW.asgF 1 nd Cf hr (EV.var 0 rfl) (EV.glob gm) hc (ex_l e12 hp) (by omega) ho (fun hn H3 e3 => ?_) (fun x y hs r H3 e3 hr3 => ?_)
      · refine BW.retI (EI.made (C' := ad (kdT true fo)) (fs' := fsO fo) (EI.ite (TV.isN (EV.var 1 rfl) EV.non) (fun _ => EI.make0 kJP gJP) (fun z => by simp at z)) (by rw [hn]; rfl) (by rw [hn]; rfl)) fun r dx H4 nr e4 h4 => hQ r dx H4 (fresh_back (e12.trans e3) nr) ((e12.trans e3).trans e4) h4
      · refine BW.retI (EI.made (C' := ad (kdT true fo)) (fs' := fsO fo) (EI.ite (TV.isN (EV.var 1 rfl) EV.non) (fun z => by simp at z) (fun _ => EI.make kJT hr (AV.two (EV.ixT (EV.var 1 rfl) EV.int (st_of hr3) (show atI _ (0 : Int) = some _ from rfl)) (EV.ixT (EV.var 1 rfl) EV.int (st_of hr3) (show atI _ (1 : Int) = some _ from rfl))))) (by rw [hs]; rfl) (by rw [hs]; rfl)) fun r dx H4 nr e4 h4 => hQ r dx H4 (fresh_back (e12.trans e3) nr) ((e12.trans e3).trans e4) h4
/-- a good setting told -/
theorem si_told {H : Hp} {j : Bool} {p : Addr} {ns : List Int} {fo : Option (Nat × Nat)} (hp : SqL K H p (ns.map V.int)) (h1 : 1 ≤ ns.length) (h2 : ns.length ≤ 200) (hb : ∀ c ∈ ns, 0 ≤ c ∧ c < (ns.length : Int)) (ho : FirstIs j ns fo) : SpI (spTold K xa ad j) [.ref p] H (ad (kdT j fo)) (fsO fo) := fun H1 e1 Q q E =>
  ⟨.ref p, none, rfl, SetIs.ints (ex_l e1 hp) h1 h2 hb, (fun k z => nomatch z), fun _ => ⟨p, ns, fo, rfl, ex_l e1 hp, h2, ho, q⟩⟩
end
section
variable {X : Cx} {e a b c o : Expr} {es : List Expr} {σ : L2.St} {H : Hp} {pos p pf apos : Pos} {ad : Kd → Addr} {xa : Ek → Addr} {j k : Nat} {ns : List Int}
/-- told(xs), told_joined(xs) of a list given by its shape -/
theorem EX.told {x : Str} {jd : Bool} {fo : Option (Nat × Nat)} (C : Fc X.prog X.w X.K X.mg X.base 3 x (spTold X.K xa ad jd)) (hr : Room j X.A) (ha : EX X a σ H (Sh.ints ns)) (h1 : 1 ≤ ns.length) (h2 : ns.length ≤ 200) (hb : ∀ c ∈ ns, 0 ≤ c ∧ c < (ns.length : Int)) (ho : FirstIs jd ns fo) (hk : 3 ≤ j := by decide) (hg : Gl X x := by rfl) (hs : [a].all noStar = true := by rfl) (hdb : (x == ("__debug__" : Str)) = false := by decide) :
    EX X (.Call (.Name x p) [a] [] pos) σ H (.ins (ad (kdT jd fo)) (fsO fo)) :=
  EX.ins (EI.callA C hr (AX.one ha) (fun vs H1 e1 hvs => by
    obtain ⟨u, rfl, hu⟩ := hvs.one
    obtain ⟨r, rfl, hr⟩ := hu.ofInts
    exact si_told hr h1 h2 hb ho) hk hg hs hdb)
/-- whether the answer is due of the setting ns -/
def dueT (jd : Bool) (fo : Option (Nat × Nat)) (ns : List Int) : Bool := match fo with
  | none => peaceB ns jd
  | some (a, b) => tkShows jd ns a b
theorem EV.shD {jd : Bool} {fo : Option (Nat × Nat)} {pl : Sem Bool} (S : S4 X.prog X.w X.K X.mg X.base ad) (hr : Room j X.A) (h : EX X o σ H (.ins (ad (kdT jd fo)) (fsO fo))) (ha : EX X a σ H (Sh.ints ns)) (hl : ns.length ≤ 1000) (hb : ∀ c ∈ ns, 0 ≤ c ∧ c < (ns.length : Int)) (hk : 3 ≤ j := by decide) (hs : noStar a = true := by rfl)
    (ht : eval (.Call (.Attribute o "shows" apos) [a] [] pos) X.env = (do
      let ov ← eval o X.env
      standAt apos.atName
      let (f, first) ← holding [ov] (getMethod ov "shows" pl)
      callWith pos f first (backTo pos (starEach [a] X.env)) (backToKw pos (keywordEach [] X.env))) := by rfl) : EV X (.Call (.Attribute o "shows" apos) [a] [] pos) σ H (.bl (dueT jd fo ns)) := by
  obtain ⟨o', ho'⟩ := first_ex jd ns
  have hp := first_peace hb ho'
  have hk2 : 2 ≤ j := by omega
  match jd, fo, h with
  | false, none, h => exact EV.isB (EV.shP (pl := pl) S.sP hr h ha hl ho' hk hs ht) hp
  | true, none, h => exact EV.isB (EV.shP (pl := pl) S.sJP hr h ha hl ho' hk hs ht) hp
  | false, some (x, y), h => exact EV.shT (pl := pl) S.sT hr h ha hk2 hs ht
  | true, some (x, y), h => exact EV.shT (pl := pl) S.sJT hr h ha hk2 hs ht
end
/-- the told answer is due of the setting itself -/
theorem due_self {jd : Bool} {ns : List Int} {fo : Option (Nat × Nat)} (hb : ∀ c ∈ ns, 0 ≤ c ∧ c < (ns.length : Int)) (ho : FirstIs jd ns fo) : dueT jd fo ns = true := by
  cases fo with
  | none =>
    have := first_peace hb ho
    exact this.symm
  | some p =>
    obtain ⟨⟨h1, h2⟩, h3, _, _⟩ := (ho : IsFirst jd ns p.1 p.2)
    show tkShows jd ns p.1 p.2 = true
    unfold tkShows
    rw [decide_eq_true (show (0 : Int) ≤ (p.1 : Int) by omega), decide_eq_true (show (p.1 : Int) < (p.2 : Int) by omega), decide_eq_true (show (p.2 : Int) < (ns.length : Int) by omega)]
    simpa using h3
end QR

namespace QR
open PySem PySem.Spec PyProof.Rows L2 Evl LamX
section
variable {X : Cx} {a iter elt : Expr} {σ : L2.St} {H : Hp} {D : Ends} {rest body : List Stmt} {xs : List V} {pos p apos : Pos} {c : Expr}
/-- xs.reverse() -/
theorem BW.reverse {l : Addr} (hl : H l = some (.lst xs)) (ha : EV X a σ H (.ref l)) (k : ∀ H1, Ex H H1 → BW X rest D σ (upd H1 l (.lst xs.reverse)))
    (he : PE X (.Call (.Attribute a "reverse" apos) [] [] p) (tBM0 X.K "list" rReverse (EW X a)) := by exact pe_bm0 PySem.F.plainAttrs_list PySem.F.slot_list_reverse PySem.F.type_list_reverse mt_reverse pe_self)
    (hw : swapsWith (.Call (.Attribute a "reverse" apos) [] [] p) none pos.line X.env = pure false := by rfl) : BW X (.Expr (.Call (.Attribute a "reverse" apos) [] [] p) pos :: rest) D σ H :=
  BW.cons (ps_expr he hw) (ha.ev H (Ex.refl H) _ fun H1 e1 => ⟨.inl ⟨rfl, xs, sq_of (e1 l _ hl)⟩, l, xs, rfl, rfl, e1 l _ hl, k H1 e1⟩)
/-- while c: .., c false at once -/
theorem BW.whileNo (h : TV X c σ H false) (k : ∀ H1, Ex H H1 → BW X rest D σ H1) (hp : PassesOwn (model X.prog X.w) X.A X.env X.xe := by first | exact PassesOwn.never | exact passes_of rfl) : BW X (.While c body [] pos :: rest) D σ H :=
  BW.whl (fun _ σ' H' => σ' = σ ∧ H' = H) 0 ⟨rfl, rfl⟩ (fun m σ' H' ⟨h1, h2⟩ => by
    subst h1 h2
    exact ⟨false, h, (fun z => nomatch z), fun _ H1 e1 => k H1 e1⟩) hp
end
/-- all but what lies at l stays -/
theorem ex_hide_of {H H' : Hp} {l : Addr} (e : Ex (hide H l) H') {b : Addr} {o : HO} (hb : b ≠ l) (h : H b = some o) : H' b = some o := e b o (by rw [hide_at hb]; exact h)
theorem sq_hide {K : PySem.W.Frag} {H : Hp} {l q : Addr} {xs : List V} (hq : SqL K H q xs) (hne : q ≠ l) : SqL K (hide H l) q xs := by
  rcases hq with (h | ⟨o, h⟩) | h
  · exact .inl (.inl (by rw [hide_at hne]; exact h))
  · exact .inl (.inr ⟨o, by rw [hide_at hne]; exact h⟩)
  · exact .inr h
/-! ### _law_copied -/
def spCp0 : Sp := fun vs H Q _ => ∃ i : Int, vs = [.int i] ∧ RetV (.int i) H Q
def spCp1 (K : PySem.W.Frag) : Sp := fun vs H Q _ => ∃ (p : Addr) (ns : List Int), vs = [.ref p] ∧ SqL K H p (ns.map V.int) ∧ ns.length ≤ 1000 ∧ RetL (ns.map V.int) H Q
def RetP (xs ys : List V) (H : Hp) (Q : VK) : Prop := ∀ l q1 q2 H2, H l = none → H q1 = none → H q2 = none → q1 ≠ q2 → l ≠ q1 → l ≠ q2 → Ex H H2 → H2 l = some (.lst [.ref q1, .ref q2]) → H2 q1 = some (.lst xs) → H2 q2 = some (.lst ys) → Q (.ref l) H2
def spCp2 (K : PySem.W.Frag) : Sp := fun vs H Q _ => ∃ (p p1 p2 : Addr) (ns ms : List Int), vs = [.ref p] ∧ SqL K H p [.ref p1, .ref p2] ∧ SqL K H p1 (ns.map V.int) ∧ SqL K H p2 (ms.map V.int) ∧ ns.length ≤ 1000 ∧ ms.length ≤ 1000 ∧ RetP (ns.map V.int) (ms.map V.int) H Q
section
variable {P : Program} {w : World} {K : PySem.W.Frag} {mg : Str → Option Value} {base : Heap}
theorem ok_copied0 {f : Addr} {fd : FuncData} (F : Fun K "_law_copied" "_law_copied" s_law_copied f fd) (B : Bl mg) : FnOk P w K mg base (L2.CX P w) 1 f fd ["_law_thing"] spCp0 := by
  refine okB F sc_law_copied (fun vs H Q E h => ?_) (fun cdv Ar outer s H vs Q E hr h => ?_)
  · obtain ⟨i, rfl, _⟩ := h
    rfl
  · obtain ⟨i, rfl, k⟩ := h
    exact BW.ret (EV.ite (k := false) (TV.val (EV.isT (n := "int") (T := "list") B.isinstance B.list (by decide +kernel) (EV.var 0 rfl) (.base (.int i)) (by decide +kernel))) (fun z => nomatch z) (fun _ => EV.var 0 rfl)) k
theorem ok_copied1 {f : Addr} {fd : FuncData} (F : Fun K "_law_copied" "_law_copied" s_law_copied f fd) (B : Bl mg) (C : Fc P w K mg base 1 "_law_copied" spCp0) : FnOk P w K mg base (L2.CX P w) 2 f fd ["_law_thing"] (spCp1 K) := by
  refine okB F sc_law_copied (fun vs H Q E h => ?_) (fun cdv Ar outer s H vs Q E hr h => ?_)
  · obtain ⟨p, ns, rfl, _⟩ := h
    rfl
  · obtain ⟨p, ns, rfl, hp, hl, k⟩ := h
    have nd := sc_law_copied.nd
    refine BW.retL (EL.ite (k := true) (TV.val (EV.isT (n := "list") (T := "list") B.isinstance B.list (by decide +kernel) (EV.var 0 rfl) (ty_list hp) (by decide +kernel))) (fun _ => EL.is (ys := ns.map V.int) (LC.list (j := 1) (fun i => .int (ns.getD i 0)) nd (blkOk_by (N := n_law_copied) (sc := defScope s_law_copied) (by decide +kernel)) (EV.var 0 rfl) hp (by simp; omega) (fun i y Ha ea hi s0 H0 C0 cl fp => ?_)).el ?_) (fun z => nomatch z)) fun q H1 nq e1 hq => k q H1 nq e1 hq
    · obtain ⟨rfl, _⟩ := at_map hi
      exact EV.call C hr (AV.one (EV.var 1 rfl)) (fun H1 e1 Q q _ => ⟨_, rfl, q⟩)
    · rw [List.length_map]
      apply List.ext_getElem
      · simp
      · intro i h1 h2
        simp at h1 h2 ⊢
        rw [List.getElem?_eq_getElem h1]
        rfl
theorem ok_copied2 {f : Addr} {fd : FuncData} (F : Fun K "_law_copied" "_law_copied" s_law_copied f fd) (B : Bl mg) (C : Fc P w K mg base 2 "_law_copied" (spCp1 K)) : FnOk P w K mg base (L2.CX P w) 3 f fd ["_law_thing"] (spCp2 K) := by
  refine okB F sc_law_copied (fun vs H Q E h => ?_) (fun cdv Ar outer s H vs Q E hr h => ?_)
  · obtain ⟨p, p1, p2, ns, ms, rfl, _⟩ := h
    rfl
  · obtain ⟨p, p1, p2, ns, ms, rfl, hp, h1, h2, l1, l2, k⟩ := h
    have nd := sc_law_copied.nd
    refine BW.retW (EW.of (pe_ifExp pt_self pe_self pe_self) ((TV.val (EV.isT (k := true) (n := "list") (T := "list") B.isinstance B.list (by decide +kernel) (EV.var 0 rfl) (ty_list hp) (by decide +kernel))).go fun H1 e1 => ?_))
    refine EW.of (pe_lc (own := [("_law_one", 1)]) rfl nd (pi_list pe_self) (blkOk_by (N := n_law_copied) (sc := defScope s_law_copied) (by decide +kernel)) (fun _ _ _ _ _ => pg_name (i := 1) nd rfl (Or.inl rfl)) (fun _ _ _ _ _ => pts_nil) (fun _ _ _ _ _ => pe_selfb) (fun _ => rfl)) ?_
    refine (EV.var (pos := _) 0 rfl).ev H1 (Ex.refl H1) _ fun H2 e2 => ⟨p, rfl, ⟨_, ex_l (e1.trans e2) hp⟩, fun Dl hD => ?_⟩
    have e12 := e1.trans e2
    have nD0 : H Dl = none := fresh_back e12 hD
    refine lc_list (xs := [.ref p1, .ref p2]) (fun i H' => Ex H (hide H' Dl) ∧ (i = 0 → H' Dl = some (.lst [])) ∧ (i = 1 → ∃ q1, H q1 = none ∧ Dl ≠ q1 ∧ H' q1 = some (.lst (ns.map V.int)) ∧ H' Dl = some (.lst [.ref q1])) ∧ (i = 2 → ∃ q1 q2, H q1 = none ∧ H q2 = none ∧ q1 ≠ q2 ∧ Dl ≠ q1 ∧ Dl ≠ q2 ∧ H' q1 = some (.lst (ns.map V.int)) ∧ H' q2 = some (.lst (ms.map V.int)) ∧ H' Dl = some (.lst [.ref q1, .ref q2])))
      ⟨ex_hide (e12.trans (Ex.new hD)) nD0, fun _ => upd_same, (fun z => nomatch z), (fun z => nomatch z)⟩ (fun i H' _ pv => ex_l (pv.1.trans hide_ex) hp) ?_ ?_
    · rintro i x H3 hi ⟨ex, a0, a1, _⟩
      have ex' := ex.trans hide_ex
      match i, hi with
      | 0, hi =>
        cases hi
        refine ⟨rfl, ?_⟩
        intro s0 H0 C0 cl fp
        refine (EL.call (xs := ns.map V.int) C hr (AV.one (EV.var 1 rfl)) (fun H1 e1 Q q _ => ⟨p1, ns, rfl, ex_l (ex'.trans e1) h1, l1, q⟩)).go fun q H4 nq e4 hq => ⟨[], e4 _ _ (a0 rfl), by decide, ?_⟩
        have hne : Dl ≠ q := fun z => by rw [← z, a0 rfl] at nq; cases nq
        refine ⟨?_, (fun z => nomatch z), (fun _ => ⟨q, fresh_back ex' nq, hne, ?_, upd_same⟩), (fun z => nomatch z)⟩
        · rw [hide_upd]
          exact ex.trans (hide_mono e4)
        · rw [upd_ne (Ne.symm hne)]
          exact hq
      | 1, hi =>
        cases hi
        obtain ⟨q1, n1, d1, hq1, hD1⟩ := a1 rfl
        refine ⟨rfl, ?_⟩
        intro s0 H0 C0 cl fp
        refine (EL.call (xs := ms.map V.int) C hr (AV.one (EV.var 1 rfl)) (fun H1 e1 Q q _ => ⟨p2, ms, rfl, ex_l (ex'.trans e1) h2, l2, q⟩)).go fun q H4 nq e4 hq => ⟨[.ref q1], e4 _ _ hD1, Nat.lt_of_lt_of_le (Nat.lt_succ_self 1) (by decide), ?_⟩
        have hne : Dl ≠ q := fun z => by rw [← z, hD1] at nq; cases nq
        have hne1 : q1 ≠ q := fun z => by rw [← z, hq1] at nq; cases nq
        refine ⟨?_, (fun z => nomatch z), (fun z => nomatch z), (fun _ => ⟨q1, q, n1, fresh_back ex' nq, hne1, d1, hne, ?_, ?_, upd_same⟩)⟩
        · rw [hide_upd]
          exact ex.trans (hide_mono e4)
        · rw [upd_ne (Ne.symm d1)]
          exact e4 _ _ hq1
        · rw [upd_ne (Ne.symm hne)]
          exact hq
    · rintro H3 ⟨ex, _, _, a2⟩
      obtain ⟨q1, q2, n1, n2, hne, d1, d2, hq1, hq2, hD3⟩ := a2 rfl
      exact k Dl q1 q2 H3 nD0 n1 n2 hne d1 d2 (ex.trans hide_ex) hD3 hq1 hq2
/-! ### _law_spoiled, of a flat list -/
def spSpoil : Sp := fun vs H Q _ => ∃ (p : Addr) (ns : List Int), vs = [.ref p] ∧ H p = some (.lst (ns.map V.int)) ∧ ns.length ≤ 1000 ∧ ∀ H', Ex (hide H p) H' → Q .non H'
theorem ok_spoiled {f : Addr} {fd : FuncData} (F : Fun K "_law_spoiled" "_law_spoiled" s_law_spoiled f fd) (B : Bl mg) : FnOk P w K mg base (L2.CX P w) 1 f fd ["_law_thing"] spSpoil := by
  refine okB F sc_law_spoiled (fun vs H Q E h => ?_) (fun cdv Ar outer s H vs Q E hr h => ?_)
  · obtain ⟨p, ns, rfl, _⟩ := h
    rfl
  · obtain ⟨p, ns, rfl, hp, hl, k⟩ := h
    have nd := sc_law_spoiled.nd
    refine BW.forL (xs := ns.map V.int) (EV.var 0 rfl) (sq_of hp) (pg_name (i := 1) nd rfl (Or.inl rfl)) (fun i σ' H' => Ex H H' ∧ ∃ y, σ' = [some (.ref p), y]) (fun H1 e1 => ⟨e1, _, rfl⟩) (fun i σ' H' _ pv => sq_of (pv.1 _ _ hp)) ?_ ?_
    · rintro i x σ' H1 hi ⟨e1, y, rfl⟩
      obtain ⟨rfl, _⟩ := at_map hi
      show BW _ _ _ [some (.ref p), some (.int (ns.getD i 0))] H1
      exact BW.skip (TV.val (EV.isT (n := "int") (T := "list") B.isinstance B.list (by decide +kernel) (EV.var 1 rfl) (.base (.int _)) (by decide +kernel))) fun H2 e2 => BW.nil ⟨e1.trans e2, _, rfl⟩
    · rintro σ' H1 ⟨e1, y, rfl⟩
      refine BW.app (e1 _ _ hp) (EV.var 0 rfl) EV.int (by rw [List.length_map]; omega) fun H2 e2 => ?_
      refine BW.reverse upd_same (EV.var 0 rfl) fun H3 e3 => BW.nil (k _ ?_)
      refine Ex.trans ?_ hide_out
      refine Ex.trans ?_ (hide_mono e3)
      rw [hide_upd]
      exact hide_mono (e1.trans e2)
/-! ### _law_laid -/
def spLaid1 (K : PySem.W.Frag) : Sp := fun vs H Q _ => ∃ (p q : Addr) (ms ns : List Int), vs = [.ref p, .ref q] ∧ H p = some (.lst (ms.map V.int)) ∧ SqL K H q (ns.map V.int) ∧ q ≠ p ∧ ms.length = ns.length ∧ ∀ H', Ex (hide H p) H' → H' p = some (.lst (ns.map V.int)) → Q .non H'
theorem ok_laid1 {f : Addr} {fd : FuncData} (F : Fun K "_law_laid" "_law_laid" s_law_laid f fd) (B : Bl mg) (C : Fc P w K mg base 1 "_law_copied" spCp0) : FnOk P w K mg base (L2.CX P w) 2 f fd ["_law_mine", "_law_other"] (spLaid1 K) := by
  refine okB F sc_law_laid (fun vs H Q E h => ?_) (fun cdv Ar outer s H vs Q E hr h => ?_)
  · obtain ⟨p, q, ms, ns, rfl, _⟩ := h
    rfl
  · obtain ⟨p, q, ms, ns, rfl, hp, hq, hne, hl, k⟩ := h
    have nd := sc_law_laid.nd
    refine BW.whileNo (TV.is (TV.gt (EV.len B.len (EV.var 0 rfl) (sq_of hp)) (EV.len B.len (EV.var 1 rfl) hq)) (by simp [hl])) fun H1 e1 => ?_
    refine BW.forE 2 3 B.enumerate nd (EV.var 1 rfl) (ex_l e1 hq) (fun i σ' H' => Ex (hide H p) H' ∧ H' p = some (.lst ((ns.take i ++ ms.drop i).map V.int)) ∧ ∃ y2 y3, σ' = [some (.ref p), some (.ref q), y2, y3]) (fun H2 e2 => ⟨hide_ex.trans (e1.trans e2), by rw [List.take_zero, List.drop_zero, List.nil_append]; exact (e1.trans e2) _ _ hp, _, _, rfl⟩) (fun i σ' H' _ pv => ex_l pv.1 (sq_hide hq hne)) ?_ ?_
    · rintro i y σ' H2 H3 hi ⟨ex, hp2, y2, y3, rfl⟩ e3 _
      obtain ⟨rfl, hil⟩ := at_map hi
      show BW _ _ _ [some (.ref p), some (.ref q), some (.int (i : Nat)), some (.int (ns.getD i 0))] H3
      have hp3 := e3 _ _ hp2
      have hlen : ((((ns.take i ++ ms.drop i).map V.int).length : Nat) : Int) = (ns.length : Int) := by
        simp
        omega
      refine BW.ite (k := false) (TV.is (TV.eq (EV.var 2 rfl) (EV.isI (EV.len B.len (EV.var 0 rfl) (sq_of hp3)) hlen)) (decide_eq_false (by omega))) (fun z => nomatch z) fun _ H4 e4 => ?_
      refine BW.ite (k := false) (TV.is (TV.and2 (k2 := false) (TV.val (EV.isT (k := false) (n := "int") (T := "list") B.isinstance B.list (by decide +kernel) (EV.var 3 rfl) (.base (.int _)) (by decide +kernel))) (fun z => nomatch z)) rfl) (fun z => nomatch z) fun _ H5 e5 => ?_
      have e35 := e4.trans e5
      have hp5 := e35 _ _ hp3
      refine BW.setL (j := i) hp5 (EV.call C hr (AV.one (EV.var 3 rfl)) (fun H1 e1 Q q _ => ⟨_, rfl, q⟩)) (EV.var 0 rfl) (EV.var 2 rfl) (by simp; omega) fun H6 e6 => BW.nil (BW.nil (BW.nil ⟨?_, ?_, _, _, rfl⟩))
      · refine Ex.trans ?_ hide_out
        have : Ex (hide H p) (hide H2 p) := fun b o hb => by
          by_cases hbp : b = p
          · subst hbp
            exact absurd hb (by simp [hide])
          · rw [hide_at hbp]
            exact ex b o hb
        exact this.trans (hide_mono ((e3.trans e35).trans e6))
      · rw [upd_same]
        congr 2
        have : ((ns.take i ++ ms.drop i).map V.int).set i (V.int (ns.getD i 0)) = ((ns.take i ++ ms.drop i).set i (ns.getD i 0)).map V.int := by rw [List.map_set]
        rw [this]
        congr 1
        apply List.ext_getElem
        · simp
          omega
        · intro j h1 h2
          simp only [List.length_set, List.length_append, List.length_take, List.length_drop] at h1 h2
          rw [List.getElem_set]
          split
          · rename_i hij
            subst hij
            rw [List.getElem_append_left (by simp; omega), List.getElem_take, List.getD_eq_getElem?_getD, List.getElem?_eq_getElem hil]
            rfl
          · rename_i hij
            by_cases hj : j < i
            · rw [List.getElem_append_left (by simp; omega), List.getElem_append_left (by simp; omega), List.getElem_take, List.getElem_take]
            · rw [List.getElem_append_right (by simp; omega), List.getElem_append_right (by simp; omega), List.getElem_drop, List.getElem_drop]
              congr 1
              simp
              omega
    · rintro σ' H2 ⟨ex, hp2, y2, y3, rfl⟩
      rw [List.length_map, List.take_length, List.drop_eq_nil_of_le (by omega), List.append_nil] at hp2
      exact BW.nil (k H2 ex hp2)
end
end QR

namespace QR
open PySem PySem.Spec PyProof.Rows L2 Evl LamX
/-! ### the promise of a lambda that captures nothing -/
structure Lk (P : Program) (w : World) (K : PySem.W.Frag) (mg : Str → Option Value) (base : Heap) (k : Nat) (F : LF) (sp : Sp) : Prop where
  cl : F.cl = []
  ex : ∃ N ps : List Str, FnScope N ps F.scope ∧ (∀ us pm ctv, us.length = ps.length → bindArgs (F.fd pm ctv) ⟨us, []⟩ = pure (ps.zip us)) ∧ (∀ vs H Q E, sp vs H Q E → vs.length = ps.length) ∧
    ∀ (f : Addr) (A : Around) (outer : List Env) (s : Shared) (H : Hp) (vs : List V) (Q : VK) (E : XK), Room k (A.deeper (envOfC F.qual F.scope s.heap.objs.size f (.ref F.c))) → sp vs H Q E → EW (cxOf (L2.CX P w) P w K mg base N F.qual F.scope f (.ref F.c) A outer s H E) F.body (start N vs) H Q
def Hl (H : Hp) (f : Addr) (F : LF) : Prop := H f = some (LmO f F) ∧ H F.c = some (CodeO F.c F.qual)
theorem Hl.mono {H H' : Hp} {f : Addr} {F : LF} (h : Hl H f F) (e : Ex H H') : Hl H' f F := ⟨e _ _ h.1, e _ _ h.2⟩
theorem Hl.extN {H H' : Hp} {f : Addr} {F : LF} (h : Hl H f F) (e : ExtN H H') : Hl H' f F := ⟨e _ _ h.1 lmO_ne, e _ _ h.2 codeO_ne⟩
section
variable {X : Cx} {e : Expr} {es : List Expr} {σ : L2.St} {H : Hp} {Q : VK} {p pos : Pos} {x : Str} {k j : Nat} {ss : List Sh} {xs : List V} {z : V}
theorem EW.callK {F : LF} {f : Addr} {sp : Sp} (i : Nat) (L : Lk X.prog X.w X.K X.mg X.base k F sp) (hr : Room j X.A) (hs : σ[i]? = some (some (.ref f))) (hf : Hl H f F) (ha : AX X (e :: es) σ H ss) (hv : ∀ vs H1, Ex H H1 → IsAll X.K H1 vs ss → sp vs H1 Q E0)
    (hk : k + 1 ≤ j := by decide) (hN : X.N[i]? = some x := by rfl) (hvs : Vis X.env.scope x := by first | exact Or.inl rfl | exact Or.inr (Or.inl rfl) | exact Or.inr (Or.inr rfl)) (hst : (e :: es).all noStar = true := by rfl) (hd : (x == ("__debug__" : Str)) = false := by decide) (hcd : (x == ("__classdict__" : Str)) = false := by decide) :
    EW X (.Call (.Name x p) (e :: es) [] pos) σ H Q := by
  obtain ⟨N, ps, S, hb, len, body⟩ := L.ex
  exact EW.callLam (k := k) (W := fun _ _ _ _ => False) i S hr hs L.cl LamX.takes0 (fun us pm ctv h => hb us pm ctv h) (ha.ev H (Ex.refl H) _ fun vs H1 e1 hvs => ⟨len _ _ _ _ (hv vs H1 e1 hvs), (hf.mono e1).1, (hf.mono e1).2, fun A outer s hr' => body f A outer s H1 vs Q _ hr' (hv vs H1 e1 hvs)⟩) hf.1 hk hN hvs hst hd hcd
theorem EL.callK {F : LF} {f : Addr} {sp : Sp} (i : Nat) (L : Lk X.prog X.w X.K X.mg X.base k F sp) (hr : Room j X.A) (hs : σ[i]? = some (some (.ref f))) (hf : Hl H f F) (ha : AX X (e :: es) σ H ss) (hv : ∀ vs H1, Ex H H1 → IsAll X.K H1 vs ss → SpL sp vs H1 xs)
    (hk : k + 1 ≤ j := by decide) (hN : X.N[i]? = some x := by rfl) (hvs : Vis X.env.scope x := by first | exact Or.inl rfl | exact Or.inr (Or.inl rfl) | exact Or.inr (Or.inr rfl)) (hst : (e :: es).all noStar = true := by rfl) (hd : (x == ("__debug__" : Str)) = false := by decide) (hcd : (x == ("__classdict__" : Str)) = false := by decide) :
    EL X (.Call (.Name x p) (e :: es) [] pos) σ H xs := ⟨fun H1 e1 Q q => EW.callK i L hr hs (hf.mono e1) ⟨fun H2 e2 => ha.ev H2 (e1.trans e2)⟩ (fun vs H2 e2 hvs => hv vs H2 (e1.trans e2) hvs H2 (Ex.refl H2) Q (fun r H3 nr e3 h3 => q r H3 (fresh_back e2 nr) (e2.trans e3) h3) E0) hk hN hvs hst hd hcd⟩
theorem EV.callK {F : LF} {f : Addr} {sp : Sp} (i : Nat) (L : Lk X.prog X.w X.K X.mg X.base k F sp) (hr : Room j X.A) (hs : σ[i]? = some (some (.ref f))) (hf : Hl H f F) (ha : AX X (e :: es) σ H ss) (hv : ∀ vs H1, Ex H H1 → IsAll X.K H1 vs ss → SpV sp vs H1 z)
    (hk : k + 1 ≤ j := by decide) (hN : X.N[i]? = some x := by rfl) (hvs : Vis X.env.scope x := by first | exact Or.inl rfl | exact Or.inr (Or.inl rfl) | exact Or.inr (Or.inr rfl)) (hst : (e :: es).all noStar = true := by rfl) (hd : (x == ("__debug__" : Str)) = false := by decide) (hcd : (x == ("__classdict__" : Str)) = false := by decide) :
    EV X (.Call (.Name x p) (e :: es) [] pos) σ H z := ⟨fun H1 e1 Q q => EW.callK i L hr hs (hf.mono e1) ⟨fun H2 e2 => ha.ev H2 (e1.trans e2)⟩ (fun vs H2 e2 hvs => hv vs H2 (e1.trans e2) hvs H2 (Ex.refl H2) Q (fun H3 e3 => q H3 (e2.trans e3)) E0) hk hN hvs hst hd hcd⟩
theorem EI.callK {F : LF} {f C : Addr} {fs : List (Str × V)} {sp : Sp} (i : Nat) (L : Lk X.prog X.w X.K X.mg X.base k F sp) (hr : Room j X.A) (hs : σ[i]? = some (some (.ref f))) (hf : Hl H f F) (ha : AX X (e :: es) σ H ss) (hv : ∀ vs H1, Ex H H1 → IsAll X.K H1 vs ss → SpI sp vs H1 C fs)
    (hk : k + 1 ≤ j := by decide) (hN : X.N[i]? = some x := by rfl) (hvs : Vis X.env.scope x := by first | exact Or.inl rfl | exact Or.inr (Or.inl rfl) | exact Or.inr (Or.inr rfl)) (hst : (e :: es).all noStar = true := by rfl) (hd : (x == ("__debug__" : Str)) = false := by decide) (hcd : (x == ("__classdict__" : Str)) = false := by decide) :
    EI X (.Call (.Name x p) (e :: es) [] pos) σ H C fs := ⟨fun H1 e1 Q q => EW.callK i L hr hs (hf.mono e1) ⟨fun H2 e2 => ha.ev H2 (e1.trans e2)⟩ (fun vs H2 e2 hvs => hv vs H2 (e1.trans e2) hvs H2 (Ex.refl H2) Q (fun r dx H3 nr e3 h3 => q r dx H3 (fresh_back e2 nr) (e2.trans e3) h3) E0) hk hN hvs hst hd hcd⟩
end
/-- a lambda over one list -/
def spAsk (K : PySem.W.Frag) (out : List Int → List Int) (ok : List Int → Prop) : Sp := fun vs H Q _ => ∃ (p : Addr) (ns : List Int), vs = [.ref p] ∧ SqL K H p (ns.map V.int) ∧ ok ns ∧ RetL ((out ns).map V.int) H Q
theorem sl_ask {K : PySem.W.Frag} {out : List Int → List Int} {ok : List Int → Prop} {H : Hp} {p : Addr} {ns : List Int} (h : SqL K H p (ns.map V.int)) (ho : ok ns) : SpL (spAsk K out ok) [.ref p] H ((out ns).map V.int) := fun H1 e1 Q q _ => ⟨p, ns, rfl, ex_l e1 h, ho, q⟩
section
variable {X : Cx} {a : Expr} {σ : L2.St} {H : Hp} {p pos : Pos} {x : Str} {k j : Nat} {ns : List Int}
theorem EL.ask {F : LF} {f : Addr} {out : List Int → List Int} {ok : List Int → Prop} (i : Nat) (L : Lk X.prog X.w X.K X.mg X.base k F (spAsk X.K out ok)) (hr : Room j X.A) (hs : σ[i]? = some (some (.ref f))) (hf : Hl H f F) (ha : EX X a σ H (Sh.ints ns)) (ho : ok ns)
    (hk : k + 1 ≤ j := by decide) (hN : X.N[i]? = some x := by rfl) (hvs : Vis X.env.scope x := by first | exact Or.inl rfl | exact Or.inr (Or.inl rfl) | exact Or.inr (Or.inr rfl)) (hst : [a].all noStar = true := by rfl) (hd : (x == ("__debug__" : Str)) = false := by decide) (hcd : (x == ("__classdict__" : Str)) = false := by decide) :
    EL X (.Call (.Name x p) [a] [] pos) σ H ((out ns).map V.int) := EL.callK i L hr hs hf (AX.one ha) (fun vs H1 e1 hvs => by
      obtain ⟨u, rfl, hu⟩ := hvs.one
      obtain ⟨r, rfl, hr⟩ := hu.ofInts
      exact sl_ask hr ho) hk hN hvs hst hd hcd
theorem EL.cp1 (C : Fc X.prog X.w X.K X.mg X.base 2 "_law_copied" (spCp1 X.K)) (hr : Room j X.A) (ha : EX X a σ H (Sh.ints ns)) (hl : ns.length ≤ 1000) (hk : 2 ≤ j := by decide) (hg : Gl X "_law_copied" := by rfl) (hst : [a].all noStar = true := by rfl) : EL X (.Call (.Name "_law_copied" p) [a] [] pos) σ H (ns.map V.int) :=
  EL.callA C hr (AX.one ha) (fun vs H1 e1 hvs => by
    obtain ⟨u, rfl, hu⟩ := hvs.one
    obtain ⟨r, rfl, hr⟩ := hu.ofInts
    exact fun H2 e2 Q q _ => ⟨r, ns, rfl, ex_l e2 hr, hl, q⟩) hk hg hst
end
theorem ne_of_lst {H : Hp} {a b : Addr} {xs : List V} (ha : H a = none) (hb : H b = some (.lst xs)) : b ≠ a := fun z => by
  rw [z, ha] at hb
  cases hb
/-! ### _law_door_right, lists of whole numbers -/
def spDoor1 (P : Program) (w : World) (K : PySem.W.Frag) (mg : Str → Option Value) (base : Heap) : Sp := fun vs H Q _ => ∃ (f p q : Addr) (F : LF) (out : List Int → List Int) (ok : List Int → Prop) (ns ms : List Int), vs = [.ref f, .ref p, .ref q] ∧ Hl H f F ∧ Lk P w K mg base 4 F (spAsk K out ok) ∧ H p = some (.lst (ns.map V.int)) ∧ H q = some (.lst (ms.map V.int)) ∧ ns.length = ms.length ∧ ns.length ≤ 1000 ∧ ok ns ∧ ok ms ∧ (out ns).length ≤ 1000 ∧ RetV (.bl true) H Q
section
variable {P : Program} {w : World} {K : PySem.W.Frag} {mg : Str → Option Value} {base : Heap}
theorem ok_door1 {f : Addr} {fd : FuncData} (F : Fun K "_law_door_right" "_law_door_right" s_law_door_right f fd) (B : Bl mg) (C1 : Fc P w K mg base 2 "_law_copied" (spCp1 K)) (Cs : Fc P w K mg base 1 "_law_spoiled" spSpoil) (Cl : Fc P w K mg base 2 "_law_laid" (spLaid1 K)) : FnOk P w K mg base (L2.CX P w) 6 f fd ["_law_ask", "_law_one", "_law_other"] (spDoor1 P w K mg base) := by
  refine okB F sc_law_door_right (fun vs H Q E h => ?_) (fun cdv Ar outer s H vs Q E hr h => ?_)
  · obtain ⟨f', p, q, F', out, ok, ns, ms, rfl, _⟩ := h
    rfl
  · obtain ⟨f', p, q, F', out, ok, ns, ms, rfl, hf, L, hp, hq, hl, hl2, on, om, ol, k⟩ := h
    have nd := sc_law_door_right.nd
    refine BW.asgL 3 nd (EL.cp1 C1 hr (EX.var 1 rfl (Is.ints (sq_of hp))) hl2) fun l H1 nl e1 hl1 => ?_
    refine BW.asgL 4 nd (EL.ask 0 L hr rfl (hf.mono e1) (EX.var 3 rfl (Is.ints (sq_of hl1))) on) fun g H2 ng e2 hg2 => ?_
    have lg : l ≠ g := ne_of_lst ng hl1
    have e12 := e1.trans e2
    refine BW.skip (TV.is (TV.neL (ns := ns) (ms := ns) hr (ES.old (EV.var 3 rfl) (sq_of (e2 _ _ hl1))) (ES.old (EV.var 1 rfl) (sq_of (e12 _ _ hp)))) (by simp)) fun H3 e3 => ?_
    have e13 := e12.trans e3
    have e23 := e2.trans e3
    refine BW.asgL 5 nd (EL.cp1 C1 hr (EX.var 4 rfl (Is.ints (sq_of (e3 _ _ hg2)))) ol) fun b H4 nb e4 hb4 => ?_
    have gb : g ≠ b := ne_of_lst nb (e3 _ _ hg2)
    have lb : l ≠ b := ne_of_lst nb (e23 _ _ hl1)
    have e14 := e13.trans e4
    refine BW.exprW (EW.call Cs hr ((AV.one (EV.var 4 rfl)).ev H4 (Ex.refl H4) _ fun H5 e5 => ⟨g, out ns, rfl, (e3.trans (e4.trans e5)) _ _ hg2, ol, fun H6 ex6 => ?_⟩))
    have ng0 : H g = none := fresh_back e1 ng
    have x6 : Ex H H6 := (ex_hide (e14.trans e5) ng0).trans ex6
    have hl6 : H6 l = some (.lst (ns.map V.int)) := ex_hide_of ex6 lg ((e23.trans (e4.trans e5)) _ _ hl1)
    have hb6 : H6 b = some (.lst ((out ns).map V.int)) := ex_hide_of ex6 (Ne.symm gb) (e5 _ _ hb4)
    refine BW.skip (TV.is (TV.neL (ns := out ns) (ms := out ns) hr (ES.new (EL.ask 0 L hr rfl (hf.mono x6) (EX.var 3 rfl (Is.ints (sq_of hl6))) on)) (ES.old (EV.var 5 rfl) (sq_of hb6))) (by simp)) fun H7 e7 => ?_
    have ql : q ≠ l := ne_of_lst nl hq
    have pl : p ≠ l := ne_of_lst nl hp
    refine BW.exprW (EW.call Cl hr ((AV.two (EV.var 3 rfl) (EV.var 2 rfl)).ev H7 (Ex.refl H7) _ fun H8 e8 => ⟨l, q, ns, ms, rfl, (e7.trans e8) _ _ hl6, sq_of ((x6.trans (e7.trans e8)) _ _ hq), ql, hl, fun H9 ex9 hl9 => ?_⟩))
    have x9 : Ex H H9 := (ex_hide (x6.trans (e7.trans e8)) nl).trans ex9
    have hb9 : H9 b = some (.lst ((out ns).map V.int)) := ex_hide_of ex9 (Ne.symm lb) ((e7.trans e8) _ _ hb6)
    refine BW.skip (TV.is (TV.or2 (TV.neL (ns := out ms) (ms := out ms) hr (ES.new (EL.ask 0 L hr rfl (hf.mono x9) (EX.var 3 rfl (Is.ints (sq_of hl9))) om)) (ES.new (EL.ask 0 L hr rfl (hf.mono x9) (EX.newI (EL.cp1 C1 hr (EX.var 2 rfl (Is.ints (sq_of (x9 _ _ hq)))) (by omega))) om))) (fun _ => TV.neL (ns := ms) (ms := ms) hr (ES.old (EV.var 3 rfl) (sq_of hl9)) (ES.old (EV.var 2 rfl) (sq_of (x9 _ _ hq))))) (by simp)) fun H10 e10 => ?_
    refine BW.exprW (EW.call Cl hr ((AV.two (EV.var 3 rfl) (EV.var 1 rfl)).ev H10 (Ex.refl H10) _ fun H11 e11 => ⟨l, p, ms, ns, rfl, (e10.trans e11) _ _ hl9, sq_of ((x9.trans (e10.trans e11)) _ _ hp), pl, hl.symm, fun H12 ex12 hl12 => ?_⟩))
    have x12 : Ex H H12 := (ex_hide (x9.trans (e10.trans e11)) nl).trans ex12
    have hb12 : H12 b = some (.lst ((out ns).map V.int)) := ex_hide_of ex12 (Ne.symm lb) ((e10.trans e11) _ _ hb9)
    exact BW.ret (EV.isB (j := true) (EV.and2 (EV.eqL (ns := out ns) (ms := out ns) hr (ES.new (EL.ask 0 L hr rfl (hf.mono x12) (EX.var 3 rfl (Is.ints (sq_of hl12))) on)) (ES.old (EV.var 5 rfl) (sq_of hb12))) (fun _ => EV.eqL (ns := ns) (ms := ns) hr (ES.old (EV.var 3 rfl) (sq_of hl12)) (ES.old (EV.var 1 rfl) (sq_of (x12 _ _ hp))))) (by simp)) fun H13 e13' => k H13 (x12.trans e13')
end
end QR

namespace QR
open PySem PySem.Spec PyProof.Rows L2 Evl LamX
/-! ### a list of two lists of whole numbers, all known -/
structure Pr (H : Hp) (p p1 p2 : Addr) (xs ys : List Int) : Prop where
  h : H p = some (.lst [.ref p1, .ref p2])
  h1 : H p1 = some (.lst (xs.map V.int))
  h2 : H p2 = some (.lst (ys.map V.int))
theorem Pr.mono {H H' : Hp} {p p1 p2 : Addr} {xs ys : List Int} (h : Pr H p p1 p2 xs ys) (e : Ex H H') : Pr H' p p1 p2 xs ys := ⟨e _ _ h.h, e _ _ h.h1, e _ _ h.h2⟩
theorem Pr.is {K : PySem.W.Frag} {H : Hp} {p p1 p2 : Addr} {xs ys : List Int} (h : Pr H p p1 p2 xs ys) : Is K H (.ref p) (.lst ([xs, ys].map Sh.ints)) := .lst (sq_of h.h) (.cons (Is.ints (sq_of h.h1)) (.cons (Is.ints (sq_of h.h2)) .nil))
/-- apart from the two that are changed -/
theorem hide2_of {H H' : Hp} {a b : Addr} (e : Ex (hide (hide H a) b) H') {c : Addr} {o : HO} (h1 : c ≠ a) (h2 : c ≠ b) (h : H c = some o) : H' c = some o := e c o (by rw [hide_at h2, hide_at h1]; exact h)
def spLaid2 (K : PySem.W.Frag) : Sp := fun vs H Q _ => ∃ (p p1 p2 q q1 q2 : Addr) (xs ys xs' ys' : List Int), vs = [.ref p, .ref q] ∧ Pr H p p1 p2 xs ys ∧ Pr H q q1 q2 xs' ys' ∧ p1 ≠ p2 ∧ p ≠ p1 ∧ p ≠ p2 ∧ q ≠ p1 ∧ q ≠ p2 ∧ q1 ≠ p1 ∧ q1 ≠ p2 ∧ q2 ≠ p1 ∧ q2 ≠ p2 ∧ xs.length = xs'.length ∧ ys.length = ys'.length ∧
  ∀ H', Ex (hide (hide H p1) p2) H' → H' p1 = some (.lst (xs'.map V.int)) → H' p2 = some (.lst (ys'.map V.int)) → Q .non H'
section
variable {P : Program} {w : World} {K : PySem.W.Frag} {mg : Str → Option Value} {base : Heap}
theorem hide2_step {H H2 H3 H' : Hp} {a b : Addr} (e : Ex (hide (hide H a) b) H2) (e3 : Ex H2 H3) (e' : Ex (hide H3 a) H') : Ex (hide (hide H a) b) H' := fun c o hc => by
  by_cases h2 : c = b
  · subst h2
    exact absurd hc (by simp [hide])
  · have hc' := hc
    rw [hide_at h2] at hc'
    by_cases h1 : c = a
    · subst h1
      exact absurd hc' (by simp [hide])
    · exact e' c o (by rw [hide_at h1]; exact e3 _ _ (e c o hc))
theorem hide2_step' {H H2 H3 H' : Hp} {a b : Addr} (e : Ex (hide (hide H a) b) H2) (e3 : Ex H2 H3) (e' : Ex (hide H3 b) H') : Ex (hide (hide H a) b) H' := fun c o hc => by
  by_cases h2 : c = b
  · subst h2
    exact absurd hc (by simp [hide])
  · exact e' c o (by rw [hide_at h2]; exact e3 _ _ (e c o hc))
theorem ok_laid2 {f : Addr} {fd : FuncData} (F : Fun K "_law_laid" "_law_laid" s_law_laid f fd) (B : Bl mg) (C : Fc P w K mg base 2 "_law_laid" (spLaid1 K)) : FnOk P w K mg base (L2.CX P w) 3 f fd ["_law_mine", "_law_other"] (spLaid2 K) := by
  refine okB F sc_law_laid (fun vs H Q E h => ?_) (fun cdv Ar outer s H vs Q E hr h => ?_)
  · obtain ⟨p, p1, p2, q, q1, q2, xs, ys, xs', ys', rfl, _⟩ := h
    rfl
  · obtain ⟨p, p1, p2, q, q1, q2, xs, ys, xs', ys', rfl, hp, hq, n12, np1, np2, nq1, nq2, n11, n1_2, n21, n22, lx, ly, k⟩ := h
    have nd := sc_law_laid.nd
    refine BW.whileNo (TV.is (TV.gt (EV.len B.len (EV.var 0 rfl) (sq_of hp.h)) (EV.len B.len (EV.var 1 rfl) (sq_of hq.h))) (by simp)) fun H1 e1 => ?_
    refine BW.forE (xs := [.ref q1, .ref q2]) 2 3 B.enumerate nd (EV.var 1 rfl) (sq_of (e1 _ _ hq.h)) (fun i σ' H' => Ex (hide (hide H p1) p2) H' ∧ H' p1 = some (.lst ((if i = 0 then xs else xs').map V.int)) ∧ H' p2 = some (.lst ((if i = 2 then ys' else ys).map V.int)) ∧ ∃ y2 y3, σ' = [some (.ref p), some (.ref q), y2, y3])
      (fun H2 e2 => ⟨(hide_ex.trans hide_ex).trans (e1.trans e2), (e1.trans e2) _ _ hp.h1, (e1.trans e2) _ _ hp.h2, _, _, rfl⟩) (fun i σ' H' _ pv => sq_of (hide2_of pv.1 nq1 nq2 hq.h)) ?_ ?_
    · rintro i y σ' H2 H3 hi ⟨ex, h1, h2, y2, y3, rfl⟩ e3 _
      have ex3 : Ex (hide (hide H p1) p2) H3 := ex.trans e3
      have hp3 : H3 p = some (.lst [.ref p1, .ref p2]) := hide2_of ex3 np1 np2 hp.h
      have hq13 : H3 q1 = some (.lst (xs'.map V.int)) := hide2_of ex3 n11 n1_2 hq.h1
      have hq23 : H3 q2 = some (.lst (ys'.map V.int)) := hide2_of ex3 n21 n22 hq.h2
      match i, hi, h1, h2 with
      | 0, hi, h1, h2 =>
        cases hi
        show BW _ _ _ [some (.ref p), some (.ref q), some (.int ((0 : Nat) : Int)), some (.ref q1)] H3
        refine BW.ite (k := false) (TV.is (TV.eq (EV.var 2 rfl) (EV.len B.len (EV.var 0 rfl) (sq_of hp3))) rfl) (fun z => nomatch z) fun _ H4 e4 => ?_
        refine BW.ite (k := true) (TV.is (TV.and2 (k2 := true) (TV.val (EV.isT (k := true) (n := "list") (T := "list") B.isinstance B.list (by decide +kernel) (EV.var 3 rfl) (ty_list (sq_of (e4 _ _ hq13))) (by decide +kernel))) (fun _ => TV.val (EV.isT (x := .ref p1) (k := true) (n := "list") (T := "list") B.isinstance B.list (by decide +kernel) (EV.ixL (EV.var 0 rfl) (EV.var 2 rfl) (sq_of (e4 _ _ hp3)) rfl) (ty_list (sq_of ((e3.trans e4) _ _ h1))) (by decide +kernel)))) rfl) (fun _ H5 e5 => ?_) (fun z => nomatch z)
        have e45 := e4.trans e5
        refine BW.exprW (EW.call C hr ((AV.two (EV.ixL (v := .ref p1) (EV.var 0 rfl) (EV.var 2 rfl) (sq_of (e45 _ _ hp3)) rfl) (EV.var 3 rfl)).ev H5 (Ex.refl H5) _ fun H6 e6 => ⟨p1, q1, xs, xs', rfl, (e3.trans (e45.trans e6)) _ _ h1, sq_of ((e45.trans e6) _ _ hq13), n11, lx, fun H7 ex7 h7 => BW.nil (BW.nil (BW.nil ⟨hide2_step ex3 (e45.trans e6) ex7, h7, ?_, _, _, rfl⟩))⟩))
        exact ex_hide_of ex7 (Ne.symm n12) ((e3.trans (e45.trans e6)) _ _ h2)
      | 1, hi, h1, h2 =>
        cases hi
        show BW _ _ _ [some (.ref p), some (.ref q), some (.int ((1 : Nat) : Int)), some (.ref q2)] H3
        refine BW.ite (k := false) (TV.is (TV.eq (EV.var 2 rfl) (EV.len B.len (EV.var 0 rfl) (sq_of hp3))) rfl) (fun z => nomatch z) fun _ H4 e4 => ?_
        refine BW.ite (k := true) (TV.is (TV.and2 (k2 := true) (TV.val (EV.isT (k := true) (n := "list") (T := "list") B.isinstance B.list (by decide +kernel) (EV.var 3 rfl) (ty_list (sq_of (e4 _ _ hq23))) (by decide +kernel))) (fun _ => TV.val (EV.isT (x := .ref p2) (k := true) (n := "list") (T := "list") B.isinstance B.list (by decide +kernel) (EV.ixL (EV.var 0 rfl) (EV.var 2 rfl) (sq_of (e4 _ _ hp3)) rfl) (ty_list (sq_of ((e3.trans e4) _ _ h2))) (by decide +kernel)))) rfl) (fun _ H5 e5 => ?_) (fun z => nomatch z)
        have e45 := e4.trans e5
        refine BW.exprW (EW.call C hr ((AV.two (EV.ixL (v := .ref p2) (EV.var 0 rfl) (EV.var 2 rfl) (sq_of (e45 _ _ hp3)) rfl) (EV.var 3 rfl)).ev H5 (Ex.refl H5) _ fun H6 e6 => ⟨p2, q2, ys, ys', rfl, (e3.trans (e45.trans e6)) _ _ h2, sq_of ((e45.trans e6) _ _ hq23), n22, ly, fun H7 ex7 h7 => BW.nil (BW.nil (BW.nil ⟨hide2_step' ex3 (e45.trans e6) ex7, ?_, h7, _, _, rfl⟩))⟩))
        exact ex_hide_of ex7 n12 ((e3.trans (e45.trans e6)) _ _ h1)
    · rintro σ' H2 ⟨ex, h1, h2, y2, y3, rfl⟩
      exact BW.nil (k H2 ex h1 h2)
end
end QR

namespace QR
open PySem PySem.Spec PyProof.Rows L2 Evl LamX
/-- a lambda over a list of two lists -/
def spAsk2 (K : PySem.W.Frag) (ok : List Int → List Int → Prop) : Sp := fun vs H Q _ => ∃ (v : V) (xs ys : List Int), vs = [v] ∧ Is K H v (.lst ([xs, ys].map Sh.ints)) ∧ ok xs ys ∧ RetL ((prodL xs ys).map V.int) H Q
section
variable {X : Cx} {a b : Expr} {σ : L2.St} {H : Hp} {p pos : Pos} {x : Str} {k j : Nat} {xs ys : List Int}
theorem EL.ask2 {F : LF} {f : Addr} {ok : List Int → List Int → Prop} (i : Nat) (L : Lk X.prog X.w X.K X.mg X.base k F (spAsk2 X.K ok)) (hr : Room j X.A) (hs : σ[i]? = some (some (.ref f))) (hf : Hl H f F) (ha : EX X a σ H (.lst ([xs, ys].map Sh.ints))) (ho : ok xs ys)
    (hk : k + 1 ≤ j := by decide) (hN : X.N[i]? = some x := by rfl) (hvs : Vis X.env.scope x := by first | exact Or.inl rfl | exact Or.inr (Or.inl rfl) | exact Or.inr (Or.inr rfl)) (hst : [a].all noStar = true := by rfl) (hd : (x == ("__debug__" : Str)) = false := by decide) (hcd : (x == ("__classdict__" : Str)) = false := by decide) :
    EL X (.Call (.Name x p) [a] [] pos) σ H ((prodL xs ys).map V.int) := EL.callK i L hr hs hf (AX.one ha) (fun vs H1 e1 hvs => by
      obtain ⟨u, rfl, hu⟩ := hvs.one
      exact fun H2 e2 Q q _ => ⟨u, xs, ys, rfl, hu.ex e2, ho, q⟩) hk hN hvs hst hd hcd
theorem EX.cp2 {q q1 q2 : Addr} (C : Fc X.prog X.w X.K X.mg X.base 3 "_law_copied" (spCp2 X.K)) (hr : Room j X.A) (ha : EV X a σ H (.ref q)) (hq : Pr H q q1 q2 xs ys) (hx : xs.length ≤ 1000) (hy : ys.length ≤ 1000) (hk : 3 ≤ j := by decide) (hg : Gl X "_law_copied" := by rfl) (hst : [a].all noStar = true := by rfl) :
    EX X (.Call (.Name "_law_copied" p) [a] [] pos) σ H (.lst ([xs, ys].map Sh.ints)) := ⟨fun H1 e1 Q kq => EW.call C hr ((AV.one ha).ev H1 e1 _ fun H2 e2 => ⟨q, q1, q2, xs, ys, rfl, sq_of ((e1.trans e2) _ _ hq.h), sq_of ((e1.trans e2) _ _ hq.h1), sq_of ((e1.trans e2) _ _ hq.h2), hx, hy, fun l m1 m2 H3 nl n1 n2 _ _ _ e3 h h1 h2 => kq _ H3 (e2.trans e3) (Pr.is ⟨h, h1, h2⟩)⟩) hk hg hst⟩
theorem EV.eqLL {Ls Ms : List (List Int)} (hr : Room k X.A) (ha : EX X a σ H (.lst (Ls.map Sh.ints))) (hb : EX X b σ H (.lst (Ms.map Sh.ints))) : EV X (.Compare a [.Eq] [b] pos) σ H (.bl (decide (Ls = Ms))) := EV.isB (EV.eqD hr (ED.lists ha) (ED.lists hb) (shaped_lists _) (shaped_lists _)) (eqv_lists _ _)
end
/-! ### _law_door_right, the product's door -/
def spDoor2 (P : Program) (w : World) (K : PySem.W.Frag) (mg : Str → Option Value) (base : Heap) : Sp := fun vs H Q _ => ∃ (f p p1 p2 q q1 q2 : Addr) (F : LF) (ok : List Int → List Int → Prop) (xs ys xs' ys' : List Int), vs = [.ref f, .ref p, .ref q] ∧ Hl H f F ∧ Lk P w K mg base 4 F (spAsk2 K ok) ∧ Pr H p p1 p2 xs ys ∧ Pr H q q1 q2 xs' ys' ∧ xs.length = xs'.length ∧ ys.length = ys'.length ∧ xs.length ≤ 1000 ∧ ys.length ≤ 1000 ∧ ok xs ys ∧ ok xs' ys' ∧ (prodL xs ys).length ≤ 1000 ∧ RetV (.bl true) H Q
section
variable {P : Program} {w : World} {K : PySem.W.Frag} {mg : Str → Option Value} {base : Heap}
theorem ok_door2 {f : Addr} {fd : FuncData} (F : Fun K "_law_door_right" "_law_door_right" s_law_door_right f fd) (B : Bl mg) (C1 : Fc P w K mg base 2 "_law_copied" (spCp1 K)) (C2 : Fc P w K mg base 3 "_law_copied" (spCp2 K)) (Cs : Fc P w K mg base 1 "_law_spoiled" spSpoil) (Cl : Fc P w K mg base 3 "_law_laid" (spLaid2 K)) : FnOk P w K mg base (L2.CX P w) 6 f fd ["_law_ask", "_law_one", "_law_other"] (spDoor2 P w K mg base) := by
  refine okB F sc_law_door_right (fun vs H Q E h => ?_) (fun cdv Ar outer s H vs Q E hr h => ?_)
  · obtain ⟨f', p, p1, p2, q, q1, q2, F', ok, xs, ys, xs', ys', rfl, _⟩ := h
    rfl
  · obtain ⟨f', p, p1, p2, q, q1, q2, F', ok, xs, ys, xs', ys', rfl, hf, L, hp, hq, lx, ly, bx, by', on, om, ol, k⟩ := h
    have nd := sc_law_door_right.nd
    refine BW.asgW (i := 3) nd rfl (Or.inl rfl) (EW.call C2 hr ((AV.one (EV.var 1 rfl)).ev H (Ex.refl H) _ fun H0 e0 => ⟨p, p1, p2, xs, ys, rfl, sq_of (e0 _ _ hp.h), sq_of (e0 _ _ hp.h1), sq_of (e0 _ _ hp.h2), bx, by', fun l m1 m2 H1 nl n1 n2 n12 nl1 nl2 e01 hl1 hm1 hm2 => ?_⟩))
    have e1 : Ex H H1 := e0.trans e01
    have nl0 : H l = none := fresh_back e0 nl
    have n10 : H m1 = none := fresh_back e0 n1
    have n20 : H m2 = none := fresh_back e0 n2
    have pr1 : Pr H1 l m1 m2 xs ys := ⟨hl1, hm1, hm2⟩
    refine BW.asgL 4 nd (EL.ask2 0 L hr rfl (hf.mono e1) (EX.var 3 rfl pr1.is) on) fun g H2 ng e2 hg2 => ?_
    have lg : l ≠ g := ne_of_lst ng hl1
    have m1g : m1 ≠ g := ne_of_lst ng hm1
    have m2g : m2 ≠ g := ne_of_lst ng hm2
    have e12 := e1.trans e2
    refine BW.skip (TV.is (TV.neLL (Ls := [xs, ys]) (Ms := [xs, ys]) hr (EX.var 3 rfl (pr1.mono e2).is) (EX.var 1 rfl (hp.mono e12).is)) (by simp)) fun H3 e3 => ?_
    have e13 := e12.trans e3
    have e23 := e2.trans e3
    refine BW.asgL 5 nd (EL.cp1 C1 hr (EX.var 4 rfl (Is.ints (sq_of (e3 _ _ hg2)))) ol) fun b H4 nb e4 hb4 => ?_
    have gb : g ≠ b := ne_of_lst nb (e3 _ _ hg2)
    have b1 : m1 ≠ b := ne_of_lst nb (e23 _ _ hm1)
    have b2 : m2 ≠ b := ne_of_lst nb (e23 _ _ hm2)
    have e14 := e13.trans e4
    refine BW.exprW (EW.call Cs hr ((AV.one (EV.var 4 rfl)).ev H4 (Ex.refl H4) _ fun H5 e5 => ⟨g, prodL xs ys, rfl, (e3.trans (e4.trans e5)) _ _ hg2, ol, fun H6 ex6 => ?_⟩))
    have ng0 : H g = none := fresh_back e1 ng
    have x6 : Ex H H6 := (ex_hide (e14.trans e5) ng0).trans ex6
    have e25 := e23.trans (e4.trans e5)
    have pr6 : Pr H6 l m1 m2 xs ys := ⟨ex_hide_of ex6 lg (e25 _ _ hl1), ex_hide_of ex6 m1g (e25 _ _ hm1), ex_hide_of ex6 m2g (e25 _ _ hm2)⟩
    have hb6 : H6 b = some (.lst ((prodL xs ys).map V.int)) := ex_hide_of ex6 (Ne.symm gb) (e5 _ _ hb4)
    refine BW.skip (TV.is (TV.neL (ns := prodL xs ys) (ms := prodL xs ys) hr (ES.new (EL.ask2 0 L hr rfl (hf.mono x6) (EX.var 3 rfl pr6.is) on)) (ES.old (EV.var 5 rfl) (sq_of hb6))) (by simp)) fun H7 e7 => ?_
    have d1 := ne_of_lst n10 hq.h
    have d2 := ne_of_lst n20 hq.h
    have d3 := ne_of_lst n10 hq.h1
    have d4 := ne_of_lst n20 hq.h1
    have d5 := ne_of_lst n10 hq.h2
    have d6 := ne_of_lst n20 hq.h2
    have c1 := ne_of_lst n10 hp.h
    have c2 := ne_of_lst n20 hp.h
    have c3 := ne_of_lst n10 hp.h1
    have c4 := ne_of_lst n20 hp.h1
    have c5 := ne_of_lst n10 hp.h2
    have c6 := ne_of_lst n20 hp.h2
    refine BW.exprW (EW.call Cl hr ((AV.two (EV.var 3 rfl) (EV.var 2 rfl)).ev H7 (Ex.refl H7) _ fun H8 e8 => ⟨l, m1, m2, q, q1, q2, xs, ys, xs', ys', rfl, pr6.mono (e7.trans e8), hq.mono (x6.trans (e7.trans e8)), n12, nl1, nl2, d1, d2, d3, d4, d5, d6, lx, ly, fun H9 ex9 h91 h92 => ?_⟩))
    have x9 : Ex H H9 := (ex_hide (ex_hide (x6.trans (e7.trans e8)) n10) n20).trans ex9
    have pr9 : Pr H9 l m1 m2 xs' ys' := ⟨hide2_of ex9 nl1 nl2 ((e7.trans e8) _ _ pr6.h), h91, h92⟩
    have hb9 : H9 b = some (.lst ((prodL xs ys).map V.int)) := hide2_of ex9 (Ne.symm b1) (Ne.symm b2) ((e7.trans e8) _ _ hb6)
    refine BW.skip (TV.is (TV.or2 (TV.neL (ns := prodL xs' ys') (ms := prodL xs' ys') hr (ES.new (EL.ask2 0 L hr rfl (hf.mono x9) (EX.var 3 rfl pr9.is) om)) (ES.new (EL.ask2 0 L hr rfl (hf.mono x9) (EX.cp2 C2 hr (EV.var 2 rfl) (hq.mono x9) (by omega) (by omega)) om))) (fun _ => TV.neLL (Ls := [xs', ys']) (Ms := [xs', ys']) hr (EX.var 3 rfl pr9.is) (EX.var 2 rfl (hq.mono x9).is))) (by simp)) fun H10 e10 => ?_
    refine BW.exprW (EW.call Cl hr ((AV.two (EV.var 3 rfl) (EV.var 1 rfl)).ev H10 (Ex.refl H10) _ fun H11 e11 => ⟨l, m1, m2, p, p1, p2, xs', ys', xs, ys, rfl, pr9.mono (e10.trans e11), hp.mono (x9.trans (e10.trans e11)), n12, nl1, nl2, c1, c2, c3, c4, c5, c6, lx.symm, ly.symm, fun H12 ex12 h121 h122 => ?_⟩))
    have x12 : Ex H H12 := (ex_hide (ex_hide (x9.trans (e10.trans e11)) n10) n20).trans ex12
    have pr12 : Pr H12 l m1 m2 xs ys := ⟨hide2_of ex12 nl1 nl2 ((e10.trans e11) _ _ pr9.h), h121, h122⟩
    have hb12 : H12 b = some (.lst ((prodL xs ys).map V.int)) := hide2_of ex12 (Ne.symm b1) (Ne.symm b2) ((e10.trans e11) _ _ hb9)
    exact BW.ret (EV.isB (j := true) (EV.and2 (EV.eqL (ns := prodL xs ys) (ms := prodL xs ys) hr (ES.new (EL.ask2 0 L hr rfl (hf.mono x12) (EX.var 3 rfl pr12.is) on)) (ES.old (EV.var 5 rfl) (sq_of hb12))) (fun _ => EV.eqLL (Ls := [xs, ys]) (Ms := [xs, ys]) hr (EX.var 3 rfl pr12.is) (EX.var 1 rfl (hp.mono x12).is))) (by simp)) fun H13 e13' => k H13 (x12.trans e13')
end
end QR

namespace QR
open PySem PySem.Spec PyProof.Rows L2 Evl LamX
/-! ### _law_free_right -/
def okSet (ns : List Int) : Prop := 1 ≤ ns.length ∧ ns.length ≤ 200 ∧ Bd ns
def spAskT (K : PySem.W.Frag) (ad : Kd → Addr) (jd : Bool) : Sp := fun vs H Q _ => ∃ (p : Addr) (ns : List Int) (fo : Option (Nat × Nat)), vs = [.ref p] ∧ SqL K H p (ns.map V.int) ∧ okSet ns ∧ FirstIs jd ns fo ∧ RetI' (ad (kdT jd fo)) (fsO fo) H Q
def spHolds (K : PySem.W.Frag) (ad : Kd → Addr) (jd : Bool) : Sp := fun vs H Q _ => ∃ (u v : V) (ns : List Int) (fo : Option (Nat × Nat)), vs = [u, v] ∧ Is K H u (.ins (ad (kdT jd fo)) (fsO fo)) ∧ Is K H v (Sh.ints ns) ∧ okSet ns ∧ RetV (.bl (dueT jd fo ns)) H Q
def spTold9 : Sp := fun vs H Q _ => ∃ v, vs = [v] ∧ RetL [] H Q
def spFree (P : Program) (w : World) (K : PySem.W.Frag) (mg : Str → Option Value) (base : Heap) (ad : Kd → Addr) : Sp := fun vs H Q _ => ∃ (f h p q : Addr) (F G : LF) (jd : Bool) (ns ms : List Int), vs = [.ref f, .ref h, .ref p, .ref q] ∧ Hl H f F ∧ Hl H h G ∧ Lk P w K mg base 4 F (spAskT K ad jd) ∧ Lk P w K mg base 4 G (spHolds K ad jd) ∧ H p = some (.lst (ns.map V.int)) ∧ H q = some (.lst (ms.map V.int)) ∧ ns.length = ms.length ∧ okSet ns ∧ okSet ms ∧ RetV (.bl true) H Q
section
variable {P : Program} {w : World} {K : PySem.W.Frag} {mg : Str → Option Value} {base : Heap} {ad : Kd → Addr}
theorem ok_told9 {f : Addr} {fd : FuncData} (F : Fun K "_law_told" "_law_told" s_law_told f fd) : FnOk P w K mg base (L2.CX P w) 1 f fd ["_law_found"] spTold9 := by
  refine okB F sc_law_told (fun vs H Q E h => ?_) (fun cdv Ar outer s H vs Q E hr h => ?_)
  · obtain ⟨v, rfl, _⟩ := h
    rfl
  · obtain ⟨v, rfl, k⟩ := h
    exact BW.retL (EL.lst AV.nil) k
theorem ok_free {f : Addr} {fd : FuncData} (F : Fun K "_law_free_right" "_law_free_right" s_law_free_right f fd) (B : Bl mg) (C1 : Fc P w K mg base 2 "_law_copied" (spCp1 K)) (Cs : Fc P w K mg base 1 "_law_spoiled" spSpoil) (Cl : Fc P w K mg base 2 "_law_laid" (spLaid1 K)) (Ct : Fc P w K mg base 1 "_law_told" spTold9) : FnOk P w K mg base (L2.CX P w) 6 f fd ["_law_ask", "_law_holds", "_law_one", "_law_other"] (spFree P w K mg base ad) := by
  refine okB F sc_law_free_right (fun vs H Q E h => ?_) (fun cdv Ar outer s H vs Q E hr h => ?_)
  · obtain ⟨f', h', p, q, F', G', jd, ns, ms, rfl, _⟩ := h
    rfl
  · obtain ⟨f', h', p, q, F', G', jd, ns, ms, rfl, hf, hg, L, M, hp, hq, hl, on, om, k⟩ := h
    have nd := sc_law_free_right.nd
    have o2 := on.2.1
    refine BW.asgL 4 nd (EL.cp1 C1 hr (EX.var 2 rfl (Is.ints (sq_of hp))) (by omega)) fun l H1 nl e1 hl1 => ?_
    have pl : p ≠ l := ne_of_lst nl hp
    have ql : q ≠ l := ne_of_lst nl hq
    refine BW.forNU (xs := [.ref p, .ref p, .ref q, .ref p]) (EU.tup (AV.cons (EV.var 2 rfl) (AV.three (EV.var 2 rfl) (EV.var 3 rfl) (EV.var 2 rfl)))) (pg_name (i := 5) nd rfl (Or.inl rfl)) (fun t i σ' H' => t ≠ l ∧ Ex H H' ∧ H' t = some (.tup [.ref p, .ref p, .ref q, .ref p]) ∧ H' l = some (.lst ((if i = 3 then ms else ns).map V.int)) ∧ ∃ y5 y6, σ' = [some (.ref f'), some (.ref h'), some (.ref p), some (.ref q), some (.ref l), y5, y6])
      (fun t H2 nt e2 ht => ⟨(fun z => by rw [z, hl1] at nt; cases nt), e1.trans e2, ht, e2 _ _ hl1, _, _, rfl⟩) (fun t i σ' H' _ pv => st_of pv.2.2.1) ?_ ?_
    · rintro t i x σ' H2 hi ⟨tl, ex, ht, hl2, y5, y6, rfl⟩
      obtain ⟨r, rs, rfl, hr2, rl, ors, hlen, hnext⟩ : ∃ (r : Addr) (rs : List Int), x = .ref r ∧ H r = some (.lst (rs.map V.int)) ∧ r ≠ l ∧ okSet rs ∧ (if i = 3 then ms else ns).length = rs.length ∧ rs = (if i + 1 = 3 then ms else ns) := by
        match i, hi with
        | 0, hi => exact ⟨p, ns, (Option.some.inj hi).symm, hp, pl, on, rfl, rfl⟩
        | 1, hi => exact ⟨p, ns, (Option.some.inj hi).symm, hp, pl, on, rfl, rfl⟩
        | 2, hi => exact ⟨q, ms, (Option.some.inj hi).symm, hq, ql, om, hl, rfl⟩
        | 3, hi => exact ⟨p, ns, (Option.some.inj hi).symm, hp, pl, on, hl.symm, rfl⟩
      show BW _ _ _ [some (.ref f'), some (.ref h'), some (.ref p), some (.ref q), some (.ref l), some (.ref r), y6] H2
      refine BW.exprW (EW.call Cl hr ((AV.two (EV.var 4 rfl) (EV.var 5 rfl)).ev H2 (Ex.refl H2) _ fun H3 e3 => ⟨l, r, _, rs, rfl, e3 _ _ hl2, sq_of ((ex.trans e3) _ _ hr2), rl, hlen, fun H4 ex4 hl4 => ?_⟩))
      have x4 : Ex H H4 := (ex_hide (ex.trans e3) nl).trans ex4
      have ht4 : H4 t = some (.tup [.ref p, .ref p, .ref q, .ref p]) := ex_hide_of ex4 tl (e3 _ _ ht)
      obtain ⟨fo, ho⟩ := first_ex jd rs
      refine BW.asgX 6 nd (s := .ins (ad (kdT jd fo)) (fsO fo)) (EX.ins (EI.callK 0 L hr rfl (hf.mono x4) (AX.one (EX.var 4 rfl (Is.ints (sq_of hl4)))) (fun vs H5 e5 hvs => by
        obtain ⟨u, rfl, hu⟩ := hvs.one
        obtain ⟨z, rfl, hz⟩ := hu.ofInts
        exact fun H6 e6 Q kq _ => ⟨z, rs, fo, rfl, ex_l e6 hz, ors, ho, kq⟩))) fun vf H5 e5 hvf => ?_
      have x5 := x4.trans e5
      refine BW.skip (TV.is (TV.or2 (TV.neL (ns := rs) (ms := rs) hr (ES.old (EV.var 4 rfl) (sq_of (e5 _ _ hl4))) (ES.old (EV.var 5 rfl) (sq_of (x5 _ _ hr2)))) (fun _ => TV.notB2 (i := dueT jd fo rs) (j := true) (EV.callK 1 M hr rfl (hg.mono x5) (AX.two (EX.var 6 rfl hvf) (EX.newI (EL.cp1 C1 hr (EX.var 5 rfl (Is.ints (sq_of (x5 _ _ hr2)))) (by have := ors.2.1; omega)))) (fun vs H6 e6 hvs => by
        obtain ⟨u, v, rfl, hu, hv⟩ := hvs.two
        exact fun H7 e7 Q kq _ => ⟨u, v, rs, fo, rfl, hu.ex e7, hv.ex e7, ors, kq⟩)) EV.bl)) (by rw [due_self ors.2.2 ho]; simp)) fun H6 e6 => ?_
      refine BW.exprW (EW.call Cs hr ((EL.call (xs := []) Ct hr (AV.one (EV.var 6 rfl)) (fun H7 e7 Q kq _ => ⟨_, rfl, kq⟩)).ev H6 (Ex.refl H6) _ fun z H7 nz e7 hz => ⟨z, [], rfl, hz, by decide, fun H8 ex8 => BW.nil ?_⟩))
      have e57 := e5.trans (e6.trans e7)
      have lz : l ≠ z := fun w' => by
        subst w'
        rw [(e5.trans e6) _ _ hl4] at nz
        cases nz
      have tz : t ≠ z := fun w' => by
        subst w'
        rw [(e5.trans e6) _ _ ht4] at nz
        cases nz
      have nz0 : H z = none := fresh_back (x5.trans e6) nz
      refine ⟨tl, (ex_hide (x4.trans e57) nz0).trans ex8, ex_hide_of ex8 tz (e57 _ _ ht4), ?_, _, _, rfl⟩
      rw [← hnext]
      exact ex_hide_of ex8 lz (e57 _ _ hl4)
    · rintro t σ' H2 ⟨tl, ex, ht, hl2, y5, y6, rfl⟩
      exact BW.ret (EV.isB (EV.eqL (ns := ns) (ms := ns) hr (ES.old (EV.var 4 rfl) (sq_of hl2)) (ES.old (EV.var 2 rfl) (sq_of (ex _ _ hp)))) (by simp)) fun H3 e3 => k H3 (ex.trans e3)
end
end QR

namespace QR
open PySem PySem.Spec PyProof.Rows L2 Evl LamX
section
variable {X : Cx} {a b c e : Expr} {es : List Expr} {σ : L2.St} {H : Hp} {Q : VK} {D : Ends} {rest : List Stmt} {xs ys : List V} {pos p apos : Pos}
theorem EW.mono {Q' : VK} (hq : ∀ v H', Q v H' → Q' v H') (h : EW X e σ H Q) : EW X e σ H Q' := ⟨fun pins s I => thn (h.run pins s I) fun v s1 ⟨x, H1, I1, r, q⟩ => ⟨x, H1, I1, r, hq x H1 q⟩⟩
theorem tArgs_mono : ∀ {es : List Expr} {H : Hp} {R R' : List V → Hp → Prop}, (∀ vs H', R vs H' → R' vs H') → tArgs X es σ H R → tArgs X es σ H R'
  | [], _, _, _, hq, h => hq _ _ h
  | e :: es, _, _, _, hq, h => EW.mono (fun v H1 h1 => tArgs_mono (fun vs H2 h2 => hq (v :: vs) H2 h2) h1) h
/-- (a, b, ..), part by part -/
theorem EW.tup {x1 : Nat} (h : tArgs X es σ H fun vs H1 => vs.length ≤ 100000 ∧ ∀ t, H1 t = none → Q (.ref t) (upd H1 t (.tup vs))) (hs : es.all noStar = true := by rfl) : EW X (.Tuple es x1 pos) σ H Q := by
  refine EW.of (pe_tup (pa_all hs)) ?_
  exact tArgs_mono (fun vs H1 q => ⟨sz_of q.1, q.2⟩) h
/-- xs.append(e), e part by part -/
theorem BW.appW {l : Addr} (ha : EV X a σ H (.ref l)) (hl : SqL X.K H l xs) (h : ∀ H1, Ex H H1 → EW X e σ H1 fun v H2 => ∃ zs, H2 l = some (.lst zs) ∧ zs.length < 100000 ∧ BW X rest D σ (upd H2 l (.lst (zs ++ [v])))) (hs : noStar e = true := by rfl)
    (he : PE X (.Call (.Attribute a "append" apos) [e] [] p) (tBM X.K "list" rAppend (EW X a) (tArgs X [e])) := by exact pe_bm PySem.F.plainAttrs_list PySem.F.slot_list_append PySem.F.type_list_append mt_append pe_self (pa_all rfl))
    (hw : swapsWith (.Call (.Attribute a "append" apos) [e] [] p) none pos.line X.env = pure false := by rfl) : BW X (.Expr (.Call (.Attribute a "append" apos) [e] [] p) pos :: rest) D σ H :=
  BW.cons (ps_expr he hw) (ha.ev H (Ex.refl H) _ fun H1 e1 => ⟨.inl ⟨rfl, xs, ex_l e1 hl⟩, EW.mono (fun v H2 ⟨zs, h1, h2, h3⟩ => ⟨l, zs, v, rfl, rfl, h1, sz_lt h2, h3⟩) (h H1 e1)⟩)
/-- x, y = [], [] -/
theorem BW.parLL (i j : Nat) {n m : Str} {px py pt : Pos} {kt k2 pt2} (hN : X.N.Nodup) (ha : EL X a σ H xs) (hb : EL X b σ H ys) (k : ∀ l r H1, H l = none → H r = none → l ≠ r → Ex H H1 → H1 l = some (.lst xs) → H1 r = some (.lst ys) → BW X rest D ((σ.set i (some (.ref l))).set j (some (.ref r))) H1)
    (hi : X.N[i]? = some n := by rfl) (hj : X.N[j]? = some m := by rfl) (hij : i ≠ j := by decide) (hx : X.env.scope.names.lookup n = some .local := by rfl) (hy : X.env.scope.names.lookup m = some .local := by rfl) (hc : X.calm = true := by rfl)
    (hw : swappedStores [.Tuple [.Name n px, .Name m py] kt pt] (.Tuple [a, b] k2 pt2) X.env = pure (some [n, m]) := by rfl)
    (hs : swapsWithSole [.Tuple [.Name n px, .Name m py] kt pt] (.Tuple [a, b] k2 pt2) pos.line X.env = pure false := by rfl) (hst : [a, b].all noStar = true := by rfl) :
    BW X (.Assign [.Tuple [.Name n px, .Name m py] kt pt] (.Tuple [a, b] k2 pt2) pos :: rest) D σ H :=
  BW.cons (ps_par hc hN hi hj hij hx hy (pa_all hst) hw hs) (ha.ev H (Ex.refl H) _ fun l H1 nl e1 hl => hb.ev H1 e1 _ fun r H2 nr e2 hr => ⟨.ref l, .ref r, rfl, k l r H2 nl (fresh_back e1 nr) (ne_of_lst nr hl) (e1.trans e2) (e2 _ _ hl) hr⟩)
end
/-- [e for (target) in xs], any target -/
theorem LC.listG {X : Cx} {σ : L2.St} {H : Hp} {elt iter tg : Expr} {scope : Scope} {own : List (Str × Nat)} {g : TG} {q : Addr} {xs : List V} {pos : Pos} (v : Nat → V) (σ2 : Nat → L2.St) (hN : X.N.Nodup) (ok : BlkOk X.N X.env.scope scope own) (h : EV X iter σ H (.ref q)) (hq : SqL X.K H q xs) (hz : xs.length ≤ 40000)
    (hw : ∀ i, wipe (σ2 i) (own.map (·.2)) = wipe σ (own.map (·.2))) (hgt : ∀ (i : Nat) (y : V) H' (R : L2.St → Hp → Prop), Ex H H' → xs[i]? = some y → R (σ2 i) H' → g y (wipe σ (own.map (·.2))) H' R)
    (he : ∀ (i : Nat) (y : V) H1, Ex H H1 → xs[i]? = some y → EVb X scope elt (σ2 i) H1 (v i))
    (hg : ∀ (s : Shared) (H : Hp) (C : Addr) (cl : List (Str × Addr)) (fp : List Addr), PG (X.blk s H scope (compEnvC scope cl C X.env) fp) tg g) (hc : X.calm = true := by rfl) (hfs : ∀ x, foldedSetIterable iter X.env x = pure x := by intro _; rfl) :
    LC X (.ListComp elt [⟨tg, iter, [], 0⟩] scope pos) σ H ((List.range xs.length).map v) := by
  refine lc_of (own := own) hc hN (pi_list pe_self) ok hg hfs ?_
  rw [← given_all]
  exact fun H0 e Q k => h.ev H0 e _ fun H1 e1 => ⟨q, rfl, ⟨xs, ex_l (e.trans e1) hq⟩, fun Dl hD =>
    lc_list (xs := xs) (Cw H1 (fun _ => true) v Dl) ⟨hD, Ex.new hD, upd_same⟩ (fun i H' _ p => ex_l ((e.trans e1).trans p.2.1) hq) (fun i x H' hi p => hgt i x H' _ ((e.trans e1).trans p.2.1) hi ⟨hw i, cw_turn p (by have := (List.getElem?_eq_some_iff.mp hi).1; omega) ev_yes (fun _ => (he i x H1 (e.trans e1) hi).ev)⟩)
      (fun H' p => k Dl H' (fresh_back e1 p.1) (e1.trans p.2.1) p.2.2)⟩
end QR

namespace QR
open PySem PySem.Spec PyProof.Rows L2 Evl LamX
/-! ### two lists that grow, tables that grow; all else stays -/
def St (la lf : Addr) (H H' : Hp) : Prop := ∀ b o, H b = some o → b ≠ la → b ≠ lf → (∀ ps, o ≠ .tbl ps) → H' b = some o
section
variable {la lf : Addr} {H H1 H2 H' : Hp}
theorem St.refl : St la lf H H := fun _ _ h _ _ _ => h
theorem St.trans (a : St la lf H H1) (b : St la lf H1 H2) : St la lf H H2 := fun c o h n1 n2 n3 => b c o (a c o h n1 n2 n3) n1 n2 n3
theorem St.ex (e : Ex H H') : St la lf H H' := fun b o h _ _ _ => e b o h
theorem St.extN (e : ExtN H H') : St la lf H H' := fun b o h _ _ n => e b o h n
theorem St.updA {o : HO} : St la lf H (upd H la o) := fun b u h n _ _ => by rw [upd_ne n]; exact h
theorem St.updF {o : HO} : St la lf H (upd H lf o) := fun b u h _ n _ => by rw [upd_ne n]; exact h
theorem codeO_lst {c : Addr} {q : Str} (xs : List V) : CodeO c q ≠ .lst xs := fun z => by
  unfold CodeO at z
  cases z
theorem lmO_lst {f : Addr} {F : LF} (xs : List V) : LmO f F ≠ .lst xs := fun z => by
  unfold LmO at z
  cases z
theorem Tabs.keepL {T : List (Addr × Str)} {l : Addr} {xs ys : List V} (t : Tabs T H) (hl : H l = some (.lst xs)) : Tabs T (upd H l (.lst ys)) := fun p hp => by
  obtain ⟨ps, h1, h2, h3⟩ := t p hp
  refine ⟨ps, ?_, h2, fun pos cv hc => ?_⟩
  · rw [upd_ne (fun z => by rw [z, hl] at h1; cases h1)]
    exact h1
  · obtain ⟨c, e1, e2⟩ := h3 pos cv hc
    refine ⟨c, e1, ?_⟩
    rw [upd_ne (fun z => by rw [z, hl] at e2; exact codeO_lst xs (Option.some.inj e2).symm)]
    exact e2
/-- the two lists, the tables -/
structure G2 (T : List (Addr × Str)) (la lf : Addr) (as fs : List V) (H : Hp) : Prop where
  ne : la ≠ lf
  a : H la = some (.lst as)
  f : H lf = some (.lst fs)
  t : Tabs T H
variable {T : List (Addr × Str)} {as fs : List V}
theorem G2.ex (g : G2 T la lf as fs H) (e : Ex H H') : G2 T la lf as fs H' := ⟨g.ne, e _ _ g.a, e _ _ g.f, g.t.ext e⟩
theorem G2.extN (g : G2 T la lf as fs H) (e : ExtN H H') (t : Tabs T H') : G2 T la lf as fs H' := ⟨g.ne, ExtN.l e g.a, ExtN.l e g.f, t⟩
theorem G2.addA {bs : List V} (g : G2 T la lf as fs H) : G2 T la lf bs fs (upd H la (.lst bs)) := ⟨g.ne, upd_same, (upd_ne g.ne.symm).trans g.f, Tabs.keepL g.t g.a⟩
theorem G2.addF {bs : List V} (g : G2 T la lf as fs H) : G2 T la lf as bs (upd H lf (.lst bs)) := ⟨g.ne, (upd_ne g.ne).trans g.a, upd_same, Tabs.keepL g.t g.f⟩
/-- a fact that stays -/
structure Kp (la lf : Addr) (H : Hp) (b : Addr) (o : HO) : Prop where
  h : H b = some o
  na : b ≠ la
  nf : b ≠ lf
  nt : ∀ ps, o ≠ .tbl ps
theorem Kp.st {b : Addr} {o : HO} (k : Kp la lf H b o) (s : St la lf H H') : Kp la lf H' b o := ⟨s b o k.h k.na k.nf k.nt, k.na, k.nf, k.nt⟩
theorem Kp.of {b : Addr} {o : HO} (g : G2 T la lf as fs H) (h : H b = some o) (n : ∀ xs, o ≠ .lst xs) (nt : ∀ ps, o ≠ .tbl ps) : Kp la lf H b o :=
  ⟨h, (fun z => by rw [z, g.a] at h; exact n _ (Option.some.inj h).symm), (fun z => by rw [z, g.f] at h; exact n _ (Option.some.inj h).symm), nt⟩
theorem Kp.new {b : Addr} {o : HO} (g : G2 T la lf as fs H) (nb : H b = none) (h : H' b = some o) (nt : ∀ ps, o ≠ .tbl ps) : Kp la lf H' b o :=
  ⟨h, (fun z => by rw [z, g.a] at nb; cases nb), (fun z => by rw [z, g.f] at nb; cases nb), nt⟩
theorem Kp.ex {b : Addr} {o : HO} (k : Kp la lf H b o) (e : Ex H H') : Kp la lf H' b o := k.st (St.ex e)
/-- the lambda F at f -/
structure HlK (la lf : Addr) (H : Hp) (f : Addr) (F : LF) : Prop where
  o : Kp la lf H f (LmO f F)
  c : Kp la lf H F.c (CodeO F.c F.qual)
theorem HlK.st {f : Addr} {F : LF} (k : HlK la lf H f F) (s : St la lf H H') : HlK la lf H' f F := ⟨k.o.st s, k.c.st s⟩
theorem HlK.hl {f : Addr} {F : LF} (k : HlK la lf H f F) : Hl H f F := ⟨k.o.h, k.c.h⟩
/-- a list; a list of two lists -/
def Rl (la lf : Addr) (xs : List V) (v : V) (H : Hp) : Prop := ∃ q, v = .ref q ∧ Kp la lf H q (.lst xs)
def Rp (la lf : Addr) (xs ys : List V) (v : V) (H : Hp) : Prop := ∃ l p q, v = .ref l ∧ Kp la lf H l (.lst [.ref p, .ref q]) ∧ Kp la lf H p (.lst xs) ∧ Kp la lf H q (.lst ys)
theorem Rl.st {xs : List V} {v : V} (r : Rl la lf xs v H) (s : St la lf H H') : Rl la lf xs v H' := by
  obtain ⟨q, e, k⟩ := r
  exact ⟨q, e, k.st s⟩
theorem Rp.st {xs ys : List V} {v : V} (r : Rp la lf xs ys v H) (s : St la lf H H') : Rp la lf xs ys v H' := by
  obtain ⟨l, p, q, e, k1, k2, k3⟩ := r
  exact ⟨l, p, q, e, k1.st s, k2.st s, k3.st s⟩
end
section
variable {X : Cx} {σ : L2.St} {H : Hp} {D : Ends} {rest : List Stmt} {T : List (Addr × Str)} {c P la lf : Addr} {as fs : List V}
/-- e leads to what R tells, whatever the two lists hold by then -/
def Gv (X : Cx) (e : Expr) (σ : L2.St) (T : List (Addr × Str)) (la lf : Addr) (as fs : List V) (H : Hp) (R : V → Hp → Prop) : Prop := ∀ H2, G2 T la lf as fs H2 → QR.St la lf H H2 → ∀ Q : VK, (∀ v H3, Ex H2 H3 → R v H3 → Q v H3) → EW X e σ H2 Q
theorem Gv.old {e : Expr} {q : Addr} {xs : List V} (h : ∀ H, EV X e σ H (.ref q)) (k : Kp la lf H q (.lst xs)) : Gv X e σ T la lf as fs H (Rl la lf xs) := fun H2 g s Q kq => (h H2).go fun H3 e3 => kq _ H3 e3 ⟨q, rfl, (k.st s).ex e3⟩
theorem Gv.new {e : Expr} {xs : List V} (h : ∀ H2, QR.St la lf H H2 → EL X e σ H2 xs) : Gv X e σ T la lf as fs H (Rl la lf xs) := fun H2 g s Q kq => (h H2 s).go fun p H3 np e3 hp => kq _ H3 e3 ⟨p, rfl, Kp.new g np hp (fun ps z => nomatch z)⟩
/-- [e1, e2], two new lists -/
theorem Gv.pair {a b : Expr} {pos : Pos} {xs ys : List V} (ha : ∀ H2, EL X a σ H2 xs) (hb : ∀ H2, EL X b σ H2 ys) (hs : [a, b].all noStar = true := by rfl) : Gv X (.List [a, b] pos) σ T la lf as fs H (Rp la lf xs ys) := fun H2 g s Q kq =>
  EW.of (pe_lst (pa_all hs)) ((ha H2).ev H2 (Ex.refl H2) _ fun p H3 np e3 hp => (hb H3).ev H3 (Ex.refl H3) _ fun q H4 nq e4 hq => ⟨sz_of (Nat.le_of_ble_eq_true rfl), fun l nl => by
    have lp : p ≠ l := fun z => by rw [← z, e4 _ _ hp] at nl; cases nl
    have lq : q ≠ l := fun z => by rw [← z, hq] at nl; cases nl
    have g4 := g.ex (e3.trans e4)
    exact kq _ _ ((e3.trans e4).trans (Ex.new nl)) ⟨l, p, q, rfl, Kp.new g4 nl upd_same (fun ps z => nomatch z), (Kp.new g np (e4 _ _ hp) (fun ps z => nomatch z)).ex (Ex.new nl), (Kp.new (g.ex e3) nq hq (fun ps z => nomatch z)).ex (Ex.new nl)⟩⟩)
/-- the lambda made here -/
abbrev lamF (X : Cx) (params : Arguments) (body : Expr) (scope : Scope) (c' : Addr) : LF := ⟨X.env.qual ++ "<lambda>", params, body, scope, cloFrom X.env.cells scope.names [], c'⟩
structure Mkr (X : Cx) (T : List (Addr × Str)) (c P : Addr) : Prop where
  tb : TabB X.base X.mg c P
  code : X.env.code = .ref c
  mem : (P, X.env.qual ++ "<lambda>") ∈ T
  one : ∀ p ∈ T, p.1 = P → p.2 = X.env.qual ++ "<lambda>"
def noFree (sc : Scope) : Bool := sc.names.all fun y => decide (y.2 ≠ .free)
theorem noFree_of {sc : Scope} (h : noFree sc = true) {α : (Str × NameKind) → Prop} : ∀ y ∈ sc.names, y.2 = .free → α y := fun y hy e => (of_decide_eq_true (List.all_eq_true.mp h y hy) e).elim
/-- lambda, made while the two lists hold as, fs -/
theorem Gv.lam {params : Arguments} {body : Expr} {scope : Scope} {lp : Pos} (M : Mkr X T c P) (g : G2 T la lf as fs H) {Q : VK} (k : ∀ f c' H2, QR.St la lf H H2 → G2 T la lf as fs H2 → HlK la lf H2 f (lamF X params body scope c') → Q (.ref f) H2) (hn : noFree scope = true) (hdef : defaultsOf params X.env = ([], []) := by rfl) :
    EW X (.Lambda params body scope lp) σ H Q :=
  EW.lam M.tb M.code M.mem M.one g.t (noFree_of hn) (fun f c' H2 eN _ T2 _ hf hc => by
    have g2 := g.extN eN T2
    exact k f c' H2 (QR.St.extN eN) g2 ⟨Kp.of g2 hf lmO_lst lmO_ne, Kp.of g2 hc codeO_lst codeO_ne⟩) hdef
/-- asks.append((lambda .., e6, e7)) -/
theorem BW.appA {x : Str} {e6 e7 : Expr} {params : Arguments} {body : Expr} {scope : Scope} {lp p1 p5 p6 p7 ap : Pos} {i1 : Nat} {R6 R7 : V → Hp → Prop} (M : Mkr X T c P) (g : G2 T la lf as fs H) (hz : as.length < 1000) (hx : ∀ H, EV X (.Name x p1) σ H (.ref la))
    (h6 : Gv X e6 σ T la lf as fs H R6) (h7 : Gv X e7 σ T la lf as fs H R7) (s6 : ∀ v H H', QR.St la lf H H' → R6 v H → R6 v H') (s7 : ∀ v H H', QR.St la lf H H' → R7 v H → R7 v H')
    (k : ∀ t f c' v6 v7 H', QR.St la lf H H' → G2 T la lf (as ++ [.ref t]) fs H' → Kp la lf H' t (.tup [.ref f, v6, v7]) → HlK la lf H' f (lamF X params body scope c') → R6 v6 H' → R7 v7 H' → BW X rest D σ H')
    (hn : noFree scope = true := by decide +kernel) (hdef : defaultsOf params X.env = ([], []) := by rfl) (hs : [.Lambda params body scope lp, e6, e7].all noStar = true := by rfl)
    (he : PE X (.Call (.Attribute (.Name x p1) "append" ap) [.Tuple [.Lambda params body scope lp, e6, e7] i1 p5] [] p6) (tBM X.K "list" rAppend (EW X (.Name x p1)) (tArgs X [.Tuple [.Lambda params body scope lp, e6, e7] i1 p5])) := by exact pe_bm PySem.F.plainAttrs_list PySem.F.slot_list_append PySem.F.type_list_append mt_append pe_self (pa_all rfl))
    (hw : swapsWith (.Call (.Attribute (.Name x p1) "append" ap) [.Tuple [.Lambda params body scope lp, e6, e7] i1 p5] [] p6) none p7.line X.env = pure false := by rfl) :
    BW X (.Expr (.Call (.Attribute (.Name x p1) "append" ap) [.Tuple [.Lambda params body scope lp, e6, e7] i1 p5] [] p6) p7 :: rest) D σ H := by
  refine BW.appW (hx H) (sq_of g.a) (fun H1 e1 => EW.tup (Gv.lam M (g.ex e1) (fun f c' H2 t2 g2 l2 => ?_) hn hdef) hs) rfl he hw
  have t02 := (QR.St.ex e1).trans t2
  refine h6 H2 g2 t02 _ fun v6 H3 e3 r6 => h7 H3 (g2.ex e3) (t02.trans (.ex e3)) _ fun v7 H4 e4 r7 => ⟨Nat.le_of_ble_eq_true rfl, fun t nt => ?_⟩
  have g4 := (g2.ex e3).ex e4
  have g5 := g4.ex (Ex.new (o := .tup [.ref f, v6, v7]) nt)
  have a4 : QR.St la lf H4 (upd (upd H4 t (.tup [.ref f, v6, v7])) la (.lst (as ++ [.ref t]))) := (QR.St.ex (Ex.new nt)).trans .updA
  have a3 : QR.St la lf H3 (upd (upd H4 t (.tup [.ref f, v6, v7])) la (.lst (as ++ [.ref t]))) := (QR.St.ex e4).trans a4
  exact ⟨as, g5.a, by omega, k t f c' v6 v7 _ (t02.trans ((QR.St.ex e3).trans a3)) g5.addA ((Kp.of g5 upd_same (fun _ z => nomatch z) (fun _ z => nomatch z)).st .updA) (l2.st ((QR.St.ex e3).trans a3)) (s6 _ _ _ a3 r6) (s7 _ _ _ a4 r7)⟩
/-- frees.append((lambda .., lambda .., e6, e7)) -/
theorem BW.appF {x : Str} {e6 e7 : Expr} {params params' : Arguments} {body body' : Expr} {scope scope' : Scope} {lp lp' p1 p5 p6 p7 ap : Pos} {i1 : Nat} {R6 R7 : V → Hp → Prop} (M : Mkr X T c P) (g : G2 T la lf as fs H) (hz : fs.length < 1000) (hx : ∀ H, EV X (.Name x p1) σ H (.ref lf))
    (h6 : Gv X e6 σ T la lf as fs H R6) (h7 : Gv X e7 σ T la lf as fs H R7) (s6 : ∀ v H H', QR.St la lf H H' → R6 v H → R6 v H') (s7 : ∀ v H H', QR.St la lf H H' → R7 v H → R7 v H')
    (k : ∀ t f f' c' c'' v6 v7 H', QR.St la lf H H' → G2 T la lf as (fs ++ [.ref t]) H' → Kp la lf H' t (.tup [.ref f, .ref f', v6, v7]) → HlK la lf H' f (lamF X params body scope c') → HlK la lf H' f' (lamF X params' body' scope' c'') → R6 v6 H' → R7 v7 H' → BW X rest D σ H')
    (hn : noFree scope = true := by decide +kernel) (hn' : noFree scope' = true := by decide +kernel) (hdef : defaultsOf params X.env = ([], []) := by rfl) (hdef' : defaultsOf params' X.env = ([], []) := by rfl) (hs : [.Lambda params body scope lp, .Lambda params' body' scope' lp', e6, e7].all noStar = true := by rfl)
    (he : PE X (.Call (.Attribute (.Name x p1) "append" ap) [.Tuple [.Lambda params body scope lp, .Lambda params' body' scope' lp', e6, e7] i1 p5] [] p6) (tBM X.K "list" rAppend (EW X (.Name x p1)) (tArgs X [.Tuple [.Lambda params body scope lp, .Lambda params' body' scope' lp', e6, e7] i1 p5])) := by exact pe_bm PySem.F.plainAttrs_list PySem.F.slot_list_append PySem.F.type_list_append mt_append pe_self (pa_all rfl))
    (hw : swapsWith (.Call (.Attribute (.Name x p1) "append" ap) [.Tuple [.Lambda params body scope lp, .Lambda params' body' scope' lp', e6, e7] i1 p5] [] p6) none p7.line X.env = pure false := by rfl) :
    BW X (.Expr (.Call (.Attribute (.Name x p1) "append" ap) [.Tuple [.Lambda params body scope lp, .Lambda params' body' scope' lp', e6, e7] i1 p5] [] p6) p7 :: rest) D σ H := by
  refine BW.appW (hx H) (sq_of g.f) (fun H1 e1 => EW.tup (Gv.lam M (g.ex e1) (fun f c' H2 t2 g2 l2 => Gv.lam M g2 (fun f' c'' H2' t2' g2' l2' => ?_) hn' hdef') hn hdef) hs) rfl he hw
  have t02 := ((QR.St.ex e1).trans t2).trans t2'
  refine h6 H2' g2' t02 _ fun v6 H3 e3 r6 => h7 H3 (g2'.ex e3) (t02.trans (.ex e3)) _ fun v7 H4 e4 r7 => ⟨Nat.le_of_ble_eq_true rfl, fun t nt => ?_⟩
  have g4 := (g2'.ex e3).ex e4
  have g5 := g4.ex (Ex.new (o := .tup [.ref f, .ref f', v6, v7]) nt)
  have a4 : QR.St la lf H4 (upd (upd H4 t (.tup [.ref f, .ref f', v6, v7])) lf (.lst (fs ++ [.ref t]))) := (QR.St.ex (Ex.new nt)).trans .updF
  have a3 : QR.St la lf H3 (upd (upd H4 t (.tup [.ref f, .ref f', v6, v7])) lf (.lst (fs ++ [.ref t]))) := (QR.St.ex e4).trans a4
  have a2 := (QR.St.ex e3).trans a3
  exact ⟨fs, g5.f, by omega, k t f f' c' c'' v6 v7 _ (t02.trans a2) g5.addF ((Kp.of g5 upd_same (fun _ z => nomatch z) (fun _ z => nomatch z)).st .updF) (l2.st (t2'.trans a2)) (l2'.st a2) (s6 _ _ _ a3 r6) (s7 _ _ _ a4 r7)⟩
end
end QR

namespace QR
open PySem PySem.Spec PyProof.Rows L2 Evl LamX
/-! ### what the lambdas do -/
section
variable {P : Program} {w : World} {K : PySem.W.Frag} {mg : Str → Option Value} {base : Heap} {xa : Ek → Addr} {ad : Kd → Addr} {q : Str} {params : Arguments} {sc : Scope} {c' : Addr} {p1 p2 p3 p4 p5 p6 p7 pos apos : Pos} {g : Str}
theorem lk_flat {sp : Sp} {out : List Int → List Int} {ok : List Int → Prop} (C : Fc P w K mg base 3 g sp) (hsp : ∀ H p ns, SqL K H p (ns.map V.int) → ok ns → SpL sp [.ref p] H ((out ns).map V.int)) (S : FnScope ["_law_it"] ["_law_it"] sc) (hv : Vis sc "_law_it") (hgl : sc.names.lookup g = some .globalImplicit)
    (hb : ∀ us pm ctv, us.length = 1 → bindArgs (PySem.W.kla_fn "<lambda>" q params (.Call (.Name g p1) [.Name "_law_it" p2] [] pos) sc [] pm (.ref c') ctv) ⟨us, []⟩ = pure ((["_law_it"] : List Str).zip us)) (hdb : (g == ("__debug__" : Str)) = false := by decide) :
    Lk P w K mg base 4 ⟨q, params, .Call (.Name g p1) [.Name "_law_it" p2] [] pos, sc, [], c'⟩ (spAsk K out ok) := by
  refine ⟨rfl, ["_law_it"], ["_law_it"], S, hb, (fun vs H Q E ⟨p, ns, h, _⟩ => by rw [h]; rfl), fun f A outer s H vs Q E hr h => ?_⟩
  obtain ⟨p, ns, rfl, hp, ho, k⟩ := h
  exact EL.go (EL.call C hr (AV.one (EV.var 0 rfl rfl hv)) (hsp H p ns hp ho) (by decide) hgl rfl hdb) k
theorem lk_told {jd : Bool} (C : Fc P w K mg base 3 g (spTold K xa ad jd)) (S : FnScope ["_law_it"] ["_law_it"] sc) (hv : Vis sc "_law_it") (hgl : sc.names.lookup g = some .globalImplicit)
    (hb : ∀ us pm ctv, us.length = 1 → bindArgs (PySem.W.kla_fn "<lambda>" q params (.Call (.Name g p1) [.Name "_law_it" p2] [] pos) sc [] pm (.ref c') ctv) ⟨us, []⟩ = pure ((["_law_it"] : List Str).zip us)) (hdb : (g == ("__debug__" : Str)) = false := by decide) :
    Lk P w K mg base 4 ⟨q, params, .Call (.Name g p1) [.Name "_law_it" p2] [] pos, sc, [], c'⟩ (spAskT K ad jd) := by
  refine ⟨rfl, ["_law_it"], ["_law_it"], S, hb, (fun vs H Q E ⟨p, ns, fo, h, _⟩ => by rw [h]; rfl), fun f A outer s H vs Q E hr h => ?_⟩
  obtain ⟨p, ns, fo, rfl, hp, ho, hfo, k⟩ := h
  exact EI.go (EI.call C hr (AV.one (EV.var 0 rfl rfl hv)) (si_told hp ho.1 ho.2.1 ho.2.2 hfo) (by decide) hgl rfl hdb) k
theorem lk_prod {ok : List Int → List Int → Prop} {i j : Nat} (C : Fc P w K mg base 3 "product" (spProd K xa)) (hok : ∀ xs ys, ok xs ys → 1 ≤ xs.length ∧ 1 ≤ ys.length ∧ xs.length * ys.length ≤ 200 ∧ Bd xs ∧ Bd ys ∧ NoTake false xs ∧ NoTake true ys) (S : FnScope ["_law_it"] ["_law_it"] sc) (hv : Vis sc "_law_it") (hgl : sc.names.lookup ("product" : Str) = some .globalImplicit)
    (hb : ∀ us pm ctv, us.length = 1 → bindArgs (PySem.W.kla_fn "<lambda>" q params (.Call (.Name "product" p1) [.Subscript (.Name "_law_it" p2) (.Constant (.int 0) i p3) p4, .Subscript (.Name "_law_it" p6) (.Constant (.int 1) j p7) p5] [] pos) sc [] pm (.ref c') ctv) ⟨us, []⟩ = pure ((["_law_it"] : List Str).zip us)) :
    Lk P w K mg base 4 ⟨q, params, .Call (.Name "product" p1) [.Subscript (.Name "_law_it" p2) (.Constant (.int 0) i p3) p4, .Subscript (.Name "_law_it" p6) (.Constant (.int 1) j p7) p5] [] pos, sc, [], c'⟩ (spAsk2 K ok) := by
  refine ⟨rfl, ["_law_it"], ["_law_it"], S, hb, (fun vs H Q E ⟨v, xs, ys, h, _⟩ => by rw [h]; rfl), fun f A outer s H vs Q E hr h => ?_⟩
  obtain ⟨v, xs, ys, rfl, hv', ho, k⟩ := h
  obtain ⟨o1, o2, o3, o4, o5, o6, o7⟩ := hok xs ys ho
  exact EL.go (EL.prod C hr (EX.ixL (k := 0) (EX.var 0 rfl hv' rfl hv) EV.int rfl rfl) (EX.ixL (k := 1) (EX.var 0 rfl hv' rfl hv) EV.int rfl rfl) o1 o2 o3 o4 o5 o6 o7 (by decide) hgl) k
end
end QR

namespace QR
open PySem PySem.Spec PyProof.Rows L2 Evl LamX
section
variable {P : Program} {w : World} {K : PySem.W.Frag} {mg : Str → Option Value} {base : Heap} {xa : Ek → Addr} {ad : Kd → Addr} {q : Str} {params : Arguments} {sc : Scope} {c' : Addr} {p1 p2 pos apos : Pos}
theorem lk_holds {jd : Bool} {pl : Env → Sem Bool} (S4' : S4 P w K mg base ad) (S : FnScope ["_law_found", "_law_it"] ["_law_found", "_law_it"] sc) (hv : Vis sc "_law_found") (hv2 : Vis sc "_law_it")
    (hb : ∀ us pm ctv, us.length = 2 → bindArgs (PySem.W.kla_fn "<lambda>" q params (.Call (.Attribute (.Name "_law_found" p1) "shows" apos) [.Name "_law_it" p2] [] pos) sc [] pm (.ref c') ctv) ⟨us, []⟩ = pure ((["_law_found", "_law_it"] : List Str).zip us))
    (ht : ∀ env : Env, eval (.Call (.Attribute (.Name "_law_found" p1) "shows" apos) [.Name "_law_it" p2] [] pos) env = (do
      let ov ← eval (.Name "_law_found" p1) env
      standAt apos.atName
      let (f, first) ← holding [ov] (getMethod ov "shows" (pl env))
      callWith pos f first (backTo pos (starEach [.Name "_law_it" p2] env)) (backToKw pos (keywordEach [] env)))) :
    Lk P w K mg base 4 ⟨q, params, .Call (.Attribute (.Name "_law_found" p1) "shows" apos) [.Name "_law_it" p2] [] pos, sc, [], c'⟩ (spHolds K ad jd) := by
  refine ⟨rfl, ["_law_found", "_law_it"], ["_law_found", "_law_it"], S, hb, (fun vs H Q E ⟨u, v, ns, fo, h, _⟩ => by rw [h]; rfl), fun f A outer s H vs Q E hr h => ?_⟩
  obtain ⟨u, v, ns, fo, rfl, hu, hv', ho, k⟩ := h
  exact EV.go (EV.shD S4' hr (EX.var 0 rfl hu rfl hv) (EX.var 1 rfl hv' rfl hv2) (by have := ho.2.1; omega) ho.2.2 (by decide) rfl (ht _)) k
end
end QR

namespace QR
open PySem PySem.Spec PyProof.Rows L2 Evl LamX
/-! ### the plain facts -/
def sizes9 : List Nat := [4, 5, 6, 7, 8, 10, 11, 12]
theorem rev_no9 : ∀ n ∈ sizes9, NoTake false (setL n).reverse := by
  unfold NoTake
  decide +kernel
theorem rng_ok {n : Nat} (h1 : 1 ≤ n) (h2 : n ≤ 200) : okSet ((List.range n).map fun i : Nat => (i : Int)) := by
  refine ⟨by simpa using h1, by simpa using h2, fun c hc => ?_⟩
  obtain ⟨r, hr, rfl⟩ := List.mem_map.mp hc
  have := List.mem_range.mp hr
  rw [List.length_map, List.length_range]
  omega
def okProd (xs ys : List Int) : Prop := 1 ≤ xs.length ∧ 1 ≤ ys.length ∧ xs.length * ys.length ≤ 200 ∧ Bd xs ∧ Bd ys ∧ NoTake false xs ∧ NoTake true ys
theorem okP1 : okProd [1, 3, 0, 2] [0, 2, 4, 1, 3] := by
  unfold okProd Bd NoTake
  decide +kernel
theorem okP2 : okProd [2, 0, 3, 1] [0, 3, 1, 4, 2] := by
  unfold okProd Bd NoTake
  decide +kernel
def spLaw9 (K : PySem.W.Frag) : Sp := fun vs H Q _ => ∃ (a : Addr) (ns : List Int), vs = [.ref a] ∧ SqL K H a (ns.map V.int) ∧ ns.length ≤ 63 ∧ Tabs (tabL K ["law"]) H ∧ ∀ H', Q (.bl true) H'
section
variable {P : Program} {w : World} {K : PySem.W.Frag} {mg : Str → Option Value} {base : Heap} {xa : Ek → Addr} {ad : Kd → Addr}
theorem sc_ok9 {ns : List Int} (h : okSet ns) : ns.length ≤ 1000 := by have := h.2.1; omega
theorem ok_law9 {f : Addr} {fd : FuncData} (F : Fun K "law" "law" s_law f fd) (hcode : fd.code = .ref (He.cT K ("law", none)).1) (Tm' : Tm K mg base ["law"] "law") (B : Bl mg) (S : S4 P w K mg base ad)
    (c_setting : Fc P w K mg base 4 "setting" (spSetting K xa)) (c_mirrored : Fc P w K mg base 3 "mirrored" (spOne K xa mirL)) (c_upended : Fc P w K mg base 3 "upended" (spOne K xa List.reverse)) (c_exchanged : Fc P w K mg base 3 "exchanged" (spExch K xa)) (c_product : Fc P w K mg base 3 "product" (spProd K xa))
    (c_told : Fc P w K mg base 3 "told" (spTold K xa ad false)) (c_told_joined : Fc P w K mg base 3 "told_joined" (spTold K xa ad true))
    (c_door1 : Fc P w K mg base 6 "_law_door_right" (spDoor1 P w K mg base)) (c_door2 : Fc P w K mg base 6 "_law_door_right" (spDoor2 P w K mg base)) (c_free : Fc P w K mg base 6 "_law_free_right" (spFree P w K mg base ad)) : FnOk P w K mg base (L2.CX P w) 7 f fd ["_law_script"] (spLaw9 K) := by
  refine okBc F hcode sc_law (fun vs H Q E h => ?_) (fun Ar outer s H vs Q E hr h => ?_)
  · obtain ⟨a, ns, rfl, _⟩ := h
    rfl
  · obtain ⟨a, ns, rfl, hq, hl, hT, k⟩ := h
    have nd := sc_law.nd
    refine BW.asgL 1 nd (EL.ite (xs := (if ns ≠ [] then ns else [5]).map V.int) (TV.neL (ns := ns) (ms := []) hr (ES.old (EV.var 0 rfl) hq) (ES.new (EL.lst AV.nil))) (fun h1 => ?_) (fun h1 => ?_)) fun c1 H1 n1 e1 hc1 => ?_
    · refine EL.is (EL.upto (EV.var 0 rfl) EV.int hq) ?_
      rw [if_pos (by simpa using h1), show (63 : Int) = ((63 : Nat) : Int) from rfl, cut_upto, ← List.map_take, List.take_of_length_le hl]
    · rw [if_neg (by simpa using h1)]
      exact EL.lst (AV.one EV.int)
    generalize (if ns ≠ [] then ns else [5]) = cs at hc1
    refine BW.asg 2 nd (EV.abs B.abs (EV.sum (ns := cs) B.sum (EV.var 1 rfl) (sq_of hc1))) fun H2 e2 => ?_
    generalize hm : ((cs.sum.natAbs : Nat) : Int) = m
    refine BW.parLL 3 4 nd (EL.lst AV.nil) (EL.lst AV.nil) fun la lf H3 _ _ nlf e3 hla hlf => ?_
    obtain ⟨n, hn, hat⟩ : ∃ n : Nat, n ∈ sizes9 ∧ atI [V.int 4, .int 5, .int 6, .int 7, .int 8, .int 10, .int 11, .int 12] (m % 8) = some (.int (n : Int)) := by
      obtain ⟨j, hj⟩ : ∃ j : Nat, m % 8 = (j : Int) := ⟨(m % 8).toNat, by omega⟩
      have hj8 : j < 8 := by omega
      rw [hj]
      match j, hj8 with
      | 0, _ => exact ⟨4, by decide, rfl⟩
      | 1, _ => exact ⟨5, by decide, rfl⟩
      | 2, _ => exact ⟨6, by decide, rfl⟩
      | 3, _ => exact ⟨7, by decide, rfl⟩
      | 4, _ => exact ⟨8, by decide, rfl⟩
      | 5, _ => exact ⟨10, by decide, rfl⟩
      | 6, _ => exact ⟨11, by decide, rfl⟩
      | 7, _ => exact ⟨12, by decide, rfl⟩
    have hnb : 4 ≤ n ∧ n ≤ 12 := (by decide : ∀ n ∈ sizes9, 4 ≤ n ∧ n ≤ 12) n hn
    refine BW.asg 5 nd (EV.ixU (EU.tup (AV.cons EV.int (AV.cons EV.int (AV.cons EV.int (AV.cons EV.int (AV.cons EV.int (AV.three EV.int EV.int EV.int))))))) (EV.mod (EV.var 2 rfl) EV.int (by decide)) hat) fun H4 e4 => ?_
    have hse : ∀ Ha, SpL (spSetting K xa) [.int (n : Int)] Ha ((setL n).map V.int) := fun Ha => by
      have := sl_setting (K := K) (xa := xa) (H := Ha) (n := (n : Int)) (by omega) (by omega) (by omega) (by omega)
      rwa [Int.toNat_natCast] at this
    refine BW.asgL 6 nd (EL.call c_setting hr (AV.one (EV.var 5 rfl)) (hse H4)) fun po H5 npo e5 hpo => ?_
    refine BW.asgL 7 nd (EL.is (EL.rev (ES.old (EV.var 6 rfl) (sq_of hpo))) (List.map_reverse.symm)) fun pr H6 npr e6 hpr => ?_
    have g6 : G2 (tabL K ["law"]) la lf [] [] H6 := ⟨nlf, (e4.trans (e5.trans e6)) _ _ hla, (e4.trans (e5.trans e6)) _ _ hlf, hT.ext ((e1.trans e2).trans (e3.trans (e4.trans (e5.trans e6))))⟩
    have g4 : G2 (tabL K ["law"]) la lf [] [] H4 := ⟨nlf, e4 _ _ hla, e4 _ _ hlf, hT.ext ((e1.trans e2).trans (e3.trans e4))⟩
    have kpo : Kp la lf H6 po (.lst ((setL n).map V.int)) := Kp.new g4 npo (e6 _ _ hpo) (fun _ z => nomatch z)
    have kpr : Kp la lf H6 pr (.lst ((setL n).reverse.map V.int)) := Kp.new (g4.ex e5) npr hpr (fun _ z => nomatch z)
    have M := Mkr.mk (X := (cxOf (L2.CX P w) P w K mg base n_law "law" (defScope s_law) f (.ref (He.cT K ("law", none)).1) Ar outer s H E).nox) Tm'.tb rfl Tm'.mem Tm'.one
    have oo : okSet (setL n) := ⟨by rw [setL_len']; omega, by rw [setL_len']; omega, setL_bd n⟩
    have or : okSet (setL n).reverse := ⟨by rw [List.length_reverse, setL_len']; omega, by rw [List.length_reverse, setL_len']; omega, rev_bd (setL_bd n)⟩
    have no := setL_no (n := n) (by omega) (by omega)
    have nr := rev_no9 n hn
    refine BW.appA M g6 (Nat.le_of_ble_eq_true rfl) (fun _ => EV.var 3 rfl) (Gv.old (fun _ => EV.var 6 rfl) kpo) (Gv.old (fun _ => EV.var 7 rfl) kpr) (fun _ _ _ s r => r.st s) (fun _ _ _ s r => r.st s) fun t1 f1 c1' v11 v12 H7 s7 g7 k1 l1 r11 r12 => ?_
    refine BW.appA M g7 (Nat.le_of_ble_eq_true rfl) (fun _ => EV.var 3 rfl) (Gv.old (fun _ => EV.var 6 rfl) (kpo.st s7)) (Gv.old (fun _ => EV.var 7 rfl) (kpr.st s7)) (fun _ _ _ s r => r.st s) (fun _ _ _ s r => r.st s) fun t2 f2 c2' v21 v22 H8 s8 g8 k2 l2 r21 r22 => ?_
    have s68 := s7.trans s8
    refine BW.appA M g8 (Nat.le_of_ble_eq_true rfl) (fun _ => EV.var 3 rfl) (Gv.old (fun _ => EV.var 6 rfl) (kpo.st s68)) (Gv.old (fun _ => EV.var 7 rfl) (kpr.st s68)) (fun _ _ _ s r => r.st s) (fun _ _ _ s r => r.st s) fun t3 f3 c3' v31 v32 H9 s9 g9 k3 l3 r31 r32 => ?_
    have s69 := s68.trans s9
    refine BW.appF M g9 (Nat.le_of_ble_eq_true rfl) (fun _ => EV.var 4 rfl) (Gv.old (fun _ => EV.var 6 rfl) (kpo.st s69)) (Gv.new (xs := ((List.range n).map fun i : Nat => (i : Int)).map V.int) fun _ _ => EL.is (EL.listR1 B.list B.range (EV.var 5 rfl) (by omega)) (by rw [List.map_map]; rfl)) (fun _ _ _ s r => r.st s) (fun _ _ _ s r => r.st s) fun t4 f4 h4 c4' d4' v41 v42 H10 s10 g10 k4 l4 m4 r41 r42 => ?_
    have s610 := s69.trans s10
    refine BW.appF M g10 (Nat.le_of_ble_eq_true rfl) (fun _ => EV.var 4 rfl) (Gv.old (fun _ => EV.var 6 rfl) (kpo.st s610)) (Gv.old (fun _ => EV.var 7 rfl) (kpr.st s610)) (fun _ _ _ s r => r.st s) (fun _ _ _ s r => r.st s) fun t5 f5 h5 c5' d5' v51 v52 H11 s11 g11 k5 l5 m5 r51 r52 => ?_
    refine BW.appA M g11 (Nat.le_of_ble_eq_true rfl) (fun _ => EV.var 3 rfl) (Gv.pair (xs := [1, 3, 0, 2].map V.int) (ys := [0, 2, 4, 1, 3].map V.int) (fun _ => EL.lst (AV.cons EV.int (AV.three EV.int EV.int EV.int))) (fun _ => EL.lst (AV.cons EV.int (AV.cons EV.int (AV.three EV.int EV.int EV.int))))) (Gv.pair (xs := [2, 0, 3, 1].map V.int) (ys := [0, 3, 1, 4, 2].map V.int) (fun _ => EL.lst (AV.cons EV.int (AV.three EV.int EV.int EV.int))) (fun _ => EL.lst (AV.cons EV.int (AV.cons EV.int (AV.three EV.int EV.int EV.int))))) (fun _ _ _ s r => r.st s) (fun _ _ _ s r => r.st s) fun t6 f6 c6' v61 v62 H12 s12 g12 k6 l6 r61 r62 => ?_
    have s10_12 := s11.trans s12
    have s9_12 := s10.trans s10_12
    have s8_12 := s9.trans s9_12
    have s7_12 := s8.trans s8_12
    have s6_12 := s7.trans s7_12
    have hla12 : H12 la = some (.lst [.ref t1, .ref t2, .ref t3, .ref t6]) := g12.a
    have hlf12 : H12 lf = some (.lst [.ref t4, .ref t5]) := g12.f
    obtain ⟨q11, rfl, hq11⟩ := r11.st s7_12
    obtain ⟨q12, rfl, hq12⟩ := r12.st s7_12
    obtain ⟨q21, rfl, hq21⟩ := r21.st s8_12
    obtain ⟨q22, rfl, hq22⟩ := r22.st s8_12
    obtain ⟨q31, rfl, hq31⟩ := r31.st s9_12
    obtain ⟨q32, rfl, hq32⟩ := r32.st s9_12
    obtain ⟨q41, rfl, hq41⟩ := r41.st s10_12
    obtain ⟨q42, rfl, hq42⟩ := r42.st s10_12
    obtain ⟨q51, rfl, hq51⟩ := r51.st s12
    obtain ⟨q52, rfl, hq52⟩ := r52.st s12
    obtain ⟨q61, a61, b61, rfl, hq61, ha61, hb61⟩ := r61
    obtain ⟨q62, a62, b62, rfl, hq62, ha62, hb62⟩ := r62
    have hpo12 := (kpo.st s6_12).h
    have u1 := (k1.st s7_12).h
    have u2 := (k2.st s8_12).h
    have u3 := (k3.st s9_12).h
    have u4 := (k4.st s10_12).h
    have u5 := (k5.st s12).h
    have u6 := k6.h
    have w1 := (l1.st s7_12).hl
    have w2 := (l2.st s8_12).hl
    have w3 := (l3.st s9_12).hl
    have w4 := (l4.st s10_12).hl
    have y4 := (m4.st s10_12).hl
    have w5 := (l5.st s12).hl
    have y5 := (m5.st s12).hl
    have w6 := l6.hl
    refine BW.asgL 8 nd (EL.call c_setting hr (AV.one (EV.var 5 rfl)) (hse H12)) fun pg H13 npg e13 hpg => ?_
    refine BW.app hpg (EV.var 8 rfl) EV.int (by rw [List.length_map, setL_len']; omega) fun H14 e14 => ?_
    refine BW.reverse upd_same (EV.var 8 rfl) fun H15 e15 => ?_
    have ex15 : Ex H12 (upd H15 pg (.lst ((setL n).map V.int ++ [V.int 99]).reverse)) := by
      have x14 : Ex H12 (upd H14 pg (.lst ((setL n).map V.int ++ [V.int 99]))) := (ex_hide (e13.trans e14) npg).trans hide_out
      exact (ex_hide (x14.trans e15) npg).trans hide_out
    generalize upd H15 pg (.lst ((setL n).map V.int ++ [V.int 99]).reverse) = H16 at ex15 ⊢
    refine BW.skip (TV.is (TV.neL (ns := setL n) (ms := setL n) hr (ES.new (EL.call c_setting hr (AV.one (EV.var 5 rfl)) (hse H16))) (ES.old (EV.var 6 rfl) (sq_of (ex15 _ _ hpo12)))) (by simp)) fun H17 e17 => ?_
    have ex17 := ex15.trans e17
    have fl : ∀ us : List Value, us.length = 1 → ∀ (fd : FuncData), True := fun _ _ _ => trivial
    refine BW.skip (TV.is (TV.not (TV.val (EV.allN (bs := [true, true, true, true]) B.all (LC.listG (own := [("_law_ask", 9), ("_law_one", 6), ("_law_other", 7)]) (xs := [.ref t1, .ref t2, .ref t3, .ref t6]) (fun _ => .bl true) (fun i => ([some (.ref a), some (.ref c1), some (.int m), some (.ref la), some (.ref lf), some (.int (n : Int)), some (([V.ref q11, .ref q21, .ref q31, .ref q61] : List V).getD i .non), some (([V.ref q12, .ref q22, .ref q32, .ref q62] : List V).getD i .non), some (.ref pg), some (([V.ref f1, .ref f2, .ref f3, .ref f6] : List V).getD i .non), none] : L2.St)) nd (blkOk_by (N := n_law) (sc := defScope s_law) (by decide +kernel)) (EV.var 3 rfl) (sq_of (ex17 _ _ hla12)) (Nat.le_of_ble_eq_true rfl) (fun i => rfl) (g := gTup K 3 (gCons (gName 9) (gCons (gName 6) (gCons (gName 7) gNil)))) (fun i y Ha R ea hi hR => ?_) (fun i y Ha ea hi => ?_)
      (fun _ _ _ _ _ => pg_tup rfl (pgs_cons (pg_name (i := 9) nd rfl (Or.inl rfl)) (pgs_cons (pg_name (i := 6) nd rfl (Or.inl rfl)) (pgs_cons (pg_name (i := 7) nd rfl (Or.inl rfl)) pgs_nil))))).el))) rfl) fun H18 e18 => ?_
    · have xa := ex17.trans ea
      match i, hi with
      | 0, hi =>
        cases hi
        exact ⟨t1, [.ref f1, .ref q11, .ref q12], rfl, st_of (xa _ _ u1), rfl, _, _, rfl, _, _, rfl, _, _, rfl, rfl, hR⟩
      | 1, hi =>
        cases hi
        exact ⟨t2, [.ref f2, .ref q21, .ref q22], rfl, st_of (xa _ _ u2), rfl, _, _, rfl, _, _, rfl, _, _, rfl, rfl, hR⟩
      | 2, hi =>
        cases hi
        exact ⟨t3, [.ref f3, .ref q31, .ref q32], rfl, st_of (xa _ _ u3), rfl, _, _, rfl, _, _, rfl, _, _, rfl, rfl, hR⟩
      | 3, hi =>
        cases hi
        exact ⟨t6, [.ref f6, .ref q61, .ref q62], rfl, st_of (xa _ _ u6), rfl, _, _, rfl, _, _, rfl, _, _, rfl, rfl, hR⟩
    · have xa' := ex17.trans ea
      have hlen : (setL n).length = (setL n).reverse.length := by rw [List.length_reverse]
      match i, hi with
      | 0, hi =>
        intro s0 H0 C0 cl fp
        exact EV.call c_door1 hr (AV.three (EV.var 9 rfl) (EV.var 6 rfl) (EV.var 7 rfl)) (fun H1 e1 Q kq _ => ⟨f1, q11, q12, _, mirL, okSet, setL n, (setL n).reverse, rfl, w1.mono (xa'.trans e1), lk_flat c_mirrored (fun H p ns hp ho => sl_one hp ho.1 ho.2.1 ho.2.2) ⟨rfl, rfl, rfl, by decide +kernel, rfl, by decide +kernel, by decide +kernel⟩ (Or.inl rfl) rfl (fun us pm ctv hl => match us, hl with | [_], _ => rfl), (xa'.trans e1) _ _ hq11.h, (xa'.trans e1) _ _ hq12.h, hlen, sc_ok9 oo, oo, or, by rw [mirL_len]; exact sc_ok9 oo, kq⟩)
      | 1, hi =>
        intro s0 H0 C0 cl fp
        exact EV.call c_door1 hr (AV.three (EV.var 9 rfl) (EV.var 6 rfl) (EV.var 7 rfl)) (fun H1 e1 Q kq _ => ⟨f2, q21, q22, _, List.reverse, okSet, setL n, (setL n).reverse, rfl, w2.mono (xa'.trans e1), lk_flat c_upended (fun H p ns hp ho => sl_one hp ho.1 ho.2.1 ho.2.2) ⟨rfl, rfl, rfl, by decide +kernel, rfl, by decide +kernel, by decide +kernel⟩ (Or.inl rfl) rfl (fun us pm ctv hl => match us, hl with | [_], _ => rfl), (xa'.trans e1) _ _ hq21.h, (xa'.trans e1) _ _ hq22.h, hlen, sc_ok9 oo, oo, or, by rw [List.length_reverse]; exact sc_ok9 oo, kq⟩)
      | 2, hi =>
        intro s0 H0 C0 cl fp
        exact EV.call c_door1 hr (AV.three (EV.var 9 rfl) (EV.var 6 rfl) (EV.var 7 rfl)) (fun H1 e1 Q kq _ => ⟨f3, q31, q32, _, exL, fun ns => okSet ns ∧ NoTake false ns, setL n, (setL n).reverse, rfl, w3.mono (xa'.trans e1), lk_flat c_exchanged (fun H p ns hp ho => sl_exch hp ho.1.1 ho.1.2.1 ho.1.2.2 ho.2) ⟨rfl, rfl, rfl, by decide +kernel, rfl, by decide +kernel, by decide +kernel⟩ (Or.inl rfl) rfl (fun us pm ctv hl => match us, hl with | [_], _ => rfl), (xa'.trans e1) _ _ hq31.h, (xa'.trans e1) _ _ hq32.h, hlen, sc_ok9 oo, ⟨oo, no⟩, ⟨or, nr⟩, by rw [exL_len]; exact sc_ok9 oo, kq⟩)
      | 3, hi =>
        intro s0 H0 C0 cl fp
        exact EV.call c_door2 hr (AV.three (EV.var 9 rfl) (EV.var 6 rfl) (EV.var 7 rfl)) (fun H1 e1 Q kq _ => ⟨f6, q61, a61, b61, q62, a62, b62, _, okProd, [1, 3, 0, 2], [0, 2, 4, 1, 3], [2, 0, 3, 1], [0, 3, 1, 4, 2], rfl, w6.mono (xa'.trans e1), lk_prod c_product (fun xs ys ho => ho) ⟨rfl, rfl, rfl, by decide +kernel, rfl, by decide +kernel, by decide +kernel⟩ (Or.inl rfl) rfl (fun us pm ctv hl => match us, hl with | [_], _ => rfl), ⟨(xa'.trans e1) _ _ hq61.h, (xa'.trans e1) _ _ ha61.h, (xa'.trans e1) _ _ hb61.h⟩, ⟨(xa'.trans e1) _ _ hq62.h, (xa'.trans e1) _ _ ha62.h, (xa'.trans e1) _ _ hb62.h⟩, rfl, rfl, by decide, by decide, okP1, okP2, by rw [prodL_len]; decide, kq⟩)
    have ex18 := ex17.trans e18
    refine BW.ret (EV.isB (j := true) (EV.allN (bs := [true, true]) B.all (LC.listG (own := [("_law_ask", 9), ("_law_holds", 10), ("_law_one", 6), ("_law_other", 7)]) (xs := [.ref t4, .ref t5]) (fun _ => .bl true) (fun i => ([some (.ref a), some (.ref c1), some (.int m), some (.ref la), some (.ref lf), some (.int (n : Int)), some (([V.ref q41, .ref q51] : List V).getD i .non), some (([V.ref q42, .ref q52] : List V).getD i .non), some (.ref pg), some (([V.ref f4, .ref f5] : List V).getD i .non), some (([V.ref h4, .ref h5] : List V).getD i .non)] : L2.St)) nd (blkOk_by (N := n_law) (sc := defScope s_law) (by decide +kernel)) (EV.var 4 rfl) (sq_of (ex18 _ _ hlf12)) (Nat.le_of_ble_eq_true rfl) (fun i => rfl) (g := gTup K 4 (gCons (gName 9) (gCons (gName 10) (gCons (gName 6) (gCons (gName 7) gNil))))) (fun i y Ha R ea hi hR => ?_) (fun i y Ha ea hi => ?_)
      (fun _ _ _ _ _ => pg_tup rfl (pgs_cons (pg_name (i := 9) nd rfl (Or.inl rfl)) (pgs_cons (pg_name (i := 10) nd rfl (Or.inl rfl)) (pgs_cons (pg_name (i := 6) nd rfl (Or.inl rfl)) (pgs_cons (pg_name (i := 7) nd rfl (Or.inl rfl)) pgs_nil)))))).el) rfl) fun H19 e19 => k H19
    · have xa := ex18.trans ea
      match i, hi with
      | 0, hi =>
        cases hi
        exact ⟨t4, [.ref f4, .ref h4, .ref q41, .ref q42], rfl, st_of (xa _ _ u4), rfl, _, _, rfl, _, _, rfl, _, _, rfl, _, _, rfl, rfl, hR⟩
      | 1, hi =>
        cases hi
        exact ⟨t5, [.ref f5, .ref h5, .ref q51, .ref q52], rfl, st_of (xa _ _ u5), rfl, _, _, rfl, _, _, rfl, _, _, rfl, _, _, rfl, rfl, hR⟩
    · have xa' := ex18.trans ea
      match i, hi with
      | 0, hi =>
        intro s0 H0 C0 cl fp
        exact EV.call c_free hr (AV.cons (EV.var 9 rfl) (AV.three (EV.var 10 rfl) (EV.var 6 rfl) (EV.var 7 rfl))) (fun H1 e1 Q kq _ => ⟨f4, h4, q41, q42, _, _, false, setL n, (List.range n).map fun i : Nat => (i : Int), rfl, w4.mono (xa'.trans e1), y4.mono (xa'.trans e1), lk_told c_told ⟨rfl, rfl, rfl, by decide +kernel, rfl, by decide +kernel, by decide +kernel⟩ (Or.inl rfl) rfl (fun us pm ctv hl => match us, hl with | [_], _ => rfl), lk_holds S ⟨rfl, rfl, rfl, by decide +kernel, rfl, by decide +kernel, by decide +kernel⟩ (Or.inl rfl) (Or.inl rfl) (fun us pm ctv hl => match us, hl with | [_, _], _ => rfl) (fun _ => rfl), (xa'.trans e1) _ _ hq41.h, (xa'.trans e1) _ _ hq42.h, by rw [setL_len']; simp, oo, rng_ok (by omega) (by omega), kq⟩)
      | 1, hi =>
        intro s0 H0 C0 cl fp
        exact EV.call c_free hr (AV.cons (EV.var 9 rfl) (AV.three (EV.var 10 rfl) (EV.var 6 rfl) (EV.var 7 rfl))) (fun H1 e1 Q kq _ => ⟨f5, h5, q51, q52, _, _, true, setL n, (setL n).reverse, rfl, w5.mono (xa'.trans e1), y5.mono (xa'.trans e1), lk_told c_told_joined ⟨rfl, rfl, rfl, by decide +kernel, rfl, by decide +kernel, by decide +kernel⟩ (Or.inl rfl) rfl (fun us pm ctv hl => match us, hl with | [_], _ => rfl), lk_holds S ⟨rfl, rfl, rfl, by decide +kernel, rfl, by decide +kernel, by decide +kernel⟩ (Or.inl rfl) (Or.inl rfl) (fun us pm ctv hl => match us, hl with | [_, _], _ => rfl) (fun _ => rfl), (xa'.trans e1) _ _ hq51.h, (xa'.trans e1) _ _ hq52.h, by rw [List.length_reverse], oo, or, kq⟩)
end
/-! ### the end -/
def csB (K : PySem.W.Frag) (x : Str) (fl : List Str) : Bool := (He.Fa.glo x).ok K && ((He.Fa.cls x).ok K && (ciB K x && (fl.all fun f => (He.Fa.noat x f).ok K)))
theorem cs_of {K : PySem.W.Frag} {h : Heap} {mg : Str → Option Value} {x : Str} {fl : List Str} (X : K.In h) (G : h.Ns mainGlobals mg) (hb : csB K x fl = true) : Cs K mg x (ga K x) fl := by
  obtain ⟨g, z⟩ := He.ba hb
  obtain ⟨c, z⟩ := He.ba z
  obtain ⟨i, n⟩ := He.ba z
  exact ⟨ci_ok (He.glo_ok X G g) c i, fun f hf => He.noat_ok (List.all_eq_true.mp n f hf)⟩
end QR

namespace QR
open PySem PySem.Spec PyProof.Rows L2 Evl

def fnl : List He.DefD := [dG "is_number" s_is_number, dG "take" s_take, dG "take_joined" s_take_joined, dG "first_taking" s_first_taking, dM "Take" "__init__" "Take.__init__" s_Take___init__, dM "JoinedTake" "__init__" "JoinedTake.__init__" s_JoinedTake___init__, dM "Peace" "shows" "Peace.shows" s_Peace_shows, dM "JoinedPeace" "shows" "JoinedPeace.shows" s_JoinedPeace_shows, dM "Take" "shows" "Take.shows" s_Take_shows, dM "JoinedTake" "shows" "JoinedTake.shows" s_JoinedTake_shows, dG "check_size" s_check_size, dG "check_setting" s_check_setting, dG "told" s_told, dG "told_joined" s_told_joined, dG "mirrored" s_mirrored, dG "upended" s_upended, dG "exchanged" s_exchanged, dG "product" s_product, dG "column_of" s_column_of, dG "check_peaceful" s_check_peaceful, dG "setting" s_setting, dG "_law_copied" s_law_copied, dG "_law_spoiled" s_law_spoiled, dG "_law_laid" s_law_laid, dG "_law_told" s_law_told, dG "_law_door_right" s_law_door_right, dG "_law_free_right" s_law_free_right, dG "law" s_law]
def fal : List He.Fa := [.glo "is_number", .glo "take", .glo "take_joined", .glo "first_taking", .mkr "Take", .glo "Take", .mkr "JoinedTake", .glo "JoinedTake", .meth "Peace" "shows", .cls "Peace", .meth "JoinedPeace" "shows", .cls "JoinedPeace", .meth "Take" "shows", .cls "Take", .meth "JoinedTake" "shows", .cls "JoinedTake", .glo "check_size", .glo "check_setting", .glo "told", .glo "told_joined", .glo "mirrored", .glo "upended", .glo "exchanged", .glo "product", .glo "column_of", .glo "check_peaceful", .glo "setting", .glo "_law_copied", .glo "_law_spoiled", .glo "_law_laid", .glo "_law_told", .glo "_law_door_right", .glo "_law_free_right", .glo "law", .int "MOST" 200, .glo "Peace", .glo "JoinedPeace", .free "isinstance", .free "int", .free "bool", .free "list", .free "len", .free "all", .free "any", .free "abs", .free "range", .free "sum", .free "min", .free "max", .free "set", .free "enumerate", .free "sorted", .free "tuple", .free "str", .free "ValueError"]
def tfl : List He.Defn := [("law", none)]
def exl (K : PySem.W.Frag) : Bool := (mkNB K "Peace" && mkNB K "JoinedPeace") && (excB [.size, .setting, .none, .peace] K && (csB K "Take" ["one", "other"] && csB K "JoinedTake" ["one", "other"]))
abbrev R : PySem.W.OpenRow := PySem.W.OpenLaw.row PySem.Challenge.rw_queenrows_k09_handed_stays
abbrev hk : PySem.W.Hook := He.hookX 5 fal fnl [] tfl exl
def ob (s : PySem.W.SharedT) : He.AlX := He.obsX 5 fal fnl [] tfl exl (HandSHeadRun.getT s)
theorem ob_eq (s : PySem.W.SharedT) : ob s = hk.obs s.abs := He.obsX_eq (HandSHeadRun.getT_eq s)
def loose0 : List Str := ["__name__", "QueenError", "BadSize", "BadSetting", "NoSetting", "NoPeace", "MOST", "is_number", "check_size", "check_setting", "take", "take_joined", "first_taking", "mirrored", "upended", "exchanged", "product", "Answer", "Peace", "JoinedPeace"]
def loose1 : List Str := ["Take", "JoinedTake", "told", "told_joined", "column_of", "check_peaceful", "setting", "_law_copied", "_law_spoiled", "_law_laid", "_law_door_right", "_law_told", "_law_free_right"]
def loose : List Str := loose0 ++ loose1
theorem run (w : World) : HandSHeadRun.RunEq R (PySem.W.view R.prog [39]) hk ob 5000 loose w := by
  intro os
  kernel_rfl
theorem facts {P : Program} {w : World} {K : PySem.W.Frag} {h : Heap} {mg : Str → Option Value} {f : Addr} (X : K.In h) (G : h.Ns mainGlobals mg) (hfa : mg ("law" : Str) = some (.ref f)) (c : He.SaysX fal fnl [] tfl exl w h K) :
    ∃ fd : FuncData, (∀ (s : Shared) (v : Value), BindsTo s fd ⟨[v], []⟩ [("_law_script", v)]) ∧ ∀ base : Heap, K.In base → base.Ns mainGlobals mg → (∀ p ∈ (["law"] : List Str).map (fun x => He.cT K (x, none)), LamX.TabB base mg p.1 p.2) → FnOk P w K mg base (L2.CX P w) 7 f fd ["_law_script"] (spLaw9 K) := by
  have d := c.t.d
  have B : Bl mg := ⟨He.free_ok X G (d.fact 37 (f := .free "isinstance") rfl), He.free_ok X G (d.fact 38 (f := .free "int") rfl), He.free_ok X G (d.fact 39 (f := .free "bool") rfl), He.free_ok X G (d.fact 40 (f := .free "list") rfl), He.free_ok X G (d.fact 41 (f := .free "len") rfl), He.free_ok X G (d.fact 42 (f := .free "all") rfl), He.free_ok X G (d.fact 43 (f := .free "any") rfl), He.free_ok X G (d.fact 44 (f := .free "abs") rfl), He.free_ok X G (d.fact 45 (f := .free "range") rfl), He.free_ok X G (d.fact 46 (f := .free "sum") rfl), He.free_ok X G (d.fact 47 (f := .free "min") rfl), He.free_ok X G (d.fact 48 (f := .free "max") rfl), He.free_ok X G (d.fact 49 (f := .free "set") rfl), He.free_ok X G (d.fact 50 (f := .free "enumerate") rfl), He.free_ok X G (d.fact 51 (f := .free "sorted") rfl), He.free_ok X G (d.fact 52 (f := .free "tuple") rfl), He.free_ok X G (d.fact 53 (f := .free "str") rfl), He.free_ok X G (d.fact 54 (f := .free "ValueError") rfl)⟩
  have hX := He.ba c.more
  have hN := He.ba hX.1
  have hY := He.ba hX.2
  have hE := exc_of X G hY.1
  have hC := He.ba hY.2
  have cT := cs_of X G hC.1
  have cJT := cs_of X G hC.2
  have gM := He.int_ok X G (d.fact 34 (f := .int "MOST" 200) rfl)
  obtain ⟨fdL, FL0⟩ := d.def_ 27 (d := dG "law" s_law) rfl
  have FL : Fun K "law" "law" s_law _ fdL := fun_ofD FL0
  have e := hfa.symm.trans (He.glo_ok X G (d.fact 33 (f := .glo "law") rfl))
  cases e
  obtain ⟨fd0, F0_0⟩ := d.def_ 0 (d := dG "is_number" s_is_number) rfl
  have F_is_number : Fun K "is_number" "is_number" s_is_number _ fd0 := fun_ofD F0_0
  have b_is_number := F_is_number.binds (ps := ["thing", "least"]) fun _ _ _ _ _ _ us hl => match us, hl with | [_, _], _ => rfl
  obtain ⟨fd1, F1_0⟩ := d.def_ 1 (d := dG "take" s_take) rfl
  have F_take : Fun K "take" "take" s_take _ fd1 := fun_ofD F1_0
  have b_take := F_take.binds (ps := ["setting", "one", "other"]) fun _ _ _ _ _ _ us hl => match us, hl with | [_, _, _], _ => rfl
  obtain ⟨fd2, F2_0⟩ := d.def_ 2 (d := dG "take_joined" s_take_joined) rfl
  have F_take_joined : Fun K "take_joined" "take_joined" s_take_joined _ fd2 := fun_ofD F2_0
  have b_take_joined := F_take_joined.binds (ps := ["setting", "one", "other"]) fun _ _ _ _ _ _ us hl => match us, hl with | [_, _, _], _ => rfl
  obtain ⟨fd3, F3_0⟩ := d.def_ 3 (d := dG "first_taking" s_first_taking) rfl
  have F_first_taking : Fun K "first_taking" "first_taking" s_first_taking _ fd3 := fun_ofD F3_0
  have b_first_taking := F_first_taking.binds (ps := ["setting", "taking"]) fun _ _ _ _ _ _ us hl => match us, hl with | [_, _], _ => rfl
  obtain ⟨fd4, F4_0⟩ := d.def_ 4 (d := dM "Take" "__init__" "Take.__init__" s_Take___init__) rfl
  have F_Take_init : Fun K "__init__" "Take.__init__" s_Take___init__ _ fd4 := fun_ofD F4_0
  have b_Take_init := F_Take_init.binds (ps := ["self", "one", "other"]) fun _ _ _ _ _ _ us hl => match us, hl with | [_, _, _], _ => rfl
  obtain ⟨fd5, F5_0⟩ := d.def_ 5 (d := dM "JoinedTake" "__init__" "JoinedTake.__init__" s_JoinedTake___init__) rfl
  have F_JoinedTake_init : Fun K "__init__" "JoinedTake.__init__" s_JoinedTake___init__ _ fd5 := fun_ofD F5_0
  have b_JoinedTake_init := F_JoinedTake_init.binds (ps := ["self", "one", "other"]) fun _ _ _ _ _ _ us hl => match us, hl with | [_, _, _], _ => rfl
  obtain ⟨fd6, F6_0⟩ := d.def_ 6 (d := dM "Peace" "shows" "Peace.shows" s_Peace_shows) rfl
  have F_Peace_shows : Fun K "shows" "Peace.shows" s_Peace_shows _ fd6 := fun_ofD F6_0
  have b_Peace_shows := F_Peace_shows.binds (ps := ["self", "setting"]) fun _ _ _ _ _ _ us hl => match us, hl with | [_, _], _ => rfl
  obtain ⟨fd7, F7_0⟩ := d.def_ 7 (d := dM "JoinedPeace" "shows" "JoinedPeace.shows" s_JoinedPeace_shows) rfl
  have F_JoinedPeace_shows : Fun K "shows" "JoinedPeace.shows" s_JoinedPeace_shows _ fd7 := fun_ofD F7_0
  have b_JoinedPeace_shows := F_JoinedPeace_shows.binds (ps := ["self", "setting"]) fun _ _ _ _ _ _ us hl => match us, hl with | [_, _], _ => rfl
  obtain ⟨fd8, F8_0⟩ := d.def_ 8 (d := dM "Take" "shows" "Take.shows" s_Take_shows) rfl
  have F_Take_shows : Fun K "shows" "Take.shows" s_Take_shows _ fd8 := fun_ofD F8_0
  have b_Take_shows := F_Take_shows.binds (ps := ["self", "setting"]) fun _ _ _ _ _ _ us hl => match us, hl with | [_, _], _ => rfl
  obtain ⟨fd9, F9_0⟩ := d.def_ 9 (d := dM "JoinedTake" "shows" "JoinedTake.shows" s_JoinedTake_shows) rfl
  have F_JoinedTake_shows : Fun K "shows" "JoinedTake.shows" s_JoinedTake_shows _ fd9 := fun_ofD F9_0
  have b_JoinedTake_shows := F_JoinedTake_shows.binds (ps := ["self", "setting"]) fun _ _ _ _ _ _ us hl => match us, hl with | [_, _], _ => rfl
  obtain ⟨fd10, F10_0⟩ := d.def_ 10 (d := dG "check_size" s_check_size) rfl
  have F_check_size : Fun K "check_size" "check_size" s_check_size _ fd10 := fun_ofD F10_0
  have b_check_size := F_check_size.binds (ps := ["size"]) fun _ _ _ _ _ _ us hl => match us, hl with | [_], _ => rfl
  obtain ⟨fd11, F11_0⟩ := d.def_ 11 (d := dG "check_setting" s_check_setting) rfl
  have F_check_setting : Fun K "check_setting" "check_setting" s_check_setting _ fd11 := fun_ofD F11_0
  have b_check_setting := F_check_setting.binds (ps := ["setting"]) fun _ _ _ _ _ _ us hl => match us, hl with | [_], _ => rfl
  obtain ⟨fd12, F12_0⟩ := d.def_ 12 (d := dG "told" s_told) rfl
  have F_told : Fun K "told" "told" s_told _ fd12 := fun_ofD F12_0
  have b_told := F_told.binds (ps := ["setting"]) fun _ _ _ _ _ _ us hl => match us, hl with | [_], _ => rfl
  obtain ⟨fd13, F13_0⟩ := d.def_ 13 (d := dG "told_joined" s_told_joined) rfl
  have F_told_joined : Fun K "told_joined" "told_joined" s_told_joined _ fd13 := fun_ofD F13_0
  have b_told_joined := F_told_joined.binds (ps := ["setting"]) fun _ _ _ _ _ _ us hl => match us, hl with | [_], _ => rfl
  obtain ⟨fd14, F14_0⟩ := d.def_ 14 (d := dG "mirrored" s_mirrored) rfl
  have F_mirrored : Fun K "mirrored" "mirrored" s_mirrored _ fd14 := fun_ofD F14_0
  have b_mirrored := F_mirrored.binds (ps := ["setting"]) fun _ _ _ _ _ _ us hl => match us, hl with | [_], _ => rfl
  obtain ⟨fd15, F15_0⟩ := d.def_ 15 (d := dG "upended" s_upended) rfl
  have F_upended : Fun K "upended" "upended" s_upended _ fd15 := fun_ofD F15_0
  have b_upended := F_upended.binds (ps := ["setting"]) fun _ _ _ _ _ _ us hl => match us, hl with | [_], _ => rfl
  obtain ⟨fd16, F16_0⟩ := d.def_ 16 (d := dG "exchanged" s_exchanged) rfl
  have F_exchanged : Fun K "exchanged" "exchanged" s_exchanged _ fd16 := fun_ofD F16_0
  have b_exchanged := F_exchanged.binds (ps := ["setting"]) fun _ _ _ _ _ _ us hl => match us, hl with | [_], _ => rfl
  obtain ⟨fd17, F17_0⟩ := d.def_ 17 (d := dG "product" s_product) rfl
  have F_product : Fun K "product" "product" s_product _ fd17 := fun_ofD F17_0
  have b_product := F_product.binds (ps := ["outer", "inner"]) fun _ _ _ _ _ _ us hl => match us, hl with | [_, _], _ => rfl
  obtain ⟨fd18, F18_0⟩ := d.def_ 18 (d := dG "column_of" s_column_of) rfl
  have F_column_of : Fun K "column_of" "column_of" s_column_of _ fd18 := fun_ofD F18_0
  have b_column_of := F_column_of.binds (ps := ["size", "row"]) fun _ _ _ _ _ _ us hl => match us, hl with | [_, _], _ => rfl
  obtain ⟨fd19, F19_0⟩ := d.def_ 19 (d := dG "check_peaceful" s_check_peaceful) rfl
  have F_check_peaceful : Fun K "check_peaceful" "check_peaceful" s_check_peaceful _ fd19 := fun_ofD F19_0
  have b_check_peaceful := F_check_peaceful.binds (ps := ["size"]) fun _ _ _ _ _ _ us hl => match us, hl with | [_], _ => rfl
  obtain ⟨fd20, F20_0⟩ := d.def_ 20 (d := dG "setting" s_setting) rfl
  have F_setting : Fun K "setting" "setting" s_setting _ fd20 := fun_ofD F20_0
  have b_setting := F_setting.binds (ps := ["size"]) fun _ _ _ _ _ _ us hl => match us, hl with | [_], _ => rfl
  obtain ⟨fd21, F21_0⟩ := d.def_ 21 (d := dG "_law_copied" s_law_copied) rfl
  have F_law_copied : Fun K "_law_copied" "_law_copied" s_law_copied _ fd21 := fun_ofD F21_0
  have b_law_copied := F_law_copied.binds (ps := ["_law_thing"]) fun _ _ _ _ _ _ us hl => match us, hl with | [_], _ => rfl
  obtain ⟨fd22, F22_0⟩ := d.def_ 22 (d := dG "_law_spoiled" s_law_spoiled) rfl
  have F_law_spoiled : Fun K "_law_spoiled" "_law_spoiled" s_law_spoiled _ fd22 := fun_ofD F22_0
  have b_law_spoiled := F_law_spoiled.binds (ps := ["_law_thing"]) fun _ _ _ _ _ _ us hl => match us, hl with | [_], _ => rfl
  obtain ⟨fd23, F23_0⟩ := d.def_ 23 (d := dG "_law_laid" s_law_laid) rfl
  have F_law_laid : Fun K "_law_laid" "_law_laid" s_law_laid _ fd23 := fun_ofD F23_0
  have b_law_laid := F_law_laid.binds (ps := ["_law_mine", "_law_other"]) fun _ _ _ _ _ _ us hl => match us, hl with | [_, _], _ => rfl
  obtain ⟨fd24, F24_0⟩ := d.def_ 24 (d := dG "_law_told" s_law_told) rfl
  have F_law_told : Fun K "_law_told" "_law_told" s_law_told _ fd24 := fun_ofD F24_0
  have b_law_told := F_law_told.binds (ps := ["_law_found"]) fun _ _ _ _ _ _ us hl => match us, hl with | [_], _ => rfl
  obtain ⟨fd25, F25_0⟩ := d.def_ 25 (d := dG "_law_door_right" s_law_door_right) rfl
  have F_law_door_right : Fun K "_law_door_right" "_law_door_right" s_law_door_right _ fd25 := fun_ofD F25_0
  have b_law_door_right := F_law_door_right.binds (ps := ["_law_ask", "_law_one", "_law_other"]) fun _ _ _ _ _ _ us hl => match us, hl with | [_, _, _], _ => rfl
  obtain ⟨fd26, F26_0⟩ := d.def_ 26 (d := dG "_law_free_right" s_law_free_right) rfl
  have F_law_free_right : Fun K "_law_free_right" "_law_free_right" s_law_free_right _ fd26 := fun_ofD F26_0
  have b_law_free_right := F_law_free_right.binds (ps := ["_law_ask", "_law_holds", "_law_one", "_law_other"]) fun _ _ _ _ _ _ us hl => match us, hl with | [_, _, _, _], _ => rfl
  refine ⟨fdL, fun s v => FunD.bindsA (ps := ["_law_script"]) FL0 (fun _ _ _ _ _ _ us hl => match us, hl with | [_], _ => rfl) s [v] rfl, fun base hKb hNb hTB => ?_⟩
  have c_is_number : Fc P w K mg base 1 "is_number" (spIsNum K) := ⟨_, _, _, ok_is_number F_is_number B, He.glo_ok X G (d.fact 0 (f := .glo "is_number") rfl), F_is_number.kp, b_is_number⟩
  have c_take : Fc P w K mg base 1 "take" (spTk K false) := ⟨_, _, _, ok_take F_take B, He.glo_ok X G (d.fact 1 (f := .glo "take") rfl), F_take.kp, b_take⟩
  have c_take_joined : Fc P w K mg base 1 "take_joined" (spTk K true) := ⟨_, _, _, ok_take_joined F_take_joined B, He.glo_ok X G (d.fact 2 (f := .glo "take_joined") rfl), F_take_joined.kp, b_take_joined⟩
  have c_first_taking : Fc P w K mg base 2 "first_taking" (spFirst P w K mg base) := ⟨_, _, _, ok_first_taking F_first_taking B, He.glo_ok X G (d.fact 3 (f := .glo "first_taking") rfl), F_first_taking.kp, b_first_taking⟩
  have k_Take : Kc P w K mg base 1 "Take" (ga K "Take") (spInit (ga K "Take") ["one", "other"]) := ⟨_, _, _, He.mkr_ok (d.fact 4 (f := .mkr "Take") rfl), ok_Take_init F_Take_init cT, He.glo_ok X G (d.fact 5 (f := .glo "Take") rfl), b_Take_init⟩
  have k_JoinedTake : Kc P w K mg base 1 "JoinedTake" (ga K "JoinedTake") (spInit (ga K "JoinedTake") ["one", "other"]) := ⟨_, _, _, He.mkr_ok (d.fact 6 (f := .mkr "JoinedTake") rfl), ok_JoinedTake_init F_JoinedTake_init cJT, He.glo_ok X G (d.fact 7 (f := .glo "JoinedTake") rfl), b_JoinedTake_init⟩
  have m_Peace_shows : Mc P w K mg base 3 (ga K "Peace") "shows" (spPeaceShows K false (ga K "Peace")) := ⟨_, _, _, He.cls_ok (d.fact 9 (f := .cls "Peace") rfl), He.meth_ok (d.fact 8 (f := .meth "Peace" "shows") rfl), ok_Peace_shows F_Peace_shows c_first_taking c_take, b_Peace_shows⟩
  have m_JoinedPeace_shows : Mc P w K mg base 3 (ga K "JoinedPeace") "shows" (spPeaceShows K true (ga K "JoinedPeace")) := ⟨_, _, _, He.cls_ok (d.fact 11 (f := .cls "JoinedPeace") rfl), He.meth_ok (d.fact 10 (f := .meth "JoinedPeace" "shows") rfl), ok_JoinedPeace_shows F_JoinedPeace_shows c_first_taking c_take_joined, b_JoinedPeace_shows⟩
  have m_Take_shows : Mc P w K mg base 2 (ga K "Take") "shows" (spTakeShows K false (ga K "Take")) := ⟨_, _, _, He.cls_ok (d.fact 13 (f := .cls "Take") rfl), He.meth_ok (d.fact 12 (f := .meth "Take" "shows") rfl), ok_Take_shows F_Take_shows B cT c_take, b_Take_shows⟩
  have m_JoinedTake_shows : Mc P w K mg base 2 (ga K "JoinedTake") "shows" (spTakeShows K true (ga K "JoinedTake")) := ⟨_, _, _, He.cls_ok (d.fact 15 (f := .cls "JoinedTake") rfl), He.meth_ok (d.fact 14 (f := .meth "JoinedTake" "shows") rfl), ok_JoinedTake_shows F_JoinedTake_shows B cJT c_take_joined, b_JoinedTake_shows⟩
  have S : S4 P w K mg base (fun k => ga K k.name) := ⟨m_Peace_shows, m_JoinedPeace_shows, m_Take_shows, m_JoinedTake_shows⟩
  have c_check_size : Fc P w K mg base 2 "check_size" (spCkSize K (xaOf K)) := ⟨_, _, _, ok_check_sizeX F_check_size c_is_number (hE .size (by decide)), He.glo_ok X G (d.fact 16 (f := .glo "check_size") rfl), F_check_size.kp, b_check_size⟩
  have c_check_setting : Fc P w K mg base 2 "check_setting" (spCkSetting K (xaOf K)) := ⟨_, _, _, ok_check_setting F_check_setting B c_is_number (hE .setting (by decide)) gM, He.glo_ok X G (d.fact 17 (f := .glo "check_setting") rfl), F_check_setting.kp, b_check_setting⟩
  have c_told : Fc P w K mg base 3 "told" (spTold K (xaOf K) (fun k => ga K k.name) false) := ⟨_, _, _, ok_told F_told (He.glo_ok X G (d.fact 35 (f := .glo "Peace") rfl)) (mkN_of hN.1) k_Take c_check_setting c_first_taking c_take, He.glo_ok X G (d.fact 18 (f := .glo "told") rfl), F_told.kp, b_told⟩
  have c_told_joined : Fc P w K mg base 3 "told_joined" (spTold K (xaOf K) (fun k => ga K k.name) true) := ⟨_, _, _, ok_told_joined F_told_joined (He.glo_ok X G (d.fact 36 (f := .glo "JoinedPeace") rfl)) (mkN_of hN.2) k_JoinedTake c_check_setting c_first_taking c_take_joined, He.glo_ok X G (d.fact 19 (f := .glo "told_joined") rfl), F_told_joined.kp, b_told_joined⟩
  have c_mirrored : Fc P w K mg base 3 "mirrored" (spOne K (xaOf K) mirL) := ⟨_, _, _, ok_mirrored F_mirrored B c_check_setting, He.glo_ok X G (d.fact 20 (f := .glo "mirrored") rfl), F_mirrored.kp, b_mirrored⟩
  have c_upended : Fc P w K mg base 3 "upended" (spOne K (xaOf K) List.reverse) := ⟨_, _, _, ok_upended F_upended c_check_setting, He.glo_ok X G (d.fact 21 (f := .glo "upended") rfl), F_upended.kp, b_upended⟩
  have c_exchanged : Fc P w K mg base 3 "exchanged" (spExch K (xaOf K)) := ⟨_, _, _, ok_exchanged F_exchanged B c_check_setting c_first_taking c_take (hE .peace (by decide)), He.glo_ok X G (d.fact 22 (f := .glo "exchanged") rfl), F_exchanged.kp, b_exchanged⟩
  have c_product : Fc P w K mg base 3 "product" (spProd K (xaOf K)) := ⟨_, _, _, ok_product F_product B c_check_setting c_first_taking c_take c_take_joined (hE .peace (by decide)) (hE .setting (by decide)) gM, He.glo_ok X G (d.fact 23 (f := .glo "product") rfl), F_product.kp, b_product⟩
  have c_column_of : Fc P w K mg base 1 "column_of" (spColOf) := ⟨_, _, _, ok_column_of F_column_of, He.glo_ok X G (d.fact 24 (f := .glo "column_of") rfl), F_column_of.kp, b_column_of⟩
  have c_check_peaceful : Fc P w K mg base 3 "check_peaceful" (spCkPeace K (xaOf K)) := ⟨_, _, _, ok_check_peacefulX F_check_peaceful c_check_size (hE .none (by decide)), He.glo_ok X G (d.fact 25 (f := .glo "check_peaceful") rfl), F_check_peaceful.kp, b_check_peaceful⟩
  have c_setting : Fc P w K mg base 4 "setting" (spSetting K (xaOf K)) := ⟨_, _, _, ok_settingX F_setting B c_check_size c_check_peaceful c_column_of (hE .size (by decide)) gM, He.glo_ok X G (d.fact 26 (f := .glo "setting") rfl), F_setting.kp, b_setting⟩
  have c_law_copied : Fc P w K mg base 1 "_law_copied" (spCp0) := ⟨_, _, _, ok_copied0 F_law_copied B, He.glo_ok X G (d.fact 27 (f := .glo "_law_copied") rfl), F_law_copied.kp, b_law_copied⟩
  have c_cp1 : Fc P w K mg base 2 "_law_copied" (spCp1 K) := ⟨_, _, _, ok_copied1 F_law_copied B c_law_copied, He.glo_ok X G (d.fact 27 (f := .glo "_law_copied") rfl), F_law_copied.kp, b_law_copied⟩
  have c_cp2 : Fc P w K mg base 3 "_law_copied" (spCp2 K) := ⟨_, _, _, ok_copied2 F_law_copied B c_cp1, He.glo_ok X G (d.fact 27 (f := .glo "_law_copied") rfl), F_law_copied.kp, b_law_copied⟩
  have c_law_spoiled : Fc P w K mg base 1 "_law_spoiled" (spSpoil) := ⟨_, _, _, ok_spoiled F_law_spoiled B, He.glo_ok X G (d.fact 28 (f := .glo "_law_spoiled") rfl), F_law_spoiled.kp, b_law_spoiled⟩
  have c_law_laid : Fc P w K mg base 2 "_law_laid" (spLaid1 K) := ⟨_, _, _, ok_laid1 F_law_laid B c_law_copied, He.glo_ok X G (d.fact 29 (f := .glo "_law_laid") rfl), F_law_laid.kp, b_law_laid⟩
  have c_laid2 : Fc P w K mg base 3 "_law_laid" (spLaid2 K) := ⟨_, _, _, ok_laid2 F_law_laid B c_law_laid, He.glo_ok X G (d.fact 29 (f := .glo "_law_laid") rfl), F_law_laid.kp, b_law_laid⟩
  have c_law_told : Fc P w K mg base 1 "_law_told" (spTold9) := ⟨_, _, _, ok_told9 F_law_told, He.glo_ok X G (d.fact 30 (f := .glo "_law_told") rfl), F_law_told.kp, b_law_told⟩
  have c_law_door_right : Fc P w K mg base 6 "_law_door_right" (spDoor1 P w K mg base) := ⟨_, _, _, ok_door1 F_law_door_right B c_cp1 c_law_spoiled c_law_laid, He.glo_ok X G (d.fact 31 (f := .glo "_law_door_right") rfl), F_law_door_right.kp, b_law_door_right⟩
  have c_door2 : Fc P w K mg base 6 "_law_door_right" (spDoor2 P w K mg base) := ⟨_, _, _, ok_door2 F_law_door_right B c_cp1 c_cp2 c_law_spoiled c_laid2, He.glo_ok X G (d.fact 31 (f := .glo "_law_door_right") rfl), F_law_door_right.kp, b_law_door_right⟩
  have c_law_free_right : Fc P w K mg base 6 "_law_free_right" (spFree P w K mg base (fun k => ga K k.name)) := ⟨_, _, _, ok_free F_law_free_right B c_cp1 c_law_spoiled c_law_laid c_law_told, He.glo_ok X G (d.fact 32 (f := .glo "_law_free_right") rfl), F_law_free_right.kp, b_law_free_right⟩
  exact ok_law9 FL (fun_code (p := ("law", none)) FL) ⟨hTB _ (List.mem_map.mpr ⟨"law", List.mem_cons_self, rfl⟩), tabL_mem List.mem_cons_self, tabL_one (by simp) List.mem_cons_self⟩ B S c_setting c_mirrored c_upended c_exchanged c_product c_told c_told_joined c_law_door_right c_door2 c_law_free_right
end QR
open PySem PySem.W PySem.Calls PyProof.Rows
set_option maxRecDepth 100000 in
set_option maxHeartbeats 0 in
theorem PySem.Challenge.cw_queenrows_k09_handed_stays_holds : PySem.Challenge.rw_queenrows_k09_handed_stays.Holds := by
  w_on; o_law
  refine HandSHeadRun.head_any (r := OpenLaw.row PySem.Challenge.rw_queenrows_k09_handed_stays) (q := view (OpenLaw.row PySem.Challenge.rw_queenrows_k09_handed_stays).prog [39]) (H := QR.hk) (ob := QR.ob) (M := 5000) (loose := QR.loose) (d := HandSHeadRun.topDef (OpenLaw.row PySem.Challenge.rw_queenrows_k09_handed_stays).prog 39) (kwd := []) QR.ob_eq
    (by kernel_rfl) (fun s => by kernel_rfl) QR.run (by kernel_rfl) (by kernel_rfl) (by kernel_rfl) (by rfl) (by first | assumption | decide +kernel) (by decide +kernel) ⟨rfl, rfl, rfl, rfl, rfl, by decide +kernel⟩ ?hw ?hc
  case hw => w_witness2
  case hc =>
    refine LamX.walk_ofTsE (l := PySem.Challenge.rw_queenrows_k09_handed_stays) (n := 63) (k := 7) (x := "_law_script") (CX := fun w => L2.CX (PySem.Challenge.rw_queenrows_k09_handed_stays).prog w) rfl (by decide) (by kernel_rfl) ⟨rfl, by decide, by decide⟩ ?F (fun w H s e s' z => by obtain ⟨_, _, _, _, _, _, _, _, _, _, _, _, y⟩ := z; exact y.elim)
    intro w mg fa h Y G hmg0
    obtain ⟨K, KX, c⟩ := Y
    have hmg : mg ("law" : PySem.Str) = some (.ref fa) := by
      have e : (HandSHeadRun.topDef (OpenLaw.row PySem.Challenge.rw_queenrows_k09_handed_stays).prog 39).name = ("law" : PySem.Str) := by kernel_rfl
      rw [← e]
      exact hmg0
    obtain ⟨fd, hb, hF⟩ := QR.facts (P := (PySem.Challenge.rw_queenrows_k09_handed_stays).prog) (w := w) KX G hmg c
    have ht : ∀ x ∈ (["law"] : List PySem.Str), ((x, none) : He.Defn) ∈ QR.tfl := by decide
    exact ⟨K, KX, fd, (["law"] : List PySem.Str).map (fun x => He.cT K (x, none)), QR.spLaw9 K, (fun p hp => by
      obtain ⟨x, hx, rfl⟩ := List.mem_map.mp hp
      exact c.empty _ (ht x hx)), (fun p hp => by
      obtain ⟨x, hx, rfl⟩ := List.mem_map.mp hp
      exact c.out _ (ht x hx)), (fun p hp => by
      obtain ⟨x, hx, rfl⟩ := List.mem_map.mp hp
      exact codeHd_of_K KX (c.hd _ (ht x hx))), hb, (fun H a ns hl hz hH hS => ⟨a, ns, rfl, hS, hl, (fun p hp => by
      obtain ⟨x, hx, rfl⟩ := List.mem_map.mp hp
      exact LamX.TabS.nil (hH _ (List.mem_map.mpr ⟨x, hx, rfl⟩))), fun _ => rfl⟩), fun base h1 h2 h3 => hF base h1 h2 h3⟩
