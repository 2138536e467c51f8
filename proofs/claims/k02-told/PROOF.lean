import PyProof.Rows.All
import Wide.All
import OpenK.AllK
import Wide.FinOn
import HandS.ForMost
import HandS.ForExc
import HandS.Evl
import HandS.Codes
import HandS.IsInst
import HandS.EndBits
import HandS.Style
import HandS.Wide
import PyProof.LongRange
import HandS.Zip
import HandS.SetFor
import KE.KStateDown
import HandS.Head0
import HandS.Head1
import HandS.Head2
import HandS.HeadHook1
import HandS.HeadHook2
import HandS.HeadHook3
import HandS.HeadHook4
import HandS.HeadWalk
import HandS.CallLocal
import PySem.Challenge.RW_queenrows_k02_whole_told
set_option Elab.async false
set_option linter.all false
set_option maxRecDepth 100000
set_option maxHeartbeats 4000000
namespace QR
open PySem PySem.Spec PyProof.Rows L2 Evl

/-! ### what an expression, a test, a block leads to, at these slots and this heap -/
structure EW (X : Cx) (e : Expr) (σ : L2.St) (H : Hp) (Q : VK) : Prop where
  run : ∀ (pins : List (Addr × Obj)) (s : Shared), Inv X pins σ H s → wpAny (model X.prog X.w) X.A (eval e X.env) (EP X pins σ Q) X.xe s
structure TW (X : Cx) (e : Expr) (σ : L2.St) (H : Hp) (Q : Bool → Hp → Prop) : Prop where
  run : ∀ (pins : List (Addr × Obj)) (s : Shared), Inv X pins σ H s → wpAny (model X.prog X.w) X.A (isTrue e X.env (eval e X.env)) (TP X pins σ Q) X.xe s
structure LW (X : Cx) (e : Expr) (σ : L2.St) (H : Hp) (Q : Bool → Hp → Prop) : Prop where
  run : ∀ (whole : Sem Value) (pins : List (Addr × Obj)) (s : Shared), Inv X pins σ H s → wpAny (model X.prog X.w) X.A (isTrue e X.env whole) (TP X pins σ Q) X.xe s
structure BW (X : Cx) (st : List Stmt) (D : Ends) (σ : L2.St) (H : Hp) : Prop where
  run : ∀ (pins : List (Addr × Obj)) (s : Shared), Inv X pins σ H s → wpAny (model X.prog X.w) X.A (execs st X.env) (SP X pins D) X.xe s
section
variable {X : Cx} {e : Expr} {es : List Expr} {σ : L2.St} {H : Hp} {Q : VK} {v : V}
theorem pe_self : PE X e (EW X e) := ⟨fun pins s _ _ _ I h => h.run pins s I⟩
theorem pt_self : PT X e (TW X e) := ⟨fun pins s _ _ _ I h => h.run pins s I⟩
theorem pw_self : PW X e (LW X e) := ⟨fun wh pins s _ _ _ I h => h.run wh pins s I⟩
theorem pss_self {st : List Stmt} : PSs X st (BW X st) := ⟨fun pins s _ _ _ I h => h.run pins s I⟩
theorem EW.of {t : TE} (h : PE X e t) (r : t σ H Q) : EW X e σ H Q := ⟨fun pins s I => h.run pins s σ H Q I r⟩
theorem TW.of {t : TT} {Q : Bool → Hp → Prop} (h : PT X e t) (r : t σ H Q) : TW X e σ H Q := ⟨fun pins s I => h.run pins s σ H Q I r⟩
theorem LW.of {t : TT} {Q : Bool → Hp → Prop} (h : PW X e t) (r : t σ H Q) : LW X e σ H Q := ⟨fun wh pins s I => h.run wh pins s σ H Q I r⟩
theorem BW.of {t : TS} {st : List Stmt} {D : Ends} (h : PSs X st t) (r : t D σ H) : BW X st D σ H := ⟨fun pins s I => h.run pins s σ H D I r⟩
/-- the argument list as a reading -/
def tArgs (X : Cx) : List Expr → TA
  | [] => tNil
  | e :: es => tCons (EW X e) (tArgs X es)
/-! ### values -/
structure EV (X : Cx) (e : Expr) (σ : L2.St) (H : Hp) (v : V) : Prop where
  ev : Ev (EW X e) σ H v
structure EL (X : Cx) (e : Expr) (σ : L2.St) (H : Hp) (xs : List V) : Prop where
  ev : EvL (EW X e) σ H xs
structure EU (X : Cx) (e : Expr) (σ : L2.St) (H : Hp) (xs : List V) : Prop where
  ev : EvU (EW X e) σ H xs
structure TV (X : Cx) (e : Expr) (σ : L2.St) (H : Hp) (b : Bool) : Prop where
  ev : EvT (TW X e) σ H b
structure LV (X : Cx) (e : Expr) (σ : L2.St) (H : Hp) (b : Bool) : Prop where
  ev : EvT (LW X e) σ H b
theorem EV.of {t : TE} (h : PE X e t) (r : Ev t σ H v) : EV X e σ H v := ⟨fun H1 e1 Q q => EW.of h (r H1 e1 Q q)⟩
theorem EL.of {t : TE} {xs : List V} (h : PE X e t) (r : EvL t σ H xs) : EL X e σ H xs := ⟨fun H1 e1 Q q => EW.of h (r H1 e1 Q q)⟩
theorem EU.of {t : TE} {xs : List V} (h : PE X e t) (r : EvU t σ H xs) : EU X e σ H xs := ⟨fun H1 e1 Q q => EW.of h (r H1 e1 Q q)⟩
theorem TV.of {t : TT} {b : Bool} (h : PT X e t) (r : EvT t σ H b) : TV X e σ H b := ⟨fun H1 e1 Q q => TW.of h (r H1 e1 Q q)⟩
theorem LV.of {t : TT} {b : Bool} (h : PW X e t) (r : EvT t σ H b) : LV X e σ H b := ⟨fun H1 e1 Q q => LW.of h (r H1 e1 Q q)⟩
theorem EV.mono {H' : Hp} (h : EV X e σ H v) (e1 : Ex H H') : EV X e σ H' v := ⟨h.ev.mono e1⟩
theorem EL.mono {H' : Hp} {xs : List V} (h : EL X e σ H xs) (e1 : Ex H H') : EL X e σ H' xs := ⟨h.ev.mono e1⟩
theorem TV.mono {H' : Hp} {b : Bool} (h : TV X e σ H b) (e1 : Ex H H') : TV X e σ H' b := ⟨h.ev.mono e1⟩
theorem EV.is {w : V} (h : EV X e σ H v) (q : v = w) : EV X e σ H w := q ▸ h
theorem EL.is {xs ys : List V} (h : EL X e σ H xs) (q : xs = ys) : EL X e σ H ys := q ▸ h
theorem TV.is {b c : Bool} (h : TV X e σ H b) (q : b = c) : TV X e σ H c := q ▸ h
theorem EV.isI {i j : Int} (h : EV X e σ H (.int i)) (q : i = j) : EV X e σ H (.int j) := q ▸ h
theorem EV.isB {i j : Bool} (h : EV X e σ H (.bl i)) (q : i = j) : EV X e σ H (.bl j) := q ▸ h
/-- in a row: what is wanted behind it -/
theorem EV.go (h : EV X e σ H v) (k : ∀ H1, Ex H H1 → Q v H1) : EW X e σ H Q := h.ev H (Ex.refl H) Q k
theorem EL.go {xs : List V} (h : EL X e σ H xs) (k : ∀ p H1, H p = none → Ex H H1 → H1 p = some (.lst xs) → Q (.ref p) H1) : EW X e σ H Q := h.ev H (Ex.refl H) Q k
theorem EU.go {xs : List V} (h : EU X e σ H xs) (k : ∀ p H1, H p = none → Ex H H1 → H1 p = some (.tup xs) → Q (.ref p) H1) : EW X e σ H Q := h.ev H (Ex.refl H) Q k
theorem TV.go {b : Bool} {Q : Bool → Hp → Prop} (h : TV X e σ H b) (k : ∀ H1, Ex H H1 → Q b H1) : TW X e σ H Q := h.ev H (Ex.refl H) Q k
end
section
variable {X : Cx} {e a b c : Expr} {es : List Expr} {σ : L2.St} {H : Hp} {Q : VK} {v x y z : V} {pos p : Pos}
/-! ### names and constants -/
theorem EV.var (i : Nat) {x : Str} (h : σ[i]? = some (some v)) (hN : X.N[i]? = some x := by rfl) (hv : Vis X.env.scope x := by first | exact Or.inl rfl | exact Or.inr (Or.inl rfl) | exact Or.inr (Or.inr rfl)) (hd : (x == ("__debug__" : Str)) = false := by decide)
    (hcd : (x == ("__classdict__" : Str)) = false := by decide) : EV X (.Name x pos) σ H v := EV.of (pe_var hN hv hd hcd) (ev_var h)
theorem EV.int {i : Int} {j : Nat} : EV X (.Constant (.int i) j pos) σ H (.int i) := EV.of pe_int ev_c
theorem EV.bl {i : Bool} {j : Nat} : EV X (.Constant (.bool i) j pos) σ H (.bl i) := EV.of pe_bl ev_c
theorem EV.non {j : Nat} : EV X (.Constant .none j pos) σ H .non := EV.of pe_non ev_c
theorem EV.str {z : Str} {j : Nat} : EV X (.Constant (.str z) j pos) σ H (.str z) := EV.of pe_str ev_c
theorem EV.glob {x : Str} {f : Addr} (hm : X.mg x = some (.ref f)) (hg : Gl X x := by rfl) (hd : (x == ("__debug__" : Str)) = false := by decide) : EV X (.Name x pos) σ H (.ref f) := EV.of (pe_glob (v := .ref f) hg hm rfl hd) ev_c
theorem EV.globI {x : Str} {i : Int} {t : Tok} (hm : X.mg x = some (.int i t)) (hg : Gl X x := by rfl) (hd : (x == ("__debug__" : Str)) = false := by decide) : EV X (.Name x pos) σ H (.int i) := EV.of (pe_glob (v := .int i) hg hm ⟨t, rfl⟩ hd) ev_c
/-- the name of a built-in class, as a value -/
theorem EV.ty {x : Str} {T : String} (hm : X.mg x = none) (hv : bootBuiltins x = some (.type T)) (hg : Gl X x := by rfl) (hn : x ≠ "__name__" := by decide) (hd : (x == ("__debug__" : Str)) = false := by decide) : EV X (.Name x pos) σ H (.ty T) := EV.of (pe_bltn (v := .ty T) hg hm hv rfl hn hd) ev_c
/-! ### whole numbers -/
theorem EV.opI {op : Operator} {r : R2} (ho : OpR X (binaryOp op) r) (ha : EV X a σ H x) (hb : EV X b σ H y) (hr : RV r x y H z) : EV X (.BinOp a op b pos) σ H z := EV.of (pe_op ho pe_self pe_self) (ev_op ha.ev hb.ev hr)
theorem EV.add {i j : Int} (ha : EV X a σ H (.int i)) (hb : EV X b σ H (.int j)) : EV X (.BinOp a .Add b pos) σ H (.int (i + j)) := EV.opI op_add ha hb rv_I0
theorem EV.sub {i j : Int} (ha : EV X a σ H (.int i)) (hb : EV X b σ H (.int j)) : EV X (.BinOp a .Sub b pos) σ H (.int (i - j)) := EV.opI op_sub ha hb rv_I0
theorem op_mulV : OpR X (binaryOp .Mult) (rI IntMulOk fun i j => .int (i * j)) := opI fun _ _ _ _ _ _ _ hc q => mul_int q hc
theorem EV.mul {i j : Int} (ha : EV X a σ H (.int i)) (hb : EV X b σ H (.int j)) (hc : IntMulOk i j) : EV X (.BinOp a .Mult b pos) σ H (.int (i * j)) := EV.opI op_mulV ha hb (rv_I hc)
theorem EV.mod {i j : Int} (ha : EV X a σ H (.int i)) (hb : EV X b σ H (.int j)) (hc : 0 < j) : EV X (.BinOp a .Mod b pos) σ H (.int (i % j)) := EV.opI op_mod ha hb (rv_I (C := fun _ j => 0 < j) hc)
theorem EV.fdiv {i j : Int} (ha : EV X a σ H (.int i)) (hb : EV X b σ H (.int j)) (hc : 0 < j ∧ j < 1073741824) : EV X (.BinOp a .FloorDiv b pos) σ H (.int (i / j)) := EV.opI op_fdiv ha hb (rv_I (C := CDiv) hc)
theorem EV.pow {i j : Int} (ha : EV X a σ H (.int i)) (hb : EV X b σ H (.int j)) (hc : 0 ≤ j ∧ j ≤ 1000000 ∧ i.natAbs < 2 ^ 64) : EV X (.BinOp a .Pow b pos) σ H (.int (i ^ j.toNat)) := EV.opI op_pow ha hb (rv_I (C := CPow) hc)
theorem EV.neg {i : Int} (ha : EV X a σ H (.int i)) : EV X (.UnaryOp .USub a pos) σ H (.int (-i)) := EV.of (pe_un un_neg pe_self) (ev_un ha.ev ru_neg)
theorem mul_small {i j : Int} (h : (-(2 ^ 64) < i ∧ i < 2 ^ 64) ∨ (-(2 ^ 64) < j ∧ j < 2 ^ 64)) : IntMulOk i j := CMul.ok h
/-! ### comparisons -/
theorem EV.cmp {op : CmpOp} {r : R2} (ho : OpR X (compareOp op) r) (ha : EV X a σ H x) (hb : EV X b σ H y) (hr : RV r x y H z) (hm : behindInMarks op b = false) : EV X (.Compare a [op] [b] pos) σ H z := EV.of (pe_cmpR ho pe_self pe_self hm) (ev_op ha.ev hb.ev hr)
theorem EV.lt {i j : Int} (ha : EV X a σ H (.int i)) (hb : EV X b σ H (.int j)) : EV X (.Compare a [.Lt] [b] pos) σ H (.bl (decide (i < j))) := EV.cmp op_lt ha hb rv_I0 (nomark _)
theorem EV.le {i j : Int} (ha : EV X a σ H (.int i)) (hb : EV X b σ H (.int j)) : EV X (.Compare a [.LtE] [b] pos) σ H (.bl (decide (i ≤ j))) := EV.cmp op_le ha hb rv_I0 (nomark _)
theorem EV.gt {i j : Int} (ha : EV X a σ H (.int i)) (hb : EV X b σ H (.int j)) : EV X (.Compare a [.Gt] [b] pos) σ H (.bl (decide (j < i))) := EV.cmp op_gt ha hb rv_I0 (nomark _)
theorem EV.ge {i j : Int} (ha : EV X a σ H (.int i)) (hb : EV X b σ H (.int j)) : EV X (.Compare a [.GtE] [b] pos) σ H (.bl (decide (j ≤ i))) := EV.cmp op_ge ha hb rv_I0 (nomark _)
theorem EV.eq {i j : Int} (ha : EV X a σ H (.int i)) (hb : EV X b σ H (.int j)) : EV X (.Compare a [.Eq] [b] pos) σ H (.bl (decide (i = j))) := by
  refine EV.is (EV.cmp op_eq ha hb (rv_eq rfl) (nomark _)) ?_
  rw [dec_int, Bool.beq_eq_decide_eq]
theorem EV.ne {i j : Int} (ha : EV X a σ H (.int i)) (hb : EV X b σ H (.int j)) : EV X (.Compare a [.NotEq] [b] pos) σ H (.bl (decide (i ≠ j))) := by
  refine EV.is (EV.cmp op_ne ha hb (rv_ne rfl) (nomark _)) ?_
  rw [dec_int, Bool.beq_eq_decide_eq, ← decide_not]
theorem EV.eqB {i j : Bool} (ha : EV X a σ H (.bl i)) (hb : EV X b σ H (.bl j)) : EV X (.Compare a [.Eq] [b] pos) σ H (.bl (i == j)) := by
  refine EV.is (EV.cmp op_eq ha hb (rv_eq rfl) (nomark _)) ?_
  rw [dec_bl]
theorem EV.neB {i j : Bool} (ha : EV X a σ H (.bl i)) (hb : EV X b σ H (.bl j)) : EV X (.Compare a [.NotEq] [b] pos) σ H (.bl (i != j)) := by
  refine EV.is (EV.cmp op_ne ha hb (rv_ne rfl) (nomark _)) ?_
  rw [dec_bl]; rfl
theorem EV.isN (ha : EV X a σ H x) (hb : EV X b σ H .non) : EV X (.Compare a [.Is] [b] pos) σ H (.bl (decide (x = .non))) := EV.cmp op_isN ha hb (fun H1 _ _ q => ⟨rfl, q H1 (Ex.refl H1)⟩) (nomark _)
theorem EV.notN (ha : EV X a σ H x) (hb : EV X b σ H .non) : EV X (.Compare a [.IsNot] [b] pos) σ H (.bl (!decide (x = .non))) := EV.cmp op_notN ha hb (fun H1 _ _ q => ⟨rfl, q H1 (Ex.refl H1)⟩) (nomark _)
/-- a < b < c -/
theorem EV.chain {op op' : CmpOp} {r r' : R2} {k1 k2 : Bool} {w : V} (ho : OpR X (compareOp op) r) (ho' : OpR X (compareOp op') r') (ha : EV X a σ H x) (hb : EV X b σ H y) (hr : RV r x y H (.bl k1)) (hc : k1 = true → EV X c σ H w) (hr' : k1 = true → RV r' y w H (.bl k2))
    (hm : lastMarks [op, op'] [b, c] = false := by with_unfolding_all rfl) : EV X (.Compare a [op, op'] [b, c] pos) σ H (.bl (k1 && k2)) := by
  refine EV.of (pe_chain ho ho' pe_self pe_self pe_self hm) fun H1 e Q q => ?_
  refine ha.ev H1 e _ fun H2 e2 => hb.ev H2 (e.trans e2) _ fun H3 e3 => hr H3 ((e.trans e2).trans e3) _ fun H4 e4 => ⟨k1, rfl, ?_⟩
  cases k1 with
  | false => exact q H4 ((e2.trans e3).trans e4)
  | true => exact (hc rfl).ev H4 (((e.trans e2).trans e3).trans e4) _ fun H5 e5 => hr' rfl H5 ((((e.trans e2).trans e3).trans e4).trans e5) _ fun H6 e6 => q H6 ((((e2.trans e3).trans e4).trans e5).trans e6)
theorem EV.leLt {i j k : Int} (ha : EV X a σ H (.int i)) (hb : EV X b σ H (.int j)) (hc : EV X c σ H (.int k)) : EV X (.Compare a [.LtE, .Lt] [b, c] pos) σ H (.bl (decide (i ≤ j) && decide (j < k))) := EV.chain op_le op_lt ha hb rv_I0 (fun _ => hc) (fun _ => rv_I0) (nomark c)
theorem EV.leLe {i j k : Int} (ha : EV X a σ H (.int i)) (hb : EV X b σ H (.int j)) (hc : EV X c σ H (.int k)) : EV X (.Compare a [.LtE, .LtE] [b, c] pos) σ H (.bl (decide (i ≤ j) && decide (j ≤ k))) := EV.chain op_le op_le ha hb rv_I0 (fun _ => hc) (fun _ => rv_I0) (nomark c)
/-! ### truths -/
theorem EV.not {k : Bool} (ha : EV X a σ H (.bl k)) : EV X (.UnaryOp .Not a pos) σ H (.bl (!k)) := EV.of (pe_not pe_self) (ev_notV ha.ev)
theorem EV.one {op : BoolOp} (ha : EV X a σ H v) : EV X (.BoolOp op [a] pos) σ H v := EV.of (pe_one pe_self) ha.ev
theorem EV.and {k1 k2 : Bool} (ha : EV X a σ H (.bl k1)) (hb : k1 = true → EV X (.BoolOp .And (b :: es) pos) σ H (.bl k2)) : EV X (.BoolOp .And (a :: b :: es) pos) σ H (.bl (k1 && k2)) := EV.of (pe_and pe_self pe_self) (ev_andV ha.ev fun h => (hb h).ev)
theorem EV.or {k1 k2 : Bool} (ha : EV X a σ H (.bl k1)) (hb : k1 = false → EV X (.BoolOp .Or (b :: es) pos) σ H (.bl k2)) : EV X (.BoolOp .Or (a :: b :: es) pos) σ H (.bl (k1 || k2)) := EV.of (pe_or pe_self pe_self) (ev_orV ha.ev fun h => (hb h).ev)
theorem EV.and2 {k1 k2 : Bool} (ha : EV X a σ H (.bl k1)) (hb : k1 = true → EV X b σ H (.bl k2)) : EV X (.BoolOp .And [a, b] pos) σ H (.bl (k1 && k2)) := EV.and ha fun h => EV.one (hb h)
theorem EV.or2 {k1 k2 : Bool} (ha : EV X a σ H (.bl k1)) (hb : k1 = false → EV X b σ H (.bl k2)) : EV X (.BoolOp .Or [a, b] pos) σ H (.bl (k1 || k2)) := EV.or ha fun h => EV.one (hb h)
theorem EV.and3 {k1 k2 k3 : Bool} (ha : EV X a σ H (.bl k1)) (hb : k1 = true → EV X b σ H (.bl k2)) (hc : k1 = true → k2 = true → EV X c σ H (.bl k3)) : EV X (.BoolOp .And [a, b, c] pos) σ H (.bl (k1 && (k2 && k3))) := EV.and ha fun h => EV.and2 (hb h) (hc h)
theorem EV.or3 {k1 k2 k3 : Bool} (ha : EV X a σ H (.bl k1)) (hb : k1 = false → EV X b σ H (.bl k2)) (hc : k1 = false → k2 = false → EV X c σ H (.bl k3)) : EV X (.BoolOp .Or [a, b, c] pos) σ H (.bl (k1 || (k2 || k3))) := EV.or ha fun h => EV.or2 (hb h) (hc h)
theorem EV.ite {k : Bool} (ht : TV X c σ H k) (h1 : k = true → EV X a σ H v) (h2 : k = false → EV X b σ H v) : EV X (.IfExp c a b pos) σ H v := EV.of (pe_ifExp pt_self pe_self pe_self) (ev_if ht.ev (fun h => (h1 h).ev) fun h => (h2 h).ev)
theorem EV.iteI {k : Bool} {i j : Int} (ht : TV X c σ H k) (h1 : k = true → EV X a σ H (.int i)) (h2 : k = false → EV X b σ H (.int j)) : EV X (.IfExp c a b pos) σ H (.int (if k = true then i else j)) :=
  EV.ite ht (fun h => by rw [if_pos h]; exact h1 h) (fun h => by rw [if_neg (by rw [h]; decide)]; exact h2 h)
/-! ### tests -/
theorem TV.val {k : Bool} (h : EV X e σ H (.bl k)) (he : ∀ whole, isTrue e X.env whole = (do let v ← whole; standAt e.pos; holding [v] (truthy v)) := by intro _; rfl) : TV X e σ H k := TV.of (pt_val pe_self he) (et_B h.ev)
theorem TV.cmp {op : CmpOp} {k : Bool} (h : EV X (.Compare a [op] [b] pos) σ H (.bl k)) : TV X (.Compare a [op] [b] pos) σ H k → TV X (.Compare a [op] [b] pos) σ H k := fun z => z
theorem TV.op {op : CmpOp} {r : R2} {k : Bool} (ho : OpR X (compareOp op) r) (ha : EV X a σ H x) (hb : EV X b σ H y) (hr : RV r x y H (.bl k)) (hm : behindInMarks op b = false) : TV X (.Compare a [op] [b] pos) σ H k := TV.of (pt_cmpR ho pe_self pe_self hm) (et_test (ev_op ha.ev hb.ev hr))
theorem TV.lt {i j : Int} (ha : EV X a σ H (.int i)) (hb : EV X b σ H (.int j)) : TV X (.Compare a [.Lt] [b] pos) σ H (decide (i < j)) := TV.op op_lt ha hb rv_I0 (nomark _)
theorem TV.le {i j : Int} (ha : EV X a σ H (.int i)) (hb : EV X b σ H (.int j)) : TV X (.Compare a [.LtE] [b] pos) σ H (decide (i ≤ j)) := TV.op op_le ha hb rv_I0 (nomark _)
theorem TV.gt {i j : Int} (ha : EV X a σ H (.int i)) (hb : EV X b σ H (.int j)) : TV X (.Compare a [.Gt] [b] pos) σ H (decide (j < i)) := TV.op op_gt ha hb rv_I0 (nomark _)
theorem TV.ge {i j : Int} (ha : EV X a σ H (.int i)) (hb : EV X b σ H (.int j)) : TV X (.Compare a [.GtE] [b] pos) σ H (decide (j ≤ i)) := TV.op op_ge ha hb rv_I0 (nomark _)
theorem TV.eq {i j : Int} (ha : EV X a σ H (.int i)) (hb : EV X b σ H (.int j)) : TV X (.Compare a [.Eq] [b] pos) σ H (decide (i = j)) := by
  refine TV.is (TV.op op_eq ha hb (rv_eq rfl) (nomark _)) ?_
  rw [dec_int, Bool.beq_eq_decide_eq]
theorem TV.ne {i j : Int} (ha : EV X a σ H (.int i)) (hb : EV X b σ H (.int j)) : TV X (.Compare a [.NotEq] [b] pos) σ H (decide (i ≠ j)) := by
  refine TV.is (TV.op op_ne ha hb (rv_ne rfl) (nomark _)) ?_
  rw [dec_int, Bool.beq_eq_decide_eq, ← decide_not]
theorem TV.neB {i j : Bool} (ha : EV X a σ H (.bl i)) (hb : EV X b σ H (.bl j)) : TV X (.Compare a [.NotEq] [b] pos) σ H (i != j) := by
  refine TV.is (TV.op op_ne ha hb (rv_ne rfl) (nomark _)) ?_
  rw [dec_bl]; rfl
theorem TV.eqB {i j : Bool} (ha : EV X a σ H (.bl i)) (hb : EV X b σ H (.bl j)) : TV X (.Compare a [.Eq] [b] pos) σ H (i == j) := by
  refine TV.is (TV.op op_eq ha hb (rv_eq rfl) (nomark _)) ?_
  rw [dec_bl]
theorem TV.isN (ha : EV X a σ H x) (hb : EV X b σ H .non) : TV X (.Compare a [.Is] [b] pos) σ H (decide (x = .non)) := TV.op op_isN ha hb (fun H1 _ _ q => ⟨rfl, q H1 (Ex.refl H1)⟩) (nomark _)
theorem TV.notN (ha : EV X a σ H x) (hb : EV X b σ H .non) : TV X (.Compare a [.IsNot] [b] pos) σ H (!decide (x = .non)) := TV.op op_notN ha hb (fun H1 _ _ q => ⟨rfl, q H1 (Ex.refl H1)⟩) (nomark _)
theorem TV.chain {op op' : CmpOp} {r r' : R2} {k1 k2 : Bool} {w : V} (ho : OpR X (compareOp op) r) (ho' : OpR X (compareOp op') r') (ha : EV X a σ H x) (hb : EV X b σ H y) (hr : RV r x y H (.bl k1)) (hc : k1 = true → EV X c σ H w) (hr' : k1 = true → RV r' y w H (.bl k2))
    (hm : lastMarks [op, op'] [b, c] = false := by with_unfolding_all rfl) : TV X (.Compare a [op, op'] [b, c] pos) σ H (k1 && k2) := by
  refine TV.of (pt_chain ho ho' pe_self pe_self pe_self hm) fun H1 e Q q => ?_
  refine ha.ev H1 e _ fun H2 e2 => hb.ev H2 (e.trans e2) _ fun H3 e3 => hr H3 ((e.trans e2).trans e3) _ fun H4 e4 => ⟨k1, rfl, ?_⟩
  cases k1 with
  | false => exact ⟨_, rfl, q H4 ((e2.trans e3).trans e4)⟩
  | true => exact (hc rfl).ev H4 (((e.trans e2).trans e3).trans e4) _ fun H5 e5 => hr' rfl H5 ((((e.trans e2).trans e3).trans e4).trans e5) _ fun H6 e6 => ⟨_, rfl, q H6 ((((e2.trans e3).trans e4).trans e5).trans e6)⟩
theorem TV.leLt {i j k : Int} (ha : EV X a σ H (.int i)) (hb : EV X b σ H (.int j)) (hc : EV X c σ H (.int k)) : TV X (.Compare a [.LtE, .Lt] [b, c] pos) σ H (decide (i ≤ j) && decide (j < k)) := TV.chain op_le op_lt ha hb rv_I0 (fun _ => hc) (fun _ => rv_I0) (nomark c)
theorem TV.leLe {i j k : Int} (ha : EV X a σ H (.int i)) (hb : EV X b σ H (.int j)) (hc : EV X c σ H (.int k)) : TV X (.Compare a [.LtE, .LtE] [b, c] pos) σ H (decide (i ≤ j) && decide (j ≤ k)) := TV.chain op_le op_le ha hb rv_I0 (fun _ => hc) (fun _ => rv_I0) (nomark c)
theorem TV.not {k : Bool} (h : TV X a σ H k) : TV X (.UnaryOp .Not a pos) σ H (!k) := TV.of (pt_not pt_self) (et_not h.ev)
theorem LV.and1 {k : Bool} (h : TV X a σ H k) : LV X (.BoolOp .And [a] pos) σ H k := LV.of (pw_and1 pt_self) h.ev
theorem LV.or1 {k : Bool} (h : TV X a σ H k) : LV X (.BoolOp .Or [a] pos) σ H k := LV.of (pw_or1 pt_self) h.ev
theorem LV.and {k1 k2 : Bool} (h : TV X a σ H k1) (h2 : k1 = true → LV X (.BoolOp .And (b :: es) pos) σ H k2) : LV X (.BoolOp .And (a :: b :: es) pos) σ H (k1 && k2) := LV.of (pw_and pt_self pw_self) (et_and h.ev fun q => (h2 q).ev)
theorem LV.or {k1 k2 : Bool} (h : TV X a σ H k1) (h2 : k1 = false → LV X (.BoolOp .Or (b :: es) pos) σ H k2) : LV X (.BoolOp .Or (a :: b :: es) pos) σ H (k1 || k2) := LV.of (pw_or pt_self pw_self) (et_or h.ev fun q => (h2 q).ev)
theorem TV.bool {k : Bool} (h : LV X e σ H k) : TV X e σ H k := TV.of (PW.pt pw_self) h.ev
theorem TV.and2 {k1 k2 : Bool} (h : TV X a σ H k1) (h2 : k1 = true → TV X b σ H k2) : TV X (.BoolOp .And [a, b] pos) σ H (k1 && k2) := TV.bool (LV.and h fun q => LV.and1 (h2 q))
theorem TV.or2 {k1 k2 : Bool} (h : TV X a σ H k1) (h2 : k1 = false → TV X b σ H k2) : TV X (.BoolOp .Or [a, b] pos) σ H (k1 || k2) := TV.bool (LV.or h fun q => LV.or1 (h2 q))
theorem TV.and3 {k1 k2 k3 : Bool} (h : TV X a σ H k1) (h2 : k1 = true → TV X b σ H k2) (h3 : k1 = true → k2 = true → TV X c σ H k3) : TV X (.BoolOp .And [a, b, c] pos) σ H (k1 && (k2 && k3)) := TV.bool (LV.and h fun q => LV.and (h2 q) fun r => LV.and1 (h3 q r))
theorem TV.or3 {k1 k2 k3 : Bool} (h : TV X a σ H k1) (h2 : k1 = false → TV X b σ H k2) (h3 : k1 = false → k2 = false → TV X c σ H k3) : TV X (.BoolOp .Or [a, b, c] pos) σ H (k1 || (k2 || k3)) := TV.bool (LV.or h fun q => LV.or (h2 q) fun r => LV.or1 (h3 q r))
/-- a < b < c < d -/
def tChain3 (r r' r'' : R2) (ta tb tc td : TE) : TE := fun σ H Q => ta σ H fun x H1 => tb σ H1 fun y H2 => r x y H2 fun z H3 => ∃ k, z = .bl k ∧
  (if k = true then tc σ H3 fun w' H4 => r' y w' H4 fun z2 H5 => ∃ k2, z2 = .bl k2 ∧ (if k2 = true then td σ H5 fun u H6 => r'' w' u H6 Q else Q (.bl false) H5) else Q (.bl false) H3)
theorem pe_chain3 {d : Expr} {ta tb tc td : TE} {op op' op'' : CmpOp} {r r' r'' : R2} (ho : OpR X (compareOp op) r) (ho' : OpR X (compareOp op') r') (ho'' : OpR X (compareOp op'') r'') (ha : PE X a ta) (hb : PE X b tb) (hc : PE X c tc) (hd : PE X d td)
    (hm : lastMarks [op, op', op''] [b, c, d] = false) : PE X (.Compare a [op, op', op''] [b, c, d] pos) (tChain3 r r' r'' ta tb tc td) := by
  refine ⟨fun pins s σ H Q I h => ?_⟩
  refine Compare_chain (thn (ha.run pins s σ H _ I h) fun v s1 ⟨x, H1, I1, r1, q1⟩ => chain_link (thn (hb.run pins s1 σ H1 _ I1 q1) fun u s2 ⟨y, H2, I2, r2, q2⟩ =>
    thn (ho pins s2 σ H2 x y v u _ I2 r1 r2 q2) fun d s3 ⟨z, H3, I3, r3, k, e, q3⟩ => ?_)) hm
  subst e
  cases r3
  refine wpAny_truthy_bool ?_
  cases k with
  | false => exact ite_ff ⟨.bl false, H3, I3, rfl, q3⟩
  | true =>
    refine ite_tt (chain_link (thn (hc.run pins s3 σ H3 _ I3 q3) fun w' s4 ⟨z', H4, I4, r4, q4⟩ => thn (ho' pins s4 σ H4 y z' u w' _ I4 r2 r4 q4) fun d' s5 ⟨z2, H5, I5, r5, k2, e2, q5⟩ => ?_))
    subst e2
    cases r5
    refine wpAny_truthy_bool ?_
    cases k2 with
    | false => exact ite_ff ⟨.bl false, H5, I5, rfl, q5⟩
    | true => exact ite_tt (chain_last (thn (hd.run pins s5 σ H5 _ I5 q5) fun w2 s6 ⟨z3, H6, I6, r6, q6⟩ => ho'' pins s6 σ H6 z' z3 w' w2 Q I6 r4 r6 q6))
theorem EV.chain3 {d : Expr} {op op' op'' : CmpOp} {r r' r'' : R2} {k1 k2 k3 : Bool} {w u : V} (ho : OpR X (compareOp op) r) (ho' : OpR X (compareOp op') r') (ho'' : OpR X (compareOp op'') r'') (ha : EV X a σ H x) (hb : EV X b σ H y) (hr : RV r x y H (.bl k1)) (hc : EV X c σ H w) (hr' : RV r' y w H (.bl k2)) (hd : EV X d σ H u) (hr'' : RV r'' w u H (.bl k3))
    (hm : lastMarks [op, op', op''] [b, c, d] = false) : EV X (.Compare a [op, op', op''] [b, c, d] pos) σ H (.bl (k1 && (k2 && k3))) := by
  refine EV.of (pe_chain3 ho ho' ho'' pe_self pe_self pe_self pe_self hm) fun H1 e Q q => ?_
  refine ha.ev H1 e _ fun H2 e2 => hb.ev H2 (e.trans e2) _ fun H3 e3 => hr H3 ((e.trans e2).trans e3) _ fun H4 e4 => ⟨k1, rfl, ?_⟩
  have g4 := ((e2.trans e3).trans e4)
  cases k1 with
  | false => exact q H4 g4
  | true =>
    refine hc.ev H4 (e.trans g4) _ fun H5 e5 => hr' H5 ((e.trans g4).trans e5) _ fun H6 e6 => ⟨k2, rfl, ?_⟩
    have g6 := ((g4.trans e5).trans e6)
    cases k2 with
    | false => exact q H6 g6
    | true => exact hd.ev H6 (e.trans g6) _ fun H7 e7 => hr'' H7 ((e.trans g6).trans e7) _ fun H8 e8 => q H8 ((g6.trans e7).trans e8)
theorem EV.leLtLt {d : Expr} {i j k l : Int} (ha : EV X a σ H (.int i)) (hb : EV X b σ H (.int j)) (hc : EV X c σ H (.int k)) (hd : EV X d σ H (.int l)) : EV X (.Compare a [.LtE, .Lt, .Lt] [b, c, d] pos) σ H (.bl (decide (i ≤ j) && (decide (j < k) && decide (k < l)))) :=
  EV.chain3 op_le op_lt op_lt ha hb rv_I0 hc rv_I0 hd rv_I0 (nomark d)
end
/-! ### argument lists, displays, calls of built-ins -/
structure AV (X : Cx) (es : List Expr) (σ : L2.St) (H : Hp) (vs : List V) : Prop where
  ev : EvA (tArgs X es) σ H vs
section
variable {X : Cx} {e a b c : Expr} {es : List Expr} {σ : L2.St} {H : Hp} {Q : VK} {v x y z : V} {pos p : Pos} {vs xs : List V}
theorem AV.nil : AV X [] σ H [] := ⟨ea_nil⟩
theorem AV.cons (h : EV X e σ H v) (hr : AV X es σ H vs) : AV X (e :: es) σ H (v :: vs) := ⟨ea_cons h.ev hr.ev⟩
theorem AV.one (h : EV X e σ H v) : AV X [e] σ H [v] := AV.cons h AV.nil
theorem AV.two (h : EV X a σ H x) (h2 : EV X b σ H y) : AV X [a, b] σ H [x, y] := AV.cons h (AV.one h2)
theorem AV.three (h : EV X a σ H x) (h2 : EV X b σ H y) (h3 : EV X c σ H z) : AV X [a, b, c] σ H [x, y, z] := AV.cons h (AV.two h2 h3)
theorem pa_self : ∀ (es : List Expr), (∀ e ∈ es, ∀ r, starEach (e :: r) X.env = (false, eval e X.env) :: starEach r X.env) → PA X es (tArgs X es)
  | [], _ => pa_nil
  | e :: es, h => pa_cons pe_self (pa_self es fun e' he => h e' (List.mem_cons_of_mem _ he)) (h e List.mem_cons_self es)
/-- no star at the head of an argument -/
def noStar : Expr → Bool
  | .Starred .. => false
  | _ => true
theorem star_of {e : Expr} (h : noStar e = true) (r : List Expr) : starEach (e :: r) X.env = (false, eval e X.env) :: starEach r X.env := by
  cases e <;> first | rfl | exact nomatch h
theorem pa_all (h : es.all noStar = true) : PA X es (tArgs X es) := pa_self es fun e he r => star_of (List.all_eq_true.mp h e he) r
theorem back_any : ∀ (es : List Expr), es.all noStar = true → (backTo pos (starEach es X.env)).any (·.1) = false
  | [], _ => rfl
  | e :: es, h => by
    have h1 : noStar e = true := List.all_eq_true.mp h e List.mem_cons_self
    have h2 : es.all noStar = true := List.all_eq_true.mpr fun e' he => List.all_eq_true.mp h e' (List.mem_cons_of_mem _ he)
    rw [star_of h1 es]
    have ih := back_any es h2
    unfold backTo at ih ⊢
    simpa using ih
/-- [a, b, ..]; (a, b, ..) -/
theorem EL.lst (h : AV X es σ H vs) (hl : vs.length ≤ 100000 := by exact Nat.le_of_ble_eq_true rfl) (hs : es.all noStar = true := by rfl) : EL X (.List es pos) σ H vs := EL.of (pe_lst (pa_all hs)) (el_lst h.ev hl)
theorem EU.tup {x1 : Nat} (h : AV X es σ H vs) (hl : vs.length ≤ 100000 := by exact Nat.le_of_ble_eq_true rfl) (hs : es.all noStar = true := by rfl) : EU X (.Tuple es x1 pos) σ H vs := EU.of (pe_tup (pa_all hs)) (eu_tup h.ev hl)
/-- f(e, ..), f a built-in function; a built-in class -/
theorem EV.callB {f : Str} {id : String} {r : List V → Hp → VK → Prop} (hc : CallR X (.builtin id) r) (hm : X.mg f = none) (hv : bootBuiltins f = some (.builtin id)) (ha : AV X (e :: es) σ H vs) (hr : RC r vs H z) (hg : Gl X f := by rfl) (hn : f ≠ "__name__" := by decide) (hdb : (f == ("__debug__" : Str)) = false := by decide)
    (hs : (e :: es).all noStar = true := by rfl) : EV X (.Call (.Name f p) (e :: es) [] pos) σ H z :=
  EV.of (pe_callB hc hg hm hv (pa_all hs) hn hdb (star_of (List.all_eq_true.mp hs e List.mem_cons_self) es) (back_any es (List.all_eq_true.mpr fun e' he => List.all_eq_true.mp hs e' (List.mem_cons_of_mem _ he)))) (ev_cb ha.ev hr)
theorem EV.callT {f : Str} {id : String} {r : List V → Hp → VK → Prop} (hc : CallR X (.type id) r) (hm : X.mg f = none) (hv : bootBuiltins f = some (.type id)) (ha : AV X (e :: es) σ H vs) (hr : RC r vs H z) (hg : Gl X f := by rfl) (hn : f ≠ "__name__" := by decide) (hdb : (f == ("__debug__" : Str)) = false := by decide)
    (hs : (e :: es).all noStar = true := by rfl) : EV X (.Call (.Name f p) (e :: es) [] pos) σ H z :=
  EV.of (pe_callTy hc hg hm hv (pa_all hs) hn hdb (star_of (List.all_eq_true.mp hs e List.mem_cons_self) es) (back_any es (List.all_eq_true.mpr fun e' he => List.all_eq_true.mp hs e' (List.mem_cons_of_mem _ he)))) (ev_cb ha.ev hr)
theorem EL.callB {f : Str} {id : String} {r : List V → Hp → VK → Prop} (hc : CallR X (.builtin id) r) (hm : X.mg f = none) (hv : bootBuiltins f = some (.builtin id)) (ha : AV X (e :: es) σ H vs) (hr : RCL r vs H xs) (hg : Gl X f := by rfl) (hn : f ≠ "__name__" := by decide) (hdb : (f == ("__debug__" : Str)) = false := by decide)
    (hs : (e :: es).all noStar = true := by rfl) : EL X (.Call (.Name f p) (e :: es) [] pos) σ H xs :=
  EL.of (pe_callB hc hg hm hv (pa_all hs) hn hdb (star_of (List.all_eq_true.mp hs e List.mem_cons_self) es) (back_any es (List.all_eq_true.mpr fun e' he => List.all_eq_true.mp hs e' (List.mem_cons_of_mem _ he)))) (el_cb ha.ev hr)
theorem EL.callT {f : Str} {id : String} {r : List V → Hp → VK → Prop} (hc : CallR X (.type id) r) (hm : X.mg f = none) (hv : bootBuiltins f = some (.type id)) (ha : AV X (e :: es) σ H vs) (hr : RCL r vs H xs) (hg : Gl X f := by rfl) (hn : f ≠ "__name__" := by decide) (hdb : (f == ("__debug__" : Str)) = false := by decide)
    (hs : (e :: es).all noStar = true := by rfl) : EL X (.Call (.Name f p) (e :: es) [] pos) σ H xs :=
  EL.of (pe_callTy hc hg hm hv (pa_all hs) hn hdb (star_of (List.all_eq_true.mp hs e List.mem_cons_self) es) (back_any es (List.all_eq_true.mpr fun e' he => List.all_eq_true.mp hs e' (List.mem_cons_of_mem _ he)))) (el_cb ha.ev hr)
/-- the built-ins of this program; m: that the name is still the built-in's -/
theorem EV.abs {i : Int} (m : X.mg "abs" = none) (h : EV X a σ H (.int i)) (hg : Gl X "abs" := by rfl) (hs : noStar a = true := by rfl) : EV X (.Call (.Name "abs" p) [a] [] pos) σ H (.int (i.natAbs : Int)) := by
  refine EV.isI (EV.callB call_abs m (by decide +kernel) (AV.one h) (fun H1 _ _ q => ⟨i, rfl, q H1 (Ex.refl H1)⟩) hg (hs := by simp [hs])) ?_
  split <;> omega
theorem EV.max2 {i j : Int} (m : X.mg "max" = none) (h : EV X a σ H (.int i)) (h2 : EV X b σ H (.int j)) (hg : Gl X "max" := by rfl) (hc : X.calm = true := by rfl) (hs : [a, b].all noStar = true := by rfl) : EV X (.Call (.Name "max" p) [a, b] [] pos) σ H (.int (max i j)) := by
  refine EV.isI (EV.callB (call_max2 hc) m (by decide +kernel) (AV.two h h2) (fun H1 _ _ q => ⟨i, j, rfl, q H1 (Ex.refl H1)⟩) hg (hs := hs)) ?_
  split <;> omega
theorem EV.min2 {i j : Int} (m : X.mg "min" = none) (h : EV X a σ H (.int i)) (h2 : EV X b σ H (.int j)) (hg : Gl X "min" := by rfl) (hc : X.calm = true := by rfl) (hs : [a, b].all noStar = true := by rfl) : EV X (.Call (.Name "min" p) [a, b] [] pos) σ H (.int (min i j)) := by
  refine EV.isI (EV.callB (call_min2 hc) m (by decide +kernel) (AV.two h h2) (fun H1 _ _ q => ⟨i, j, rfl, q H1 (Ex.refl H1)⟩) hg (hs := hs)) ?_
  split <;> omega
theorem EV.len {q : Addr} (m : X.mg "len" = none) (h : EV X a σ H (.ref q)) (hq : SqL X.K H q xs) (hg : Gl X "len" := by rfl) (hs : noStar a = true := by rfl) : EV X (.Call (.Name "len" p) [a] [] pos) σ H (.int (xs.length : Int)) :=
  EV.callB call_len_seq m PySem.boot_len (AV.one h) (fun H1 e1 _ k => ⟨q, xs, rfl, .inl (ex_l e1 hq), k H1 (Ex.refl H1)⟩) hg (hs := by simp [hs])
/-- len of a list made on the way -/
theorem EV.lenN (m : X.mg "len" = none) (h : EL X a σ H xs) (hg : Gl X "len" := by rfl) (hs : noStar a = true := by rfl) : EV X (.Call (.Name "len" p) [a] [] pos) σ H (.int (xs.length : Int)) :=
  EV.of (pe_callB call_len_seq hg m PySem.boot_len (pa_all (es := [a]) (by simp [hs])) (by decide) (by decide) (star_of hs []) rfl) fun H1 e1 Q k => h.ev H1 e1 _ fun q H2 hq e2 h2 => ⟨q, xs, rfl, .inl (.inl (.inl h2)), k H2 e2⟩
theorem EV.sum {q : Addr} {ns : List Int} (m : X.mg "sum" = none) (h : EV X a σ H (.ref q)) (hq : SqL X.K H q (ns.map V.int)) (hg : Gl X "sum" := by rfl) (hc : X.calm = true := by rfl) (hs : noStar a = true := by rfl) : EV X (.Call (.Name "sum" p) [a] [] pos) σ H (.int ns.sum) :=
  EV.callB (cr_sum hc) m (by decide +kernel) (AV.one h) (fun H1 e1 _ k => ⟨q, ns, rfl, ex_l e1 hq, k H1 (Ex.refl H1)⟩) hg (hs := by simp [hs])
theorem EV.sumN {ns : List Int} (m : X.mg "sum" = none) (h : EL X a σ H (ns.map V.int)) (hg : Gl X "sum" := by rfl) (hc : X.calm = true := by rfl) (hs : noStar a = true := by rfl) : EV X (.Call (.Name "sum" p) [a] [] pos) σ H (.int ns.sum) :=
  EV.of (pe_callB (cr_sum hc) hg m (by decide +kernel) (pa_all (es := [a]) (by simp [hs])) (by decide) (by decide) (star_of hs []) rfl) fun H1 e1 Q k => h.ev H1 e1 _ fun q H2 hq e2 h2 => ⟨q, ns, rfl, .inl (.inl h2), k H2 e2⟩
theorem EV.allN {bs : List Bool} (m : X.mg "all" = none) (h : EL X a σ H (bs.map V.bl)) (hg : Gl X "all" := by rfl) (hc : X.calm = true := by rfl) (hs : noStar a = true := by rfl) : EV X (.Call (.Name "all" p) [a] [] pos) σ H (.bl (bs.all id)) :=
  EV.of (pe_callB (cr_all hc) hg m (by decide +kernel) (pa_all (es := [a]) (by simp [hs])) (by decide) (by decide) (star_of hs []) rfl) fun H1 e1 Q k => h.ev H1 e1 _ fun q H2 hq e2 h2 => ⟨q, bs, rfl, .inl (.inl h2), k H2 e2⟩
theorem EV.anyN {bs : List Bool} (m : X.mg "any" = none) (h : EL X a σ H (bs.map V.bl)) (hg : Gl X "any" := by rfl) (hc : X.calm = true := by rfl) (hs : noStar a = true := by rfl) : EV X (.Call (.Name "any" p) [a] [] pos) σ H (.bl (bs.any id)) :=
  EV.of (pe_callB (cr_any hc) hg m (by decide +kernel) (pa_all (es := [a]) (by simp [hs])) (by decide) (by decide) (star_of hs []) rfl) fun H1 e1 Q k => h.ev H1 e1 _ fun q H2 hq e2 h2 => ⟨q, bs, rfl, .inl (.inl h2), k H2 e2⟩
theorem EV.any {q : Addr} {bs : List Bool} (m : X.mg "any" = none) (h : EV X a σ H (.ref q)) (hq : SqL X.K H q (bs.map V.bl)) (hg : Gl X "any" := by rfl) (hc : X.calm = true := by rfl) (hs : noStar a = true := by rfl) : EV X (.Call (.Name "any" p) [a] [] pos) σ H (.bl (bs.any id)) :=
  EV.callB (cr_any hc) m (by decide +kernel) (AV.one h) (fun H1 e1 _ k => ⟨q, bs, rfl, ex_l e1 hq, k H1 (Ex.refl H1)⟩) hg (hs := by simp [hs])
/-! ### lists read -/
theorem EV.ixL {q : Addr} {i : Int} (h : EV X a σ H (.ref q)) (hi : EV X b σ H (.int i)) (hq : SqL X.K H q xs) (hv : atI xs i = some v) (hp : PlainIx b := by exact fun _ _ => rfl) : EV X (.Subscript a b pos) σ H v :=
  EV.of (pe_ix ix_list pe_self pe_self hp) (ev_op h.ev hi.ev (rv_ixL hq hv))
theorem EV.ixT {q : Addr} {i : Int} (h : EV X a σ H (.ref q)) (hi : EV X b σ H (.int i)) (hq : SqT X.K H q xs) (hv : atI xs i = some v) (hp : PlainIx b := by exact fun _ _ => rfl) : EV X (.Subscript a b pos) σ H v :=
  EV.of (pe_ix ix_tup pe_self pe_self hp) (ev_op h.ev hi.ev (rv_ixT hq hv))
/-- (a, b, c)[i], the tuple made on the way -/
theorem EV.ixU {i : Int} (h : EU X a σ H xs) (hi : EV X b σ H (.int i)) (hv : atI xs i = some v) (hp : PlainIx b := by exact fun _ _ => rfl) : EV X (.Subscript a b pos) σ H v :=
  EV.of (pe_ix ix_tup pe_self pe_self hp) fun H1 e1 Q k => h.ev H1 e1 _ fun q H2 hq e2 h2 => hi.ev H2 (e1.trans e2) _ fun H3 e3 => ⟨q, xs, i, v, rfl, rfl, .inl (.inl (e3 _ _ h2)), hv, k H3 (e2.trans e3)⟩
theorem EL.slice {q : Addr} {lo hi : Option Expr} {l h : Option Int} {tl th : TO} {p2 : Pos} (he : EV X a σ H (.ref q)) (hq : SqL X.K H q xs) (pl : PO X lo tl) (ph : PO X hi th) (hl : EvO tl σ H l) (hh : EvO th σ H h) : EL X (.Subscript a (.Slice lo hi none p2) pos) σ H (cutV xs l h) :=
  EL.of (pe_slice sl_list pe_self pl ph) (el_sl he.ev hl hh hq)
/-- xs[:n] -/
theorem EL.upto {q : Addr} {i : Int} {p2 : Pos} (he : EV X a σ H (.ref q)) (hi : EV X b σ H (.int i)) (hq : SqL X.K H q xs) : EL X (.Subscript a (.Slice none (some b) none p2) pos) σ H (cutV xs none (some i)) :=
  EL.slice he hq po_none (po_some pe_self) eo_none (eo_some hi.ev)
/-- x in [..], x in (..), made on the way -/
theorem TV.inL (ha : EV X a σ H x) (hb : EL X b σ H xs) (hx : flatV x = true := by rfl) (hf : xs.all flatV = true := by rfl) (hm : behindInMarks .In b = false := by rfl) : TV X (.Compare a [.In] [b] pos) σ H (inV x xs) :=
  TV.of (pt_cmpR op_in_seq pe_self pe_self hm) (et_test (ev_opL ha.ev hb.ev fun _ _ h _ => rv_isL (sq_of h) hx hf))
theorem EV.inL (ha : EV X a σ H x) (hb : EL X b σ H xs) (hx : flatV x = true := by rfl) (hf : xs.all flatV = true := by rfl) (hm : behindInMarks .In b = false := by rfl) : EV X (.Compare a [.In] [b] pos) σ H (.bl (inV x xs)) :=
  EV.of (pe_cmpR op_in_seq pe_self pe_self hm) (ev_opL ha.ev hb.ev fun _ _ h _ => rv_isL (sq_of h) hx hf)
theorem TV.inU (ha : EV X a σ H x) (hb : EU X b σ H xs) (hx : flatV x = true := by rfl) (hf : xs.all flatV = true := by rfl) (hm : behindInMarks .In b = false := by rfl) : TV X (.Compare a [.In] [b] pos) σ H (inV x xs) :=
  TV.of (pt_cmpR op_in_seq pe_self pe_self hm) (et_test (ev_inU ha.ev hb.ev hx hf))
theorem EV.inU (ha : EV X a σ H x) (hb : EU X b σ H xs) (hx : flatV x = true := by rfl) (hf : xs.all flatV = true := by rfl) (hm : behindInMarks .In b = false := by rfl) : EV X (.Compare a [.In] [b] pos) σ H (.bl (inV x xs)) :=
  EV.of (pe_cmpR op_in_seq pe_self pe_self hm) (ev_inU ha.ev hb.ev hx hf)
end
/-! ### calls of the program's own defs -/
/-- the def of that name keeps the promise -/
structure Fc (P : Program) (w : World) (K : PySem.W.Frag) (mg : Str → Option Value) (base : Heap) (k : Nat) (x : Str) (sp : Sp) : Prop where
  ex : ∃ (f : Addr) (fd : FuncData) (ps : List Str), FnOk P w K mg base (L2.CX P w) k f fd ps sp ∧ mg x = some (.ref f) ∧ PySem.W.keepIn K (.ref f) = true ∧ Binds K fd ps []
section
variable {X : Cx} {e a b c : Expr} {es : List Expr} {σ : L2.St} {H : Hp} {Q : VK} {v z : V} {pos p : Pos} {vs xs : List V} {x : Str} {sp : Sp} {k j : Nat} {E : XK}
theorem pe_fc (C : Fc X.prog X.w X.K X.mg X.base k x sp) (hr : Room j X.A) (hk : k ≤ j) (hx : Passes (L2.CX X.prog X.w) X E) (hg : Gl X x) (hs : (e :: es).all noStar = true) (hdb : (x == ("__debug__" : Str)) = false) : PE X (.Call (.Name x p) (e :: es) [] pos) (tCall sp [] E (tArgs X (e :: es))) := by
  obtain ⟨f, fd, ps, F, hm, kp, bn⟩ := C.ex
  exact pe_call F (hr.mono hk) hg hm kp bn .nil hx (pa_all hs) hdb (star_of (List.all_eq_true.mp hs e List.mem_cons_self) es) (back_any es (List.all_eq_true.mpr fun e' he => List.all_eq_true.mp hs e' (List.mem_cons_of_mem _ he)))
theorem EV.call (C : Fc X.prog X.w X.K X.mg X.base k x sp) (hr : Room j X.A) (ha : AV X (e :: es) σ H vs) (hv : SpV sp vs H z) (hk : k ≤ j := by decide) (hg : Gl X x := by rfl) (hs : (e :: es).all noStar = true := by rfl) (hdb : (x == ("__debug__" : Str)) = false := by decide) :
    EV X (.Call (.Name x p) (e :: es) [] pos) σ H z := EV.of (pe_fc C hr hk passL hg hs hdb) (ev_call ha.ev (by rw [List.append_nil]; exact hv))
theorem EL.call (C : Fc X.prog X.w X.K X.mg X.base k x sp) (hr : Room j X.A) (ha : AV X (e :: es) σ H vs) (hv : SpL sp vs H xs) (hk : k ≤ j := by decide) (hg : Gl X x := by rfl) (hs : (e :: es).all noStar = true := by rfl) (hdb : (x == ("__debug__" : Str)) = false := by decide) :
    EL X (.Call (.Name x p) (e :: es) [] pos) σ H xs := EL.of (pe_fc C hr hk passL hg hs hdb) (el_call ha.ev (by rw [List.append_nil]; exact hv))
/-- with what follows: nothing is raised; or what is raised leaves (tk) -/
theorem EW.call (C : Fc X.prog X.w X.K X.mg X.base k x sp) (hr : Room j X.A) (h : tArgs X (e :: es) σ H fun vs H1 => sp vs H1 Q E0) (hk : k ≤ j := by decide) (hg : Gl X x := by rfl) (hs : (e :: es).all noStar = true := by rfl) (hdb : (x == ("__debug__" : Str)) = false := by decide) :
    EW X (.Call (.Name x p) (e :: es) [] pos) σ H Q := by
  refine EW.of (pe_fc C hr hk passL hg hs hdb) (?_ : tCall _ _ _ _ σ H Q)
  unfold tCall
  simpa only [List.append_nil] using h
theorem EW.callX (C : Fc X.prog X.w X.K X.mg X.base k x sp) (hr : Room j X.A) (tk : Takes X (fun cls d _ H => E cls d H)) (h : tArgs X (e :: es) σ H fun vs H1 => sp vs H1 Q E) (hk : k ≤ j := by decide) (hg : Gl X x := by rfl) (hs : (e :: es).all noStar = true := by rfl) (hdb : (x == ("__debug__" : Str)) = false := by decide) :
    EW X (.Call (.Name x p) (e :: es) [] pos) σ H Q := by
  refine EW.of (pe_fc C hr hk (passes_call (E := E) tk fun _ _ _ _ h => h) hg hs hdb) (?_ : tCall _ _ _ _ σ H Q)
  unfold tCall
  simpa only [List.append_nil] using h
end
/-! ### blocks -/
section
variable {X : Cx} {e a b c : Expr} {st : Stmt} {rest : List Stmt} {σ : L2.St} {H : Hp} {D : Ends} {v : V} {xs : List V} {pos p p2 : Pos} {x : Str}
theorem BW.nil (h : D.nx σ H) : BW X [] D σ H := BW.of pss_nil h
theorem BW.cons {t : TS} (h : PS X st t) (r : t { D with nx := BW X rest D } σ H) : BW X (st :: rest) D σ H := BW.of (pss_cons h pss_self) r
theorem BW.asgW {i : Nat} (hN : X.N.Nodup) (hi : X.N[i]? = some x) (hx : Loc X.env.scope x) (h : EW X e σ H fun v H1 => BW X rest D (σ.set i (some v)) H1) (hs : swapsWith e (some (.Name x p)) pos.line X.env = pure false := by rfl) (hf : X.fn x = true ∨ X.env.scope.names.lookup x = some .local := by first | exact .inl rfl | exact .inr rfl) : BW X (.Assign [.Name x p] e pos :: rest) D σ H :=
  BW.cons (ps_set (i := i) hN hi hx pe_self hs hf) h
/-- x = e, e a value; a new list; a new tuple -/
theorem BW.asg (i : Nat) (hN : X.N.Nodup) (h : EV X e σ H v) (k : ∀ H1, Ex H H1 → BW X rest D (σ.set i (some v)) H1) (hi : X.N[i]? = some x := by rfl) (hx : Loc X.env.scope x := by first | exact Or.inl rfl | exact Or.inr rfl) (hs : swapsWith e (some (.Name x p)) pos.line X.env = pure false := by rfl) (hf : X.fn x = true ∨ X.env.scope.names.lookup x = some .local := by first | exact .inl rfl | exact .inr rfl) : BW X (.Assign [.Name x p] e pos :: rest) D σ H :=
  BW.asgW hN hi hx (h.go k) hs hf
theorem BW.asgL (i : Nat) (hN : X.N.Nodup) (h : EL X e σ H xs) (k : ∀ q H1, H q = none → Ex H H1 → H1 q = some (.lst xs) → BW X rest D (σ.set i (some (.ref q))) H1) (hi : X.N[i]? = some x := by rfl) (hx : Loc X.env.scope x := by first | exact Or.inl rfl | exact Or.inr rfl) (hs : swapsWith e (some (.Name x p)) pos.line X.env = pure false := by rfl) (hf : X.fn x = true ∨ X.env.scope.names.lookup x = some .local := by first | exact .inl rfl | exact .inr rfl) : BW X (.Assign [.Name x p] e pos :: rest) D σ H :=
  BW.asgW hN hi hx (h.go k) hs hf
theorem BW.ret (h : EV X e σ H v) (k : ∀ H1, Ex H H1 → D.rt v H1) : BW X (.Return (some e) pos :: rest) D σ H := BW.cons (ps_ret pe_self) (h.go k)
theorem BW.retL (h : EL X e σ H xs) (k : ∀ q H1, H q = none → Ex H H1 → H1 q = some (.lst xs) → D.rt (.ref q) H1) : BW X (.Return (some e) pos :: rest) D σ H := BW.cons (ps_ret pe_self) (h.go k)
theorem BW.retU (h : EU X e σ H xs) (k : ∀ q H1, H q = none → Ex H H1 → H1 q = some (.tup xs) → D.rt (.ref q) H1) : BW X (.Return (some e) pos :: rest) D σ H := BW.cons (ps_ret pe_self) (h.go k)
theorem BW.retW (h : EW X e σ H D.rt) : BW X (.Return (some e) pos :: rest) D σ H := BW.cons (ps_ret pe_self) h
theorem BW.exprW (h : EW X e σ H fun _ H1 => BW X rest D σ H1) (hs : swapsWith e none pos.line X.env = pure false := by rfl) : BW X (.Expr e pos :: rest) D σ H := BW.cons (ps_expr pe_self hs) h
theorem BW.expr (h : EV X e σ H v) (k : ∀ H1, Ex H H1 → BW X rest D σ H1) (hs : swapsWith e none pos.line X.env = pure false := by rfl) : BW X (.Expr e pos :: rest) D σ H := BW.exprW (h.go k) hs
/-- what follows a block, as an Ends -/
abbrev Ends.bef (X : Cx) (rest : List Stmt) (D : Ends) : Ends := { D with nx := BW X rest D }
theorem BW.ite {s1 s2 : List Stmt} {k : Bool} (h : TV X c σ H k) (h1 : k = true → ∀ H1, Ex H H1 → BW X s1 (Ends.bef X rest D) σ H1) (h2 : k = false → ∀ H1, Ex H H1 → BW X s2 (Ends.bef X rest D) σ H1) : BW X (.If c s1 s2 pos :: rest) D σ H :=
  BW.cons (ps_if pt_self pss_self pss_self) (h.go fun H1 e => by
    cases k with
    | true => exact h1 rfl H1 e
    | false => exact h2 rfl H1 e)
/-- an if without else -/
theorem BW.when {s1 : List Stmt} {k : Bool} (h : TV X c σ H k) (h1 : k = true → ∀ H1, Ex H H1 → BW X s1 (Ends.bef X rest D) σ H1) (h2 : k = false → ∀ H1, Ex H H1 → BW X rest D σ H1) : BW X (.If c s1 [] pos :: rest) D σ H :=
  BW.ite h h1 fun hk H1 e => BW.nil (h2 hk H1 e)
/-- an if whose test is known to be false -/
theorem BW.skip {s1 : List Stmt} (h : TV X c σ H false) (h2 : ∀ H1, Ex H H1 → BW X rest D σ H1) : BW X (.If c s1 [] pos :: rest) D σ H := BW.when h (fun z => nomatch z) fun _ => h2
theorem BW.take {s1 s2 : List Stmt} (h : TV X c σ H true) (h1 : ∀ H1, Ex H H1 → BW X s1 (Ends.bef X rest D) σ H1) : BW X (.If c s1 s2 pos :: rest) D σ H := BW.ite h (fun _ => h1) fun z => nomatch z
theorem BW.iteW {s1 s2 : List Stmt} (h : TW X c σ H fun k H1 => (k = true → BW X s1 (Ends.bef X rest D) σ H1) ∧ (k = false → BW X s2 (Ends.bef X rest D) σ H1)) : BW X (.If c s1 s2 pos :: rest) D σ H := by
  refine BW.cons (ps_if pt_self pss_self pss_self) (?_ : tIfS _ _ _ _ σ H)
  refine ⟨fun pins s I => thn (h.run pins s I) fun k s1 ⟨H1, I1, q⟩ => ⟨H1, I1, ?_⟩⟩
  cases k with
  | true => exact q.1 rfl
  | false => exact q.2 rfl
theorem BW.never (h : False) : BW X rest D σ H := h.elim
end
/-! ### a def by its body -/
section
variable {P : Program} {w : World} {K : PySem.W.Frag} {mg : Str → Option Value} {base : Heap}
/-- a def from which nothing is let out -/
theorem okB {x qual : Str} {st : Stmt} {f : Addr} {fd : FuncData} {N ps : List Str} {k : Nat} {sp : Sp} (F : Fun K x qual st f fd) (S : FnScope N ps (defScope st)) (len : ∀ vs H Q E, sp vs H Q E → vs.length = ps.length)
    (hbody : ∀ (cdv : Value) (A : Around) (outer : List Env) (s : Shared) (H : Hp) (vs : List V) (Q : VK) (E : XK), Room k (A.deeper (envOfC qual (defScope st) s.heap.objs.size f cdv)) → sp vs H Q E →
      BW (cxOf (L2.CX P w) P w K mg base N qual (defScope st) f cdv A outer s H E).nox (defBody st) { nx := fun _ H' => Q .non H', rt := Q } (start N vs) H) : FnOk P w K mg base (L2.CX P w) (k + 1) f fd ps sp :=
  F.okX S len fun cdv A outer s H vs Q E hr hsp => ⟨_, pss_self.nox, hbody cdv A outer s H vs Q E hr hsp⟩
/-- a def that may raise -/
theorem okR {x qual : Str} {st : Stmt} {f : Addr} {fd : FuncData} {N ps : List Str} {k : Nat} {sp : Sp} (F : Fun K x qual st f fd) (S : FnScope N ps (defScope st)) (len : ∀ vs H Q E, sp vs H Q E → vs.length = ps.length)
    (hbody : ∀ (cdv : Value) (A : Around) (outer : List Env) (s : Shared) (H : Hp) (vs : List V) (Q : VK) (E : XK), Room k (A.deeper (envOfC qual (defScope st) s.heap.objs.size f cdv)) → sp vs H Q E →
      BW (cxOf (L2.CX P w) P w K mg base N qual (defScope st) f cdv A outer s H E) (defBody st) { nx := fun _ H' => Q .non H', rt := Q } (start N vs) H) : FnOk P w K mg base (L2.CX P w) (k + 1) f fd ps sp :=
  F.okX S len fun cdv A outer s H vs Q E hr hsp => ⟨_, pss_self, hbody cdv A outer s H vs Q E hr hsp⟩
end
end QR

namespace QR
open PySem PySem.Spec PyProof.Rows L2 Evl
/-! ### kinds of values -/
theorem TyX.ex {K : PySem.W.Frag} {H H' : Hp} {x : V} {t : Value} (ty : TyX K H x t) (e : Ex H H') : TyX K H' x t := by
  cases ty with
  | base b =>
    refine .base ?_
    cases b with
    | non => exact .non
    | bl x => exact .bl x
    | int i => exact .int i
    | str x => exact .str x
    | flt x => exact .flt x
    | lst h => exact .lst (e _ _ h)
    | frz h => exact .frz (e _ _ h)
    | tup h => exact .tup (e _ _ h)
    | dK h => exact .dK (e _ _ h)
    | dT h => exact .dT (e _ _ h)
    | ins h c a b d m => exact .ins (e _ _ h) c a b d m
  | byt b => exact .byt b
  | set h => exact .set (e _ _ h)
  | kList h c => exact .kList h c
  | kTuple h c => exact .kTuple h c
  | kDict h c => exact .kDict h c
  | fTuple h => exact .fTuple (e _ _ h)
  | fDict h => exact .fDict (e _ _ h)
theorem ty_list {K : PySem.W.Frag} {H : Hp} {a : Addr} {xs : List V} (h : SqL K H a xs) : TyX K H (.ref a) (.type "list") := by
  rcases h with (h | ⟨o, h⟩) | ⟨o, its, n, h, c, _⟩
  · exact .base (.lst h)
  · exact .base (.frz h)
  · exact .kList h c
theorem ty_tup {K : PySem.W.Frag} {H : Hp} {a : Addr} {xs : List V} (h : SqT K H a xs) : TyX K H (.ref a) (.type "tuple") := by
  rcases h with (h | ⟨o, h⟩) | ⟨o, its, n, h, c, _⟩
  · exact .base (.tup h)
  · exact .fTuple h
  · exact .kTuple h c
section
variable {X : Cx} {e a b c : Expr} {es : List Expr} {σ : L2.St} {H : Hp} {Q : VK} {v x y z : V} {pos p : Pos} {vs xs : List V}
theorem EV.isi {w : V} {t u : Value} {k : Bool} (m : X.mg "isinstance" = none) (ha : EV X a σ H x) (hb : EV X b σ H w) (kc : ClsV w u) (ty : TyX X.K H x t) (hk : PySem.W.kitOne X.K t u = some k) (hg : Gl X "isinstance" := by rfl) (hs : [a, b].all noStar = true := by rfl) :
    EV X (.Call (.Name "isinstance" p) [a, b] [] pos) σ H (.bl k) :=
  EV.callB call_isi m (by decide +kernel) (AV.two ha hb) (fun H1 e1 _ q => ⟨x, w, t, u, k, rfl, kc, TyX.ex ty e1, hk, q H1 (Ex.refl H1)⟩) hg (hs := hs)
/-- isinstance(e, T), T a built-in class -/
theorem EV.isT {f : Str} {T n : String} {k : Bool} {pf : Pos} (m : X.mg "isinstance" = none) (mT : X.mg f = none) (hv : bootBuiltins f = some (.type T)) (ha : EV X a σ H x) (ty : TyX X.K H x (.type n)) (hk : kitB n T = some k) (hg : Gl X "isinstance" := by rfl) (hgT : Gl X f := by rfl) (hs : [a, .Name f pf].all noStar = true := by rfl) (hn : f ≠ "__name__" := by decide) (hd : (f == ("__debug__" : Str)) = false := by decide) :
    EV X (.Call (.Name "isinstance" p) [a, .Name f pf] [] pos) σ H (.bl k) :=
  EV.isi m ha (EV.ty mT hv hgT hn hd) (.ty T) ty (kit_ty hk) hg hs
/-- e is True, e is not True -/
theorem EV.isB2 {i j : Bool} (ha : EV X a σ H (.bl i)) (hb : EV X b σ H (.bl j)) : EV X (.Compare a [.Is] [b] pos) σ H (.bl (decide (i = j))) := EV.cmp op_isBl ha hb (fun H1 _ _ q => ⟨i, j, rfl, rfl, q H1 (Ex.refl H1)⟩) (nomark _)
theorem TV.isB2 {i j : Bool} (ha : EV X a σ H (.bl i)) (hb : EV X b σ H (.bl j)) : TV X (.Compare a [.Is] [b] pos) σ H (decide (i = j)) := TV.op op_isBl ha hb (fun H1 _ _ q => ⟨i, j, rfl, rfl, q H1 (Ex.refl H1)⟩) (nomark _)
theorem TV.notB2 {i j : Bool} (ha : EV X a σ H (.bl i)) (hb : EV X b σ H (.bl j)) : TV X (.Compare a [.IsNot] [b] pos) σ H (!decide (i = j)) := TV.op op_notBl ha hb (fun H1 _ _ q => ⟨i, j, rfl, rfl, q H1 (Ex.refl H1)⟩) (nomark _)
end
/-! ### loops -/
section
variable {X : Cx} {e a b c tg iter : Expr} {body rest : List Stmt} {σ : L2.St} {H : Hp} {D : Ends} {v : V} {xs : List V} {pos p p2 pr : Pos} {x : Str}
/-- what stands behind a turn -/
abbrev Ends.turn (X : Cx) (rest : List Stmt) (D : Ends) (N : L2.St → Hp → Prop) : Ends := { D with nx := N, ct := N, bk := BW X rest D }
theorem BW.whl (W : Nat → L2.St → Hp → Prop) (m0 : Nat) (h0 : W m0 σ H)
    (hs : ∀ m σ' H', W m σ' H' → ∃ k, TV X c σ' H' k ∧ (k = true → ∀ H1, Ex H' H1 → BW X body (Ends.turn X rest D fun σ2 H2 => ∃ m', m' < m ∧ W m' σ2 H2) σ' H1) ∧ (k = false → ∀ H1, Ex H' H1 → BW X rest D σ' H1))
    (hp : PassesOwn (model X.prog X.w) X.A X.env X.xe := by first | exact PassesOwn.never | exact passes_of rfl) : BW X (.While c body [] pos :: rest) D σ H :=
  BW.cons (ps_while hp pt_self pss_self) (s_while W m0 h0 fun m σ' H' hw => by
    obtain ⟨k, h1, h2, h3⟩ := hs m σ' H' hw
    exact ⟨k, h1.ev, fun hk H1 e1 => ⟨_, fun σ2 H2 z => z, h2 hk H1 e1⟩, h3⟩)
theorem s_forR {ta : TA} {tu : TS} {j : Nat} {n : Int} (h : EvA ta σ H [.int n]) (hn : -100000 ≤ n ∧ n ≤ 100000) (Pv : Nat → L2.St → Hp → Prop) (h0 : ∀ H1, Ex H H1 → Pv 0 σ H1)
    (hs : ∀ (i : Nat) σ' H', (i : Int) < n → Pv i σ' H' → tu { D with nx := Pv (i + 1), ct := Pv (i + 1), bk := D.nx } (σ'.set j (some (.int (i : Int)))) H') (hd : ∀ σ' H', Pv n.toNat σ' H' → D.nx σ' H') : tFor (iRng1 ta) (gName j) tu D σ H :=
  h H (Ex.refl H) _ fun H1 e => ⟨n, rfl, by omega, by omega, for_range (lo := 0) (n := n.toNat) Pv (h0 H1 e) (fun i σ' H' hi p => by
    have e0 : (0 : Int) + (i : Int) = (i : Int) := Int.zero_add _
    show tu { D with nx := Pv (i + 1), ct := Pv (i + 1), bk := D.nx } (σ'.set j (some (.int ((0 : Int) + (i : Int))))) H'
    rw [e0]
    exact hs i σ' H' (by omega) p) hd⟩
theorem s_forU {xs : List V} {tl : TE} {g : TG} {tu : TS} {K : PySem.W.Frag} (h : EvU tl σ H xs) (Pv : Addr → Nat → L2.St → Hp → Prop) (h0 : ∀ p H1, H p = none → Ex H H1 → H1 p = some (.tup xs) → Pv p 0 σ H1) (hl : ∀ p i σ' H', i ≤ xs.length → Pv p i σ' H' → SqT K H' p xs)
    (hs : ∀ p i x σ' H', xs[i]? = some x → Pv p i σ' H' → g x σ' H' fun σ2 H2 => tu { D with nx := Pv p (i + 1), ct := Pv p (i + 1), bk := D.nx } σ2 H2) (hd : ∀ p σ' H', Pv p xs.length σ' H' → D.nx σ' H') : tFor (iTup K tl) g tu D σ H :=
  h H (Ex.refl H) _ fun p H1 hp e h1 => ⟨p, rfl, ⟨xs, st_of h1⟩, for_tup (Pv p) (h0 p H1 hp e h1) (hl p) (hs p) (hd p)⟩
theorem turn_long {P : Program} {w : World} {K : PySem.W.Frag} {tg : Expr} (it : Addr) (lo : Int) (n : Nat) : Turn P w K tg (Itr lo n) [it] it (fun i h => IsLongIter h it (lo + (i : Nat) * 1) ((n : Int) - (i : Nat)) 1) where
  mem := by simp
  obj := fun i h st b hb => by
    have e : b = it := by simpa using hb
    subst e
    exact ⟨_, st, fun v z => by
      have z' : Data.fields _ = Data.cell v := z
      cases z'⟩
  keep := fun i h h' st k => k it (by simp) _ st
  item := by
    intro X hP hw hK hc i pins s σ H E I hf st hg
    subst hP hw hK
    obtain ⟨f0, f1, f2, f3, f4, f5⟩ := hf it (by simp)
    have W := Walks.longrange (prog := X.prog) (w := X.w) (I.ok.hd hc) it lo 1 n
    refine W.item i s _ _ hg st fun v h' tk hv st' kk => ?_
    obtain ⟨t, rfl⟩ := hv
    have I1 : Inv X pins σ H { s with heap := h', toks := tk } := I.turned (fun b o hb e => kk b o (by simpa using hb) e) f0 f1 f3 f4 f5
    refine ⟨_, rfl, go_of (s := { s with heap := h', toks := tk }) (n := "longrange_iterator") st' rfl rfl (by decide) ⟨.int (lo + i), H, I1, ⟨t, ?_⟩, ⟨rfl, rfl⟩, st', fun b hb => (hf b hb).1⟩⟩
    rw [Int.mul_one]
  done := by
    intro X hP hw hK hc i pins s σ H E I hf st hg
    subst hP hw hK
    obtain ⟨f0, f1, f2, f3, f4, f5⟩ := hf it (by simp)
    exact wpAny_pyNext_long_end (I.ok.hd hc) st (by have : n ≤ i := hg; omega) fun h' eb => ⟨rfl, I.turned (t' := s.toks) (fun b o hb e => eb b o hb e) f0 f1 f3 f4 f5⟩
  self := fun _ _ _ _ _ st h => wpAny_pyIter_longiter st h
/-- a range object just made, of any bounds, walked -/
theorem range_itA {pins : List (Addr × Obj)} {σ : L2.St} {H : Hp} {s : Shared} {R : It → Hp → Prop} {E : Value → Shared → Prop} {lo hi : Int} {t u v : Tok} {tk : Nat} (I : Inv X pins σ H s)
    (q : R (Itr lo (hi - lo).toNat) H) : wpAny (model X.prog X.w) X.A (pyIter (.ref s.heap.objs.size)) (PIE X pins σ tg R) E { s with heap := s.heap.push { cls := .type "range", data := .fields #[.int lo t, .int hi u, .int 1 v] }, toks := tk } := by
  have I1 : Inv X pins σ H { s with heap := s.heap.push { cls := .type "range", data := .fields #[.int lo t, .int hi u, .int 1 v] }, toks := tk } := I.kept fun b o e => Heap.get?_push_of_some _ e
  have e1 : lo + ((0 : Nat) : Int) * 1 = lo := by simp
  have e2 : (((hi - lo).toNat : Nat) : Int) - ((0 : Nat) : Int) = Builtin.Range.rangeSize lo hi 1 := by rw [rangeSize_one]; split <;> omega
  cases hb : Builtin.Range.small lo hi 1 with
  | true =>
    refine wpAny_pyIter_range (IsRange.new ..) hb ?_
    refine ⟨(s.heap.push { cls := .type "range", data := .fields #[.int lo t, .int hi u, .int 1 v] }).objs.size, [(s.heap.push { cls := .type "range", data := .fields #[.int lo t, .int hi u, .int 1 v] }).objs.size], _, _, H, rfl,
      I1.kept (t' := tk) fun b o e => Heap.get?_push_of_some _ e, turn_range _ lo (hi - lo).toNat, ?_, fun b hb => ?_, q⟩
    · show IsRangeIter _ _ (lo + ((0 : Nat) : Int) * 1) ((((hi - lo).toNat : Nat) : Int) - ((0 : Nat) : Int)) 1
      rw [e1, e2]
      exact Heap.get?_push_size _ rfl
    · have e : b = (s.heap.push { cls := .type "range", data := .fields #[.int lo t, .int hi u, .int 1 v] }).objs.size := by simpa using hb
      subst e
      exact I1.fpOk (Nat.le_refl _) (I1.hok.fresh (Nat.le_refl _))
  | false =>
    refine wpAny_pyIter_longrange (IsRange.new ..) hb ?_
    refine ⟨(s.heap.push { cls := .type "range", data := .fields #[.int lo t, .int hi u, .int 1 v] }).objs.size, [(s.heap.push { cls := .type "range", data := .fields #[.int lo t, .int hi u, .int 1 v] }).objs.size], _, _, H, rfl,
      I1.kept (t' := tk) fun b o e => Heap.get?_push_of_some _ e, turn_long _ lo (hi - lo).toNat, ?_, fun b hb => ?_, q⟩
    · show IsLongIter _ _ (lo + ((0 : Nat) : Int) * 1) ((((hi - lo).toNat : Nat) : Int) - ((0 : Nat) : Int)) 1
      rw [e1, e2]
      exact Heap.get?_push_size _ rfl
    · have e : b = (s.heap.push { cls := .type "range", data := .fields #[.int lo t, .int hi u, .int 1 v] }).objs.size := by simpa using hb
      subst e
      exact I1.fpOk (Nat.le_refl _) (I1.hok.fresh (Nat.le_refl _))
def iRng2A (ta : TA) : TI := fun σ H R => ta σ H fun vs H1 => ∃ i j : Int, vs = [.int i, .int j] ∧ R (Itr i (j - i).toNat) H1
theorem pi_range2A {ta : TA} (hg : Gl X "range") (hm : X.mg "range" = none) (ha : PA X [a, b] ta) (hs : starEach [a, b] X.env = [(false, eval a X.env), (false, eval b X.env)]) (hs2 : starEach [b] X.env = [(false, eval b X.env)]) :
    PI X tg (.Call (.Name "range" p) [a, b] [] pos) (iRng2A ta) := by
  refine ⟨fun pins s σ H R I h => ?_⟩
  refine Call_ (ld_blt I hg hm boot_range (PyProof.Rows.callWith_type1 (thn (ha.run pos pins s σ H _ I h) fun us s1 ⟨vs, H1, I1, r1, q1⟩ => ?_) (by rw [hs, hs2]) (by rw [hs2]; rfl)))
  obtain ⟨i, j, e, q⟩ := q1
  subst e
  cases r1 with
  | cons r rr =>
    cases rr with
    | cons r' rr =>
      cases rr
      obtain ⟨t, rfl⟩ := r
      obtain ⟨t', rfl⟩ := r'
      exact call_range_2 (range_itA I1 q)
theorem s_forR2A {ta : TA} {tu : TS} {j : Nat} {lo n : Int} (h : EvA ta σ H [.int lo, .int n]) (Pv : Nat → L2.St → Hp → Prop) (h0 : ∀ H1, Ex H H1 → Pv 0 σ H1)
    (hs : ∀ (i : Nat) σ' H', lo + (i : Int) < n → Pv i σ' H' → tu { D with nx := Pv (i + 1), ct := Pv (i + 1), bk := D.nx } (σ'.set j (some (.int (lo + (i : Int))))) H') (hd : ∀ σ' H', Pv (n - lo).toNat σ' H' → D.nx σ' H') : tFor (iRng2A ta) (gName j) tu D σ H :=
  h H (Ex.refl H) _ fun H1 e => ⟨lo, n, rfl, for_range (lo := lo) (n := (n - lo).toNat) Pv (h0 H1 e) (fun i σ' H' hi p => hs i σ' H' (by omega) p) hd⟩
/-- for x in range(n) -/
theorem BW.forR (j : Nat) {n : Int} (m : X.mg "range" = none) (hN : X.N.Nodup) (h : EV X a σ H (.int n)) (hn : -100000 ≤ n ∧ n ≤ 100000) (Pv : Nat → L2.St → Hp → Prop) (h0 : ∀ H1, Ex H H1 → Pv 0 σ H1)
    (hs : ∀ (i : Nat) σ' H', (i : Int) < n → Pv i σ' H' → BW X body (Ends.turn X rest D (Pv (i + 1))) (σ'.set j (some (.int (i : Int)))) H') (hd : ∀ σ' H', Pv n.toNat σ' H' → BW X rest D σ' H')
    (hj : X.N[j]? = some x := by rfl) (hx : Loc X.env.scope x := by first | exact Or.inl rfl | exact Or.inr rfl) (hf : X.fn x = true ∨ X.env.scope.names.lookup x = some .local := by first | exact .inl rfl | exact .inr rfl) (hg : Gl X "range" := by rfl) (hst : noStar a = true := by rfl) (hc : X.calm = true := by rfl)
    (hp : PassesOwn (model X.prog X.w) X.A X.env X.xe := by first | exact PassesOwn.never | exact passes_of rfl) : BW X (.For (.Name x p) (.Call (.Name "range" pr) [a] [] p2) body [] pos :: rest) D σ H :=
  BW.cons (ps_for hp hc (pi_range1 hg m (pa_all (es := [a]) (by simp [hst])) (star_of hst [])) (pg_name (i := j) hN hj hx hf) pss_self) (s_forR (AV.one h).ev hn Pv h0 hs hd)
/-- for x in range(lo, n) -/
theorem BW.forR2 (j : Nat) {lo n : Int} (m : X.mg "range" = none) (hN : X.N.Nodup) (h : EV X a σ H (.int lo)) (h' : EV X b σ H (.int n)) (Pv : Nat → L2.St → Hp → Prop) (h0 : ∀ H1, Ex H H1 → Pv 0 σ H1)
    (hs : ∀ (i : Nat) σ' H', lo + (i : Int) < n → Pv i σ' H' → BW X body (Ends.turn X rest D (Pv (i + 1))) (σ'.set j (some (.int (lo + (i : Int))))) H') (hd : ∀ σ' H', Pv (n - lo).toNat σ' H' → BW X rest D σ' H')
    (hj : X.N[j]? = some x := by rfl) (hx : Loc X.env.scope x := by first | exact Or.inl rfl | exact Or.inr rfl) (hf : X.fn x = true ∨ X.env.scope.names.lookup x = some .local := by first | exact .inl rfl | exact .inr rfl) (hg : Gl X "range" := by rfl) (hst : noStar a = true := by rfl) (hst2 : noStar b = true := by rfl) (hc : X.calm = true := by rfl)
    (hp : PassesOwn (model X.prog X.w) X.A X.env X.xe := by first | exact PassesOwn.never | exact passes_of rfl) : BW X (.For (.Name x p) (.Call (.Name "range" pr) [a, b] [] p2) body [] pos :: rest) D σ H :=
  BW.cons (ps_for hp hc (pi_range2A hg m (pa_all (es := [a, b]) (by simp [hst, hst2])) (by rw [star_of hst, star_of hst2]; rfl) (star_of hst2 [])) (pg_name (i := j) hN hj hx hf) pss_self) (s_forR2A (AV.two h h').ev Pv h0 hs hd)
/-- for target in xs, a list that stands still; a list made on the way; a tuple made on the way -/
theorem BW.forL {g : TG} {q : Addr} (h : EV X iter σ H (.ref q)) (hq : SqL X.K H q xs) (hg : PG X tg g) (Pv : Nat → L2.St → Hp → Prop) (h0 : ∀ H1, Ex H H1 → Pv 0 σ H1) (hl : ∀ i σ' H', i ≤ xs.length → Pv i σ' H' → SqL X.K H' q xs)
    (hs : ∀ i x σ' H', xs[i]? = some x → Pv i σ' H' → g x σ' H' fun σ2 H2 => BW X body (Ends.turn X rest D (Pv (i + 1))) σ2 H2) (hd : ∀ σ' H', Pv xs.length σ' H' → BW X rest D σ' H')
    (hc : X.calm = true := by rfl) (hp : PassesOwn (model X.prog X.w) X.A X.env X.xe := by first | exact PassesOwn.never | exact passes_of rfl) (hfs : ∀ x, foldedSetIterable iter X.env x = pure x := by intro _; rfl) : BW X (.For tg iter body [] pos :: rest) D σ H :=
  BW.cons (ps_for hp hc (pi_list pe_self) hg pss_self hfs) (s_forL h.ev hq Pv h0 hl hs hd)
theorem BW.forNL {g : TG} (h : EL X iter σ H xs) (hg : PG X tg g) (Pv : Addr → Nat → L2.St → Hp → Prop) (h0 : ∀ p H1, H p = none → Ex H H1 → H1 p = some (.lst xs) → Pv p 0 σ H1) (hl : ∀ p i σ' H', i ≤ xs.length → Pv p i σ' H' → SqL X.K H' p xs)
    (hs : ∀ p i x σ' H', xs[i]? = some x → Pv p i σ' H' → g x σ' H' fun σ2 H2 => BW X body (Ends.turn X rest D (Pv p (i + 1))) σ2 H2) (hd : ∀ p σ' H', Pv p xs.length σ' H' → BW X rest D σ' H')
    (hc : X.calm = true := by rfl) (hp : PassesOwn (model X.prog X.w) X.A X.env X.xe := by first | exact PassesOwn.never | exact passes_of rfl) (hfs : ∀ x, foldedSetIterable iter X.env x = pure x := by intro _; rfl) : BW X (.For tg iter body [] pos :: rest) D σ H :=
  BW.cons (ps_for hp hc (pi_list pe_self) hg pss_self hfs) (s_forNL h.ev Pv h0 hl hs hd)
theorem BW.forNU {g : TG} (h : EU X iter σ H xs) (hg : PG X tg g) (Pv : Addr → Nat → L2.St → Hp → Prop) (h0 : ∀ p H1, H p = none → Ex H H1 → H1 p = some (.tup xs) → Pv p 0 σ H1) (hl : ∀ p i σ' H', i ≤ xs.length → Pv p i σ' H' → SqT X.K H' p xs)
    (hs : ∀ p i x σ' H', xs[i]? = some x → Pv p i σ' H' → g x σ' H' fun σ2 H2 => BW X body (Ends.turn X rest D (Pv p (i + 1))) σ2 H2) (hd : ∀ p σ' H', Pv p xs.length σ' H' → BW X rest D σ' H')
    (hc : X.calm = true := by rfl) (hp : PassesOwn (model X.prog X.w) X.A X.env X.xe := by first | exact PassesOwn.never | exact passes_of rfl) (hfs : ∀ x, foldedSetIterable iter X.env x = pure x := by intro _; rfl) : BW X (.For tg iter body [] pos :: rest) D σ H :=
  BW.cons (ps_for hp hc (pi_tup pe_self) hg pss_self hfs) (s_forU h.ev Pv h0 hl hs hd)
/-- a, b = e1, e2 -/
theorem BW.par (i j : Nat) {y : Str} {x1 x2 : V} {px py pt : Pos} {kt k2 pt2} (hN : X.N.Nodup) (ha : EV X a σ H x1) (hb : EV X b σ H x2) (k : ∀ H1, Ex H H1 → BW X rest D ((σ.set i (some x1)).set j (some x2)) H1)
    (hi : X.N[i]? = some x := by rfl) (hj : X.N[j]? = some y := by rfl) (hij : i ≠ j := by decide) (hx : X.env.scope.names.lookup x = some .local := by rfl) (hy : X.env.scope.names.lookup y = some .local := by rfl) (hc : X.calm = true := by rfl)
    (hw : swappedStores [.Tuple [.Name x px, .Name y py] kt pt] (.Tuple [a, b] k2 pt2) X.env = pure (some [x, y]) := by rfl)
    (hs : swapsWithSole [.Tuple [.Name x px, .Name y py] kt pt] (.Tuple [a, b] k2 pt2) pos.line X.env = pure false := by rfl) (hst : [a, b].all noStar = true := by rfl) :
    BW X (.Assign [.Tuple [.Name x px, .Name y py] kt pt] (.Tuple [a, b] k2 pt2) pos :: rest) D σ H :=
  BW.cons (ps_par hc hN hi hj hij hx hy (pa_all hst) hw hs) ((AV.two ha hb).ev H (Ex.refl H) _ fun H1 e => ⟨x1, x2, rfl, k H1 e⟩)
/-! ### list comprehensions -/
/-- what an element leads to, in the block -/
def EWb (X : Cx) (scope : Scope) (e : Expr) : TE := fun σ H Q => ∀ (s : Shared) (H0 : Hp) (C : Addr) (cl : List (Str × Addr)) (fp : List Addr), EW (X.blk s H0 scope (compEnvC scope cl C X.env) fp) e σ H Q
theorem pe_selfb {scope : Scope} {s : Shared} {H0 : Hp} {C : Addr} {cl : List (Str × Addr)} {fp : List Addr} : PE (X.blk s H0 scope (compEnvC scope cl C X.env) fp) e (EWb X scope e) := ⟨fun pins s' _ _ _ I h => (h s H0 C cl fp).run pins s' I⟩
/-- an element's value, in the block -/
def EVb (X : Cx) (scope : Scope) (e : Expr) (σ : L2.St) (H : Hp) (v : V) : Prop := ∀ (s : Shared) (H0 : Hp) (C : Addr) (cl : List (Str × Addr)) (fp : List Addr), EV (X.blk s H0 scope (compEnvC scope cl C X.env) fp) e σ H v
theorem EVb.ev {scope : Scope} (h : EVb X scope e σ H v) : Ev (EWb X scope e) σ H v := fun H1 e1 Q q s H0 C cl fp => (h s H0 C cl fp).ev H1 e1 Q q
structure LC (X : Cx) (e : Expr) (σ : L2.St) (H : Hp) (xs : List V) : Prop where
  el : EL X e σ H xs
  st : ∀ {i : Nat} {y : Str} {py spos : Pos} {rest : List Stmt} {D : Ends}, X.N[i]? = some y → X.env.scope.names.lookup y = some .local → swapsWith e (some (.Name y py)) spos.line X.env = pure true →
    (∀ q H1, H q = none → Ex H H1 → H1 q = some (.lst xs) → BW X rest D (σ.set i (some (.ref q))) H1) → BW X (.Assign [.Name y py] e spos :: rest) D σ H
theorem lc_of {elt : Expr} {scope : Scope} {own : List (Str × Nat)} {wi : TI} {g : TG} {xs : List V} (hc : X.calm = true) (hN : X.N.Nodup) (hi : PI X tg iter wi) (ok : BlkOk X.N X.env.scope scope own)
    (hg : ∀ (s : Shared) (H : Hp) (C : Addr) (cl : List (Str × Addr)) (fp : List Addr), PG (X.blk s H scope (compEnvC scope cl C X.env) fp) tg g) (hs : ∀ x, foldedSetIterable iter X.env x = pure x)
    (h : EvL (tLc wi g tYes (EWb X scope elt) (own.map (·.2))) σ H xs) : LC X (.ListComp elt [⟨tg, iter, [], 0⟩] scope pos) σ H xs :=
  ⟨EL.of (pe_lc hc hN hi ok hg (fun _ _ _ _ _ => pts_nil) (fun _ _ _ _ _ => pe_selfb) hs) h, fun hy hl hw k =>
    BW.cons (ps_setLc hc hN hy hl hw hi ok hg (fun _ _ _ _ _ => pts_nil) (fun _ _ _ _ _ => pe_selfb) hs) (h H (Ex.refl H) _ k)⟩
theorem BW.asgC (i : Nat) {y : Str} {py spos : Pos} {xs : List V} (h : LC X e σ H xs) (k : ∀ q H1, H q = none → Ex H H1 → H1 q = some (.lst xs) → BW X rest D (σ.set i (some (.ref q))) H1) (hy : X.N[i]? = some y := by rfl) (hl : X.env.scope.names.lookup y = some .local := by rfl)
    (hw : swapsWith e (some (.Name y py)) spos.line X.env = pure true := by exact sw_true rfl rfl rfl (by decide +kernel)) : BW X (.Assign [.Name y py] e spos :: rest) D σ H := h.st hy hl hw k
theorem given_all (n : Nat) (v : Nat → V) : given n (fun _ => true) v = (List.range n).map v := by
  unfold given
  rw [List.filter_eq_self.mpr (fun _ _ => rfl)]
theorem ev_yes {H : Hp} {σ : L2.St} : EvT tYes σ H true := fun H1 _ _ q => q H1 (Ex.refl H1)
/-- [e for x in range(n)] -/
theorem LC.range {elt : Expr} {scope : Scope} {j : Nat} {n : Int} (v : Nat → V) (m : X.mg "range" = none) (hN : X.N.Nodup) (ok : BlkOk X.N X.env.scope scope [(x, j)]) (h : EV X a σ H (.int n)) (hn : 0 ≤ n ∧ n ≤ 40000)
    (he : ∀ (i : Nat) H1, Ex H H1 → (i : Int) < n → EVb X scope elt ((wipe σ [j]).set j (some (.int (i : Int)))) H1 (v i))
    (hw : ∀ z, wipe ((wipe σ [j]).set j (some z)) [j] = wipe σ [j] := by intro _; rfl)
    (hg : ∀ (s : Shared) (H : Hp) (C : Addr) (cl : List (Str × Addr)) (fp : List Addr), PG (X.blk s H scope (compEnvC scope cl C X.env) fp) (.Name x p) (gName j) := by exact fun _ _ _ _ _ => pg_name (i := _) (by assumption) rfl (Or.inl rfl)) (hgl : Gl X "range" := by rfl) (hst : noStar a = true := by rfl) (hc : X.calm = true := by rfl) :
    LC X (.ListComp elt [⟨.Name x p, .Call (.Name "range" pr) [a] [] p2, [], 0⟩] scope pos) σ H ((List.range n.toNat).map v) := by
  refine lc_of (own := [(x, j)]) hc hN (pi_range1 hgl m (pa_all (es := [a]) (by simp [hst])) (star_of hst [])) ok hg (fun _ => rfl) ?_
  rw [← given_all]
  exact el_lcR1 (fun _ => true) v (AV.one h).ev hn hw (fun i H1 e1 hi => ev_yes) (fun i H1 e1 hi _ => (he i H1 e1 hi).ev)
/-- [e for x in xs] -/
theorem LC.list {elt : Expr} {scope : Scope} {j : Nat} {q : Addr} {xs : List V} (v : Nat → V) (hN : X.N.Nodup) (ok : BlkOk X.N X.env.scope scope [(x, j)]) (h : EV X iter σ H (.ref q)) (hq : SqL X.K H q xs) (hz : xs.length ≤ 40000)
    (he : ∀ (i : Nat) (y : V) H1, Ex H H1 → xs[i]? = some y → EVb X scope elt ((wipe σ [j]).set j (some y)) H1 (v i))
    (hw : ∀ z, wipe ((wipe σ [j]).set j (some z)) [j] = wipe σ [j] := by intro _; rfl)
    (hg : ∀ (s : Shared) (H : Hp) (C : Addr) (cl : List (Str × Addr)) (fp : List Addr), PG (X.blk s H scope (compEnvC scope cl C X.env) fp) (.Name x p) (gName j) := by exact fun _ _ _ _ _ => pg_name (i := _) (by assumption) rfl (Or.inl rfl)) (hc : X.calm = true := by rfl) (hfs : ∀ x, foldedSetIterable iter X.env x = pure x := by intro _; rfl) :
    LC X (.ListComp elt [⟨.Name x p, iter, [], 0⟩] scope pos) σ H ((List.range xs.length).map v) := by
  refine lc_of (own := [(x, j)]) hc hN (pi_list pe_self) ok hg hfs ?_
  rw [← given_all]
  exact el_lcL (fun _ => true) v h.ev hq hz hw (fun i y H1 e1 hi => ev_yes) (fun i y H1 e1 hi _ => (he i y H1 e1 hi).ev)
theorem LC.listN {elt : Expr} {scope : Scope} {j : Nat} {xs : List V} (v : Nat → V) (hN : X.N.Nodup) (ok : BlkOk X.N X.env.scope scope [(x, j)]) (h : EL X iter σ H xs) (hz : xs.length ≤ 40000)
    (he : ∀ (i : Nat) (y : V) H1, Ex H H1 → xs[i]? = some y → EVb X scope elt ((wipe σ [j]).set j (some y)) H1 (v i))
    (hw : ∀ z, wipe ((wipe σ [j]).set j (some z)) [j] = wipe σ [j] := by intro _; rfl)
    (hg : ∀ (s : Shared) (H : Hp) (C : Addr) (cl : List (Str × Addr)) (fp : List Addr), PG (X.blk s H scope (compEnvC scope cl C X.env) fp) (.Name x p) (gName j) := by exact fun _ _ _ _ _ => pg_name (i := _) (by assumption) rfl (Or.inl rfl)) (hc : X.calm = true := by rfl) (hfs : ∀ x, foldedSetIterable iter X.env x = pure x := by intro _; rfl) :
    LC X (.ListComp elt [⟨.Name x p, iter, [], 0⟩] scope pos) σ H ((List.range xs.length).map v) := by
  refine lc_of (own := [(x, j)]) hc hN (pi_list pe_self) ok hg hfs ?_
  rw [← given_all]
  exact el_lcNL (fun _ => true) v h.ev hz hw (fun i y H1 e1 hi => ev_yes) (fun i y H1 e1 hi _ => (he i y H1 e1 hi).ev)
end
end QR

namespace QR
open PySem PySem.Spec PyProof.Rows L2 Evl
/-! ### how many different ones a list of ints has -/
def distinct (ns : List Int) : Nat := (PyProof.Rows.firstMet (fun i => ns.getD i 0) ns.length).length
theorem firstMet_mem (f : Nat → Int) (y : Int) : ∀ i, y ∈ PyProof.Rows.firstMet f i ↔ ∃ j, j < i ∧ f j = y
  | 0 => by
    constructor
    · intro h
      cases h
    · rintro ⟨j, hj, _⟩
      omega
  | i + 1 => by
    have ih := firstMet_mem f y i
    rw [PyProof.Rows.firstMet_succ]
    show y ∈ (if (PyProof.Rows.firstMet f i).any (· == f i) then PyProof.Rows.firstMet f i else PyProof.Rows.firstMet f i ++ [f i]) ↔ _
    by_cases hb : (PyProof.Rows.firstMet f i).any (· == f i) = true
    · rw [if_pos hb, ih]
      constructor
      · rintro ⟨j, hj, e⟩
        exact ⟨j, by omega, e⟩
      · rintro ⟨j, hj, e⟩
        by_cases hji : j < i
        · exact ⟨j, hji, e⟩
        · have : j = i := by omega
          subst this
          obtain ⟨z, hz, ez⟩ := List.any_eq_true.mp hb
          have ez2 : z = f j := eq_of_beq ez
          rw [ez2, e] at hz
          exact ih.mp hz
    · rw [if_neg hb, List.mem_append, ih, List.mem_singleton]
      constructor
      · rintro (⟨j, hj, e⟩ | e)
        · exact ⟨j, by omega, e⟩
        · exact ⟨i, by omega, e.symm⟩
      · rintro ⟨j, hj, e⟩
        by_cases hji : j < i
        · exact .inl ⟨j, hji, e⟩
        · have : j = i := by omega
          subst this
          exact .inr e.symm
theorem firstMet_len (f : Nat → Int) : ∀ i, (PyProof.Rows.firstMet f i).length ≤ i ∧ ((PyProof.Rows.firstMet f i).length = i ↔ ∀ j k, j < k → k < i → f j ≠ f k)
  | 0 => ⟨Nat.le_refl _, by
    constructor
    · intro _ j k _ hk
      omega
    · intro _
      rfl⟩
  | i + 1 => by
    obtain ⟨h1, h2⟩ := firstMet_len f i
    have hm := firstMet_mem f (f i) i
    rw [PyProof.Rows.firstMet_succ]
    show (if (PyProof.Rows.firstMet f i).any (· == f i) then PyProof.Rows.firstMet f i else PyProof.Rows.firstMet f i ++ [f i]).length ≤ i + 1 ∧ ((if (PyProof.Rows.firstMet f i).any (· == f i) then PyProof.Rows.firstMet f i else PyProof.Rows.firstMet f i ++ [f i]).length = i + 1 ↔ _)
    by_cases hb : (PyProof.Rows.firstMet f i).any (· == f i) = true
    · rw [if_pos hb]
      refine ⟨by omega, ⟨fun z => by omega, fun z => ?_⟩⟩
      obtain ⟨y, hy, ey⟩ := List.any_eq_true.mp hb
      have ey2 : y = f i := eq_of_beq ey
      rw [ey2] at hy
      obtain ⟨j, hj, e⟩ := hm.mp hy
      exact absurd e (z j i hj (by omega))
    · rw [if_neg hb, List.length_append]
      refine ⟨by simp; omega, ⟨fun z j k hjk hk e => ?_, fun z => ?_⟩⟩
      · have z1 : (PyProof.Rows.firstMet f i).length = i := by simpa using z
        by_cases hki : k < i
        · exact h2.mp z1 j k hjk hki e
        · have : k = i := by omega
          subst this
          exact hb (List.any_eq_true.mpr ⟨f k, hm.mpr ⟨j, hjk, e⟩, by simp⟩)
      · have := h2.mpr fun j k hjk hk => z j k hjk (by omega)
        simp [this]
theorem distinct_le (ns : List Int) : distinct ns ≤ ns.length := (firstMet_len _ _).1
theorem distinct_iff (ns : List Int) : distinct ns = ns.length ↔ ns.Nodup := by
  unfold distinct
  rw [(firstMet_len _ _).2]
  constructor
  · intro h
    rw [List.Nodup, List.pairwise_iff_getElem]
    intro i j hi hj hij e
    refine h i j hij hj ?_
    simp [List.getD_eq_getElem?_getD, List.getElem?_eq_getElem hi, List.getElem?_eq_getElem hj, e]
  · intro h j k hjk hk e
    have hj : j < ns.length := by omega
    have := List.pairwise_iff_getElem.mp h j k hj hk hjk
    refine this ?_
    simpa [List.getD_eq_getElem?_getD, List.getElem?_eq_getElem hj, List.getElem?_eq_getElem hk] using e
def tLenSetA (K : PySem.W.Frag) (ta : TE) : TE := fun σ H Q => ta σ H fun x H1 => ∃ (l : Addr) (ns : List Int), x = .ref l ∧ SqL K H1 l (ns.map V.int) ∧ ns.length ≤ 4000 ∧ Q (.int (distinct ns : Nat)) H1
theorem pe_lenSetA {X : Cx} {a : Expr} {ta : TE} {p p2 q pos : Pos} (hg : Gl X "len") (hm : X.mg "len" = none) (hg2 : Gl X "set") (hm2 : X.mg "set" = none) (ha : PE X a ta) (hc : X.calm = true)
    (na : starEach [a] X.env = (false, eval a X.env) :: starEach [] X.env) : PE X (.Call (.Name "len" p) [.Call (.Name "set" p2) [a] [] q] [] pos) (tLenSetA X.K ta) := by
  refine ⟨fun pins s σ H Q I h => ?_⟩
  refine Call_ (ld_blt I hg hm boot_len ?_)
  refine PyProof.Rows.callWith_builtin1 (PyProof.Rows.args_cons ?_ rfl) rfl rfl
  refine Call_ (ld_blt I hg2 hm2 boot_set ?_)
  refine PyProof.Rows.callWith_type1 (PyProof.Rows.args_cons (thn (ha.run pins s σ H _ I h) fun v s1 ⟨x, H1, I1, r1, q1⟩ => PyProof.Rows.args_nil ?_) na) na rfl
  obtain ⟨l, ns, rfl, hq, hl, q1⟩ := q1
  cases r1
  obtain ⟨its, r, pl, hz⟩ := I1.list hq
  have hlen : its.toArray.size = ns.length := by rw [List.size_toArray, ← r.length, List.length_map]
  refine call_set_list (I1.ok.hd hc) pl.isList (by simpa using RZ.intsAre_vals r) (by rw [hlen]; unfold scanBound; omega) fun h' tk hS hk => ?_
  refine PyProof.Rows.args_nil ?_
  rw [hlen] at hS
  obtain ⟨o, es, ep, t, ho, hex, hd, _, _, _, hf, hn⟩ := hS
  have I2 : Inv X pins σ H1 { s1 with heap := h', toks := tk } := I1.kept fun b o e => hk b o (Heap.lt_size e) e
  have hdl := distinct_le ns
  unfold distinct at hdl
  exact call_len_set ho hex hd hf (by rw [hn] <;> omega) ⟨.int (distinct ns : Nat), H1, I2.tok _, ⟨_, by rw [hn]; rfl⟩, q1⟩
section
variable {X : Cx} {e a b c o : Expr} {es : List Expr} {st : Stmt} {body rest : List Stmt} {σ : L2.St} {H : Hp} {D : Ends} {Q : VK} {v x y z : V} {pos p p2 q2 pr : Pos} {vs xs : List V} {f m : Str}
theorem EV.lenSet {q : Addr} {ns : List Int} (mL : X.mg "len" = none) (mS : X.mg "set" = none) (h : EV X a σ H (.ref q)) (hq : SqL X.K H q (ns.map V.int)) (hl : ns.length ≤ 4000) (hg : Gl X "len" := by rfl) (hg2 : Gl X "set" := by rfl) (hc : X.calm = true := by rfl) (hs : noStar a = true := by rfl) :
    EV X (.Call (.Name "len" p) [.Call (.Name "set" p2) [a] [] q2] [] pos) σ H (.int (distinct ns : Nat)) :=
  EV.of (pe_lenSetA hg mL hg2 mS pe_self hc (star_of hs [])) fun H1 e1 Q k => h.ev H1 e1 _ fun H2 e2 => ⟨q, ns, rfl, ex_l (e1.trans e2) hq, hl, k H2 e2⟩
/-! ### enumerate -/
theorem el_lcE {K : PySem.W.Frag} {ta : TA} {te : TE} {q : Addr} {j1 j2 : Nat} {ws : List Nat} (v : Nat → V) (h : EvA ta σ H [.ref q]) (hx : SqL K H q xs) (hz : xs.length ≤ 40000)
    (hw : ∀ x y, wipe (((wipe σ ws).set j1 (some x)).set j2 (some y)) ws = wipe σ ws)
    (he : ∀ (i : Nat) (y : V) H1, Ex H H1 → xs[i]? = some y → Ev te (((wipe σ ws).set j1 (some (.int (i : Nat)))).set j2 (some y)) H1 (v i)) :
    EvL (tLc (iEnum K ta) (gTup K 2 (gCons (gName j1) (gCons (gName j2) gNil))) tYes te ws) σ H ((List.range xs.length).map v) := fun H0 e Q k => h H0 e _ fun H1 e1 => by
  refine ⟨q, xs, rfl, ex_l (e.trans e1) hx, fun Dl hD => ?_⟩
  rw [← given_all] at k
  refine ⟨fun i m H' => m = xs.length - i ∧ i ≤ xs.length ∧ Cw H1 (fun _ => true) v Dl i H', ⟨xs.length, by simp, Nat.zero_le _, hD, Ex.new hD, upd_same⟩, ?_⟩
  rintro i m H' ⟨rfl, hi, cw⟩
  have hq' := ex_l ((e.trans e1).trans cw.2.1) hx
  by_cases hlt : i < xs.length
  · refine .inr ⟨⟨xs, xs[i], hq', by simp [hlt]⟩, Cw H1 (fun _ => true) v Dl (i + 1), fun H2 c2 => ⟨xs.length - (i + 1), by omega, rfl, hlt, c2⟩, ?_⟩
    rintro x H2 ⟨T, y, rfl, nT, rfl, fy⟩
    have hy := fy xs hq'
    have cw2 : Cw H1 (fun _ => true) v Dl i (upd H' T (.tup [.int (i : Nat), y])) := by
      refine ⟨cw.1, cw.2.1.trans (Ex.new nT), ?_⟩
      rw [upd_ne (ne_of_none cw.2.2 nT)]
      exact cw.2.2
    refine ⟨T, [.int (i : Nat), y], rfl, .inl (.inl upd_same), rfl, .int (i : Nat), [y], rfl, y, [], rfl, rfl, hw _ _, ?_⟩
    exact cw_turn cw2 (by omega) ev_yes (fun _ => he i y H1 (e.trans e1) hy)
  · have : i = xs.length := by omega
    subst this
    exact .inl ⟨⟨xs, hq', Nat.le_refl _⟩, k Dl H' (fresh_back e1 cw.1) (e1.trans cw.2.1) cw.2.2⟩
/-- [e for r, p in enumerate(xs)] -/
theorem LC.enum {elt : Expr} {scope : Scope} {n1 n2 : Str} {j1 j2 : Nat} {q : Addr} {px py pt : Pos} {kt : Nat} (v : Nat → V) (mE : X.mg "enumerate" = none) (hN : X.N.Nodup) (ok : BlkOk X.N X.env.scope scope [(n1, j1), (n2, j2)]) (h : EV X a σ H (.ref q)) (hq : SqL X.K H q xs) (hz : xs.length ≤ 40000)
    (he : ∀ (i : Nat) (y : V) H1, Ex H H1 → xs[i]? = some y → EVb X scope elt (((wipe σ [j1, j2]).set j1 (some (.int (i : Nat)))).set j2 (some y)) H1 (v i))
    (hw : ∀ x y, wipe (((wipe σ [j1, j2]).set j1 (some x)).set j2 (some y)) [j1, j2] = wipe σ [j1, j2] := by intro _ _; rfl)
    (hg : ∀ (s : Shared) (H : Hp) (C : Addr) (cl : List (Str × Addr)) (fp : List Addr), PG (X.blk s H scope (compEnvC scope cl C X.env) fp) (.Tuple [.Name n1 px, .Name n2 py] kt pt) (gTup X.K 2 (gCons (gName j1) (gCons (gName j2) gNil))) := by
      exact fun _ _ _ _ _ => pg_tup rfl (pgs_cons (pg_name (i := _) (by assumption) rfl (Or.inl rfl)) (pgs_cons (pg_name (i := _) (by assumption) rfl (Or.inl rfl)) pgs_nil)))
    (hgl : Gl X "enumerate" := by rfl) (hst : noStar a = true := by rfl) (hc : X.calm = true := by rfl) :
    LC X (.ListComp elt [⟨.Tuple [.Name n1 px, .Name n2 py] kt pt, .Call (.Name "enumerate" pr) [a] [] p2, [], 0⟩] scope pos) σ H ((List.range xs.length).map v) :=
  lc_of (own := [(n1, j1), (n2, j2)]) hc hN (pi_enum hgl mE (pa_all (es := [a]) (by simp [hst])) (star_of hst [])) ok hg (fun _ => rfl) (el_lcE v (AV.one h).ev hq hz hw fun i y H1 e1 hi => (he i y H1 e1 hi).ev)
theorem s_forE {K : PySem.W.Frag} {ta : TA} {tu : TS} {q : Addr} {j1 j2 : Nat} (h : EvA ta σ H [.ref q]) (hx : SqL K H q xs) (Pv : Nat → L2.St → Hp → Prop) (h0 : ∀ H1, Ex H H1 → Pv 0 σ H1) (hl : ∀ i σ' H', i ≤ xs.length → Pv i σ' H' → SqL K H' q xs)
    (hs : ∀ (i : Nat) (y : V) σ' H' H2, xs[i]? = some y → Pv i σ' H' → Ex H' H2 → (∀ b, H2 b = none → H' b = none) → tu { D with nx := Pv (i + 1), ct := Pv (i + 1), bk := D.nx } ((σ'.set j1 (some (.int (i : Nat)))).set j2 (some y)) H2) (hd : ∀ σ' H', Pv xs.length σ' H' → D.nx σ' H') :
    tFor (iEnum K ta) (gTup K 2 (gCons (gName j1) (gCons (gName j2) gNil))) tu D σ H := h H (Ex.refl H) _ fun H1 e => by
  refine ⟨q, xs, rfl, ex_l e hx, fun i m σ' H' => m = xs.length - i ∧ i ≤ xs.length ∧ Pv i σ' H', ⟨xs.length, by simp, Nat.zero_le _, h0 H1 e⟩, ?_⟩
  rintro i m σ' H' ⟨rfl, hi, pv⟩
  have hq' := hl i σ' H' hi pv
  by_cases hlt : i < xs.length
  · refine .inr ⟨⟨xs, xs[i], hq', by simp [hlt]⟩, Pv (i + 1), fun σ2 H2 p2 => ⟨xs.length - (i + 1), by omega, rfl, hlt, p2⟩, ?_⟩
    rintro x H2 ⟨T, y, rfl, nT, rfl, fy⟩
    refine ⟨T, [.int (i : Nat), y], rfl, .inl (.inl upd_same), rfl, .int (i : Nat), [y], rfl, y, [], rfl, rfl, ?_⟩
    refine hs i y σ' H' _ (fy xs hq') pv (Ex.new nT) fun b hb => ?_
    by_cases hbT : b = T
    · rw [hbT]
      exact nT
    · rw [upd_ne hbT] at hb
      exact hb
  · have : i = xs.length := by omega
    subst this
    exact .inl ⟨⟨xs, hq', Nat.le_refl _⟩, hd σ' H' pv⟩
/-- for i, x in enumerate(xs) -/
theorem BW.forE (j1 j2 : Nat) {q : Addr} {n1 n2 : Str} {px py pt : Pos} {kt : Nat} (mE : X.mg "enumerate" = none) (hN : X.N.Nodup) (h : EV X a σ H (.ref q)) (hq : SqL X.K H q xs) (Pv : Nat → L2.St → Hp → Prop) (h0 : ∀ H1, Ex H H1 → Pv 0 σ H1) (hl : ∀ i σ' H', i ≤ xs.length → Pv i σ' H' → SqL X.K H' q xs)
    (hs : ∀ (i : Nat) (y : V) σ' H' H2, xs[i]? = some y → Pv i σ' H' → Ex H' H2 → (∀ b, H2 b = none → H' b = none) → BW X body (Ends.turn X rest D (Pv (i + 1))) ((σ'.set j1 (some (.int (i : Nat)))).set j2 (some y)) H2) (hd : ∀ σ' H', Pv xs.length σ' H' → BW X rest D σ' H')
    (hj1 : X.N[j1]? = some n1 := by rfl) (hx1 : Loc X.env.scope n1 := by first | exact Or.inl rfl | exact Or.inr rfl) (hf1 : X.fn n1 = true ∨ X.env.scope.names.lookup n1 = some .local := by first | exact .inl rfl | exact .inr rfl)
    (hj2 : X.N[j2]? = some n2 := by rfl) (hx2 : Loc X.env.scope n2 := by first | exact Or.inl rfl | exact Or.inr rfl) (hf2 : X.fn n2 = true ∨ X.env.scope.names.lookup n2 = some .local := by first | exact .inl rfl | exact .inr rfl)
    (hg : Gl X "enumerate" := by rfl) (hst : noStar a = true := by rfl) (hc : X.calm = true := by rfl)
    (hp : PassesOwn (model X.prog X.w) X.A X.env X.xe := by first | exact PassesOwn.never | exact passes_of rfl) : BW X (.For (.Tuple [.Name n1 px, .Name n2 py] kt pt) (.Call (.Name "enumerate" pr) [a] [] p2) body [] pos :: rest) D σ H :=
  BW.cons (ps_for hp hc (pi_enum hg mE (pa_all (es := [a]) (by simp [hst])) (star_of hst [])) (pg_tup hc (pgs_cons (pg_name (i := j1) hN hj1 hx1 hf1) (pgs_cons (pg_name (i := j2) hN hj2 hx2 hf2) pgs_nil))) pss_self) (s_forE (AV.one h).ev hq Pv h0 hl hs hd)
/-! ### objects -/
theorem EV.fld {ob C dx : Addr} {fs : List (Str × V)} (h : EV X e σ H (.ref ob)) (ho : H ob = some (.ins C dx fs)) (cl : Cls X.K C) (na : NoAttr X.K C f) (hl : fs.lookup f = some v) (hb : attributeBase e f X.env (eval e X.env) = eval e X.env := by rfl) : EV X (.Attribute e f pos) σ H v :=
  EV.of (pe_fld pe_self hb) fun H1 e1 Q k => h.ev H1 e1 _ fun H2 e2 => ⟨ob, C, dx, fs, v, rfl, e2 _ _ (e1 _ _ ho), cl, na, hl, k H2 e2⟩
/-- a method of the class at C keeps the promise -/
structure Mc (P : Program) (w : World) (K : PySem.W.Frag) (mg : Str → Option Value) (base : Heap) (k : Nat) (C : Addr) (m : Str) (sp : Sp) : Prop where
  ex : ∃ (f : Addr) (fd : FuncData) (ps : List Str), Cls K C ∧ Meth K C m f ∧ FnOk P w K mg base (L2.CX P w) k f fd ps sp ∧ Binds K fd ps []
theorem EV.meth {apos : Pos} {C ob dx : Addr} {fs : List (Str × V)} {sp : Sp} {k j : Nat} {pl : Sem Bool} (M : Mc X.prog X.w X.K X.mg X.base k C m sp) (hr : Room j X.A) (h : EV X o σ H (.ref ob)) (ho : H ob = some (.ins C dx fs)) (hl : fs.lookup m = none) (ha : AV X (e :: es) σ H vs) (hv : SpV sp (.ref ob :: vs) H z)
    (hk : k ≤ j := by decide) (hs : (e :: es).all noStar = true := by rfl)
    (ht : eval (.Call (.Attribute o m apos) (e :: es) [] pos) X.env = (do
      let ov ← eval o X.env
      standAt apos.atName
      let (f, first) ← holding [ov] (getMethod ov m pl)
      callWith pos f first (backTo pos (starEach (e :: es) X.env)) (backToKw pos (keywordEach [] X.env))) := by rfl) : EV X (.Call (.Attribute o m apos) (e :: es) [] pos) σ H z := by
  obtain ⟨f, fd, ps, cl, me, F, bn⟩ := M.ex
  refine EV.of (pe_meth (pl := pl) pe_self cl me F (hr.mono hk) bn .nil passL (pa_all hs) (star_of (List.all_eq_true.mp hs e List.mem_cons_self) es) (back_any es (List.all_eq_true.mpr fun e' he => List.all_eq_true.mp hs e' (List.mem_cons_of_mem _ he))) ht) fun H1 e1 Q kq => ?_
  refine h.ev H1 e1 _ fun H2 e2 => ⟨ob, dx, fs, rfl, e2 _ _ (e1 _ _ ho), hl, ?_⟩
  refine ha.ev H2 (e1.trans e2) _ fun H3 e3 => ?_
  rw [List.append_nil]
  exact hv H3 ((e1.trans e2).trans e3) Q (fun H4 e4 => kq H4 ((e2.trans e3).trans e4)) _
/-- a new instance of C with these fields -/
def EvI (te : TE) (σ : L2.St) (H : Hp) (C : Addr) (fs : List (Str × V)) : Prop := ∀ H1, Ex H H1 → ∀ Q : VK, (∀ q dx H2, H1 q = none → Ex H1 H2 → H2 q = some (.ins C dx fs) → Q (.ref q) H2) → te σ H1 Q
structure EI (X : Cx) (e : Expr) (σ : L2.St) (H : Hp) (C : Addr) (fs : List (Str × V)) : Prop where
  ev : EvI (EW X e) σ H C fs
theorem EI.go {C : Addr} {fs : List (Str × V)} (h : EI X e σ H C fs) (k : ∀ q dx H1, H q = none → Ex H H1 → H1 q = some (.ins C dx fs) → Q (.ref q) H1) : EW X e σ H Q := h.ev H (Ex.refl H) Q k
/-- the class of that name, at C, made by an __init__ that keeps the promise -/
structure Kc (P : Program) (w : World) (K : PySem.W.Frag) (mg : Str → Option Value) (base : Heap) (k : Nat) (x : Str) (C : Addr) (sp : Sp) : Prop where
  ex : ∃ (f : Addr) (fd : FuncData) (ps : List Str), Mk K C f ∧ FnOk P w K mg base (L2.CX P w) k f fd ps sp ∧ mg x = some (.ref C) ∧ Binds K fd ps []
/-- __init__ that sets the fields fs of the new instance -/
def spInit (C : Addr) (names : List Str) : Sp := fun vs H Q _ => ∃ (q dx : Addr) (us : List V), vs = .ref q :: us ∧ us.length = names.length ∧ H q = some (.ins C dx []) ∧
  ∀ H2, (∀ b u, b ≠ q → H b = some u → H2 b = some u) → H2 q = some (.ins C dx (names.zip us)) → Q .non H2
theorem EI.make {x : Str} {C : Addr} {names : List Str} {k j : Nat} (M : Kc X.prog X.w X.K X.mg X.base k x C (spInit C names)) (hr : Room j X.A) (ha : AV X (e :: es) σ H vs) (hl : vs.length = names.length := by rfl) (hk : k + 1 ≤ j := by decide) (hg : Gl X x := by rfl) (hs : (e :: es).all noStar = true := by rfl) (hdb : (x == ("__debug__" : Str)) = false := by decide) :
    EI X (.Call (.Name x p) (e :: es) [] pos) σ H C (names.zip vs) := by
  obtain ⟨f, fd, ps, mk, F, hm, bn⟩ := M.ex
  refine ⟨fun H1 e1 Q q => EW.of (pe_make mk F (hr.mono hk) hg hm bn .nil passL (pa_all hs) hdb (star_of (List.all_eq_true.mp hs e List.mem_cons_self) es) (back_any es (List.all_eq_true.mpr fun e' he => List.all_eq_true.mp hs e' (List.mem_cons_of_mem _ he)))) ?_⟩
  refine ha.ev H1 e1 _ fun H2 e2 => ?_
  intro x dx nx ndx nex
  rw [List.append_nil]
  refine ⟨x, dx, vs, rfl, hl, upd_same, fun H3 keep h3 => ⟨rfl, ?_⟩⟩
  refine q x dx H3 (fresh_back e2 nx) (fun b u hb => ?_) h3
  have hb2 := e2 _ _ hb
  have n1 : b ≠ x := ne_of_none hb2 nx
  refine keep b u n1 ?_
  rw [upd_ne n1, upd_ne (ne_of_none hb2 ndx)]
  exact hb2
/-- self.f = e -/
theorem BW.setF {ob C dx : Addr} {fs : List (Str × V)} {apos : Pos} (hv : EV X e σ H v) (h : EV X o σ H (.ref ob)) (ho : H ob = some (.ins C dx fs)) (cl : Cls X.K C) (na : NoAttr X.K C f) (hl : fs.length < 1000) (k : ∀ H1, Ex H H1 → BW X rest D σ (upd H1 ob (.ins C dx (putF f v fs))))
    (hs : swapsWith e (some (.Attribute o f apos)) pos.line X.env = pure false := by rfl) : BW X (.Assign [.Attribute o f apos] e pos :: rest) D σ H :=
  BW.cons (ps_fld pe_self pe_self hs) (hv.ev H (Ex.refl H) _ fun H1 e1 => h.ev H1 e1 _ fun H2 e2 => ⟨ob, C, dx, fs, rfl, e2 _ _ (e1 _ _ ho), cl, na, hl, k H2 (e1.trans e2)⟩)
/-- x = C(..); return C(..) -/
theorem BW.asgI {n : Str} (i : Nat) {C : Addr} {fs : List (Str × V)} (hN : X.N.Nodup) (h : EI X e σ H C fs) (k : ∀ q dx H1, H q = none → Ex H H1 → H1 q = some (.ins C dx fs) → BW X rest D (σ.set i (some (.ref q))) H1) (hi : X.N[i]? = some n := by rfl) (hx : Loc X.env.scope n := by first | exact Or.inl rfl | exact Or.inr rfl) (hs : swapsWith e (some (.Name n p)) pos.line X.env = pure false := by rfl) (hf : X.fn n = true ∨ X.env.scope.names.lookup n = some .local := by first | exact .inl rfl | exact .inr rfl) : BW X (.Assign [.Name n p] e pos :: rest) D σ H :=
  BW.asgW hN hi hx (h.go k) hs hf
theorem BW.retI {C : Addr} {fs : List (Str × V)} (h : EI X e σ H C fs) (k : ∀ q dx H1, H q = none → Ex H H1 → H1 q = some (.ins C dx fs) → D.rt (.ref q) H1) : BW X (.Return (some e) pos :: rest) D σ H := BW.retW (h.go k)
/-- a call that hands back a new instance -/
def SpI (sp : Sp) (vs : List V) (H : Hp) (C : Addr) (fs : List (Str × V)) : Prop := ∀ H1, Ex H H1 → ∀ Q : VK, (∀ q dx H2, H1 q = none → Ex H1 H2 → H2 q = some (.ins C dx fs) → Q (.ref q) H2) → ∀ E : XK, sp vs H1 Q E
theorem EI.call {x : Str} {C : Addr} {fs : List (Str × V)} {sp : Sp} {k j : Nat} (Cc : Fc X.prog X.w X.K X.mg X.base k x sp) (hr : Room j X.A) (ha : AV X (e :: es) σ H vs) (hv : SpI sp vs H C fs) (hk : k ≤ j := by decide) (hg : Gl X x := by rfl) (hs : (e :: es).all noStar = true := by rfl) (hdb : (x == ("__debug__" : Str)) = false := by decide) :
    EI X (.Call (.Name x p) (e :: es) [] pos) σ H C fs := ⟨fun H1 e1 Q q => EW.of (pe_fc Cc hr hk passL hg hs hdb) (ha.ev H1 e1 _ fun H2 e2 => by
      rw [List.append_nil]
      exact hv H2 (e1.trans e2) Q (fun r dx H3 nr e3 h3 => q r dx H3 (fresh_back e2 nr) (e2.trans e3) h3) _)⟩
/-- what a class of the program has: its instances are told by isinstance -/
structure Ci (K : PySem.W.Frag) (mg : Str → Option Value) (x : Str) (C : Addr) : Prop where
  cl : Cls K C
  mg : mg x = some (.ref C)
  ha : PySem.W.findIn K (.ref C) "__class__" = some (some (.builtin "object.__class__"))
  hn : PySem.W.specialIn K (.builtin "object.__class__") "__get__" = some (some (.builtin "getset_descriptor.__get__"))
  htk : PySem.W.takesIn K (.builtin "object.__class__") = some true
  hm : PySem.W.mroIn K C (.type "object") = some true
theorem Ci.ty {K : PySem.W.Frag} {mg : Str → Option Value} {x : Str} {C q dx : Addr} {fs : List (Str × V)} (c : Ci K mg x C) (h : H q = some (.ins C dx fs)) : TyX K H (.ref q) (.ref C) := .base (.ins h c.cl c.ha c.hn c.htk c.hm)
/-- isinstance(e, D), D a class of the program; e an instance of C -/
theorem EV.isC {x : Str} {C Dc q dx : Addr} {fs : List (Str × V)} {k : Bool} {pf : Pos} {n : Str} (mI : X.mg "isinstance" = none) (c : Ci X.K X.mg n C) (hD : X.mg x = some (.ref Dc)) (ha : EV X a σ H (.ref q)) (hq : H q = some (.ins C dx fs)) (hk : PySem.W.kitOne X.K (.ref C) (.ref Dc) = some k) (hg : Gl X "isinstance" := by rfl) (hgD : Gl X x := by rfl) (hs : [a, .Name x pf].all noStar = true := by rfl) (hd : (x == ("__debug__" : Str)) = false := by decide) :
    EV X (.Call (.Name "isinstance" p) [a, .Name x pf] [] pos) σ H (.bl k) := EV.isi mI ha (EV.glob hD hgD hd) (.own Dc) (c.ty hq) hk hg hs
/-! ### a comprehension over a tuple made on the way -/
theorem el_lcNU {K : PySem.W.Frag} {tl te : TE} {j : Nat} {ws : List Nat} (v : Nat → V) (h : EvU tl σ H xs) (hz : xs.length ≤ 40000) (hw : ∀ x, wipe ((wipe σ ws).set j (some x)) ws = wipe σ ws)
    (he : ∀ (i : Nat) (y : V) H1, Ex H H1 → xs[i]? = some y → Ev te ((wipe σ ws).set j (some y)) H1 (v i)) : EvL (tLc (iTup K tl) (gName j) tYes te ws) σ H ((List.range xs.length).map v) := fun H0 e Q q => h H0 e _ fun r H1 hr e1 hx => by
  rw [← given_all] at q
  exact ⟨r, rfl, ⟨xs, st_of hx⟩, fun Dl hD => lc_tup (xs := xs) (Cw H1 (fun _ => true) v Dl) ⟨hD, Ex.new hD, upd_same⟩ (fun i H' _ p => st_of (p.2.1 r _ hx))
    (fun i y H' hi p => ⟨hw y, cw_turn p (by have := (List.getElem?_eq_some_iff.mp hi).1; omega) ev_yes (fun _ => he i y H1 (e.trans e1) hi)⟩)
    (fun H' p => q Dl H' (fresh_back e1 p.1) (e1.trans p.2.1) p.2.2)⟩
theorem LC.tupN {elt iter : Expr} {scope : Scope} {n : Str} {j : Nat} (v : Nat → V) (hN : X.N.Nodup) (ok : BlkOk X.N X.env.scope scope [(n, j)]) (h : EU X iter σ H xs) (hz : xs.length ≤ 40000)
    (he : ∀ (i : Nat) (y : V) H1, Ex H H1 → xs[i]? = some y → EVb X scope elt ((wipe σ [j]).set j (some y)) H1 (v i))
    (hw : ∀ z, wipe ((wipe σ [j]).set j (some z)) [j] = wipe σ [j] := by intro _; rfl)
    (hg : ∀ (s : Shared) (H : Hp) (C : Addr) (cl : List (Str × Addr)) (fp : List Addr), PG (X.blk s H scope (compEnvC scope cl C X.env) fp) (.Name n p) (gName j) := by exact fun _ _ _ _ _ => pg_name (i := _) (by assumption) rfl (Or.inl rfl)) (hc : X.calm = true := by rfl) (hfs : ∀ x, foldedSetIterable iter X.env x = pure x := by intro _; rfl) :
    LC X (.ListComp elt [⟨.Name n p, iter, [], 0⟩] scope pos) σ H ((List.range xs.length).map v) :=
  lc_of (own := [(n, j)]) hc hN (pi_tup pe_self) ok hg hfs (el_lcNU v h.ev hz hw fun i y H1 e1 hi => (he i y H1 e1 hi).ev)
end
end QR

namespace QR
open PySem PySem.Spec PyProof.Rows L2 Evl
/-! ### data: what == sees -/
mutual
theorem Dp.ex {K : PySem.W.Frag} {H H' : Hp} (e : Ex H H') : ∀ {v : V} {d : PyData}, Dp K H v d → Dp K H' v d
  | _, _, .non => .non
  | _, _, .bl b => .bl b
  | _, _, .int i => .int i
  | _, _, .str x => .str x
  | _, _, .lst h a => .lst (ex_l e h) (DpAll.ex e a)
  | _, _, .tup h a => .tup (ex_t e h) (DpAll.ex e a)
theorem DpAll.ex {K : PySem.W.Frag} {H H' : Hp} (e : Ex H H') : ∀ {vs : List V} {ds : List PyData}, DpAll K H vs ds → DpAll K H' vs ds
  | _, _, .nil => .nil
  | _, _, .cons a b => .cons (Dp.ex e a) (DpAll.ex e b)
end
theorem dp_ints {K : PySem.W.Frag} {H : Hp} : ∀ ns : List Int, DpAll K H (ns.map V.int) (ns.map PyData.int)
  | [] => .nil
  | n :: ns => .cons (.int n) (dp_ints ns)
theorem dp_bls {K : PySem.W.Frag} {H : Hp} : ∀ ns : List Bool, DpAll K H (ns.map V.bl) (ns.map PyData.bool)
  | [] => .nil
  | n :: ns => .cons (.bl n) (dp_bls ns)
/-- a list of whole numbers, of truths, as data -/
abbrev dI (ns : List Int) : PyData := .list (ns.map PyData.int)
abbrev dB (ns : List Bool) : PyData := .list (ns.map PyData.bool)
theorem eqvA_ints : ∀ ns ms : List Int, PyData.eqvAll (ns.map PyData.int) (ms.map PyData.int) = decide (ns = ms)
  | [], [] => by simp [PyData.eqvAll]
  | [], _ :: _ => by simp [PyData.eqvAll]
  | _ :: _, [] => by simp [PyData.eqvAll]
  | n :: ns, m :: ms => by
    simp only [List.map_cons, PyData.eqvAll, PyData.eqv, eqvA_ints ns ms, List.cons.injEq, Bool.beq_eq_decide_eq, Bool.decide_and]
theorem eqvA_bls : ∀ ns ms : List Bool, PyData.eqvAll (ns.map PyData.bool) (ms.map PyData.bool) = decide (ns = ms)
  | [], [] => by simp [PyData.eqvAll]
  | [], _ :: _ => by simp [PyData.eqvAll]
  | _ :: _, [] => by simp [PyData.eqvAll]
  | n :: ns, m :: ms => by
    simp only [List.map_cons, PyData.eqvAll, PyData.eqv, eqvA_bls ns ms, List.cons.injEq, Bool.beq_eq_decide_eq, Bool.decide_and]
theorem eqv_ints (ns ms : List Int) : PyData.eqv (dI ns) (dI ms) = decide (ns = ms) := by
  simp only [PyData.eqv, eqvA_ints]
theorem eqv_bls (ns ms : List Bool) : PyData.eqv (dB ns) (dB ms) = decide (ns = ms) := by
  simp only [PyData.eqv, eqvA_bls]
theorem lay_ints : ∀ ns : List Int, PyData.canLayAll0 (ns.map PyData.int) = true
  | [] => rfl
  | n :: ns => by simp [PyData.canLayAll0, PyData.canLay0, lay_ints ns]
theorem lay_bls : ∀ ns : List Bool, PyData.canLayAll0 (ns.map PyData.bool) = true
  | [] => rfl
  | n :: ns => by simp [PyData.canLayAll0, PyData.canLay0, lay_bls ns]
theorem dep_ints : ∀ ns : List Int, PyData.depthAll (ns.map PyData.int) = 0
  | [] => rfl
  | n :: ns => by simp [PyData.depthAll, PyData.depth, dep_ints ns]
theorem dep_bls : ∀ ns : List Bool, PyData.depthAll (ns.map PyData.bool) = 0
  | [] => rfl
  | n :: ns => by simp [PyData.depthAll, PyData.depth, dep_bls ns]
theorem shaped_ints (ns : List Int) : SeqAt.shaped (dI ns) = true := by
  simp [SeqAt.shaped, PyData.canLay0, PyData.depth, lay_ints, dep_ints]
theorem shaped_bls (ns : List Bool) : SeqAt.shaped (dB ns) = true := by
  simp [SeqAt.shaped, PyData.canLay0, PyData.depth, lay_bls, dep_bls]
section
variable {X : Cx} {e a b c o tg iter : Expr} {es : List Expr} {st : Stmt} {body rest : List Stmt} {σ : L2.St} {H : Hp} {D : Ends} {Q : VK} {v x y z : V} {pos p p2 q2 pr : Pos} {vs xs : List V} {f m : Str}
/-! ### a list, new or not -/
structure ES (X : Cx) (e : Expr) (σ : L2.St) (H : Hp) (xs : List V) : Prop where
  ev : ∀ H1, Ex H H1 → ∀ Q : VK, (∀ p H2, Ex H1 H2 → SqL X.K H2 p xs → Q (.ref p) H2) → EW X e σ H1 Q
theorem ES.new (h : EL X e σ H xs) : ES X e σ H xs := ⟨fun H1 e1 Q q => h.ev H1 e1 Q fun p H2 _ e2 h2 => q p H2 e2 (sq_of h2)⟩
theorem ES.old {q : Addr} (h : EV X e σ H (.ref q)) (hq : SqL X.K H q xs) : ES X e σ H xs := ⟨fun H1 e1 Q k => h.ev H1 e1 Q fun H2 e2 => k q H2 e2 (ex_l (e1.trans e2) hq)⟩
theorem ES.is {ys : List V} (h : ES X e σ H xs) (q : xs = ys) : ES X e σ H ys := q ▸ h
theorem ES.mono {H' : Hp} (h : ES X e σ H xs) (e1 : Ex H H') : ES X e σ H' xs := ⟨fun H1 e2 Q q => h.ev H1 (e1.trans e2) Q q⟩
/-! ### data -/
structure ED (X : Cx) (e : Expr) (σ : L2.St) (H : Hp) (d : PyData) : Prop where
  ev : ∀ H1, Ex H H1 → ∀ Q : VK, (∀ v H2, Ex H1 H2 → Dp X.K H2 v d → Q v H2) → EW X e σ H1 Q
theorem ED.val {d : PyData} (h : EV X e σ H v) (hd : Dp X.K H v d) : ED X e σ H d := ⟨fun H1 e1 Q q => h.ev H1 e1 Q fun H2 e2 => q v H2 e2 (Dp.ex (e1.trans e2) hd)⟩
theorem ED.int {i : Int} (h : EV X e σ H (.int i)) : ED X e σ H (.int i) := ED.val h (.int i)
theorem ED.ints {ns : List Int} (h : ES X e σ H (ns.map V.int)) : ED X e σ H (dI ns) := ⟨fun H1 e1 Q q => h.ev H1 e1 Q fun p H2 e2 h2 => q _ H2 e2 (.lst h2 (dp_ints ns))⟩
theorem ED.bls {ns : List Bool} (h : ES X e σ H (ns.map V.bl)) : ED X e σ H (dB ns) := ⟨fun H1 e1 Q q => h.ev H1 e1 Q fun p H2 e2 h2 => q _ H2 e2 (.lst h2 (dp_bls ns))⟩
theorem EV.eqD {d d' : PyData} {k : Nat} (hr : Room k X.A) (ha : ED X a σ H d) (hb : ED X b σ H d') (s1 : SeqAt.shaped d = true) (s2 : SeqAt.shaped d' = true) : EV X (.Compare a [.Eq] [b] pos) σ H (.bl (PyData.eqv d d')) :=
  EV.of (pe_cmpR (op_eqD hr.units) pe_self pe_self (nomark _)) fun H1 e1 Q q => ha.ev H1 e1 _ fun v H2 e2 dv => hb.ev H2 (e1.trans e2) _ fun w H3 e3 dw => ⟨d, d', Dp.ex e3 dv, dw, s1, s2, q H3 (e2.trans e3)⟩
theorem EV.neD {d d' : PyData} {k : Nat} (hr : Room k X.A) (ha : ED X a σ H d) (hb : ED X b σ H d') (s1 : SeqAt.shaped d = true) (s2 : SeqAt.shaped d' = true) : EV X (.Compare a [.NotEq] [b] pos) σ H (.bl (!PyData.eqv d d')) :=
  EV.of (pe_cmpR (op_neD hr.units) pe_self pe_self (nomark _)) fun H1 e1 Q q => ha.ev H1 e1 _ fun v H2 e2 dv => hb.ev H2 (e1.trans e2) _ fun w H3 e3 dw => ⟨d, d', Dp.ex e3 dv, dw, s1, s2, q H3 (e2.trans e3)⟩
theorem TV.eqD {d d' : PyData} {k : Nat} (hr : Room k X.A) (ha : ED X a σ H d) (hb : ED X b σ H d') (s1 : SeqAt.shaped d = true) (s2 : SeqAt.shaped d' = true) : TV X (.Compare a [.Eq] [b] pos) σ H (PyData.eqv d d') :=
  TV.of (pt_cmpR (op_eqD hr.units) pe_self pe_self (nomark _)) fun H1 e1 Q q => ha.ev H1 e1 _ fun v H2 e2 dv => hb.ev H2 (e1.trans e2) _ fun w H3 e3 dw => ⟨d, d', Dp.ex e3 dv, dw, s1, s2, _, rfl, q H3 (e2.trans e3)⟩
theorem TV.neD {d d' : PyData} {k : Nat} (hr : Room k X.A) (ha : ED X a σ H d) (hb : ED X b σ H d') (s1 : SeqAt.shaped d = true) (s2 : SeqAt.shaped d' = true) : TV X (.Compare a [.NotEq] [b] pos) σ H (!PyData.eqv d d') :=
  TV.of (pt_cmpR (op_neD hr.units) pe_self pe_self (nomark _)) fun H1 e1 Q q => ha.ev H1 e1 _ fun v H2 e2 dv => hb.ev H2 (e1.trans e2) _ fun w H3 e3 dw => ⟨d, d', Dp.ex e3 dv, dw, s1, s2, _, rfl, q H3 (e2.trans e3)⟩
theorem EV.eqL {ns ms : List Int} {k : Nat} (hr : Room k X.A) (ha : ES X a σ H (ns.map V.int)) (hb : ES X b σ H (ms.map V.int)) : EV X (.Compare a [.Eq] [b] pos) σ H (.bl (decide (ns = ms))) := EV.isB (EV.eqD hr (ED.ints ha) (ED.ints hb) (shaped_ints _) (shaped_ints _)) (eqv_ints _ _)
theorem EV.neL {ns ms : List Int} {k : Nat} (hr : Room k X.A) (ha : ES X a σ H (ns.map V.int)) (hb : ES X b σ H (ms.map V.int)) : EV X (.Compare a [.NotEq] [b] pos) σ H (.bl (!decide (ns = ms))) := EV.isB (EV.neD hr (ED.ints ha) (ED.ints hb) (shaped_ints _) (shaped_ints _)) (by rw [eqv_ints])
theorem TV.eqL {ns ms : List Int} {k : Nat} (hr : Room k X.A) (ha : ES X a σ H (ns.map V.int)) (hb : ES X b σ H (ms.map V.int)) : TV X (.Compare a [.Eq] [b] pos) σ H (decide (ns = ms)) := TV.is (TV.eqD hr (ED.ints ha) (ED.ints hb) (shaped_ints _) (shaped_ints _)) (eqv_ints _ _)
theorem TV.neL {ns ms : List Int} {k : Nat} (hr : Room k X.A) (ha : ES X a σ H (ns.map V.int)) (hb : ES X b σ H (ms.map V.int)) : TV X (.Compare a [.NotEq] [b] pos) σ H (!decide (ns = ms)) := TV.is (TV.neD hr (ED.ints ha) (ED.ints hb) (shaped_ints _) (shaped_ints _)) (by rw [eqv_ints])
theorem TV.neLB {ns ms : List Bool} {k : Nat} (hr : Room k X.A) (ha : ES X a σ H (ns.map V.bl)) (hb : ES X b σ H (ms.map V.bl)) : TV X (.Compare a [.NotEq] [b] pos) σ H (!decide (ns = ms)) := TV.is (TV.neD hr (ED.bls ha) (ED.bls hb) (shaped_bls _) (shaped_bls _)) (by rw [eqv_bls])
theorem EV.eqLB {ns ms : List Bool} {k : Nat} (hr : Room k X.A) (ha : ES X a σ H (ns.map V.bl)) (hb : ES X b σ H (ms.map V.bl)) : EV X (.Compare a [.Eq] [b] pos) σ H (.bl (decide (ns = ms))) := EV.isB (EV.eqD hr (ED.bls ha) (ED.bls hb) (shaped_bls _) (shaped_bls _)) (eqv_bls _ _)
/-! ### calls whose first argument is a list, new or not -/
theorem EV.callS {w : Str} {sp : Sp} {k j : Nat} (C : Fc X.prog X.w X.K X.mg X.base k w sp) (hr : Room j X.A) (h : ES X e σ H xs) (ha : AV X es σ H vs) (hv : ∀ p H1, Ex H H1 → SqL X.K H1 p xs → SpV sp (.ref p :: vs) H1 z) (hk : k ≤ j := by decide) (hg : Gl X w := by rfl) (hs : (e :: es).all noStar = true := by rfl) (hdb : (w == ("__debug__" : Str)) = false := by decide) :
    EV X (.Call (.Name w p) (e :: es) [] pos) σ H z := EV.of (pe_fc C hr hk passL hg hs hdb) fun H1 e1 Q q => h.ev H1 e1 _ fun r H2 e2 hr2 => ha.ev H2 (e1.trans e2) _ fun H3 e3 => by
      show sp (V.ref r :: vs ++ []) H3 Q E0
      rw [List.append_nil]
      exact hv r H3 ((e1.trans e2).trans e3) (ex_l e3 hr2) H3 (Ex.refl H3) Q (fun H4 e4 => q H4 ((e2.trans e3).trans e4)) _
/-! ### xs.append(e), xs.count(e) -/
theorem BW.app {l : Addr} {apos : Pos} (hl : H l = some (.lst xs)) (ha : EV X a σ H (.ref l)) (h : EV X e σ H v) (hz : xs.length < 100000) (k : ∀ H1, Ex H H1 → BW X rest D σ (upd H1 l (.lst (xs ++ [v])))) (hs : noStar e = true := by rfl)
    (he : PE X (.Call (.Attribute a "append" apos) [e] [] p) (tBM X.K "list" rAppend (EW X a) (tArgs X [e])) := by exact pe_bm PySem.F.plainAttrs_list PySem.F.slot_list_append PySem.F.type_list_append mt_append pe_self (pa_all rfl))
    (hw : swapsWith (.Call (.Attribute a "append" apos) [e] [] p) none pos.line X.env = pure false := by rfl) : BW X (.Expr (.Call (.Attribute a "append" apos) [e] [] p) pos :: rest) D σ H :=
  BW.cons (ps_expr he hw) (ha.ev H (Ex.refl H) _ fun H1 e1 => ⟨.inl ⟨rfl, xs, sq_of (e1 l _ hl)⟩, (AV.one h).ev H1 e1 _ fun H2 e2 => ⟨l, xs, v, rfl, rfl, e2 l _ (e1 l _ hl), sz_lt hz, k H2 (e1.trans e2)⟩⟩)
end
theorem countP_eqU {x : V} : ∀ {xs : List V} {us : List Value}, Vals xs us → xs.all flatV = true → us.countP (eqU x) = xs.countP fun y => eqV y x
  | _, _, .nil, _ => rfl
  | y :: ys, _, .cons r t, h => by
    have h1 : flatV y = true := List.all_eq_true.mp h y List.mem_cons_self
    have h2 : ys.all flatV = true := List.all_eq_true.mpr fun z hz => List.all_eq_true.mp h z (List.mem_cons_of_mem _ hz)
    rw [List.countP_cons, List.countP_cons, countP_eqU t h2, eqU_of r h1]
def rCntV (K : PySem.W.Frag) : V → List V → Hp → VK → Prop := fun x xs H Q => ∃ (p : Addr) (ys : List V) (y : V), x = .ref p ∧ xs = [y] ∧ SqL K H p ys ∧ flatV y = true ∧ ys.all flatV = true ∧ Q (.int (ys.countP (fun z => eqV z y) : Nat)) H
theorem mt_cntV {X : Cx} : MtR X "list.count" (rCntV X.K) := by
  intro pins s σ H x xs v us Q I rx rxs h
  obtain ⟨p, ys, y, rfl, rfl, hs, hy, hf, q⟩ := h
  cases rx
  obtain ⟨u, rfl, ru⟩ := rxs.one
  obtain ⟨its, rv, ⟨⟨cls, dd, data, sl⟩, n, ho, hc, hdn, hd⟩, hlen⟩ := I.list hs
  simp only at hc hd
  subst hc hd
  refine call_meets PySem.F.slot_list_count ⟨_, ho, rfl⟩ PySem.F.entry_list_count (PySem.F.args_list_count_2 _ _)
    (SeqAt.list_countAt p its.toArray n dd sl u (eqU y)) ⟨ho, fun z hz => mem_eqAt ru hy rv hf z (by simpa using hz), ?_⟩
  have ec : its.toArray.toList.countP (eqU y) = ys.countP (fun z => eqV z y) := countP_eqU rv hf
  refine ⟨.int (ys.countP (fun z => eqV z y) : Nat), H, I.tok _, ⟨s.toks, ?_⟩, q⟩
  show Value.int ((its.toArray.toList.countP (eqU y) : Nat) : Int) s.toks = _
  rw [ec]
section
variable {X : Cx} {e a b c o tg iter : Expr} {es : List Expr} {st : Stmt} {body rest : List Stmt} {σ : L2.St} {H : Hp} {D : Ends} {Q : VK} {v x y z : V} {pos p p2 q2 pr apos : Pos} {vs xs : List V} {f m : Str}
theorem EV.count {l : Addr} (ha : EV X a σ H (.ref l)) (hl : SqL X.K H l xs) (h : EV X e σ H v) (hv : flatV v = true := by rfl) (hf : xs.all flatV = true := by rfl)
    (he : PE X (.Call (.Attribute a "count" apos) [e] [] p) (tBM X.K "list" (rCntV X.K) (EW X a) (tArgs X [e])) := by exact pe_bm PySem.F.plainAttrs_list PySem.F.slot_list_count PySem.F.type_list_count mt_cntV pe_self (pa_all rfl)) :
    EV X (.Call (.Attribute a "count" apos) [e] [] p) σ H (.int (xs.countP (fun z => eqV z v) : Nat)) :=
  EV.of he fun H1 e1 Q q => ha.ev H1 e1 _ fun H2 e2 => ⟨.inl ⟨rfl, xs, ex_l (e1.trans e2) hl⟩, (AV.one h).ev H2 (e1.trans e2) _ fun H3 e3 => ⟨l, xs, v, rfl, rfl, ex_l ((e1.trans e2).trans e3) hl, hv, hf, q H3 (e2.trans e3)⟩⟩
/-! ### for x in range(a, b, c) -/
theorem s_forR3 {ta : TA} {tu : TS} {j n : Nat} {lo hi cc : Int} (h : EvA ta σ H [.int lo, .int hi, .int cc]) (hn : RgC lo hi cc n) (Pv : Nat → L2.St → Hp → Prop) (h0 : ∀ H1, Ex H H1 → Pv 0 σ H1)
    (hs : ∀ (i : Nat) σ' H', i < n → Pv i σ' H' → tu { D with nx := Pv (i + 1), ct := Pv (i + 1), bk := D.nx } (σ'.set j (some (.int (lo + (i : Nat) * cc)))) H') (hd : ∀ σ' H', Pv n σ' H' → D.nx σ' H') : tFor (iRng3 ta) (gName j) tu D σ H :=
  h H (Ex.refl H) _ fun H1 e => ⟨lo, hi, cc, n, rfl, hn, for_rangeC (lo := lo) (c := cc) (n := n) Pv (h0 H1 e) hs hd⟩
theorem BW.forR3 (j n : Nat) {lo hi cc : Int} (mR : X.mg "range" = none) (hN : X.N.Nodup) (h : EV X a σ H (.int lo)) (h' : EV X b σ H (.int hi)) (h'' : EV X c σ H (.int cc)) (hn : RgC lo hi cc n) (Pv : Nat → L2.St → Hp → Prop) (h0 : ∀ H1, Ex H H1 → Pv 0 σ H1)
    (hs : ∀ (i : Nat) σ' H', i < n → Pv i σ' H' → BW X body (Ends.turn X rest D (Pv (i + 1))) (σ'.set j (some (.int (lo + (i : Nat) * cc)))) H') (hd : ∀ σ' H', Pv n σ' H' → BW X rest D σ' H')
    (hj : X.N[j]? = some f := by rfl) (hx : Loc X.env.scope f := by first | exact Or.inl rfl | exact Or.inr rfl) (hf : X.fn f = true ∨ X.env.scope.names.lookup f = some .local := by first | exact .inl rfl | exact .inr rfl) (hg : Gl X "range" := by rfl) (hst : [a, b, c].all noStar = true := by rfl) (hc : X.calm = true := by rfl)
    (hp : PassesOwn (model X.prog X.w) X.A X.env X.xe := by first | exact PassesOwn.never | exact passes_of rfl) : BW X (.For (.Name f p) (.Call (.Name "range" pr) [a, b, c] [] p2) body [] pos :: rest) D σ H :=
  BW.cons (ps_for hp hc (pi_range3 hg mR (pa_all hst) (star_of (List.all_eq_true.mp hst a List.mem_cons_self) [b, c]) (back_any [b, c] (List.all_eq_true.mpr fun e' he => List.all_eq_true.mp hst e' (List.mem_cons_of_mem _ he)))) (pg_name (i := j) hN hj hx hf) pss_self) (s_forR3 (AV.three h h' h'').ev hn Pv h0 hs hd)
theorem EV.and4 {d : Expr} {k1 k2 k3 k4 : Bool} (ha : EV X a σ H (.bl k1)) (hb : k1 = true → EV X b σ H (.bl k2)) (hc : k1 = true → k2 = true → EV X c σ H (.bl k3)) (hd : k1 = true → k2 = true → k3 = true → EV X d σ H (.bl k4)) : EV X (.BoolOp .And [a, b, c, d] pos) σ H (.bl (k1 && (k2 && (k3 && k4)))) := EV.and ha fun h => EV.and3 (hb h) (hc h) (hd h)
end
/-- an if without else whose branch falls through or leaves: what follows once -/
theorem BW.whenJ {X : Cx} {c : Expr} {s1 rest : List Stmt} {σ : L2.St} {H : Hp} {D : Ends} {pos : Pos} {k : Bool} (h : TV X c σ H k) (h2 : ∀ H1, Ex H H1 → BW X rest D σ H1) (h1 : k = true → (∀ H1, Ex H H1 → BW X rest D σ H1) → ∀ H1, Ex H H1 → BW X s1 (Ends.bef X rest D) σ H1) : BW X (.If c s1 [] pos :: rest) D σ H :=
  BW.when h (fun hk => h1 hk h2) (fun _ => h2)
/-! ### slices -/
theorem cut_upto (xs : List V) (k : Nat) : cutV xs none (some (k : Int)) = xs.take k := by
  unfold cutV
  rw [HT.sIx_nat, HT.sIx_none]
  show List.take (min k xs.length - 0) (List.drop 0 xs) = _
  rw [Nat.sub_zero, List.drop_zero]
  rcases Nat.le_total k xs.length with h | h
  · rw [Nat.min_eq_left h]
  · rw [Nat.min_eq_right h, List.take_length, List.take_of_length_le h]
theorem at_ints {ns : List Int} {i : Nat} (h : i < ns.length) : atI (ns.map V.int) (i : Int) = some (.int (ns.getD i 0)) := by
  refine atI_nat ?_
  rw [List.getElem?_map, List.getElem?_eq_getElem h, List.getD_eq_getElem?_getD, List.getElem?_eq_getElem h]
  rfl
end QR

namespace QR
open PySem PySem.Spec PyProof.Rows L2 Evl
/-! ### shapes: what a value looks like, through the heap -/
inductive Sh where
  | v (x : V)
  | lst (xs : List Sh)
  | tup (xs : List Sh)
  | ins (C : Addr) (fs : List (Str × V))
abbrev Sh.i (n : Int) : Sh := .v (.int n)
abbrev Sh.b (k : Bool) : Sh := .v (.bl k)
mutual
inductive Is (K : PySem.W.Frag) (H : Hp) : V → Sh → Prop
  | v (x : V) : Is K H x (.v x)
  | lst {p : Addr} {vs : List V} {xs : List Sh} : SqL K H p vs → IsAll K H vs xs → Is K H (.ref p) (.lst xs)
  | tup {p : Addr} {vs : List V} {xs : List Sh} : SqT K H p vs → IsAll K H vs xs → Is K H (.ref p) (.tup xs)
  | ins {p C dx : Addr} {fs : List (Str × V)} : H p = some (.ins C dx fs) → Is K H (.ref p) (.ins C fs)
inductive IsAll (K : PySem.W.Frag) (H : Hp) : List V → List Sh → Prop
  | nil : IsAll K H [] []
  | cons {v : V} {s : Sh} {vs : List V} {ss : List Sh} : Is K H v s → IsAll K H vs ss → IsAll K H (v :: vs) (s :: ss)
end
mutual
theorem Is.ex {K : PySem.W.Frag} {H H' : Hp} (e : Ex H H') : ∀ {v : V} {s : Sh}, Is K H v s → Is K H' v s
  | _, _, .v x => .v x
  | _, _, .lst h a => .lst (ex_l e h) (IsAll.ex e a)
  | _, _, .tup h a => .tup (ex_t e h) (IsAll.ex e a)
  | _, _, .ins h => .ins (e _ _ h)
theorem IsAll.ex {K : PySem.W.Frag} {H H' : Hp} (e : Ex H H') : ∀ {vs : List V} {ss : List Sh}, IsAll K H vs ss → IsAll K H' vs ss
  | _, _, .nil => .nil
  | _, _, .cons a b => .cons (Is.ex e a) (IsAll.ex e b)
end
theorem Is.vv {K : PySem.W.Frag} {H : Hp} {v x : V} (h : Is K H v (.v x)) : v = x := by cases h; rfl
theorem Is.ofL {K : PySem.W.Frag} {H : Hp} {v : V} {ss : List Sh} (h : Is K H v (.lst ss)) : ∃ p vs, v = .ref p ∧ SqL K H p vs ∧ IsAll K H vs ss := by
  cases h with
  | lst a b => exact ⟨_, _, rfl, a, b⟩
theorem Is.ofU {K : PySem.W.Frag} {H : Hp} {v : V} {ss : List Sh} (h : Is K H v (.tup ss)) : ∃ p vs, v = .ref p ∧ SqT K H p vs ∧ IsAll K H vs ss := by
  cases h with
  | tup a b => exact ⟨_, _, rfl, a, b⟩
theorem Is.ofI {K : PySem.W.Frag} {H : Hp} {v : V} {C : Addr} {fs : List (Str × V)} (h : Is K H v (.ins C fs)) : ∃ p dx, v = .ref p ∧ H p = some (.ins C dx fs) := by
  cases h with
  | ins a => exact ⟨_, _, rfl, a⟩
theorem IsAll.len {K : PySem.W.Frag} {H : Hp} : ∀ {vs : List V} {ss : List Sh}, IsAll K H vs ss → vs.length = ss.length
  | _, _, .nil => rfl
  | _, _, .cons _ b => congrArg (· + 1) b.len
theorem IsAll.at {K : PySem.W.Frag} {H : Hp} : ∀ {vs : List V} {ss : List Sh} {i : Nat} {s : Sh}, IsAll K H vs ss → ss[i]? = some s → ∃ v, vs[i]? = some v ∧ Is K H v s
  | _, _, i, _, .nil, h => by simp at h
  | _, _, 0, _, .cons a _, h => by
    cases Option.some.inj h
    exact ⟨_, rfl, a⟩
  | _, _, i + 1, _, .cons _ b, h => by
    obtain ⟨v, h1, h2⟩ := IsAll.at (i := i) b (by simpa using h)
    exact ⟨v, by simpa using h1, h2⟩
theorem IsAll.at' {K : PySem.W.Frag} {H : Hp} : ∀ {vs : List V} {ss : List Sh} {i : Nat} {v : V}, IsAll K H vs ss → vs[i]? = some v → ∃ s, ss[i]? = some s ∧ Is K H v s
  | _, _, i, _, .nil, h => by simp at h
  | _, _, 0, _, .cons a _, h => by
    cases Option.some.inj h
    exact ⟨_, rfl, a⟩
  | _, _, i + 1, _, .cons _ b, h => by
    obtain ⟨v, h1, h2⟩ := IsAll.at' (i := i) b (by simpa using h)
    exact ⟨v, by simpa using h1, h2⟩
theorem IsAll.append {K : PySem.W.Frag} {H : Hp} : ∀ {vs us : List V} {ss ts : List Sh}, IsAll K H vs ss → IsAll K H us ts → IsAll K H (vs ++ us) (ss ++ ts)
  | _, _, _, _, .nil, h => h
  | _, _, _, _, .cons a b, h => .cons a (IsAll.append b h)
theorem IsAll.take {K : PySem.W.Frag} {H : Hp} : ∀ {vs : List V} {ss : List Sh} (n : Nat), IsAll K H vs ss → IsAll K H (vs.take n) (ss.take n)
  | _, _, 0, _ => by simp; exact .nil
  | _, _, n + 1, .nil => .nil
  | _, _, n + 1, .cons a b => .cons a (IsAll.take n b)
theorem IsAll.vals {K : PySem.W.Frag} {H : Hp} : ∀ vs : List V, IsAll K H vs (vs.map Sh.v)
  | [] => .nil
  | v :: vs => .cons (.v v) (IsAll.vals vs)
theorem IsAll.valsE {K : PySem.W.Frag} {H : Hp} : ∀ {us vs : List V}, IsAll K H us (vs.map Sh.v) → us = vs
  | _, [], .nil => rfl
  | _, v :: vs, .cons a b => by rw [a.vv, IsAll.valsE b]
/-- a list of whole numbers -/
abbrev Sh.ints (ns : List Int) : Sh := .lst (ns.map fun n => .v (.int n))
abbrev Sh.bls (ns : List Bool) : Sh := .lst (ns.map fun n => .v (.bl n))
theorem ints_v (ns : List Int) : (ns.map fun n => Sh.v (V.int n)) = (ns.map V.int).map Sh.v := by rw [List.map_map]; rfl
theorem bls_v (ns : List Bool) : (ns.map fun n => Sh.v (V.bl n)) = (ns.map V.bl).map Sh.v := by rw [List.map_map]; rfl
theorem Is.ints {K : PySem.W.Frag} {H : Hp} {p : Addr} {ns : List Int} (h : SqL K H p (ns.map V.int)) : Is K H (.ref p) (Sh.ints ns) := .lst h (by rw [ints_v]; exact IsAll.vals _)
theorem Is.bls {K : PySem.W.Frag} {H : Hp} {p : Addr} {ns : List Bool} (h : SqL K H p (ns.map V.bl)) : Is K H (.ref p) (Sh.bls ns) := .lst h (by rw [bls_v]; exact IsAll.vals _)
theorem Is.ofInts {K : PySem.W.Frag} {H : Hp} {v : V} {ns : List Int} (h : Is K H v (Sh.ints ns)) : ∃ p, v = .ref p ∧ SqL K H p (ns.map V.int) := by
  obtain ⟨p, vs, rfl, h1, h2⟩ := h.ofL
  rw [ints_v] at h2
  exact ⟨p, rfl, by rw [← h2.valsE]; exact h1⟩
theorem Is.ofBls {K : PySem.W.Frag} {H : Hp} {v : V} {ns : List Bool} (h : Is K H v (Sh.bls ns)) : ∃ p, v = .ref p ∧ SqL K H p (ns.map V.bl) := by
  obtain ⟨p, vs, rfl, h1, h2⟩ := h.ofL
  rw [bls_v] at h2
  exact ⟨p, rfl, by rw [← h2.valsE]; exact h1⟩
/-! ### the judgement -/
structure EX (X : Cx) (e : Expr) (σ : L2.St) (H : Hp) (s : Sh) : Prop where
  ev : ∀ H1, Ex H H1 → ∀ Q : VK, (∀ v H2, Ex H1 H2 → Is X.K H2 v s → Q v H2) → EW X e σ H1 Q
structure AX (X : Cx) (es : List Expr) (σ : L2.St) (H : Hp) (ss : List Sh) : Prop where
  ev : ∀ H1, Ex H H1 → ∀ Q : List V → Hp → Prop, (∀ vs H2, Ex H1 H2 → IsAll X.K H2 vs ss → Q vs H2) → tArgs X es σ H1 Q
/-- a new list of these shapes -/
structure EN (X : Cx) (e : Expr) (σ : L2.St) (H : Hp) (ss : List Sh) : Prop where
  ev : ∀ H1, Ex H H1 → ∀ Q : VK, (∀ p vs H2, H1 p = none → Ex H1 H2 → H2 p = some (.lst vs) → IsAll X.K H2 vs ss → Q (.ref p) H2) → EW X e σ H1 Q
section
variable {X : Cx} {e a b c o tg iter : Expr} {es : List Expr} {st : Stmt} {body rest : List Stmt} {σ : L2.St} {H : Hp} {D : Ends} {Q : VK} {v x y z : V} {pos p p2 q2 pr apos : Pos} {vs xs : List V} {f m : Str} {s t : Sh} {ss ts : List Sh}
theorem EX.is (h : EX X e σ H s) (q : s = t) : EX X e σ H t := q ▸ h
theorem EX.mono {H' : Hp} (h : EX X e σ H s) (e1 : Ex H H') : EX X e σ H' s := ⟨fun H1 a Q q => h.ev H1 (e1.trans a) Q q⟩
theorem EX.go (h : EX X e σ H s) (k : ∀ v H1, Ex H H1 → Is X.K H1 v s → Q v H1) : EW X e σ H Q := h.ev H (Ex.refl H) Q k
theorem EX.val (h : EV X e σ H v) (hv : Is X.K H v s) : EX X e σ H s := ⟨fun H1 e1 Q q => h.ev H1 e1 Q fun H2 e2 => q v H2 e2 (hv.ex (e1.trans e2))⟩
theorem EX.vv (h : EV X e σ H v) : EX X e σ H (.v v) := EX.val h (.v v)
theorem EV.ofX (h : EX X e σ H (.v v)) : EV X e σ H v := ⟨fun H1 e1 Q q => h.ev H1 e1 Q fun u H2 e2 hu => by rw [hu.vv]; exact q H2 e2⟩
theorem EX.var (i : Nat) {n : Str} (h : σ[i]? = some (some v)) (hv : Is X.K H v s) (hN : X.N[i]? = some n := by rfl) (hvs : Vis X.env.scope n := by first | exact Or.inl rfl | exact Or.inr (Or.inl rfl) | exact Or.inr (Or.inr rfl)) (hd : (n == ("__debug__" : Str)) = false := by decide)
    (hcd : (n == ("__classdict__" : Str)) = false := by decide) : EX X (.Name n pos) σ H s := EX.val (EV.var i h hN hvs hd hcd) hv
theorem EX.new (h : EL X e σ H xs) : EX X e σ H (.lst (xs.map Sh.v)) := ⟨fun H1 e1 Q q => h.ev H1 e1 Q fun p H2 _ e2 h2 => q _ H2 e2 (.lst (sq_of h2) (IsAll.vals _))⟩
theorem EX.newA (h : EL X e σ H xs) (ha : IsAll X.K H xs ss) : EX X e σ H (.lst ss) := ⟨fun H1 e1 Q q => h.ev H1 e1 Q fun p H2 _ e2 h2 => q _ H2 e2 (.lst (sq_of h2) (ha.ex (e1.trans e2)))⟩
theorem EX.newI {ns : List Int} (h : EL X e σ H (ns.map V.int)) : EX X e σ H (Sh.ints ns) := (EX.new h).is (by rw [← ints_v])
theorem EX.newB {ns : List Bool} (h : EL X e σ H (ns.map V.bl)) : EX X e σ H (Sh.bls ns) := (EX.new h).is (by rw [← bls_v])
theorem EX.newU (h : EU X e σ H xs) : EX X e σ H (.tup (xs.map Sh.v)) := ⟨fun H1 e1 Q q => h.ev H1 e1 Q fun p H2 _ e2 h2 => q _ H2 e2 (.tup (st_of h2) (IsAll.vals _))⟩
theorem EX.ofN (h : EN X e σ H ss) : EX X e σ H (.lst ss) := ⟨fun H1 e1 Q q => h.ev H1 e1 Q fun p vs H2 _ e2 h2 ha => q _ H2 e2 (.lst (sq_of h2) ha)⟩
theorem EN.ofL (h : EL X e σ H xs) (ha : IsAll X.K H xs ss) : EN X e σ H ss := ⟨fun H1 e1 Q q => h.ev H1 e1 Q fun p H2 np e2 h2 => q p xs H2 np e2 h2 (ha.ex (e1.trans e2))⟩
theorem EN.is (h : EN X e σ H ss) (q : ss = ts) : EN X e σ H ts := q ▸ h
theorem EX.ins {C : Addr} {fs : List (Str × V)} (h : EI X e σ H C fs) : EX X e σ H (.ins C fs) := ⟨fun H1 e1 Q q => h.ev H1 e1 Q fun p dx H2 _ e2 h2 => q _ H2 e2 (.ins h2)⟩
theorem ES.ofX {ns : List Int} (h : EX X e σ H (Sh.ints ns)) : ES X e σ H (ns.map V.int) := ⟨fun H1 e1 Q q => h.ev H1 e1 Q fun v H2 e2 hv => by
  obtain ⟨p, rfl, hp⟩ := hv.ofInts
  exact q p H2 e2 hp⟩
theorem ES.ofXB {ns : List Bool} (h : EX X e σ H (Sh.bls ns)) : ES X e σ H (ns.map V.bl) := ⟨fun H1 e1 Q q => h.ev H1 e1 Q fun v H2 e2 hv => by
  obtain ⟨p, rfl, hp⟩ := hv.ofBls
  exact q p H2 e2 hp⟩
theorem EX.ofS {ns : List Int} (h : ES X e σ H (ns.map V.int)) : EX X e σ H (Sh.ints ns) := ⟨fun H1 e1 Q q => h.ev H1 e1 Q fun p H2 e2 hp => q _ H2 e2 (Is.ints hp)⟩
theorem AX.nil : AX X [] σ H [] := ⟨fun H1 _ _ q => q [] H1 (Ex.refl H1) .nil⟩
theorem AX.cons (h : EX X e σ H s) (hr : AX X es σ H ss) : AX X (e :: es) σ H (s :: ss) := ⟨fun H1 e1 Q q => h.ev H1 e1 _ fun v H2 e2 hv => hr.ev H2 (e1.trans e2) _ fun vs H3 e3 hs => q _ H3 (e2.trans e3) (.cons (hv.ex e3) hs)⟩
theorem AX.one (h : EX X e σ H s) : AX X [e] σ H [s] := AX.cons h AX.nil
theorem EN.lst (h : AX X es σ H ss) (hl : ss.length ≤ 100000 := by exact Nat.le_of_ble_eq_true rfl) (hs : es.all noStar = true := by rfl) : EN X (.List es pos) σ H ss :=
  ⟨fun H1 e1 Q q => EW.of (pe_lst (pa_all hs)) (h.ev H1 e1 _ fun vs H2 e2 ha => ⟨sz_of (by rw [ha.len]; exact hl), fun p hp => q p vs _ (fresh_back e2 hp) (e2.trans (Ex.new hp)) upd_same (ha.ex (Ex.new hp))⟩)⟩
theorem EX.lst (h : AX X es σ H ss) (hl : ss.length ≤ 100000 := by exact Nat.le_of_ble_eq_true rfl) (hs : es.all noStar = true := by rfl) : EX X (.List es pos) σ H (.lst ss) := EX.ofN (EN.lst h hl hs)
theorem EX.tup {x1 : Nat} (h : AX X es σ H ss) (hl : ss.length ≤ 100000 := by exact Nat.le_of_ble_eq_true rfl) (hs : es.all noStar = true := by rfl) : EX X (.Tuple es x1 pos) σ H (.tup ss) :=
  ⟨fun H1 e1 Q q => EW.of (pe_tup (pa_all hs)) (h.ev H1 e1 _ fun vs H2 e2 ha => ⟨sz_of (by rw [ha.len]; exact hl), fun p hp => q _ _ (e2.trans (Ex.new hp)) (.tup (st_of upd_same) (ha.ex (Ex.new hp)))⟩)⟩
/-! ### statements -/
theorem BW.asgX {n : Str} (i : Nat) (hN : X.N.Nodup) (h : EX X e σ H s) (k : ∀ v H1, Ex H H1 → Is X.K H1 v s → BW X rest D (σ.set i (some v)) H1) (hi : X.N[i]? = some n := by rfl) (hx : Loc X.env.scope n := by first | exact Or.inl rfl | exact Or.inr rfl) (hs : swapsWith e (some (.Name n p)) pos.line X.env = pure false := by rfl) (hf : X.fn n = true ∨ X.env.scope.names.lookup n = some .local := by first | exact .inl rfl | exact .inr rfl) : BW X (.Assign [.Name n p] e pos :: rest) D σ H :=
  BW.asgW hN hi hx (h.go k) hs hf
theorem BW.asgN {n : Str} (i : Nat) (hN : X.N.Nodup) (h : EN X e σ H ss) (k : ∀ q vs H1, H q = none → Ex H H1 → H1 q = some (.lst vs) → IsAll X.K H1 vs ss → BW X rest D (σ.set i (some (.ref q))) H1) (hi : X.N[i]? = some n := by rfl) (hx : Loc X.env.scope n := by first | exact Or.inl rfl | exact Or.inr rfl) (hs : swapsWith e (some (.Name n p)) pos.line X.env = pure false := by rfl) (hf : X.fn n = true ∨ X.env.scope.names.lookup n = some .local := by first | exact .inl rfl | exact .inr rfl) : BW X (.Assign [.Name n p] e pos :: rest) D σ H :=
  BW.asgW hN hi hx (h.ev H (Ex.refl H) _ k) hs hf
theorem BW.retX (h : EX X e σ H s) (k : ∀ v H1, Ex H H1 → Is X.K H1 v s → D.rt v H1) : BW X (.Return (some e) pos :: rest) D σ H := BW.retW (h.go k)
theorem BW.retN (h : EN X e σ H ss) (k : ∀ q vs H1, H q = none → Ex H H1 → H1 q = some (.lst vs) → IsAll X.K H1 vs ss → D.rt (.ref q) H1) : BW X (.Return (some e) pos :: rest) D σ H := BW.retW (h.ev H (Ex.refl H) _ k)
/-! ### reading -/
theorem atI_len {xs : List V} {i : Int} {v : V} (h : atI xs i = some v) : ∃ k : Nat, xs[k]? = some v ∧ ∀ ys : List V, ys.length = xs.length → atI ys i = ys[k]? := by
  unfold atI at h ⊢
  cases hk : ixN xs.length i with
  | none => rw [hk] at h; cases h
  | some k =>
    rw [hk] at h
    exact ⟨k, h, fun ys hy => by rw [hy, hk]; rfl⟩
/-- the place i of n -/
def IxAt (n : Nat) (i : Int) (k : Nat) : Prop := ixN n i = some k
theorem EX.ixL {i : Int} {k : Nat} (h : EX X a σ H (.lst ss)) (hi : EV X b σ H (.int i)) (hk : ixN ss.length i = some k) (hs : ss[k]? = some s) (hp : PlainIx b := by exact fun _ _ => rfl) : EX X (.Subscript a b pos) σ H s :=
  ⟨fun H1 e1 Q q => EW.of (pe_ix ix_list pe_self pe_self hp) (h.ev H1 e1 _ fun v H2 e2 hv => by
    obtain ⟨p, vs, rfl, hsq, ha⟩ := hv.ofL
    refine hi.ev H2 (e1.trans e2) _ fun H3 e3 => ?_
    obtain ⟨u, hu, iu⟩ := ha.at hs
    refine ⟨p, vs, i, u, rfl, rfl, ex_l e3 hsq, ?_, q u H3 (e2.trans e3) (iu.ex e3)⟩
    unfold atI
    rw [ha.len, hk]
    exact hu)⟩
theorem EX.ixT {i : Int} {k : Nat} (h : EX X a σ H (.tup ss)) (hi : EV X b σ H (.int i)) (hk : ixN ss.length i = some k) (hs : ss[k]? = some s) (hp : PlainIx b := by exact fun _ _ => rfl) : EX X (.Subscript a b pos) σ H s :=
  ⟨fun H1 e1 Q q => EW.of (pe_ix ix_tup pe_self pe_self hp) (h.ev H1 e1 _ fun v H2 e2 hv => by
    obtain ⟨p, vs, rfl, hsq, ha⟩ := hv.ofU
    refine hi.ev H2 (e1.trans e2) _ fun H3 e3 => ?_
    obtain ⟨u, hu, iu⟩ := ha.at hs
    refine ⟨p, vs, i, u, rfl, rfl, ex_t e3 hsq, ?_, q u H3 (e2.trans e3) (iu.ex e3)⟩
    unfold atI
    rw [ha.len, hk]
    exact hu)⟩
theorem EV.fldX {C : Addr} {fs : List (Str × V)} (h : EX X e σ H (.ins C fs)) (cl : Cls X.K C) (na : NoAttr X.K C f) (hl : fs.lookup f = some v) (hb : attributeBase e f X.env (eval e X.env) = eval e X.env := by rfl) : EV X (.Attribute e f pos) σ H v :=
  EV.of (pe_fld pe_self hb) fun H1 e1 Q k => h.ev H1 e1 _ fun u H2 e2 hu => by
    obtain ⟨ob, dx, rfl, ho⟩ := hu.ofI
    exact ⟨ob, C, dx, fs, v, rfl, ho, cl, na, hl, k H2 e2⟩
theorem EV.lenX (mL : X.mg "len" = none) (h : EX X a σ H (.lst ss)) (hg : Gl X "len" := by rfl) (hs : noStar a = true := by rfl) : EV X (.Call (.Name "len" p) [a] [] pos) σ H (.int (ss.length : Int)) :=
  EV.of (pe_callB call_len_seq hg mL PySem.boot_len (pa_all (es := [a]) (by simp [hs])) (by decide) (by decide) (star_of hs []) rfl) fun H1 e1 Q k => h.ev H1 e1 _ fun u H2 e2 hu => by
    obtain ⟨q, vs, rfl, hq, ha⟩ := hu.ofL
    exact ⟨q, vs, rfl, .inl hq, by rw [ha.len]; exact k H2 e2⟩
/-! ### loops over a list that stands still -/
theorem BW.forX {g : TG} (h : EX X iter σ H (.lst ss)) (hg : PG X tg g) (Pv : Hp → Nat → L2.St → Hp → Prop) (h0 : ∀ H1, Ex H H1 → Pv H1 0 σ H1) (hl : ∀ H1 i σ' H', Pv H1 i σ' H' → Ex H1 H')
    (hs : ∀ H1 i s v σ' H', Ex H H1 → ss[i]? = some s → Is X.K H' v s → Pv H1 i σ' H' → g v σ' H' fun σ2 H2 => BW X body (Ends.turn X rest D (Pv H1 (i + 1))) σ2 H2) (hd : ∀ H1 σ' H', Ex H H1 → Pv H1 ss.length σ' H' → BW X rest D σ' H')
    (hc : X.calm = true := by rfl) (hp : PassesOwn (model X.prog X.w) X.A X.env X.xe := by first | exact PassesOwn.never | exact passes_of rfl) (hfs : ∀ x, foldedSetIterable iter X.env x = pure x := by intro _; rfl) : BW X (.For tg iter body [] pos :: rest) D σ H := by
  refine BW.cons (ps_for hp hc (pi_list pe_self) hg pss_self hfs) (h.ev H (Ex.refl H) _ fun v H1 e1 hv => ?_)
  obtain ⟨q, vs, rfl, hq, ha⟩ := hv.ofL
  have hlen := ha.len
  refine ⟨q, rfl, ⟨vs, hq⟩, for_list (xs := vs) (Pv H1) (h0 H1 e1) (fun i σ' H' _ pv => ex_l (hl H1 i σ' H' pv) hq) (fun i x σ' H' hi pv => ?_) fun σ' H' pv => hd H1 σ' H' e1 (hlen ▸ pv)⟩
  obtain ⟨t, ht, it⟩ := ha.at' hi
  exact hs H1 i t x σ' H' e1 ht (it.ex (hl H1 i σ' H' pv)) pv
theorem el_lcX {K : PySem.W.Frag} {tl te : TE} {j : Nat} {ws : List Nat} (w : Nat → V) (h : ∀ H1, Ex H H1 → ∀ Q : VK, (∀ v H2, Ex H1 H2 → Is K H2 v (.lst ss) → Q v H2) → tl σ H1 Q) (hz : ss.length ≤ 40000) (hw : ∀ x, wipe ((wipe σ ws).set j (some x)) ws = wipe σ ws)
    (he : ∀ (i : Nat) (s : Sh) (y : V) H1, Ex H H1 → ss[i]? = some s → Is K H1 y s → Ev te ((wipe σ ws).set j (some y)) H1 (w i)) : EvL (tLc (iList K tl) (gName j) tYes te ws) σ H ((List.range ss.length).map w) := fun H0 e Q q => h H0 e _ fun u H1 e1 hu => by
  obtain ⟨a, vs, rfl, hx, ha⟩ := hu.ofL
  have hlen := ha.len
  rw [← given_all, ← hlen] at q
  exact ⟨a, rfl, ⟨vs, hx⟩, fun Dl hD => lc_list (xs := vs) (Cw H1 (fun _ => true) w Dl) ⟨hD, Ex.new hD, upd_same⟩ (fun i H' _ p => ex_l p.2.1 hx)
    (fun i y H' hi p => ⟨hw y, cw_turn p (by have := (List.getElem?_eq_some_iff.mp hi).1; omega) ev_yes (fun _ => by
      obtain ⟨s, hs, iy⟩ := ha.at' hi
      exact he i s y H1 (e.trans e1) hs iy)⟩)
    (fun H' p => q Dl H' (fresh_back e1 p.1) (e1.trans p.2.1) p.2.2)⟩
/-- [e for x in xs], xs by its shapes -/
theorem LC.listX {elt iter : Expr} {scope : Scope} {n : Str} {j : Nat} (w : Nat → V) (hN : X.N.Nodup) (ok : BlkOk X.N X.env.scope scope [(n, j)]) (h : EX X iter σ H (.lst ss)) (hz : ss.length ≤ 40000)
    (he : ∀ (i : Nat) (s : Sh) (y : V) H1, Ex H H1 → ss[i]? = some s → Is X.K H1 y s → EVb X scope elt ((wipe σ [j]).set j (some y)) H1 (w i))
    (hw : ∀ z, wipe ((wipe σ [j]).set j (some z)) [j] = wipe σ [j] := by intro _; rfl)
    (hg : ∀ (s : Shared) (H : Hp) (C : Addr) (cl : List (Str × Addr)) (fp : List Addr), PG (X.blk s H scope (compEnvC scope cl C X.env) fp) (.Name n p) (gName j) := by exact fun _ _ _ _ _ => pg_name (i := _) (by assumption) rfl (Or.inl rfl)) (hc : X.calm = true := by rfl) (hfs : ∀ x, foldedSetIterable iter X.env x = pure x := by intro _; rfl) :
    LC X (.ListComp elt [⟨.Name n p, iter, [], 0⟩] scope pos) σ H ((List.range ss.length).map w) :=
  lc_of (own := [(n, j)]) hc hN (pi_list pe_self) ok hg hfs (el_lcX w h.ev hz hw fun i s y H1 e1 hs iy => (he i s y H1 e1 hs iy).ev)
end
end QR

namespace QR
open PySem PySem.Spec PyProof.Rows L2 Evl
/-! ### xs + ys -/
def rCatS (K : PySem.W.Frag) : R2 := fun x y H Q => ∃ l b xs zs, x = .ref l ∧ y = .ref b ∧ SqL K H l xs ∧ SqL K H b zs ∧ xs.length + zs.length ≤ sizeLine ∧ ∀ p, H p = none → Q (.ref p) (upd H p (.lst (xs ++ zs)))
theorem op_catS {X : Cx} : OpR X (binaryOp .Add) (rCatS X.K) := by
  intro pins s σ H x y v u Q I rx ry h
  obtain ⟨l, b, xs, zs, rfl, rfl, hH, hB, hz, q⟩ := h
  cases rx
  cases ry
  obtain ⟨its, r, pl, hz1⟩ := I.list hH
  obtain ⟨its2, r2, pl2, hz2⟩ := I.list hB
  have hl := r.length
  have hl2 := r2.length
  obtain ⟨⟨cls, dd, data, sl⟩, ho, hc, n, hd⟩ := pl.isList
  obtain ⟨⟨cls2, dd2, data2, sl2⟩, ho2, hc2, n2, hd2⟩ := pl2.isList
  simp only at hc hd hc2 hd2
  subst hc hd hc2 hd2
  have e : its.toArray ++ its2.toArray = (its ++ its2).toArray := by simp
  refine concat_meets ⟨_, ho, rfl⟩ ⟨_, ho2, rfl⟩ noFill_list_add seq_list_add PySem.F.slot_list_add PySem.F.entry_list_add (PySem.F.args_list_add_2 _ _) (list_addW l b its.toArray its2.toArray n n2 dd dd2 sl sl2 (by simp; omega)) ⟨ho, ho2, ?_⟩
  rw [e]
  exact ⟨.ref _, _, I.lnew (t' := s.toks) (r.append r2) (by rw [List.length_append]; omega), rfl, q _ I.fresh⟩
/-! ### list(range(..)) -/
theorem vals_ints_of {lo c : Int} : ∀ {us : List Value} {k : Nat}, (∀ j v, us[j]? = some v → ∃ t, v = Value.int (lo + (k + j : Nat) * c) t) → Vals ((List.range' k us.length).map fun i : Nat => V.int (lo + (i : Nat) * c)) us
  | [], k, _ => .nil
  | u :: us, k, h => by
    obtain ⟨t, e⟩ := h 0 u rfl
    rw [List.length_cons, List.range'_succ, List.map_cons]
    refine .cons ⟨t, by rw [e]; simp⟩ (vals_ints_of (k := k + 1) fun j v hj => ?_)
    obtain ⟨t, e⟩ := h (j + 1) v (by simpa using hj)
    exact ⟨t, by rw [e, show k + (j + 1) = k + 1 + j by omega]⟩
def rngV (lo c : Int) (n : Nat) : List V := (List.range n).map fun i : Nat => V.int (lo + (i : Nat) * c)
section
variable {X : Cx} {e a b c o tg iter : Expr} {es : List Expr} {st : Stmt} {body rest : List Stmt} {σ : L2.St} {H : Hp} {D : Ends} {Q : VK} {v x y z : V} {pos p p2 q2 pr apos : Pos} {vs xs : List V} {f m : Str} {s t : Sh} {ss ts : List Sh}
/-- from a new range object on -/
theorem list_of_range {pins : List (Addr × Obj)} {s : Shared} {r : Addr} {lo hi cc : Int} {t u v : Tok} {n : Nat} (hc : X.calm = true) (I : Inv X pins σ H s) (hr : IsRange s.heap r lo hi cc t u v) (hs : Builtin.Range.small lo hi cc = true) (hn : Builtin.Range.rangeSize lo hi cc = n) (hl : n ≤ 100000)
    (q : ∀ p H2, H p = none → Ex H H2 → H2 p = some (.lst (rngV lo cc n)) → Q (.ref p) H2) : wpAny (model X.prog X.w) X.A (call (.type "list") [.ref r]) (EP X pins σ Q) X.xe s := by
  refine call_list_range (I.ok.hd hc) hr hs hn (by omega) fun h' tk acc c' kp e hi => ?_
  have hv : Vals (rngV lo cc n) acc.toList := by
    have := vals_ints_of (lo := lo) (c := cc) (us := acc.toList) (k := 0) (fun j v hj => by
      obtain ⟨t, e⟩ := hi.2 j v (by simpa using hj)
      exact ⟨t, by rw [e]; simp⟩)
    unfold rngV
    rw [List.range_eq_range']
    have hsz : acc.toList.length = n := by simpa using hi.1
    rw [hsz] at this
    exact this
  have hz : (rngV lo cc n).length ≤ sizeLine := by
    unfold rngV
    rw [List.length_map, List.length_range]
    exact Nat.le_trans hl (by decide)
  exact ⟨.ref s.heap.objs.size, _, I.laid (t' := tk) kp (Nat.le_refl _) (show ObjOk X.prog X.w _ h' _ (.lst (rngV lo cc n)) from ⟨hz, acc.toList, c', hv, by simpa using e⟩), rfl, q _ _ (I.hok.fresh (Nat.le_refl _)) (Ex.new (I.hok.fresh (Nat.le_refl _))) upd_same⟩
def tLR (tb : TA) : TE := fun σ H Q => tb σ H fun vs H1 => ∃ (lo hi cc : Int) (n : Nat), (vs = [.int hi] ∧ lo = 0 ∧ cc = 1 ∨ vs = [.int lo, .int hi] ∧ cc = 1 ∨ vs = [.int lo, .int hi, .int cc] ∧ cc ≠ 0 ∧ cc.natAbs < 1073741824) ∧
  Builtin.Range.small lo hi cc = true ∧ Builtin.Range.rangeSize lo hi cc = n ∧ n ≤ 100000 ∧ ∀ p H2, H1 p = none → Ex H1 H2 → H2 p = some (.lst (rngV lo cc n)) → Q (.ref p) H2
theorem pe_listRange {ta : TA} (hg : Gl X "list") (hm : X.mg "list" = none) (hg2 : Gl X "range") (hm2 : X.mg "range" = none) (hc : X.calm = true) (ha : PA X (e :: es) ta) (hs : (e :: es).all noStar = true) :
    PE X (.Call (.Name "list" p) [.Call (.Name "range" p2) (e :: es) [] q2] [] pos) (tLR ta) := by
  refine ⟨fun pins s σ H Q I h => ?_⟩
  refine wpAny_Call_Name_kw (ld_blt (u := .type "list") I hg hm (by decide +kernel) ?_ (by decide) (by decide))
  refine PyProof.Rows.callWith_type1 (PyProof.Rows.args_cons ?_ rfl) rfl rfl
  refine wpAny_Call_Name_kw (ld_blt I hg2 hm2 boot_range ?_ (by decide) (by decide))
  refine PyProof.Rows.callWith_type1 (thn (ha.run q2 pins s σ H _ I h) fun us s1 ⟨vs, H1, I1, r1, q1⟩ => ?_) (star_of (List.all_eq_true.mp hs e List.mem_cons_self) es) (back_any es (List.all_eq_true.mpr fun e' he => List.all_eq_true.mp hs e' (List.mem_cons_of_mem _ he)))
  obtain ⟨lo, hi, cc, n, hcase, hsm, hn, hl, q⟩ := q1
  rcases hcase with ⟨rfl, rfl, rfl⟩ | ⟨rfl, rfl⟩ | ⟨rfl, hc0, hcb⟩
  · cases r1 with
    | cons r rr =>
      cases rr
      obtain ⟨t, rfl⟩ := r
      refine call_range_1 (PyProof.Rows.args_nil ?_)
      have I2 : Inv X pins σ H1 { s1 with heap := s1.heap.push { cls := .type "range", data := .fields #[.int 0 s1.toks, .int hi t, .int 1 (s1.toks + 1)] }, toks := s1.toks + 1 + 1 } := I1.kept fun b o e => Heap.get?_push_of_some _ e
      exact list_of_range hc I2 (IsRange.new ..) hsm hn hl q
  · cases r1 with
    | cons r rr =>
      cases rr with
      | cons r' rr =>
        cases rr
        obtain ⟨t, rfl⟩ := r
        obtain ⟨t', rfl⟩ := r'
        refine call_range_2 (PyProof.Rows.args_nil ?_)
        have I2 : Inv X pins σ H1 { s1 with heap := s1.heap.push { cls := .type "range", data := .fields #[.int lo t, .int hi t', .int 1 s1.toks] }, toks := s1.toks + 1 } := I1.kept fun b o e => Heap.get?_push_of_some _ e
        exact list_of_range hc I2 (IsRange.new ..) hsm hn hl q
  · cases r1 with
    | cons r rr =>
      cases rr with
      | cons r' rr =>
        cases rr with
        | cons r'' rr =>
          cases rr
          obtain ⟨t, rfl⟩ := r
          obtain ⟨t', rfl⟩ := r'
          obtain ⟨t'', rfl⟩ := r''
          refine call_range_3 hc0 (PyProof.Rows.args_nil ?_) (Or.inl (PyProof.noPylong_small (by omega)))
          have I2 : Inv X pins σ H1 { s1 with heap := s1.heap.push { cls := .type "range", data := .fields #[.int lo t, .int hi t', .int cc t''] }, toks := s1.toks } := I1.kept fun b o e => Heap.get?_push_of_some _ e
          exact list_of_range hc I2 (IsRange.new ..) hsm hn hl q
theorem small_of {lo hi : Int} (h1 : -100000 ≤ lo) (h2 : lo ≤ 100000) (h3 : -100000 ≤ hi) (h4 : hi ≤ 100000) : Builtin.Range.small lo hi 1 = true := small_one (by omega) (by omega) (by omega) (by omega)
/-- list(range(n)), list(range(a, b)), list(range(a, b, c)) -/
theorem EL.listR1 {n : Int} (mL : X.mg "list" = none) (mR : X.mg "range" = none) (h : EV X a σ H (.int n)) (hn : 0 ≤ n ∧ n ≤ 100000) (hg : Gl X "list" := by rfl) (hg2 : Gl X "range" := by rfl) (hc : X.calm = true := by rfl) (hs : noStar a = true := by rfl) :
    EL X (.Call (.Name "list" p) [.Call (.Name "range" p2) [a] [] q2] [] pos) σ H ((List.range n.toNat).map fun i : Nat => V.int (i : Int)) :=
  EL.of (pe_listRange hg mL hg2 mR hc (pa_all (es := [a]) (by simp [hs])) (by simp [hs])) fun H1 e1 Q k => (AV.one h).ev H1 e1 _ fun H2 e2 => ⟨0, n, 1, n.toNat, .inl ⟨rfl, rfl, rfl⟩, small_of (by omega) (by omega) (by omega) (by omega), by rw [rangeSize_one]; split <;> omega, by omega, fun p H3 np e3 hp => k p H3 (fresh_back e2 np) (e2.trans e3) (by
    rw [hp]
    unfold rngV
    congr 2
    refine List.map_congr_left fun i _ => ?_
    show V.int (0 + (i : Int) * 1) = _
    rw [Int.mul_one, Int.zero_add])⟩
theorem EL.listR2 {lo n : Int} (mL : X.mg "list" = none) (mR : X.mg "range" = none) (h : EV X a σ H (.int lo)) (h' : EV X b σ H (.int n)) (hn : -1000 ≤ lo ∧ lo ≤ n ∧ n ≤ 90000) (hg : Gl X "list" := by rfl) (hg2 : Gl X "range" := by rfl) (hc : X.calm = true := by rfl) (hs : [a, b].all noStar = true := by rfl) :
    EL X (.Call (.Name "list" p) [.Call (.Name "range" p2) [a, b] [] q2] [] pos) σ H ((List.range (n - lo).toNat).map fun i : Nat => V.int (lo + (i : Int))) :=
  EL.of (pe_listRange hg mL hg2 mR hc (pa_all hs) hs) fun H1 e1 Q k => (AV.two h h').ev H1 e1 _ fun H2 e2 => ⟨lo, n, 1, (n - lo).toNat, .inr (.inl ⟨rfl, rfl⟩), small_of (by omega) (by omega) (by omega) (by omega), by rw [rangeSize_one]; split <;> omega, by omega, fun p H3 np e3 hp => k p H3 (fresh_back e2 np) (e2.trans e3) (by
    rw [hp]
    unfold rngV
    congr 2
    refine List.map_congr_left fun i _ => ?_
    rw [Int.mul_one])⟩
theorem EL.listR3 {lo hi cc : Int} (n : Nat) (mL : X.mg "list" = none) (mR : X.mg "range" = none) (h : EV X a σ H (.int lo)) (h' : EV X b σ H (.int hi)) (h'' : EV X c σ H (.int cc)) (hn : RgC lo hi cc n) (hl : n ≤ 100000) (hg : Gl X "list" := by rfl) (hg2 : Gl X "range" := by rfl) (hc : X.calm = true := by rfl) (hs : [a, b, c].all noStar = true := by rfl) :
    EL X (.Call (.Name "list" p) [.Call (.Name "range" p2) [a, b, c] [] q2] [] pos) σ H (rngV lo cc n) :=
  EL.of (pe_listRange hg mL hg2 mR hc (pa_all hs) hs) fun H1 e1 Q k => (AV.three h h' h'').ev H1 e1 _ fun H2 e2 => ⟨lo, hi, cc, n, .inr (.inr ⟨rfl, hn.1, hn.2.1⟩), hn.2.2.1, hn.2.2.2, hl, fun p H3 np e3 hp => k p H3 (fresh_back e2 np) (e2.trans e3) hp⟩
/-! ### xs + ys, list(xs), xs * k, slices -/
theorem EL.cat {ys : List V} (ha : ES X a σ H xs) (hb : ES X b σ H ys) (hz : xs.length + ys.length ≤ 100000) : EL X (.BinOp a .Add b pos) σ H (xs ++ ys) :=
  EL.of (pe_op op_catS pe_self pe_self) fun H1 e1 Q k => ha.ev H1 e1 _ fun p H2 e2 hp => hb.ev H2 (e1.trans e2) _ fun q H3 e3 hq => ⟨p, q, xs, ys, rfl, rfl, ex_l e3 hp, hq, sz_of hz, fun r hr => k r _ (fresh_back (e2.trans e3) hr) ((e2.trans e3).trans (Ex.new hr)) upd_same⟩
theorem EN.cat (ha : EX X a σ H (.lst ss)) (hb : EX X b σ H (.lst ts)) (hz : ss.length + ts.length ≤ 100000 := by exact Nat.le_of_ble_eq_true rfl) : EN X (.BinOp a .Add b pos) σ H (ss ++ ts) :=
  ⟨fun H1 e1 Q k => EW.of (pe_op op_catS pe_self pe_self) (ha.ev H1 e1 _ fun v H2 e2 hv => hb.ev H2 (e1.trans e2) _ fun u H3 e3 hu => by
    obtain ⟨p, vs, rfl, hp, h1⟩ := hv.ofL
    obtain ⟨q, us, rfl, hq, h2⟩ := hu.ofL
    exact ⟨p, q, vs, us, rfl, rfl, ex_l e3 hp, hq, sz_of (by rw [h1.len, h2.len]; exact hz), fun r hr => k r _ _ (fresh_back (e2.trans e3) hr) ((e2.trans e3).trans (Ex.new hr)) upd_same (((h1.ex e3).append h2).ex (Ex.new hr))⟩)⟩
theorem EL.listOf (mL : X.mg "list" = none) (ha : ES X a σ H xs) (hg : Gl X "list" := by rfl) (hs : noStar a = true := by rfl) : EL X (.Call (.Name "list" p) [a] [] pos) σ H xs :=
  EL.of (pe_callTy call_list_of hg mL (by decide +kernel) (pa_all (es := [a]) (by simp [hs])) (by decide) (by decide) (star_of hs []) rfl) fun H1 e1 Q k => ha.ev H1 e1 _ fun p H2 e2 hp => ⟨p, xs, rfl, .inl hp, fun l hl => k l _ (fresh_back e2 hl) (e2.trans (Ex.new hl)) upd_same⟩
theorem EN.listOf (mL : X.mg "list" = none) (ha : EX X a σ H (.lst ss)) (hg : Gl X "list" := by rfl) (hs : noStar a = true := by rfl) : EN X (.Call (.Name "list" p) [a] [] pos) σ H ss :=
  ⟨fun H1 e1 Q k => EW.of (pe_callTy call_list_of hg mL (by decide +kernel) (pa_all (es := [a]) (by simp [hs])) (by decide) (by decide) (star_of hs []) rfl) (ha.ev H1 e1 _ fun v H2 e2 hv => by
    obtain ⟨p, vs, rfl, hp, h1⟩ := hv.ofL
    exact ⟨p, vs, rfl, .inl hp, fun l hl => k l _ _ (fresh_back e2 hl) (e2.trans (Ex.new hl)) upd_same (h1.ex (Ex.new hl))⟩)⟩
theorem EL.rep {k : Int} (ha : EL X a σ H xs) (hb : EV X b σ H (.int k)) (hk : -(2 ^ 63) ≤ k ∧ k < 2 ^ 63) (hz : xs.length * k.toNat ≤ 100000) : EL X (.BinOp a .Mult b pos) σ H (List.replicate k.toNat xs).flatten :=
  EL.of (pe_op op_rep pe_self pe_self) fun H1 e1 Q q => ha.ev H1 e1 _ fun p H2 np e2 hp => hb.ev H2 (e1.trans e2) _ fun H3 e3 => ⟨p, k, xs, rfl, rfl, e3 _ _ hp, hk.1, hk.2, sz_of hz, fun r hr => q r _ (fresh_back (e2.trans e3) hr) ((e2.trans e3).trans (Ex.new hr)) upd_same⟩
theorem EL.rev {k : Nat} {p1 p3 : Pos} (ha : ES X a σ H xs) : EL X (.Subscript a (.Slice none none (some (.UnaryOp .USub (.Constant (.int 1) k p1) p2)) p3) pos) σ H xs.reverse :=
  EL.of (pe_revL pe_self) fun H1 e1 Q q => ha.ev H1 e1 _ fun p H2 e2 hp => ⟨p, xs, rfl, hp, fun r hr => q r _ (fresh_back e2 hr) (e2.trans (Ex.new hr)) upd_same⟩
theorem IsAll.rev {K : PySem.W.Frag} {H : Hp} : ∀ {vs : List V} {ss : List Sh}, IsAll K H vs ss → IsAll K H vs.reverse ss.reverse
  | _, _, .nil => .nil
  | _, _, .cons a b => by
    rw [List.reverse_cons, List.reverse_cons]
    exact (IsAll.rev b).append (.cons a .nil)
theorem IsAll.drop {K : PySem.W.Frag} {H : Hp} : ∀ {vs : List V} {ss : List Sh} (n : Nat), IsAll K H vs ss → IsAll K H (vs.drop n) (ss.drop n)
  | _, _, 0, h => h
  | _, _, n + 1, .nil => .nil
  | _, _, n + 1, .cons a b => IsAll.drop n b
/-- a slice of shapes -/
def cutS' (ss : List Sh) (lo hi : Option Int) : List Sh := (ss.drop (HT.sIx ss.length 0 lo)).take (HT.sIx ss.length ss.length hi - HT.sIx ss.length 0 lo)
theorem EN.slice {lo hi : Option Expr} {l h : Option Int} {tl th : TO} (ha : EX X a σ H (.lst ss)) (pl : PO X lo tl) (ph : PO X hi th) (hl : EvO tl σ H l) (hh : EvO th σ H h) : EN X (.Subscript a (.Slice lo hi none p2) pos) σ H (cutS' ss l h) :=
  ⟨fun H1 e1 Q k => EW.of (pe_slice sl_list pe_self pl ph) (ha.ev H1 e1 _ fun v H2 e2 hv => hl H2 (e1.trans e2) _ fun H3 e3 => hh H3 ((e1.trans e2).trans e3) _ fun H4 e4 => by
    obtain ⟨q, vs, rfl, hq, h1⟩ := hv.ofL
    refine ⟨q, vs, rfl, ex_l (e3.trans e4) hq, fun r hr => k r _ _ (fresh_back ((e2.trans e3).trans e4) hr) (((e2.trans e3).trans e4).trans (Ex.new hr)) upd_same ?_⟩
    unfold cutV cutS'
    rw [h1.len]
    exact (((h1.ex (e3.trans e4)).drop _).take _).ex (Ex.new hr))⟩
/-- xs[:n] -/
theorem cutS_upto (ss : List Sh) (k : Nat) : cutS' ss none (some (k : Int)) = ss.take k := by
  unfold cutS'
  rw [HT.sIx_nat, HT.sIx_none]
  show List.take (min k ss.length - 0) (List.drop 0 ss) = _
  rw [Nat.sub_zero, List.drop_zero]
  rcases Nat.le_total k ss.length with h | h
  · rw [Nat.min_eq_left h]
  · rw [Nat.min_eq_right h, List.take_length, List.take_of_length_le h]
theorem EN.upto {n : Nat} (ha : EX X a σ H (.lst ss)) (hb : EV X b σ H (.int (n : Int))) : EN X (.Subscript a (.Slice none (some b) none p2) pos) σ H (ss.take n) :=
  (EN.slice ha po_none (po_some pe_self) eo_none (eo_some hb.ev)).is (cutS_upto ss n)
/-! ### x -= e, x += e -/
theorem BW.augS {n : Str} (i : Nat) {u w : Int} (hN : X.N.Nodup) (hx : σ[i]? = some (some (.int u))) (h : EV X e σ H (.int w)) (k : ∀ H1, Ex H H1 → BW X rest D (σ.set i (some (.int (u - w)))) H1)
    (hi : X.N[i]? = some n := by rfl) (hl : Loc X.env.scope n := by first | exact Or.inl rfl | exact Or.inr rfl) (hf : X.fn n = true ∨ X.env.scope.names.lookup n = some .local := by first | exact .inl rfl | exact .inr rfl) : BW X (.AugAssign (.Name n p) .Sub e pos :: rest) D σ H :=
  BW.cons (ps_aug (i := i) hN hi hl pe_self ip_sub hf) ⟨.int u, hx, h.ev H (Ex.refl H) _ fun H1 e1 => ⟨u, w, rfl, rfl, k H1 e1⟩⟩
/-! ### a, b = x over a pair; pairs in loops -/
theorem g_pair {K : PySem.W.Frag} {j1 j2 : Nat} {u w : V} {R : L2.St → Hp → Prop} (h : Is K H v (.tup [.v u, .v w])) (k : R ((σ.set j1 (some u)).set j2 (some w)) H) : gTup K 2 (gCons (gName j1) (gCons (gName j2) gNil)) v σ H R := by
  obtain ⟨p, vs, rfl, hp, ha⟩ := h.ofU
  have e : vs = [u, w] := IsAll.valsE (vs := [u, w]) ha
  subst e
  exact ⟨p, [u, w], rfl, hp, rfl, u, [w], rfl, w, [], rfl, rfl, k⟩
/-! ### xs[i] = e; xs.extend(ys); xs.insert(i, v); xs.index(v) -/
theorem BW.setL {l : Addr} {j : Nat} {apos : Pos} (hl : H l = some (.lst xs)) (h : EV X e σ H v) (ho : EV X a σ H (.ref l)) (hi : EV X b σ H (.int (j : Int))) (hj : j < xs.length) (k : ∀ H1, Ex H H1 → BW X rest D σ (upd H1 l (.lst (xs.set j v))))
    (hg : PG X (.Subscript a b apos) (gSub (EW X a) (EW X b) rSetL) := by exact pg_sub pe_self pe_self set_list) (hs : swapsWithSole [.Subscript a b apos] e pos.line X.env = pure false := by rfl) (hw : swappedStores [.Subscript a b apos] e X.env = pure none := by rfl) : BW X (.Assign [.Subscript a b apos] e pos :: rest) D σ H :=
  BW.cons (ps_asg pe_self hg hs hw) (s_setL (D := { D with nx := BW X rest D }) hl h.ev ho.ev hi.ev hj k)
theorem BW.extend {l q : Addr} {ys : List V} (hl : H l = some (.lst xs)) (ha : EV X a σ H (.ref l)) (h : EL X e σ H ys) (hz : xs.length + ys.length ≤ 100000) (k : ∀ H1, Ex H H1 → BW X rest D σ (upd H1 l (.lst (xs ++ ys)))) (hs : noStar e = true := by rfl)
    (he : PE X (.Call (.Attribute a "extend" apos) [e] [] p) (tBM X.K "list" rExtend (EW X a) (tArgs X [e])) := by exact pe_bm PySem.F.plainAttrs_list PySem.F.slot_list_extend PySem.F.type_list_extend mt_extend pe_self (pa_all rfl))
    (hw : swapsWith (.Call (.Attribute a "extend" apos) [e] [] p) none pos.line X.env = pure false := by rfl) : BW X (.Expr (.Call (.Attribute a "extend" apos) [e] [] p) pos :: rest) D σ H :=
  BW.cons (ps_expr he hw) (ha.ev H (Ex.refl H) _ fun H1 e1 => ⟨.inl ⟨rfl, xs, sq_of (e1 l _ hl)⟩, h.ev H1 e1 _ fun q H2 np e2 hq => ⟨l, q, xs, ys, rfl, rfl, e2 l _ (e1 l _ hl), hq, sz_of hz, k H2 (e1.trans e2)⟩⟩)
/-! ### what follows, once -/
theorem BW.mono {D' : Ends} {st : List Stmt} (h : BW X st D σ H) (hn : ∀ σ' H', D.nx σ' H' → D'.nx σ' H') (hr : ∀ v H', D.rt v H' → D'.rt v H') (hb : ∀ σ' H', D.bk σ' H' → D'.bk σ' H') (hc : ∀ σ' H', D.ct σ' H' → D'.ct σ' H') : BW X st D' σ H :=
  ⟨fun pins s I => thn (h.run pins s I) fun f s1 q => by
    cases f with
    | next =>
      obtain ⟨σ', H', I', q⟩ := q
      exact ⟨σ', H', I', hn _ _ q⟩
    | brk =>
      obtain ⟨σ', H', I', q⟩ := q
      exact ⟨σ', H', I', hb _ _ q⟩
    | cont =>
      obtain ⟨σ', H', I', q⟩ := q
      exact ⟨σ', H', I', hc _ _ q⟩
    | ret u =>
      obtain ⟨v, σ', H', I', r, q⟩ := q
      exact ⟨v, σ', H', I', r, hr _ _ q⟩⟩
/-- an if whose ways meet in Mid -/
theorem BW.iteC {s1 s2 : List Stmt} {k : Bool} (Mid : L2.St → Hp → Prop) (h : TV X c σ H k) (h1 : k = true → ∀ H1, Ex H H1 → BW X s1 { D with nx := Mid } σ H1) (h2 : k = false → ∀ H1, Ex H H1 → BW X s2 { D with nx := Mid } σ H1) (k' : ∀ σ' H', Mid σ' H' → BW X rest D σ' H') : BW X (.If c s1 s2 pos :: rest) D σ H :=
  BW.ite h (fun hk H1 e1 => (h1 hk H1 e1).mono k' (fun _ _ z => z) (fun _ _ z => z) (fun _ _ z => z)) (fun hk H1 e1 => (h2 hk H1 e1).mono k' (fun _ _ z => z) (fun _ _ z => z) (fun _ _ z => z))
theorem BW.whenC {s1 : List Stmt} {k : Bool} (Mid : L2.St → Hp → Prop) (h : TV X c σ H k) (h1 : k = true → ∀ H1, Ex H H1 → BW X s1 { D with nx := Mid } σ H1) (h2 : k = false → ∀ H1, Ex H H1 → Mid σ H1) (k' : ∀ σ' H', Mid σ' H' → BW X rest D σ' H') : BW X (.If c s1 [] pos :: rest) D σ H :=
  BW.iteC Mid h h1 (fun hk H1 e1 => BW.nil (h2 hk H1 e1)) k'
end
end QR

namespace QR
open PySem PySem.Spec PyProof.Rows L2 Evl
/-! ### the heap but for one list that grows -/
def hide (H : Hp) (l : Addr) : Hp := fun b => if b = l then none else H b
theorem hide_at {H : Hp} {l b : Addr} (h : b ≠ l) : hide H l b = H b := if_neg h
theorem hide_ex {H : Hp} {l : Addr} : Ex (hide H l) H := fun b o h => by
  unfold hide at h
  split at h
  · cases h
  · exact h
theorem hide_mono {H H1 : Hp} {l : Addr} (e : Ex H H1) : Ex (hide H l) (hide H1 l) := fun b o h => by
  unfold hide at h ⊢
  split at h
  · cases h
  · rename_i hb
    rw [if_neg hb]
    exact e _ _ h
theorem hide_upd {H : Hp} {l : Addr} {o : HO} : hide (upd H l o) l = hide H l := funext fun b => by
  unfold hide
  split
  · rfl
  · rename_i hb
    rw [upd_ne hb]
/-- a heap that does not know l stays, if l changes -/
theorem ex_hide {H0 H : Hp} {l : Addr} (e : Ex H0 H) (n : H0 l = none) : Ex H0 (hide H l) := fun b o h => by
  rw [hide_at (ne_of_none h n)]
  exact e _ _ h
theorem hide_out {H : Hp} {l : Addr} {o : HO} : Ex (hide H l) (upd H l o) := fun b u h => by
  unfold hide at h
  split at h
  · cases h
  · rename_i hb
    rw [upd_ne hb]
    exact h
theorem Is.hideT {K : PySem.W.Frag} {H : Hp} {l : Addr} {v : V} {us xs : List V} (h : Is K H v (.tup (us.map Sh.v))) (hl : H l = some (.lst xs)) : Is K (hide H l) v (.tup (us.map Sh.v)) := by
  obtain ⟨p, vs, rfl, hp, ha⟩ := h.ofU
  have e := ha.valsE
  subst e
  refine .tup ?_ (IsAll.vals _)
  rcases hp with (h | ⟨o, h⟩) | h
  · refine Or.inl (Or.inl ?_)
    rw [hide_at (by rintro rfl; rw [hl] at h; cases h)]
    exact h
  · refine Or.inl (Or.inr ⟨o, ?_⟩)
    rw [hide_at (by rintro rfl; rw [hl] at h; cases h)]
    exact h
  · exact Or.inr h
theorem Is.hideI {K : PySem.W.Frag} {H : Hp} {l : Addr} {v : V} {C : Addr} {fs : List (Str × V)} {xs : List V} (h : Is K H v (.ins C fs)) (hl : H l = some (.lst xs)) : Is K (hide H l) v (.ins C fs) := by
  obtain ⟨p, dx, rfl, hp⟩ := h.ofI
  refine .ins (dx := dx) ?_
  rw [hide_at (by rintro rfl; rw [hl] at hp; cases hp)]
  exact hp
section
variable {X : Cx} {e a b c o tg iter : Expr} {es : List Expr} {st : Stmt} {body rest : List Stmt} {σ : L2.St} {H : Hp} {D : Ends} {Q : VK} {v x y z : V} {pos p p2 q2 pr apos : Pos} {vs xs : List V} {f m : Str} {s t : Sh} {ss ts : List Sh}
theorem BW.appX {l : Addr} (hl : H l = some (.lst xs)) (ha : EV X a σ H (.ref l)) (h : EX X e σ H s) (hz : xs.length < 100000) (k : ∀ v H1, Ex H H1 → Is X.K H1 v s → BW X rest D σ (upd H1 l (.lst (xs ++ [v])))) (hs : noStar e = true := by rfl)
    (he : PE X (.Call (.Attribute a "append" apos) [e] [] p) (tBM X.K "list" rAppend (EW X a) (tArgs X [e])) := by exact pe_bm PySem.F.plainAttrs_list PySem.F.slot_list_append PySem.F.type_list_append mt_append pe_self (pa_all rfl))
    (hw : swapsWith (.Call (.Attribute a "append" apos) [e] [] p) none pos.line X.env = pure false := by rfl) : BW X (.Expr (.Call (.Attribute a "append" apos) [e] [] p) pos :: rest) D σ H :=
  BW.cons (ps_expr he hw) (ha.ev H (Ex.refl H) _ fun H1 e1 => ⟨.inl ⟨rfl, xs, sq_of (e1 l _ hl)⟩, h.ev H1 e1 _ fun v H2 e2 hv => ⟨l, xs, v, rfl, rfl, e2 l _ (e1 l _ hl), sz_lt hz, k v H2 (e1.trans e2) hv⟩⟩)
/-- the list that is appended is new -/
theorem BW.appL {l : Addr} {ys : List V} (hl : H l = some (.lst xs)) (ha : EV X a σ H (.ref l)) (h : EL X e σ H ys) (hz : xs.length < 100000) (k : ∀ q H1, H q = none → Ex H H1 → H1 q = some (.lst ys) → BW X rest D σ (upd H1 l (.lst (xs ++ [.ref q])))) (hs : noStar e = true := by rfl)
    (he : PE X (.Call (.Attribute a "append" apos) [e] [] p) (tBM X.K "list" rAppend (EW X a) (tArgs X [e])) := by exact pe_bm PySem.F.plainAttrs_list PySem.F.slot_list_append PySem.F.type_list_append mt_append pe_self (pa_all rfl))
    (hw : swapsWith (.Call (.Attribute a "append" apos) [e] [] p) none pos.line X.env = pure false := by rfl) : BW X (.Expr (.Call (.Attribute a "append" apos) [e] [] p) pos :: rest) D σ H :=
  BW.cons (ps_expr he hw) (ha.ev H (Ex.refl H) _ fun H1 e1 => ⟨.inl ⟨rfl, xs, sq_of (e1 l _ hl)⟩, h.ev H1 e1 _ fun q H2 np e2 hq => ⟨l, xs, .ref q, rfl, rfl, e2 l _ (e1 l _ hl), sz_lt hz, k q H2 (fresh_back e1 np) (e1.trans e2) hq⟩⟩)
end
section
variable {X : Cx} {e a b c d o : Expr} {es : List Expr} {σ : L2.St} {H : Hp} {z : V} {pos p : Pos} {xs : List V} {w : Str} {sp : Sp} {k j : Nat} {ss : List Sh}
/-- a call whose arguments are told by their shapes -/
theorem EV.callA (C : Fc X.prog X.w X.K X.mg X.base k w sp) (hr : Room j X.A) (ha : AX X (e :: es) σ H ss) (hv : ∀ vs H1, Ex H H1 → IsAll X.K H1 vs ss → SpV sp vs H1 z) (hk : k ≤ j := by decide) (hg : Gl X w := by rfl) (hs : (e :: es).all noStar = true := by rfl) (hdb : (w == ("__debug__" : Str)) = false := by decide) :
    EV X (.Call (.Name w p) (e :: es) [] pos) σ H z := EV.of (pe_fc C hr hk passL hg hs hdb) fun H1 e1 Q q => ha.ev H1 e1 _ fun vs H2 e2 hvs => by
      show sp (vs ++ []) H2 Q E0
      rw [List.append_nil]
      exact hv vs H2 (e1.trans e2) hvs H2 (Ex.refl H2) Q (fun H3 e3 => q H3 (e2.trans e3)) _
theorem EL.callA (C : Fc X.prog X.w X.K X.mg X.base k w sp) (hr : Room j X.A) (ha : AX X (e :: es) σ H ss) (hv : ∀ vs H1, Ex H H1 → IsAll X.K H1 vs ss → SpL sp vs H1 xs) (hk : k ≤ j := by decide) (hg : Gl X w := by rfl) (hs : (e :: es).all noStar = true := by rfl) (hdb : (w == ("__debug__" : Str)) = false := by decide) :
    EL X (.Call (.Name w p) (e :: es) [] pos) σ H xs := EL.of (pe_fc C hr hk passL hg hs hdb) fun H1 e1 Q q => ha.ev H1 e1 _ fun vs H2 e2 hvs => by
      show sp (vs ++ []) H2 Q E0
      rw [List.append_nil]
      exact hv vs H2 (e1.trans e2) hvs H2 (Ex.refl H2) Q (fun r H3 nr e3 h3 => q r H3 (fresh_back e2 nr) (e2.trans e3) h3) _
theorem EI.callA {C : Addr} {fs : List (Str × V)} (Cc : Fc X.prog X.w X.K X.mg X.base k w sp) (hr : Room j X.A) (ha : AX X (e :: es) σ H ss) (hv : ∀ vs H1, Ex H H1 → IsAll X.K H1 vs ss → SpI sp vs H1 C fs) (hk : k ≤ j := by decide) (hg : Gl X w := by rfl) (hs : (e :: es).all noStar = true := by rfl) (hdb : (w == ("__debug__" : Str)) = false := by decide) :
    EI X (.Call (.Name w p) (e :: es) [] pos) σ H C fs := ⟨fun H1 e1 Q q => EW.of (pe_fc Cc hr hk passL hg hs hdb) (ha.ev H1 e1 _ fun vs H2 e2 hvs => by
      show sp (vs ++ []) H2 Q E0
      rw [List.append_nil]
      exact hv vs H2 (e1.trans e2) hvs H2 (Ex.refl H2) Q (fun r dx H3 nr e3 h3 => q r dx H3 (fresh_back e2 nr) (e2.trans e3) h3) _)⟩
theorem IsAll.two {K : PySem.W.Frag} {H : Hp} {vs : List V} {s t : Sh} (h : IsAll K H vs [s, t]) : ∃ u v, vs = [u, v] ∧ Is K H u s ∧ Is K H v t := by
  cases h with
  | cons a b => cases b with
    | cons b c => cases c with
      | nil => exact ⟨_, _, rfl, a, b⟩
theorem IsAll.one {K : PySem.W.Frag} {H : Hp} {vs : List V} {s : Sh} (h : IsAll K H vs [s]) : ∃ u, vs = [u] ∧ Is K H u s := by
  cases h with
  | cons a b => cases b with
    | nil => exact ⟨_, rfl, a⟩
theorem IsAll.three {K : PySem.W.Frag} {H : Hp} {vs : List V} {s t r : Sh} (h : IsAll K H vs [s, t, r]) : ∃ u v x, vs = [u, v, x] ∧ Is K H u s ∧ Is K H v t ∧ Is K H x r := by
  cases h with
  | cons a b =>
    obtain ⟨u, v, rfl, h1, h2⟩ := IsAll.two b
    exact ⟨_, _, _, rfl, a, h1, h2⟩
theorem AX.two {s t : Sh} (h : EX X a σ H s) (h2 : EX X b σ H t) : AX X [a, b] σ H [s, t] := AX.cons h (AX.one h2)
theorem AX.three {s t r : Sh} (h : EX X a σ H s) (h2 : EX X b σ H t) (h3 : EX X c σ H r) : AX X [a, b, c] σ H [s, t, r] := AX.cons h (AX.two h2 h3)
theorem TV.or4 {k1 k2 k3 k4 : Bool} (h : TV X a σ H k1) (h2 : k1 = false → TV X b σ H k2) (h3 : k1 = false → k2 = false → TV X c σ H k3) (h4 : k1 = false → k2 = false → k3 = false → TV X d σ H k4) : TV X (.BoolOp .Or [a, b, c, d] pos) σ H (k1 || (k2 || (k3 || k4))) := TV.bool (LV.or h fun q => LV.or (h2 q) fun r => LV.or (h3 q r) fun t => LV.or1 (h4 q r t))
end
theorem in0 (a b : Int) : inV (.int a) [.int 0, .int b] = decide (a = 0 ∨ a = b) := by
  have : (∀ x : Int, eqV (.int x) (.int a) = decide (a = x)) := fun x => by simp [eqV, Bool.beq_eq_decide_eq, eq_comm]
  simp only [inV, List.any_cons, List.any_nil, Bool.or_false, this, Bool.decide_or]
end QR

namespace QR
open PySem PySem.Spec PyProof.Rows L2 Evl
/-! ### the end: what the head tells -/
theorem fun_ofD {K : PySem.W.Frag} {x qual : Str} {st : Stmt} {f : Addr} {fd : FuncData} (F : FunD K x qual (defArgs st) (defBody st) (defScope st) [] [] f fd) : Fun K x qual st f fd := by
  obtain ⟨⟨oc, od, dV, kV, doc, pm, an, cdv, ct, osl, e, lk, hcd, hd, _⟩, kp⟩ := F
  rcases hd with ⟨_, rfl⟩ | ⟨hn, _⟩
  · exact ⟨⟨oc, od, kV, doc, pm, an, cdv, ct, osl, e, lk, hcd⟩, kp⟩
  · exact absurd rfl hn
/-- a def of the top, a method of a class -/
def dG (x : Str) (st : Stmt) : He.DefD := ⟨(x, none), x, x, defArgs st, defBody st, defScope st, [], []⟩
def dM (C m q : Str) (st : Stmt) : He.DefD := ⟨(C, some m), m, q, defArgs st, defBody st, defScope st, [], []⟩
abbrev ga (K : PySem.W.Frag) (x : Str) : Addr := He.ga K x
/-- what the kit of classes must say -/
def ciB (K : PySem.W.Frag) (x : Str) : Bool :=
  He.eqO (PySem.W.findIn K (.ref (ga K x)) "__class__") (some (some (.builtin "object.__class__"))) &&
  (He.eqO (PySem.W.specialIn K (.builtin "object.__class__") "__get__") (some (some (.builtin "getset_descriptor.__get__"))) &&
  (decide (PySem.W.takesIn K (.builtin "object.__class__") = some true) && decide (PySem.W.mroIn K (ga K x) (.type "object") = some true)))
def kitBB (K : PySem.W.Frag) (x y : Str) (b : Bool) : Bool := decide (PySem.W.kitOne K (.ref (ga K x)) (.ref (ga K y)) = some b)
theorem ci_ok {K : PySem.W.Frag} {mg : Str → Option Value} {x : Str} (hm : mg x = some (.ref (ga K x))) (hc : (He.Fa.cls x).ok K = true) (h : ciB K x = true) : Ci K mg x (ga K x) := by
  obtain ⟨h1, h⟩ := He.ba h
  obtain ⟨h2, h⟩ := He.ba h
  obtain ⟨h3, h4⟩ := He.ba h
  exact ⟨He.cls_ok hc, hm, He.eqO_ok h1, He.eqO_ok h2, of_decide_eq_true h3, of_decide_eq_true h4⟩
theorem kit_ok {K : PySem.W.Frag} {x y : Str} {b : Bool} (h : kitBB K x y b = true) : PySem.W.kitOne K (.ref (ga K x)) (.ref (ga K y)) = some b := of_decide_eq_true h
/-- the free names -/
def freeL : List Str := ["isinstance", "int", "bool", "list", "len", "all", "any", "abs", "range", "sum", "min", "max", "set", "enumerate", "sorted", "tuple", "str", "ValueError"]
section
variable {K : PySem.W.Frag} {h : Heap} {mg : Str → Option Value} {fa : List He.Fa} {fn : List He.DefD}
theorem fact_of (c : He.SaysD fa fn K) {f : He.Fa} (hf : f ∈ fa) : f.ok K = true := c.facts hf
theorem glo_of (X : K.In h) (G : h.Ns mainGlobals mg) (c : He.SaysD fa fn K) {x : Str} (hf : He.Fa.glo x ∈ fa) : mg x = some (.ref (ga K x)) := He.glo_ok X G (c.facts hf)
theorem free_of (X : K.In h) (G : h.Ns mainGlobals mg) (c : He.SaysD fa fn K) {x : Str} (hf : He.Fa.free x ∈ fa) : mg x = none := He.free_ok X G (c.facts hf)
end
end QR

namespace QR
open PySem PySem.Spec PyProof.Rows L2 Evl
/-! ### C() of a class without an __init__ of its own -/
structure MkN (K : PySem.W.Frag) (C : Addr) : Prop where
  makes : PySem.W.makesIn K C = true
  init : PySem.W.findIn K (.ref C) "__init__" = some (some (.builtin "object.__init__"))
  kp : PySem.W.keepIn K (.ref C) = true
def mkNB (K : PySem.W.Frag) (x : Str) : Bool := PySem.W.makesIn K (ga K x) && (He.eqO (PySem.W.findIn K (.ref (ga K x)) "__init__") (some (some (.builtin "object.__init__"))) && PySem.W.keepIn K (.ref (ga K x)))
theorem mkN_of {K : PySem.W.Frag} {x : Str} (h : mkNB K x = true) : MkN K (ga K x) := by
  obtain ⟨h1, h⟩ := He.ba h
  obtain ⟨h2, h3⟩ := He.ba h
  exact ⟨h1, He.eqO_ok h2, h3⟩
section
variable {X : Cx} {e a b c o : Expr} {es : List Expr} {rest : List Stmt} {D : Ends} {σ : L2.St} {H : Hp} {Q : VK} {v z : V} {pos p : Pos} {vs xs : List V} {x : Str} {C : Addr}
theorem run_makeN {pins : List (Addr × Obj)} {s : Shared} (M : MkN X.K C) (I : Inv X pins σ H s) (h : ∀ x dx, H x = none → H dx = none → dx ≠ x → Q (.ref x) (upd (upd H dx (.own x)) x (.ins C dx []))) :
    wpAny (model X.prog X.w) X.A (call (.ref C) []) (EP X pins σ Q) X.xe s := by
  have hq := h (s.heap.objs.size + 1) s.heap.objs.size (I.hok.fresh (Nat.le_succ _)) (I.hok.fresh (Nat.le_refl _)) (Nat.ne_of_lt (Nat.lt_succ_self _))
  have I2 := Inv.made (C := C) I
  refine wpAny_call (make_map0 I.kIn M.makes M.init (fun self => PySem.W.Looks.of_pure (PySem.W.oi_bind self)) ?_)
  have e2 : ((s.heap.push PySem.W.emptyDict).push (PySem.W.instObj C s.heap.objs.size)).get? (s.heap.objs.size + 1) = some (PySem.W.instObj C s.heap.objs.size) := by
    have := Heap.get?_push_size (s.heap.push PySem.W.emptyDict) (o := PySem.W.instObj C s.heap.objs.size) rfl
    rwa [Heap.size_push] at this
  have Y := PySem.W.makes_of (M := model X.prog X.w) I.kIn M.makes
  have t1 : PySem.W.Looks (model X.prog X.w) ((s.heap.push PySem.W.emptyDict).push (PySem.W.instObj C s.heap.objs.size)) (typeOf (.ref (s.heap.objs.size + 1))) (.ref C) := (PySem.W.Looks.ld e2).andThen .now
  have t2 : PySem.W.Looks (model X.prog X.w) ((s.heap.push PySem.W.emptyDict).push (PySem.W.instObj C s.heap.objs.size)) (isInstance (.ref (s.heap.objs.size + 1)) (.type "object")) true := t1.andThen (Y.top.keeps fun b o e => Heap.get?_push_of_some _ (Heap.get?_push_of_some _ e))
  refine codeAny_call_builtin PySem.W.oi_plain PySem.W.entry_oi (@PySem.W.check_slot (model X.prog X.w) _ _ _ "object.__init__" "object" "__init__" (.ref (s.heap.objs.size + 1)) [] [] _ PySem.W.oi_kind PySem.W.oi_split t2 (PySem.W.oi_args (.ref (s.heap.objs.size + 1))) ?_)
  rw [PySem.W.oi_run]
  exact wpAny_pure (And.intro rfl ⟨V.ref (s.heap.objs.size + 1), _, I2, rfl, hq⟩)
theorem EI.make0 (M : MkN X.K C) (hm : X.mg x = some (.ref C)) (hg : Gl X x := by rfl) (hdb : (x == ("__debug__" : Str)) = false := by decide) : EI X (.Call (.Name x p) [] [] pos) σ H C [] :=
  ⟨fun H1 e1 Q q => ⟨fun pins s I => by
    refine wpAny_Call_Name_kw (ld_glob I hg hm ?_ hdb)
    refine PySem.W.callWith_K0 I.kIn M.kp (run_makeN M I fun x dx nx ndx ne => ?_)
    refine q x dx _ nx (fun b u hb => ?_) upd_same
    rw [upd_ne (ne_of_none hb nx), upd_ne (ne_of_none hb ndx)]
    exact hb⟩⟩
theorem pt_chain3 {d : Expr} {ta tb tc td : TE} {op op' op'' : CmpOp} {r r' r'' : R2} (ho : OpR X (compareOp op) r) (ho' : OpR X (compareOp op') r') (ho'' : OpR X (compareOp op'') r'') (ha : PE X a ta) (hb : PE X b tb) (hc : PE X c tc) (hd : PE X d td)
    (hm : lastMarks [op, op', op''] [b, c, d] = false) : PT X (.Compare a [op, op', op''] [b, c, d] pos) (tTest (tChain3 r r' r'' ta tb tc td)) := by
  refine ⟨fun pins s σ H Q I h => ?_⟩
  refine isTrue_chain (thn (ha.run pins s σ H _ I h) fun v s1 ⟨x, H1, I1, r1, q1⟩ => test_link (thn (hb.run pins s1 σ H1 _ I1 q1) fun u s2 ⟨y, H2, I2, r2, q2⟩ =>
    thn (ho pins s2 σ H2 x y v u _ I2 r1 r2 q2) fun d s3 ⟨z, H3, I3, r3, k, e, q3⟩ => ?_)) hm
  subst e
  cases r3
  refine wpAny_truthy_bool ?_
  cases k with
  | false =>
    obtain ⟨k', e', q'⟩ := q3
    cases e'
    exact ite_ff ⟨H3, I3, q'⟩
  | true =>
    refine ite_tt (test_link (thn (hc.run pins s3 σ H3 _ I3 q3) fun w' s4 ⟨z', H4, I4, r4, q4⟩ => thn (ho' pins s4 σ H4 y z' u w' _ I4 r2 r4 q4) fun d' s5 ⟨z2, H5, I5, r5, k2, e2, q5⟩ => ?_))
    subst e2
    cases r5
    refine wpAny_truthy_bool ?_
    cases k2 with
    | false =>
      obtain ⟨k', e', q'⟩ := q5
      cases e'
      exact ite_ff ⟨H5, I5, q'⟩
    | true =>
      refine ite_tt (test_last (thn (hd.run pins s5 σ H5 _ I5 q5) fun w2 s6 ⟨z3, H6, I6, r6, q6⟩ => thn (ho'' pins s6 σ H6 z' z3 w' w2 _ I6 r4 r6 q6) fun d3 s7 ⟨z4, H7, I7, r7, k3, e3, q7⟩ => ?_))
      subst e3
      cases r7
      exact wpAny_truthy_bool ⟨H7, I7, q7⟩
theorem TV.leLtLt {d : Expr} {i j k l : Int} (ha : EV X a σ H (.int i)) (hb : EV X b σ H (.int j)) (hc : EV X c σ H (.int k)) (hd : EV X d σ H (.int l)) : TV X (.Compare a [.LtE, .Lt, .Lt] [b, c, d] pos) σ H (decide (i ≤ j) && (decide (j < k) && decide (k < l))) := by
  refine TV.of (pt_chain3 op_le op_lt op_lt pe_self pe_self pe_self pe_self (nomark d)) fun H1 e Q q => ?_
  refine ha.ev H1 e _ fun H2 e2 => hb.ev H2 (e.trans e2) _ fun H3 e3 => ⟨i, j, rfl, rfl, decide (i ≤ j), rfl, ?_⟩
  have g4 := e2.trans e3
  cases hk1 : decide (i ≤ j) with
  | false => exact ⟨_, rfl, by rw [hk1] at q; exact q H3 g4⟩
  | true =>
    refine hc.ev H3 (e.trans g4) _ fun H5 e5 => ⟨j, k, rfl, rfl, decide (j < k), rfl, ?_⟩
    have g6 := g4.trans e5
    cases hk2 : decide (j < k) with
    | false => exact ⟨_, rfl, by rw [hk1, hk2] at q; exact q H5 g6⟩
    | true => exact hd.ev H5 (e.trans g6) _ fun H7 e7 => ⟨k, l, rfl, rfl, _, rfl, by rw [hk1, hk2] at q; exact q H7 (g6.trans e7)⟩
/-! ### a call of a def that a slot holds -/
structure Hc (P : Program) (w : World) (K : PySem.W.Frag) (mg : Str → Option Value) (base : Heap) (k : Nat) (f : Addr) (sp : Sp) : Prop where
  ex : ∃ (fd : FuncData) (ps : List Str), FnOk P w K mg base (L2.CX P w) k f fd ps sp ∧ PySem.W.keepIn K (.ref f) = true ∧ Binds K fd ps []
theorem Hc.of {P : Program} {w : World} {K : PySem.W.Frag} {mg : Str → Option Value} {base : Heap} {k : Nat} {x : Str} {sp : Sp} (C : Fc P w K mg base k x sp) : ∃ f, mg x = some (.ref f) ∧ Hc P w K mg base k f sp := by
  obtain ⟨f, fd, ps, F, hm, kp, bn⟩ := C.ex
  exact ⟨f, hm, ⟨fd, ps, F, kp, bn⟩⟩
theorem EV.callL {f : Addr} {sp : Sp} {k j : Nat} (i : Nat) (F : Hc X.prog X.w X.K X.mg X.base k f sp) (hr : Room j X.A) (hi : σ[i]? = some (some (.ref f))) (ha : AV X (e :: es) σ H vs) (hv : SpV sp vs H z) (hk : k ≤ j := by decide)
    (hN : X.N[i]? = some x := by rfl) (hvs : Vis X.env.scope x := by first | exact Or.inl rfl | exact Or.inr (Or.inl rfl) | exact Or.inr (Or.inr rfl)) (hs : (e :: es).all noStar = true := by rfl) (hdb : (x == ("__debug__" : Str)) = false := by decide) (hcd : (x == ("__classdict__" : Str)) = false := by decide) :
    EV X (.Call (.Name x p) (e :: es) [] pos) σ H z := by
  obtain ⟨fd, ps, F, kp, bn⟩ := F.ex
  refine EV.of (pe_callL (i := i) (f := f) (dvs := []) F (hr.mono hk) hN hvs kp bn .nil passL (pa_all hs) hdb hcd (star_of (List.all_eq_true.mp hs e List.mem_cons_self) es) (back_any es (List.all_eq_true.mpr fun e' he => List.all_eq_true.mp hs e' (List.mem_cons_of_mem _ he)))) fun H1 e1 Q q => ⟨hi, ha.ev H1 e1 _ fun H2 e2 => ?_⟩
  rw [List.append_nil]
  exact hv H2 (e1.trans e2) Q (fun H3 e3 => q H3 (e2.trans e3)) _
/-- x = [e, ..], told so that the list may grow -/
theorem BW.asgD {n : Str} {ss : List Sh} (i : Nat) {lp : Pos} (hN : X.N.Nodup) (h : AX X es σ H ss) (k : ∀ q vs H1, H q = none → Ex H (hide H1 q) → H1 q = some (.lst vs) → IsAll X.K (hide H1 q) vs ss → BW X rest D (σ.set i (some (.ref q))) H1) (hl : ss.length ≤ 100000 := by exact Nat.le_of_ble_eq_true rfl) (hs : es.all noStar = true := by rfl)
    (hi : X.N[i]? = some n := by rfl) (hx : Loc X.env.scope n := by first | exact Or.inl rfl | exact Or.inr rfl) (hw : swapsWith (.List es lp) (some (.Name n p)) pos.line X.env = pure false := by rfl) (hf : X.fn n = true ∨ X.env.scope.names.lookup n = some .local := by first | exact .inl rfl | exact .inr rfl) : BW X (.Assign [.Name n p] (.List es lp) pos :: rest) D σ H :=
  BW.asgW hN hi hx (EW.of (pe_lst (pa_all hs)) (h.ev H (Ex.refl H) _ fun vs H2 e2 ha => ⟨sz_of (by rw [ha.len]; exact hl), fun q hq => k q vs _ (fresh_back e2 hq) (ex_hide (e2.trans (Ex.new hq)) (fresh_back e2 hq)) upd_same (ha.ex (ex_hide (Ex.new hq) hq))⟩)) hw hf
/-- xs.insert(i, v) -/
theorem BW.insert {l : Addr} {n : Nat} {apos : Pos} (hl : H l = some (.lst xs)) (ha : EV X a σ H (.ref l)) (h1 : EV X b σ H (.int (n : Int))) (h2 : EV X c σ H v) (hn : n < 2 ^ 62) (hz : xs.length < 100000) (k : ∀ H1, Ex H H1 → BW X rest D σ (upd H1 l (.lst (xs.take n ++ [v] ++ xs.drop n)))) (hs : [b, c].all noStar = true := by rfl)
    (he : PE X (.Call (.Attribute a "insert" apos) [b, c] [] p) (tBM X.K "list" (fun x vs H Q => ∃ (l : Addr) (xs : List V) (i : Int) (y : V), x = .ref l ∧ vs = [.int i, y] ∧ H l = some (.lst xs) ∧ xs.length < sizeLine ∧ 0 ≤ i ∧ i < 2 ^ 63 ∧ Q .non (upd H l (.lst (xs.take i.toNat ++ [y] ++ xs.drop i.toNat)))) (EW X a) (tArgs X [b, c])) := by exact pe_bm PySem.F.plainAttrs_list PySem.F.slot_list_insert PySem.F.type_list_insert mt_insert pe_self (pa_all rfl))
    (hw : swapsWith (.Call (.Attribute a "insert" apos) [b, c] [] p) none pos.line X.env = pure false := by rfl) : BW X (.Expr (.Call (.Attribute a "insert" apos) [b, c] [] p) pos :: rest) D σ H :=
  BW.cons (ps_expr he hw) (ha.ev H (Ex.refl H) _ fun H1 e1 => ⟨.inl ⟨rfl, xs, sq_of (e1 l _ hl)⟩, (AV.two h1 h2).ev H1 e1 _ fun H2 e2 => ⟨l, xs, (n : Int), v, rfl, rfl, e2 l _ (e1 l _ hl), sz_lt hz, by omega, by omega, k H2 (e1.trans e2)⟩⟩)
theorem EL.ite {k : Bool} (ht : TV X c σ H k) (h1 : k = true → EL X a σ H xs) (h2 : k = false → EL X b σ H xs) : EL X (.IfExp c a b pos) σ H xs :=
  ⟨fun H1 e1 Q q => EW.of (pe_ifExp pt_self pe_self pe_self) (ht.ev H1 e1 _ fun H2 e2 => by
    cases k with
    | true => exact (h1 rfl).ev H2 (e1.trans e2) Q fun p H3 np e3 hp => q p H3 (fresh_back e2 np) (e2.trans e3) hp
    | false => exact (h2 rfl).ev H2 (e1.trans e2) Q fun p H3 np e3 hp => q p H3 (fresh_back e2 np) (e2.trans e3) hp)⟩
theorem EI.ite {k : Bool} {fs : List (Str × V)} (ht : TV X c σ H k) (h1 : k = true → EI X a σ H C fs) (h2 : k = false → EI X b σ H C fs) : EI X (.IfExp c a b pos) σ H C fs :=
  ⟨fun H1 e1 Q q => EW.of (pe_ifExp pt_self pe_self pe_self) (ht.ev H1 e1 _ fun H2 e2 => by
    cases k with
    | true => exact (h1 rfl).ev H2 (e1.trans e2) Q fun p dx H3 np e3 hp => q p dx H3 (fresh_back e2 np) (e2.trans e3) hp
    | false => exact (h2 rfl).ev H2 (e1.trans e2) Q fun p dx H3 np e3 hp => q p dx H3 (fresh_back e2 np) (e2.trans e3) hp)⟩
/-- o.m(e, ..), all told by shapes -/
theorem EV.methX {m : Str} {apos : Pos} {fs : List (Str × V)} {ss : List Sh} {sp : Sp} {k j : Nat} {pl : Sem Bool} (M : Mc X.prog X.w X.K X.mg X.base k C m sp) (hr : Room j X.A) (h : EX X o σ H (.ins C fs)) (hl : fs.lookup m = none) (ha : AX X (e :: es) σ H ss)
    (hv : ∀ q dx vs H1, Ex H H1 → H1 q = some (.ins C dx fs) → IsAll X.K H1 vs ss → SpV sp (.ref q :: vs) H1 z) (hk : k ≤ j := by decide) (hs : (e :: es).all noStar = true := by rfl)
    (ht : eval (.Call (.Attribute o m apos) (e :: es) [] pos) X.env = (do
      let ov ← eval o X.env
      standAt apos.atName
      let (f, first) ← holding [ov] (getMethod ov m pl)
      callWith pos f first (backTo pos (starEach (e :: es) X.env)) (backToKw pos (keywordEach [] X.env))) := by rfl) : EV X (.Call (.Attribute o m apos) (e :: es) [] pos) σ H z := by
  obtain ⟨f, fd, ps, cl, me, F, bn⟩ := M.ex
  refine EV.of (pe_meth (pl := pl) pe_self cl me F (hr.mono hk) bn .nil passL (pa_all hs) (star_of (List.all_eq_true.mp hs e List.mem_cons_self) es) (back_any es (List.all_eq_true.mpr fun e' he => List.all_eq_true.mp hs e' (List.mem_cons_of_mem _ he))) ht) fun H1 e1 Q kq => ?_
  refine h.ev H1 e1 _ fun v H2 e2 hi => ?_
  obtain ⟨ob, dx, rfl, ho⟩ := hi.ofI
  refine ⟨ob, dx, fs, rfl, ho, hl, ?_⟩
  refine ha.ev H2 (e1.trans e2) _ fun vs H3 e3 hvs => ?_
  rw [List.append_nil]
  exact hv ob dx vs H3 ((e1.trans e2).trans e3) (e3 _ _ ho) hvs H3 (Ex.refl H3) Q (fun H4 e4 => kq H4 ((e2.trans e3).trans e4)) _
/-! ### a new list of shapes of which only R is known -/
structure EQ (X : Cx) (e : Expr) (σ : L2.St) (H : Hp) (R : List Sh → Prop) : Prop where
  ev : ∀ H1, Ex H H1 → ∀ Q : VK, (∀ ss p vs H2, R ss → H1 p = none → Ex H1 H2 → H2 p = some (.lst vs) → IsAll X.K H2 vs ss → Q (.ref p) H2) → EW X e σ H1 Q
theorem EQ.ofN {ss : List Sh} (h : EN X e σ H ss) : EQ X e σ H (· = ss) := ⟨fun H1 e1 Q q => h.ev H1 e1 Q fun p vs H2 np e2 hp ha => q ss p vs H2 rfl np e2 hp ha⟩
theorem BW.asgQ {n : Str} {R : List Sh → Prop} (i : Nat) (hN : X.N.Nodup) (h : EQ X e σ H R) (k : ∀ ss q vs H1, R ss → H q = none → Ex H H1 → H1 q = some (.lst vs) → IsAll X.K H1 vs ss → BW X rest D (σ.set i (some (.ref q))) H1) (hi : X.N[i]? = some n := by rfl) (hx : Loc X.env.scope n := by first | exact Or.inl rfl | exact Or.inr rfl) (hs : swapsWith e (some (.Name n p)) pos.line X.env = pure false := by rfl) (hf : X.fn n = true ∨ X.env.scope.names.lookup n = some .local := by first | exact .inl rfl | exact .inr rfl) : BW X (.Assign [.Name n p] e pos :: rest) D σ H :=
  BW.asgW hN hi hx (h.ev H (Ex.refl H) _ k) hs hf
theorem EQ.cat {R S : List Sh → Prop} (ha : EQ X a σ H R) (hb : EQ X b σ H S) (hz : ∀ ss ts, R ss → S ts → ss.length + ts.length ≤ 100000) : EQ X (.BinOp a .Add b pos) σ H (fun us => ∃ ss ts, us = ss ++ ts ∧ R ss ∧ S ts) :=
  ⟨fun H1 e1 Q k => EW.of (pe_op op_catS pe_self pe_self) (ha.ev H1 e1 _ fun ss p vs H2 hR np e2 hp h1 => hb.ev H2 (e1.trans e2) _ fun ts q us H3 hS nq e3 hq h2 =>
    ⟨p, q, vs, us, rfl, rfl, sq_of (e3 _ _ hp), sq_of hq, sz_of (by rw [h1.len, h2.len]; exact hz ss ts hR hS), fun r hr => k (ss ++ ts) r _ _ ⟨ss, ts, rfl, hR, hS⟩ (fresh_back (e2.trans e3) hr) ((e2.trans e3).trans (Ex.new hr)) upd_same (((h1.ex e3).append h2).ex (Ex.new hr))⟩)⟩
theorem BW.forQ {tg iter : Expr} {body : List Stmt} {g : TG} {R : List Sh → Prop} (h : EQ X iter σ H R) (hg : PG X tg g) (Pv : List Sh → Hp → Nat → L2.St → Hp → Prop) (h0 : ∀ ss H1, R ss → Ex H H1 → Pv ss H1 0 σ H1) (hl : ∀ ss H1 i σ' H', Pv ss H1 i σ' H' → Ex H1 H')
    (hs : ∀ ss H1 i s v σ' H', R ss → Ex H H1 → ss[i]? = some s → Is X.K H' v s → Pv ss H1 i σ' H' → g v σ' H' fun σ2 H2 => BW X body (Ends.turn X rest D (Pv ss H1 (i + 1))) σ2 H2) (hd : ∀ ss H1 σ' H', R ss → Ex H H1 → Pv ss H1 ss.length σ' H' → BW X rest D σ' H')
    (hc : X.calm = true := by rfl) (hp : PassesOwn (model X.prog X.w) X.A X.env X.xe := by first | exact PassesOwn.never | exact passes_of rfl) (hfs : ∀ x, foldedSetIterable iter X.env x = pure x := by intro _; rfl) : BW X (.For tg iter body [] pos :: rest) D σ H := by
  refine BW.cons (ps_for hp hc (pi_list pe_self) hg pss_self hfs) (h.ev H (Ex.refl H) _ fun ss q vs H1 hR nq e1 hq ha => ?_)
  have hlen := ha.len
  refine ⟨q, rfl, ⟨vs, sq_of hq⟩, for_list (xs := vs) (Pv ss H1) (h0 ss H1 hR e1) (fun i σ' H' _ pv => sq_of (hl ss H1 i σ' H' pv _ _ hq)) (fun i x σ' H' hi pv => ?_) fun σ' H' pv => hd ss H1 σ' H' hR e1 (hlen ▸ pv)⟩
  obtain ⟨t, ht, it⟩ := ha.at' hi
  exact hs ss H1 i t x σ' H' hR e1 ht (it.ex (hl ss H1 i σ' H' pv)) pv
end
end QR

namespace QR
open PySem PySem.Spec PyProof.Rows L2 Evl
def topS (i : Nat) : Stmt := PySem.Challenge.pw_queenrows_k02_whole_told.main.body.getD i (.Pass ⟨0, 0, 0, 0⟩)
/-! is_number : 0:thing 1:least -/
abbrev s_is_number : Stmt := topS 5
abbrev n_is_number : List Str := ["thing", "least"]
theorem sc_is_number : FnScope n_is_number ["thing", "least"] (defScope s_is_number) := ⟨rfl, rfl, rfl, by decide +kernel, rfl, by decide +kernel, by decide +kernel⟩
/-! check_setting : 0:setting 1:column -/
abbrev s_check_setting : Stmt := topS 6
abbrev n_check_setting : List Str := ["setting", "column"]
theorem sc_check_setting : FnScope n_check_setting ["setting"] (defScope s_check_setting) := ⟨rfl, rfl, rfl, by decide +kernel, rfl, by decide +kernel, by decide +kernel⟩
/-! take : 0:setting 1:one 2:other 3:apart -/
abbrev s_take : Stmt := topS 7
abbrev n_take : List Str := ["setting", "one", "other", "apart"]
theorem sc_take : FnScope n_take ["setting", "one", "other"] (defScope s_take) := ⟨rfl, rfl, rfl, by decide +kernel, rfl, by decide +kernel, by decide +kernel⟩
/-! take_joined : 0:setting 1:one 2:other 3:size 4:on -/
abbrev s_take_joined : Stmt := topS 8
abbrev n_take_joined : List Str := ["setting", "one", "other", "size", "on"]
theorem sc_take_joined : FnScope n_take_joined ["setting", "one", "other"] (defScope s_take_joined) := ⟨rfl, rfl, rfl, by decide +kernel, rfl, by decide +kernel, by decide +kernel⟩
/-! first_taking : 0:setting 1:taking 2:other 3:one -/
abbrev s_first_taking : Stmt := topS 9
abbrev n_first_taking : List Str := ["setting", "taking", "other", "one"]
theorem sc_first_taking : FnScope n_first_taking ["setting", "taking"] (defScope s_first_taking) := ⟨rfl, rfl, rfl, by decide +kernel, rfl, by decide +kernel, by decide +kernel⟩
/-! common : 0:one 1:other -/
abbrev s_common : Stmt := topS 10
abbrev n_common : List Str := ["one", "other"]
theorem sc_common : FnScope n_common ["one", "other"] (defScope s_common) := ⟨rfl, rfl, rfl, by decide +kernel, rfl, by decide +kernel, by decide +kernel⟩
/-! Peace.shows : 0:self 1:setting -/
abbrev s_Peace_shows : Stmt := inClass (topS 13) 0
abbrev n_Peace_shows : List Str := ["self", "setting"]
theorem sc_Peace_shows : FnScope n_Peace_shows ["self", "setting"] (defScope s_Peace_shows) := ⟨rfl, rfl, rfl, by decide +kernel, rfl, by decide +kernel, by decide +kernel⟩
/-! JoinedPeace.shows : 0:self 1:setting -/
abbrev s_JoinedPeace_shows : Stmt := inClass (topS 14) 0
abbrev n_JoinedPeace_shows : List Str := ["self", "setting"]
theorem sc_JoinedPeace_shows : FnScope n_JoinedPeace_shows ["self", "setting"] (defScope s_JoinedPeace_shows) := ⟨rfl, rfl, rfl, by decide +kernel, rfl, by decide +kernel, by decide +kernel⟩
/-! Take.__init__ : 0:self 1:one 2:other -/
abbrev s_Take___init__ : Stmt := inClass (topS 15) 0
abbrev n_Take___init__ : List Str := ["self", "one", "other"]
theorem sc_Take___init__ : FnScope n_Take___init__ ["self", "one", "other"] (defScope s_Take___init__) := ⟨rfl, rfl, rfl, by decide +kernel, rfl, by decide +kernel, by decide +kernel⟩
/-! Take.shows : 0:self 1:setting -/
abbrev s_Take_shows : Stmt := inClass (topS 15) 1
abbrev n_Take_shows : List Str := ["self", "setting"]
theorem sc_Take_shows : FnScope n_Take_shows ["self", "setting"] (defScope s_Take_shows) := ⟨rfl, rfl, rfl, by decide +kernel, rfl, by decide +kernel, by decide +kernel⟩
/-! JoinedTake.__init__ : 0:self 1:one 2:other -/
abbrev s_JoinedTake___init__ : Stmt := inClass (topS 16) 0
abbrev n_JoinedTake___init__ : List Str := ["self", "one", "other"]
theorem sc_JoinedTake___init__ : FnScope n_JoinedTake___init__ ["self", "one", "other"] (defScope s_JoinedTake___init__) := ⟨rfl, rfl, rfl, by decide +kernel, rfl, by decide +kernel, by decide +kernel⟩
/-! JoinedTake.shows : 0:self 1:setting -/
abbrev s_JoinedTake_shows : Stmt := inClass (topS 16) 1
abbrev n_JoinedTake_shows : List Str := ["self", "setting"]
theorem sc_JoinedTake_shows : FnScope n_JoinedTake_shows ["self", "setting"] (defScope s_JoinedTake_shows) := ⟨rfl, rfl, rfl, by decide +kernel, rfl, by decide +kernel, by decide +kernel⟩
/-! Step.__init__ : 0:self 1:step -/
abbrev s_Step___init__ : Stmt := inClass (topS 17) 0
abbrev n_Step___init__ : List Str := ["self", "step"]
theorem sc_Step___init__ : FnScope n_Step___init__ ["self", "step"] (defScope s_Step___init__) := ⟨rfl, rfl, rfl, by decide +kernel, rfl, by decide +kernel, by decide +kernel⟩
/-! Step.shows : 0:self 1:size 2:more -/
abbrev s_Step_shows : Stmt := inClass (topS 17) 1
abbrev n_Step_shows : List Str := ["self", "size", "more"]
theorem sc_Step_shows : FnScope n_Step_shows ["self", "size"] (defScope s_Step_shows) := ⟨rfl, rfl, rfl, by decide +kernel, rfl, by decide +kernel, by decide +kernel⟩
/-! Barred.__init__ : 0:self 1:by -/
abbrev s_Barred___init__ : Stmt := inClass (topS 18) 0
abbrev n_Barred___init__ : List Str := ["self", "by"]
theorem sc_Barred___init__ : FnScope n_Barred___init__ ["self", "by"] (defScope s_Barred___init__) := ⟨rfl, rfl, rfl, by decide +kernel, rfl, by decide +kernel, by decide +kernel⟩
/-! Barred.shows : 0:self 1:size -/
abbrev s_Barred_shows : Stmt := inClass (topS 18) 1
abbrev n_Barred_shows : List Str := ["self", "size"]
theorem sc_Barred_shows : FnScope n_Barred_shows ["self", "size"] (defScope s_Barred_shows) := ⟨rfl, rfl, rfl, by decide +kernel, rfl, by decide +kernel, by decide +kernel⟩
/-! told : 0:setting 1:found -/
abbrev s_told : Stmt := topS 20
abbrev n_told : List Str := ["setting", "found"]
theorem sc_told : FnScope n_told ["setting"] (defScope s_told) := ⟨rfl, rfl, rfl, by decide +kernel, rfl, by decide +kernel, by decide +kernel⟩
/-! told_joined : 0:setting 1:found -/
abbrev s_told_joined : Stmt := topS 21
abbrev n_told_joined : List Str := ["setting", "found"]
theorem sc_told_joined : FnScope n_told_joined ["setting"] (defScope s_told_joined) := ⟨rfl, rfl, rfl, by decide +kernel, rfl, by decide +kernel, by decide +kernel⟩
/-! _law_number : 0:_law_cell 1:_law_at 2:_law_whole_here 3:_law_mixed 4:_law_more -/
abbrev s_law_number : Stmt := topS 23
abbrev n_law_number : List Str := ["_law_cell", "_law_at", "_law_whole_here", "_law_mixed", "_law_more"]
theorem sc_law_number : FnScope n_law_number ["_law_cell", "_law_at", "_law_whole_here"] (defScope s_law_number) := ⟨rfl, rfl, rfl, by decide +kernel, rfl, by decide +kernel, by decide +kernel⟩
/-! _law_whole : 0:_law_found -/
abbrev s_law_whole : Stmt := topS 24
abbrev n_law_whole : List Str := ["_law_found"]
theorem sc_law_whole : FnScope n_law_whole ["_law_found"] (defScope s_law_whole) := ⟨rfl, rfl, rfl, by decide +kernel, rfl, by decide +kernel, by decide +kernel⟩
/-! _law_takes : 0:_law_places 1:_law_one 2:_law_other 3:_law_joined 4:_law_size 5:_law_on 6:_law_rows -/
abbrev s_law_takes : Stmt := topS 25
abbrev n_law_takes : List Str := ["_law_places", "_law_one", "_law_other", "_law_joined", "_law_size", "_law_on", "_law_rows"]
theorem sc_law_takes : FnScope n_law_takes ["_law_places", "_law_one", "_law_other", "_law_joined"] (defScope s_law_takes) := ⟨rfl, rfl, rfl, by decide +kernel, rfl, by decide +kernel, by decide +kernel⟩
/-! _law_peace : 0:_law_places 1:_law_joined 2:_law_size 3:_law_by 4:_law_ups 5:_law_row 6:_law_place 7:_law_downs -/
abbrev s_law_peace : Stmt := topS 26
abbrev n_law_peace : List Str := ["_law_places", "_law_joined", "_law_size", "_law_by", "_law_ups", "_law_row", "_law_place", "_law_downs"]
theorem sc_law_peace : FnScope n_law_peace ["_law_places", "_law_joined"] (defScope s_law_peace) := ⟨rfl, rfl, rfl, by decide +kernel, rfl, by decide +kernel, by decide +kernel⟩
/-! _law_settings : 0:_law_script 1:_law_cells 2:_law_whole_here 3:_law_size 4:_law_number_here 5:_law_found 6:_law_row 7:_law_order 8:_law_at 9:_law_part 10:_law_bent 11:_law_high -/
abbrev s_law_settings : Stmt := topS 27
abbrev n_law_settings : List Str := ["_law_script", "_law_cells", "_law_whole_here", "_law_size", "_law_number_here", "_law_found", "_law_row", "_law_order", "_law_at", "_law_part", "_law_bent", "_law_high"]
theorem sc_law_settings : FnScope n_law_settings ["_law_script"] (defScope s_law_settings) := ⟨rfl, rfl, rfl, by decide +kernel, rfl, by decide +kernel, by decide +kernel⟩
/-! _law_due : 0:_law_places 1:_law_found 2:_law_joined -/
abbrev s_law_due : Stmt := topS 28
abbrev n_law_due : List Str := ["_law_places", "_law_found", "_law_joined"]
theorem sc_law_due : FnScope n_law_due ["_law_places", "_law_found", "_law_joined"] (defScope s_law_due) := ⟨rfl, rfl, rfl, by decide +kernel, rfl, by decide +kernel, by decide +kernel⟩
/-! _law_kinds : 0:_law_found 1:_law_joined 2:_law_kinds_here 3:_law_wrong -/
abbrev s_law_kinds : Stmt := topS 29
abbrev n_law_kinds : List Str := ["_law_found", "_law_joined", "_law_kinds_here", "_law_wrong"]
theorem sc_law_kinds : FnScope n_law_kinds ["_law_found", "_law_joined"] (defScope s_law_kinds) := ⟨rfl, rfl, rfl, by decide +kernel, rfl, by decide +kernel, by decide +kernel⟩
/-! _law_right : 0:_law_places 1:_law_others 2:_law_joined 3:_law_handed 4:_law_again 5:_law_found 6:_law_kinds_here 7:_law_other -/
abbrev s_law_right : Stmt := topS 30
abbrev n_law_right : List Str := ["_law_places", "_law_others", "_law_joined", "_law_handed", "_law_again", "_law_found", "_law_kinds_here", "_law_other"]
theorem sc_law_right : FnScope n_law_right ["_law_places", "_law_others", "_law_joined"] (defScope s_law_right) := ⟨rfl, rfl, rfl, by decide +kernel, rfl, by decide +kernel, by decide +kernel⟩
/-! law : 0:_law_script 1:_law_every 2:_law_step_by 3:_law_at 4:_law_joined -/
abbrev s_law : Stmt := topS 31
abbrev n_law : List Str := ["_law_script", "_law_every", "_law_step_by", "_law_at", "_law_joined"]
theorem sc_law : FnScope n_law ["_law_script"] (defScope s_law) := ⟨rfl, rfl, rfl, by decide +kernel, rfl, by decide +kernel, by decide +kernel⟩
end QR

namespace QR
open PySem PySem.Spec PyProof.Rows L2 Evl
/-- the built-ins' names are the built-ins' -/
structure Bl (mg : Str → Option Value) : Prop where
  isinstance : mg "isinstance" = none
  int : mg "int" = none
  bool : mg "bool" = none
  list : mg "list" = none
  len : mg "len" = none
  all : mg "all" = none
  any : mg "any" = none
  abs : mg "abs" = none
  range : mg "range" = none
  sum : mg "sum" = none
  min : mg "min" = none
  max : mg "max" = none
  set : mg "set" = none
  enumerate : mg "enumerate" = none
  sorted : mg "sorted" = none
  tuple : mg "tuple" = none
  str : mg "str" = none
  valueError : mg "ValueError" = none
def numB : V → Int → Bool
  | .int i, l => decide (l ≤ i)
  | _, _ => false
def kinds : List String := ["NoneType", "bool", "int", "str", "list", "tuple", "dict"]
theorem num_kit {K : PySem.W.Frag} {H : Hp} {x : V} {n : String} (ty : TyX K H x (.type n)) (hn : n ∈ kinds) :
    (∃ i, x = .int i ∧ n = "int") ∨ (∃ b, x = .bl b ∧ n = "bool") ∨ ((∀ l, numB x l = false) ∧ kitB n "int" = some false) := by
  cases ty with
  | base b =>
    cases b with
    | non => exact .inr (.inr ⟨fun _ => rfl, by decide +kernel⟩)
    | bl b => exact .inr (.inl ⟨b, rfl, rfl⟩)
    | int i => exact .inl ⟨i, rfl, rfl⟩
    | str x => exact .inr (.inr ⟨fun _ => rfl, by decide +kernel⟩)
    | flt x => exact absurd hn (by decide)
    | lst h => exact .inr (.inr ⟨fun _ => rfl, by decide +kernel⟩)
    | frz h => exact .inr (.inr ⟨fun _ => rfl, by decide +kernel⟩)
    | tup h => exact .inr (.inr ⟨fun _ => rfl, by decide +kernel⟩)
    | dK h => exact .inr (.inr ⟨fun _ => rfl, by decide +kernel⟩)
    | dT h => exact .inr (.inr ⟨fun _ => rfl, by decide +kernel⟩)
  | byt b => exact absurd hn (by decide)
  | set h => exact absurd hn (by decide)
  | kList h c => exact .inr (.inr ⟨fun _ => rfl, by decide +kernel⟩)
  | kTuple h c => exact .inr (.inr ⟨fun _ => rfl, by decide +kernel⟩)
  | kDict h c => exact .inr (.inr ⟨fun _ => rfl, by decide +kernel⟩)
  | fTuple h => exact .inr (.inr ⟨fun _ => rfl, by decide +kernel⟩)
  | fDict h => exact .inr (.inr ⟨fun _ => rfl, by decide +kernel⟩)
theorem boot_int' : bootBuiltins "int" = some (.type "int") := by decide +kernel
theorem boot_bool' : bootBuiltins "bool" = some (.type "bool") := by decide +kernel
theorem boot_list' : bootBuiltins "list" = some (.type "list") := by decide +kernel
section
variable {P : Program} {w : World} {K : PySem.W.Frag} {mg : Str → Option Value} {base : Heap}
/-! ### is_number -/
def spIsNum (K : PySem.W.Frag) : Sp := fun vs H Q _ => ∃ (x : V) (l : Int) (n : String), vs = [x, .int l] ∧ TyX K H x (.type n) ∧ n ∈ kinds ∧ RetV (.bl (numB x l)) H Q
theorem ok_is_number {f : Addr} {fd : FuncData} (F : Fun K "is_number" "is_number" s_is_number f fd) (B : Bl mg) : FnOk P w K mg base (L2.CX P w) 1 f fd ["thing", "least"] (spIsNum K) := by
  refine okB F sc_is_number (fun vs H Q E h => ?_) (fun cdv A outer s H vs Q E hr h => ?_)
  · obtain ⟨x, l, n, rfl, _⟩ := h
    rfl
  · obtain ⟨x, l, n, rfl, ty, hn, q⟩ := h
    rcases num_kit ty hn with ⟨i, rfl, rfl⟩ | ⟨b, rfl, rfl⟩ | ⟨hf, hk⟩
    · exact BW.ret (EV.isB (EV.and3 (EV.isT B.isinstance B.int boot_int' (EV.var 0 rfl) ty (k := true) (by decide +kernel)) (fun _ => EV.not (EV.isT B.isinstance B.bool boot_bool' (EV.var 0 rfl) ty (k := false) (by decide +kernel))) (fun _ _ => EV.ge (EV.var 0 rfl) (EV.var 1 rfl))) (by simp [numB])) q
    · exact BW.ret (EV.isB (EV.and3 (k3 := false) (EV.isT B.isinstance B.int boot_int' (EV.var 0 rfl) ty (k := true) (by decide +kernel)) (fun _ => EV.not (EV.isT B.isinstance B.bool boot_bool' (EV.var 0 rfl) ty (k := true) (by decide +kernel))) (fun _ z => nomatch z)) (by simp [numB])) q
    · exact BW.ret (EV.isB (EV.and3 (k2 := false) (k3 := false) (EV.isT B.isinstance B.int boot_int' (EV.var 0 rfl) ty hk) (fun z => nomatch z) (fun z => nomatch z)) (by simp [hf])) q
theorem sv_isnum {H : Hp} {x : V} {l : Int} {n : String} (ty : TyX K H x (.type n)) (hn : n ∈ kinds := by decide) : SpV (spIsNum K) [x, .int l] H (.bl (numB x l)) := fun H1 e1 Q q _ => ⟨x, l, n, rfl, TyX.ex ty e1, hn, q⟩
end
end QR

namespace QR
open PySem PySem.Spec PyProof.Rows L2 Evl
/-- a class of the program, its fields -/
structure Cs (K : PySem.W.Frag) (mg : Str → Option Value) (x : Str) (C : Addr) (flds : List Str) : Prop extends Ci K mg x C where
  na : ∀ f ∈ flds, NoAttr K C f
end QR

namespace QR
open PySem PySem.Spec PyProof.Rows L2 Evl
section
variable {P : Program} {w : World} {K : PySem.W.Frag} {mg : Str → Option Value} {base : Heap}
/-! ### common -/
def spCommon : Sp := fun vs H Q _ => ∃ a b : Nat, vs = [.int (a : Int), .int (b : Int)] ∧ RetV (.int (Nat.gcd a b : Nat)) H Q
theorem ok_common {f : Addr} {fd : FuncData} (F : Fun K "common" "common" s_common f fd) : FnOk P w K mg base (L2.CX P w) 1 f fd ["one", "other"] spCommon := by
  refine okB F sc_common (fun vs H Q E h => ?_) (fun cdv A outer s H vs Q E hr h => ?_)
  · obtain ⟨a, b, rfl, _⟩ := h
    rfl
  · obtain ⟨a, b, rfl, q⟩ := h
    refine BW.whl (fun m σ' H' => ∃ x y : Nat, σ' = [some (.int (x : Int)), some (.int (y : Int))] ∧ m = y ∧ Nat.gcd x y = Nat.gcd a b ∧ Ex H H') b ⟨a, b, rfl, rfl, rfl, Ex.refl H⟩ ?_
    rintro m σ' H' ⟨x, y, rfl, hm, hg, e⟩
    refine ⟨_, TV.gt (EV.var 1 rfl) EV.int, fun hk H1 e1 => ?_, fun hk H1 e1 => ?_⟩
    · have hy : 0 < (y : Int) := of_decide_eq_true hk
      refine BW.par 0 1 sc_common.nd (EV.var 1 rfl) (EV.mod (EV.var 0 rfl) (EV.var 1 rfl) hy) fun H2 e2 => BW.nil ?_
      refine ⟨x % y, by rw [hm]; exact Nat.mod_lt _ (by omega), y, x % y, ?_, rfl, ?_, (e.trans e1).trans e2⟩
      · show [some (V.int (y : Int)), some (V.int ((x : Int) % (y : Int)))] = _
        rw [Int.natCast_emod]
      · rw [← hg, Nat.gcd_comm x y, Nat.gcd_rec y x, Nat.gcd_comm]
    · have hy : y = 0 := by
        have := of_decide_eq_false hk
        omega
      subst hy
      rw [Nat.gcd_zero_right] at hg
      subst hg
      exact BW.ret (EV.var 0 rfl) fun H2 e2 => q H2 ((e.trans e1).trans e2)
theorem sv_common {H : Hp} {a b : Int} (ha : 0 ≤ a) (hb : 0 ≤ b) : SpV spCommon [.int a, .int b] H (.int (Int.gcd a b : Nat)) := fun H1 e1 Q q _ => by
  obtain ⟨x, rfl⟩ := Int.eq_ofNat_of_zero_le ha
  obtain ⟨y, rfl⟩ := Int.eq_ofNat_of_zero_le hb
  exact ⟨x, y, rfl, q⟩
end
end QR

namespace QR
open PySem PySem.Spec PyProof.Rows L2 Evl
section
variable {P : Program} {w : World} {K : PySem.W.Frag} {mg : Str → Option Value} {base : Heap}
/-! ### __init__ -/
theorem ok_Step_init {f C : Addr} {fd : FuncData} (F : Fun K "__init__" "Step.__init__" s_Step___init__ f fd) (c : Cs K mg "Step" C ["step"]) : FnOk P w K mg base (L2.CX P w) 1 f fd ["self", "step"] (spInit C ["step"]) := by
  refine okB F sc_Step___init__ (fun vs H Q E h => ?_) (fun cdv A outer s H vs Q E hr h => ?_)
  · obtain ⟨q, dx, us, rfl, hl, _⟩ := h
    simpa using hl
  · obtain ⟨q, dx, us, rfl, hl, hq, k⟩ := h
    obtain ⟨v, rfl⟩ : ∃ v, us = [v] := List.length_eq_one_iff.mp hl
    refine BW.setF (EV.var 1 rfl) (EV.var 0 rfl) hq c.cl (c.na _ (by decide)) (by decide) fun H1 e1 => BW.nil (k _ (fun b u hb hu => ?_) upd_same)
    rw [upd_ne hb]
    exact e1 _ _ hu
theorem ok_Barred_init {f C : Addr} {fd : FuncData} (F : Fun K "__init__" "Barred.__init__" s_Barred___init__ f fd) (c : Cs K mg "Barred" C ["by"]) : FnOk P w K mg base (L2.CX P w) 1 f fd ["self", "by"] (spInit C ["by"]) := by
  refine okB F sc_Barred___init__ (fun vs H Q E h => ?_) (fun cdv A outer s H vs Q E hr h => ?_)
  · obtain ⟨q, dx, us, rfl, hl, _⟩ := h
    simpa using hl
  · obtain ⟨q, dx, us, rfl, hl, hq, k⟩ := h
    obtain ⟨v, rfl⟩ : ∃ v, us = [v] := List.length_eq_one_iff.mp hl
    refine BW.setF (EV.var 1 rfl) (EV.var 0 rfl) hq c.cl (c.na _ (by decide)) (by decide) fun H1 e1 => BW.nil (k _ (fun b u hb hu => ?_) upd_same)
    rw [upd_ne hb]
    exact e1 _ _ hu
/-! ### Step.shows, Barred.shows -/
def stepB (t n : Int) : Bool := decide (0 ≤ t) && decide (t < n) && ([-1, 0, 1].all fun m : Int => decide (((Int.gcd n (t + m) : Nat) : Int) = 1))
def barB (b n : Int) : Bool := (decide (b = 2) || decide (b = 3)) && decide (n % b = 0)
def spStepShows (C : Addr) : Sp := fun vs H Q _ => ∃ (q dx : Addr) (t n : Int), vs = [.ref q, .int n] ∧ H q = some (.ins C dx [("step", .int t)]) ∧ 0 ≤ n ∧ RetV (.bl (stepB t n)) H Q
def spBarShows (C : Addr) : Sp := fun vs H Q _ => ∃ (q dx : Addr) (t n : Int), vs = [.ref q, .int n] ∧ H q = some (.ins C dx [("by", .int t)]) ∧ RetV (.bl (barB t n)) H Q
theorem gcd_abs (n x : Int) : Int.gcd n ((x.natAbs : Nat) : Int) = Int.gcd n x := by simp [Int.gcd]
theorem ok_Step_shows {f C : Addr} {fd : FuncData} (F : Fun K "shows" "Step.shows" s_Step_shows f fd) (B : Bl mg) (c : Cs K mg "Step" C ["step"]) (c_is_number : Fc P w K mg base 1 "is_number" (spIsNum K)) (c_common : Fc P w K mg base 1 "common" spCommon) : FnOk P w K mg base (L2.CX P w) 2 f fd ["self", "size"] (spStepShows C) := by
  refine okB F sc_Step_shows (fun vs H Q E h => ?_) (fun cdv A outer s H vs Q E hr h => ?_)
  · obtain ⟨q, dx, t, n, rfl, _⟩ := h
    rfl
  · obtain ⟨q, dx, t, n, rfl, hq, hn, k⟩ := h
    have nd := sc_Step_shows.nd
    have hl : List.lookup ("step" : Str) [(("step" : Str), V.int t)] = some (.int t) := rfl
    have na := c.na "step" (by decide)
    refine BW.when (TV.or2 (TV.not (TV.val (EV.call c_is_number hr (AV.two (EV.fld (EV.var 0 rfl) hq c.cl na hl) EV.int) (sv_isnum (.base (.int t)))))) (fun h1 => (TV.ge (EV.fld (EV.var 0 rfl) hq c.cl na hl) (EV.var 1 rfl)))) (fun hk H1 e1 => ?_) (fun hk H1 e1 => ?_)
    · refine BW.ret EV.bl fun H2 e2 => ?_
      have : stepB t n = false := by
        simp only [numB, Bool.or_eq_true, Bool.not_eq_true', decide_eq_false_iff_not, decide_eq_true_eq] at hk
        unfold stepB
        rcases hk with hk | hk
        · simp [decide_eq_false hk]
        · simp [decide_eq_false (show ¬ t < n by omega)]
      have q := k H2 (e1.trans e2)
      rw [this] at q
      exact q
    · refine BW.ret (EV.isB (EV.allN (bs := [-1, 0, 1].map fun m : Int => decide (((Int.gcd n (t + m) : Nat) : Int) = 1)) B.all (EL.is (LC.tupN (xs := [.int (-1), .int 0, .int 1]) (j := 2) (fun i => .bl (decide (((Int.gcd n (t + [-1, 0, 1].getD i 0) : Nat) : Int) = 1))) nd (blkOk_by (N := n_Step_shows) (sc := defScope s_Step_shows) (by decide +kernel)) (EU.tup (AV.cons (EV.neg EV.int) (AV.cons EV.int (AV.cons EV.int AV.nil)))) (by decide) (fun i y H2 e2 hi s0 H0 C0 cl fp => ?_)).el rfl)) ?_) fun H2 e2 => k H2 (e1.trans e2)
      · obtain ⟨m, rfl, hm⟩ : ∃ m : Int, y = .int m ∧ [-1, 0, 1].getD i 0 = m := by
          match i, hi with
          | 0, hi => exact ⟨-1, (Option.some.inj hi).symm, rfl⟩
          | 1, hi => exact ⟨0, (Option.some.inj hi).symm, rfl⟩
          | 2, hi => exact ⟨1, (Option.some.inj hi).symm, rfl⟩
        rw [hm, ← gcd_abs]
        exact (EV.eq (EV.call c_common hr (AV.two (EV.var 1 rfl) (EV.abs B.abs (EV.add (EV.fld (EV.var 0 rfl) (e2 _ _ (e1 _ _ hq)) c.cl na hl) (EV.var 2 rfl)))) (sv_common hn (by omega))) EV.int)
      · simp only [numB, Bool.or_eq_false_iff, Bool.not_eq_false', decide_eq_true_eq, decide_eq_false_iff_not] at hk
        unfold stepB
        rw [decide_eq_true hk.1, decide_eq_true (show t < n by omega)]
        simp
theorem in23 (b : Int) : inV (.int b) [.int 2, .int 3] = (decide (b = 2) || decide (b = 3)) := by
  simp only [inV, eqV, List.any_cons, List.any_nil, Bool.or_false]
  congr 1 <;> simp [Bool.beq_eq_decide_eq, eq_comm]
theorem ok_Barred_shows {f C : Addr} {fd : FuncData} (F : Fun K "shows" "Barred.shows" s_Barred_shows f fd) (c : Cs K mg "Barred" C ["by"]) : FnOk P w K mg base (L2.CX P w) 2 f fd ["self", "size"] (spBarShows C) := by
  refine okB F sc_Barred_shows (fun vs H Q E h => ?_) (fun cdv A outer s H vs Q E hr h => ?_)
  · obtain ⟨q, dx, t, n, rfl, _⟩ := h
    rfl
  · obtain ⟨q, dx, t, n, rfl, hq, k⟩ := h
    have nd := sc_Barred_shows.nd
    have hl : List.lookup ("by" : Str) [(("by" : Str), V.int t)] = some (.int t) := rfl
    have na := c.na "by" (by decide)
    refine BW.ret (EV.isB (EV.and2 (EV.inU (EV.fld (EV.var 0 rfl) hq c.cl na hl) (EU.tup (AV.cons EV.int (AV.cons EV.int AV.nil)))) (fun h1 => (EV.eq (EV.mod (EV.var 1 rfl) (EV.fld (EV.var 0 rfl) hq c.cl na hl) ?_) EV.int))) ?_) k
    · rw [in23] at h1
      simp at h1
      omega
    · rw [in23]
      rfl
end
end QR

namespace QR
open PySem PySem.Spec PyProof.Rows L2 Evl
/-! ### the refusals -/
inductive Ek where
  | size | place | setting | none | peace
  deriving DecidableEq
def Ek.name : Ek → Str
  | .size => "BadSize"
  | .place => "BadPlace"
  | .setting => "BadSetting"
  | .none => "NoSetting"
  | .peace => "NoPeace"
structure Xc (K : PySem.W.Frag) (mg : Str → Option Value) (x : Str) (C : Addr) : Prop where
  xP : PySem.W.excIn K C He.veBase "ValueError.__new__" = true
  gP : mg x = some (.ref C)
  kP : PySem.W.keepIn K (.ref C) = true
  bP : PySem.W.subIn K (.ref C) (.type "BaseException") = some true
  tP : PySem.W.typeIn K (.ref C) = some (.type "type")
section
variable {X : Cx} {e a b c : Expr} {es : List Expr} {σ : L2.St} {H : Hp} {D : Ends} {rest : List Stmt} {pos p p2 pos' : Pos} {vs : List V} {x : Str} {W : WX} {C : Addr}
theorem BW.raise {m : Str} {j : Nat} (ec : Xc X.K X.mg x C) (tk : Takes X W) (h : W (.ref C) none σ H) (hc : X.calm = true := by rfl) (hg : Gl X x := by rfl) (hdb : (x == ("__debug__" : Str)) = false := by decide) :
    BW X (.Raise (some (.Call (.Name x p) [.Constant (.str m) j p2] [] pos)) none pos' :: rest) D σ H :=
  BW.cons (ps_raise hc tk (pmk_own PySem.F.excBase_ValueError ec.xP ec.gP ec.kP (raises_own ec.bP ec.tP) hg hdb)) h
/-- f(e, ..) as a statement, f may refuse -/
theorem BW.exprX {sp : Sp} {k j : Nat} {E : XK} (C : Fc X.prog X.w X.K X.mg X.base k x sp) (hr : Room j X.A) (tk : Takes X (fun cls d _ H => E cls d H)) (ha : AV X (e :: es) σ H vs) (hv : ∀ H1, Ex H H1 → sp vs H1 (fun _ H2 => BW X rest D σ H2) E)
    (hk : k ≤ j := by decide) (hg : Gl X x := by rfl) (hs : (e :: es).all noStar = true := by rfl) (hdb : (x == ("__debug__" : Str)) = false := by decide) (hw : swapsWith (.Call (.Name x p) (e :: es) [] pos) none pos'.line X.env = pure false := by rfl) :
    BW X (.Expr (.Call (.Name x p) (e :: es) [] pos) pos' :: rest) D σ H :=
  BW.exprW (EW.callX C hr tk (ha.ev H (Ex.refl H) _ fun H1 e1 => hv H1 e1) hk hg hs hdb) hw
end
/-- what a looking def does: nothing, or a refusal -/
def Res (xa : Ek → Addr) (o : Option Ek) (v : V) (H : Hp) (Q : VK) (E : XK) : Prop := match o with
  | none => RetV v H Q
  | some k => ∀ H2, Ex H H2 → E (.ref (xa k)) none H2
theorem Res.good {xa : Ek → Addr} {o : Option Ek} {v : V} {H : Hp} {Q : VK} {E : XK} (h : Res xa o v H Q E) (ho : o = none) : RetV v H Q := by subst ho; exact h
theorem Res.bad {xa : Ek → Addr} {o : Option Ek} {v : V} {H : Hp} {Q : VK} {E : XK} {k : Ek} (h : Res xa o v H Q E) (ho : o = some k) : ∀ H2, Ex H H2 → E (.ref (xa k)) none H2 := by subst ho; exact h
/-- a def that refuses or gives v -/
def SpX (sp : Sp) (xa : Ek → Addr) (vs : List V) (H : Hp) (o : Option Ek) (v : V) : Prop := ∀ H1, Ex H H1 → ∀ (Q : VK) (E : XK), Res xa o v H1 Q E → sp vs H1 Q E
theorem SpX.v {sp : Sp} {xa : Ek → Addr} {vs : List V} {H : Hp} {v : V} (h : SpX sp xa vs H none v) : SpV sp vs H v := fun H1 e1 Q q E => h H1 e1 Q E q
section
variable {P : Program} {w : World} {K : PySem.W.Frag} {mg : Str → Option Value} {base : Heap} {xa : Ek → Addr}
/-- a value of the kinds that are handed in -/
def Kd? (K : PySem.W.Frag) (H : Hp) (x : V) : Prop := ∃ n : String, TyX K H x (.type n) ∧ n ∈ kinds
theorem Kd?.ex {H H' : Hp} {x : V} (h : Kd? K H x) (e : Ex H H') : Kd? K H' x := let ⟨n, h1, h2⟩ := h; ⟨n, TyX.ex h1 e, h2⟩
theorem Kd?.int {H : Hp} {i : Int} : Kd? K H (.int i) := ⟨"int", .base (.int i), by decide⟩
theorem Kd?.bl {H : Hp} {i : Bool} : Kd? K H (.bl i) := ⟨"bool", .base (.bl i), by decide⟩
theorem Kd?.non {H : Hp} : Kd? K H .non := ⟨"NoneType", .base .non, by decide⟩
theorem Kd?.str {H : Hp} {z : Str} : Kd? K H (.str z) := ⟨"str", .base (.str z), by decide⟩
theorem Kd?.lst {H : Hp} {p : Addr} {xs : List V} (h : SqL K H p xs) : Kd? K H (.ref p) := ⟨"list", ty_list h, by decide⟩
theorem Kd?.tup {H : Hp} {p : Addr} {xs : List V} (h : SqT K H p xs) : Kd? K H (.ref p) := ⟨"tuple", ty_tup h, by decide⟩
theorem sv_isnum' {H : Hp} {x : V} {l : Int} (h : Kd? K H x) : SpV (spIsNum K) [x, .int l] H (.bl (numB x l)) := by
  obtain ⟨n, ty, hn⟩ := h
  exact sv_isnum ty hn
theorem numB_int {x : V} {l : Int} (h : numB x l = true) : ∃ i, x = .int i ∧ l ≤ i := by
  cases x with
  | int i => exact ⟨i, rfl, of_decide_eq_true h⟩
  | _ => exact nomatch h
end
end QR

namespace QR
open PySem PySem.Spec PyProof.Rows L2 Evl
/-! ### the classes of the answers -/
inductive Kd where
  | S | B | P | JP | T | JT
  deriving DecidableEq
def Kd.name : Kd → Str
  | .S => "Step"
  | .B => "Barred"
  | .P => "Peace"
  | .JP => "JoinedPeace"
  | .T => "Take"
  | .JT => "JoinedTake"
def Kd.flds : Kd → List Str
  | .S => ["step"]
  | .B => ["by"]
  | .T => ["one", "other"]
  | .JT => ["one", "other"]
  | _ => []
structure Ans (K : PySem.W.Frag) (mg : Str → Option Value) (ad : Kd → Addr) (CA : Addr) : Prop where
  cs : ∀ k, Cs K mg k.name (ad k) k.flds
  kit : ∀ a b, PySem.W.kitOne K (.ref (ad a)) (.ref (ad b)) = some (decide (a = b))
  kitA : ∀ a, PySem.W.kitOne K (.ref (ad a)) (.ref CA) = some true
  gA : mg "Answer" = some (.ref CA)
section
variable {X : Cx} {e a b c o : Expr} {σ : L2.St} {H : Hp} {pos p pf : Pos} {ad : Kd → Addr} {CA : Addr}
/-- isinstance(e, C) of an answer -/
theorem EV.isK (A : Ans X.K X.mg ad CA) (mI : X.mg "isinstance" = none) {k : Kd} (d : Kd) {x : Str} {q dx : Addr} {fs : List (Str × V)} (ha : EV X a σ H (.ref q)) (hq : H q = some (.ins (ad k) dx fs)) (hx : x = d.name := by rfl) (hg : Gl X "isinstance" := by rfl) (hgD : Gl X x := by rfl) (hs : [a, .Name x pf].all noStar = true := by rfl) (hd : (x == ("__debug__" : Str)) = false := by decide) :
    EV X (.Call (.Name "isinstance" p) [a, .Name x pf] [] pos) σ H (.bl (decide (k = d))) :=
  EV.isC mI (A.cs k).toCi (by rw [hx]; exact (A.cs d).mg) ha hq (A.kit k d) hg hgD hs hd
theorem EV.isA (A : Ans X.K X.mg ad CA) (mI : X.mg "isinstance" = none) {k : Kd} {q dx : Addr} {fs : List (Str × V)} (ha : EV X a σ H (.ref q)) (hq : H q = some (.ins (ad k) dx fs)) (hg : Gl X "isinstance" := by rfl) (hgD : Gl X "Answer" := by rfl) (hs : [a, .Name "Answer" pf].all noStar = true := by rfl) :
    EV X (.Call (.Name "isinstance" p) [a, .Name "Answer" pf] [] pos) σ H (.bl true) :=
  EV.isC mI (A.cs k).toCi A.gA ha hq (A.kitA k) hg hgD hs
/-- a field of an answer -/
theorem EV.fldK (A : Ans X.K X.mg ad CA) {k : Kd} {f : Str} {v : V} {q dx : Addr} {fs : List (Str × V)} (h : EV X e σ H (.ref q)) (hq : H q = some (.ins (ad k) dx fs)) (hl : fs.lookup f = some v) (hf : f ∈ k.flds := by decide) (hb : attributeBase e f X.env (eval e X.env) = eval e X.env := by rfl) : EV X (.Attribute e f pos) σ H v :=
  EV.fld h hq (A.cs k).cl ((A.cs k).na f hf) hl hb
/-- isinstance of an answer told by its shape -/
theorem EV.isKX (A : Ans X.K X.mg ad CA) (mI : X.mg "isinstance" = none) {k : Kd} (d : Kd) {x : Str} {fs : List (Str × V)} (ha : EX X a σ H (.ins (ad k) fs)) (hx : x = d.name := by rfl) (hg : Gl X "isinstance" := by rfl) (hgD : Gl X x := by rfl) (hs : [a, .Name x pf].all noStar = true := by rfl) (hd : (x == ("__debug__" : Str)) = false := by decide) :
    EV X (.Call (.Name "isinstance" p) [a, .Name x pf] [] pos) σ H (.bl (decide (k = d))) := by
  have hb : EX X (.Name x pf) σ H (.v (.ref (ad d))) := EX.vv (EV.glob (by rw [hx]; exact (A.cs d).mg) hgD hd)
  refine EV.of (pe_callB call_isi hg mI (by decide +kernel) (pa_all hs) (by decide) (by decide) (star_of (List.all_eq_true.mp hs a List.mem_cons_self) _) (back_any _ (List.all_eq_true.mpr fun e' he => List.all_eq_true.mp hs e' (List.mem_cons_of_mem _ he)))) fun H1 e1 Q q => (AX.two ha hb).ev H1 e1 _ fun vs H2 e2 hvs => ?_
  obtain ⟨u, v, rfl, hu, hv⟩ := hvs.two
  obtain ⟨r, dx, rfl, hr⟩ := hu.ofI
  cases hv.vv
  exact ⟨.ref r, .ref (ad d), .ref (ad k), .ref (ad d), _, rfl, .own _, (A.cs k).toCi.ty hr, A.kit k d, q H2 e2⟩
end
end QR

namespace QR
open PySem PySem.Spec PyProof.Rows L2 Evl
def allKd : List Kd := [.S, .B, .P, .JP, .T, .JT]
theorem allKd_mem (k : Kd) : k ∈ allKd := by cases k <;> decide
def ansB (K : PySem.W.Frag) : Bool := (He.Fa.glo "Answer").ok K && allKd.all fun a => (He.Fa.glo a.name).ok K && ((He.Fa.cls a.name).ok K && (ciB K a.name && ((a.flds.all fun f => (He.Fa.noat a.name f).ok K) && (kitBB K a.name "Answer" true && allKd.all fun b => kitBB K a.name b.name (decide (a = b))))))
theorem ans_of {K : PySem.W.Frag} {h : Heap} {mg : Str → Option Value} (X : K.In h) (G : h.Ns mainGlobals mg) (hb : ansB K = true) : Ans K mg (fun k => ga K k.name) (ga K "Answer") := by
  obtain ⟨h1, h2⟩ := He.ba hb
  have key : ∀ k : Kd, _ := fun k => List.all_eq_true.mp h2 k (allKd_mem k)
  refine ⟨fun k => ?_, fun a b => ?_, fun a => ?_, He.glo_ok X G h1⟩
  · obtain ⟨g, z⟩ := He.ba (key k)
    obtain ⟨c, z⟩ := He.ba z
    obtain ⟨i, z⟩ := He.ba z
    obtain ⟨n, z⟩ := He.ba z
    exact ⟨ci_ok (He.glo_ok X G g) c i, fun f hf => He.noat_ok (List.all_eq_true.mp n f hf)⟩
  · obtain ⟨_, z⟩ := He.ba (key a)
    obtain ⟨_, z⟩ := He.ba z
    obtain ⟨_, z⟩ := He.ba z
    obtain ⟨_, z⟩ := He.ba z
    obtain ⟨_, z⟩ := He.ba z
    exact kit_ok (List.all_eq_true.mp z b (allKd_mem b))
  · obtain ⟨_, z⟩ := He.ba (key a)
    obtain ⟨_, z⟩ := He.ba z
    obtain ⟨_, z⟩ := He.ba z
    obtain ⟨_, z⟩ := He.ba z
    obtain ⟨z, _⟩ := He.ba z
    exact kit_ok z
end QR

namespace QR
open PySem PySem.Spec PyProof.Rows L2 Evl
/-- the refusals' classes as the head tells them -/
theorem xc_of {K : PySem.W.Frag} {h : Heap} {mg : Str → Option Value} (X : K.In h) (G : h.Ns mainGlobals mg) {x : Str} (g : (He.Fa.glo x).ok K = true) (e : (He.Fa.exc x).ok K = true) : Xc K mg x (ga K x) := by
  obtain ⟨h1, h2, h3, h4⟩ := He.exc_ok e
  exact ⟨h1, He.glo_ok X G g, h2, h3, h4⟩
def excB (ks : List Ek) (K : PySem.W.Frag) : Bool := ks.all fun k => (He.Fa.glo k.name).ok K && (He.Fa.exc k.name).ok K
theorem exc_of {K : PySem.W.Frag} {h : Heap} {mg : Str → Option Value} {ks : List Ek} (X : K.In h) (G : h.Ns mainGlobals mg) (hb : excB ks K = true) (k : Ek) (hk : k ∈ ks) : Xc K mg k.name (ga K k.name) := by
  obtain ⟨h1, h2⟩ := He.ba (List.all_eq_true.mp hb k hk)
  exact xc_of X G h1 h2
abbrev xaOf (K : PySem.W.Frag) : Ek → Addr := fun k => ga K k.name
end QR

namespace QR
open PySem PySem.Spec PyProof.Rows L2 Evl
/-! ### products of great numbers -/
theorem mul_big {i j : Int} {a b : Nat} (ha : i.natAbs < 2 ^ a) (hb : j.natAbs < 2 ^ b) (h : a + b + 2 ≤ 134217728) : IntMulOk i j := by
  have bits : ∀ {x : Int} {n : Nat}, x.natAbs < 2 ^ n → Builtin.Int.intBits x ≤ n := fun {x n} hx => by
    unfold Builtin.Int.intBits
    split
    · omega
    · rename_i hne
      have h0 : x.natAbs ≠ 0 := by
        intro z
        apply hne
        have : x = 0 := by omega
        simp [this]
      have := (Nat.log2_lt h0).mpr hx
      omega
  have h1 := bits ha
  have h2 := bits hb
  have e : bitsLine = 134217728 := by decide
  unfold IntMulOk
  intro z
  rw [Bool.and_eq_true] at z
  have z2 := z.2
  unfold Builtin.Int.intTooBig at z2
  have z3 := of_decide_eq_true z2
  rw [e] at z3
  omega
theorem bits_lt {c : Int} {n : Nat} (h : Builtin.Int.intBits c ≤ n) : c.natAbs < 2 ^ n := by
  unfold Builtin.Int.intBits at h
  split at h
  · rename_i hz
    have : c = 0 := by simpa using hz
    subst this
    exact Nat.two_pow_pos n
  · rename_i hne
    have h0 : c.natAbs ≠ 0 := by
      intro z
      apply hne
      have : c = 0 := by omega
      simp [this]
    exact (Nat.log2_lt h0).mp (by omega)
theorem add_lt {i j : Int} {a b n : Nat} (ha : i.natAbs < 2 ^ a) (hb : j.natAbs < 2 ^ b) (h1 : a + 1 ≤ n) (h2 : b + 1 ≤ n) : (i + j).natAbs < 2 ^ n := by
  obtain ⟨m, rfl⟩ : ∃ m, n = m + 1 := ⟨n - 1, by omega⟩
  have g1 : 2 ^ a ≤ 2 ^ m := Nat.pow_le_pow_right (by decide) (by omega)
  have g2 : 2 ^ b ≤ 2 ^ m := Nat.pow_le_pow_right (by decide) (by omega)
  have g3 : (2 : Nat) ^ (m + 1) = 2 * 2 ^ m := by rw [Nat.pow_succ]; omega
  have g4 := Int.natAbs_add_le i j
  omega
theorem small_lt {i : Int} {k n : Nat} (h : i.natAbs < 2 ^ k) (hk : k ≤ n) : i.natAbs < 2 ^ n := Nat.lt_of_lt_of_le h (Nat.pow_le_pow_right (by decide) hk)
/-! ### _law_number -/
def mixOf (c a s : Int) : Int := ((c + 977 * a) * 48271 + s) % 2147483647
def moreOf (c a s : Int) : Int := mixOf c a s * (mixOf c a s + 31 * a + 7) * (mixOf c a s + c + 5)
def numberOf (c a s : Int) : Int := if 10 ^ 18 ≤ c then c else moreOf c a s * (moreOf c a s + 48271) / 1009
def spNumber : Sp := fun vs H Q _ => ∃ c a s : Int, vs = [.int c, .int a, .int s] ∧ Builtin.Int.intBits c ≤ 1048576 ∧ 0 ≤ a ∧ a ≤ 1000 ∧ RetV (.int (numberOf c a s)) H Q
theorem mix_lt (c a s : Int) : 0 ≤ mixOf c a s ∧ mixOf c a s < 2147483647 := ⟨Int.emod_nonneg _ (by decide), Int.emod_lt_of_pos _ (by decide)⟩
section
variable {P : Program} {w : World} {K : PySem.W.Frag} {mg : Str → Option Value} {base : Heap}
theorem ok_law_number {f : Addr} {fd : FuncData} (F : Fun K "_law_number" "_law_number" s_law_number f fd) : FnOk P w K mg base (L2.CX P w) 1 f fd ["_law_cell", "_law_at", "_law_whole_here"] spNumber := by
  refine okB F sc_law_number (fun vs H Q E h => ?_) (fun cdv A outer s H vs Q E hr h => ?_)
  · obtain ⟨c, a, s, rfl, _⟩ := h
    rfl
  · obtain ⟨c, a, t, rfl, hb, ha0, ha1, k⟩ := h
    have nd := sc_law_number.nd
    obtain ⟨m0, m1⟩ := mix_lt c a t
    have hm : (mixOf c a t).natAbs < 2 ^ 31 := by omega
    have h31 : (mixOf c a t + 31 * a + 7).natAbs < 2 ^ 32 := by omega
    have hp : (mixOf c a t * (mixOf c a t + 31 * a + 7)).natAbs < 2 ^ 63 := wide_lt hm h31
    have hc := bits_lt hb
    have hs5 : (mixOf c a t + c + 5).natAbs < 2 ^ 1048610 := add_lt (a := 1048600) (b := 3) (add_lt (a := 31) (b := 1048576) hm hc (by decide) (by decide)) (by decide) (by decide) (by decide)
    have hmore : (moreOf c a t).natAbs < 2 ^ 1048700 := small_lt (wide_lt hp hs5) (by decide)
    have hmore2 : (moreOf c a t + 48271).natAbs < 2 ^ 1048701 := add_lt (b := 16) hmore (by decide) (by decide) (by decide)
    refine BW.when (TV.ge (EV.var 0 rfl) (EV.pow EV.int EV.int (by decide))) (fun hk H1 e1 => ?_) (fun hk H1 e1 => ?_)
    · refine BW.ret (EV.var 0 rfl) fun H2 e2 => ?_
      have q := k H2 (e1.trans e2)
      unfold numberOf at q
      rw [if_pos (show (10 : Int) ^ 18 ≤ c from of_decide_eq_true hk)] at q
      exact q
    · have hk' : ¬ (10 : Int) ^ 18 ≤ c := of_decide_eq_false hk
      refine BW.asg 3 nd (EV.mod (EV.add (EV.mul (EV.add (EV.var 0 rfl) (EV.mul EV.int (EV.var 1 rfl) (mul_small (.inl ⟨by decide, by decide⟩)))) EV.int (mul_small (.inr ⟨by decide, by decide⟩))) (EV.var 2 rfl)) EV.int (by decide)) fun H2 e2 => ?_
      refine BW.asg 4 nd (EV.mul (EV.mul (EV.var 3 rfl) (EV.add (EV.add (EV.var 3 rfl) (EV.mul EV.int (EV.var 1 rfl) (mul_small (.inl ⟨by decide, by decide⟩)))) EV.int) (mul_big hm h31 (by decide))) (EV.add (EV.add (EV.var 3 rfl) (EV.var 0 rfl)) EV.int) (mul_big hp hs5 (by decide))) fun H3 e3 => ?_
      refine BW.ret (EV.fdiv (EV.mul (EV.var 4 rfl) (EV.add (EV.var 4 rfl) EV.int) (mul_big hmore hmore2 (by decide))) EV.int (by decide)) fun H4 e4 => ?_
      have q := k H4 (((e1.trans e2).trans e3).trans e4)
      unfold numberOf at q
      rw [if_neg hk'] at q
      exact q
theorem sv_number {H : Hp} {c a s : Int} (hb : Builtin.Int.intBits c ≤ 1048576) (h0 : 0 ≤ a) (h1 : a ≤ 1000) : SpV spNumber [.int c, .int a, .int s] H (.int (numberOf c a s)) := fun H1 e1 Q q _ => ⟨c, a, s, rfl, hb, h0, h1, q⟩
end
end QR

namespace QR
open PySem PySem.Spec PyProof.Rows L2 Evl
section
variable {P : Program} {w : World} {K : PySem.W.Frag} {mg : Str → Option Value} {base : Heap}
/-! ### _law_whole, of a whole number -/
def spWhole : Sp := fun vs H Q _ => ∃ i : Int, vs = [.int i] ∧ RetV (.bl true) H Q
theorem ok_law_whole {f : Addr} {fd : FuncData} (F : Fun K "_law_whole" "_law_whole" s_law_whole f fd) (B : Bl mg) : FnOk P w K mg base (L2.CX P w) 1 f fd ["_law_found"] spWhole := by
  refine okB F sc_law_whole (fun vs H Q E h => ?_) (fun cdv A outer s H vs Q E hr h => ?_)
  · obtain ⟨i, rfl, _⟩ := h
    rfl
  · obtain ⟨i, rfl, k⟩ := h
    exact BW.ret (EV.isB (EV.and2 (EV.isT B.isinstance B.int boot_int' (EV.var 0 rfl) (.base (.int i)) (k := true) (by decide +kernel)) (fun h1 => (EV.not (EV.isT B.isinstance B.bool boot_bool' (EV.var 0 rfl) (.base (.int i)) (k := false) (by decide +kernel))))) rfl) k
theorem sv_whole {H : Hp} {i : Int} : SpV spWhole [.int i] H (.bl true) := fun H1 e1 Q q _ => ⟨i, rfl, q⟩
end
end QR

namespace QR
open PySem PySem.Spec PyProof.Rows L2 Evl
theorem at_map {ns : List Int} {i : Nat} {y : V} (h : (ns.map V.int)[i]? = some y) : y = .int (ns.getD i 0) ∧ i < ns.length := by
  rw [List.getElem?_map] at h
  have hi : i < ns.length := by
    rcases Nat.lt_or_ge i ns.length with g | g
    · exact g
    · rw [List.getElem?_eq_none g] at h
      cases h
  rw [List.getElem?_eq_getElem hi] at h
  refine ⟨?_, hi⟩
  rw [List.getD_eq_getElem?_getD, List.getElem?_eq_getElem hi]
  exact (Option.some.inj h).symm
/-! ### _law_peace -/
def byOf (n : Int) (j : Bool) : Int := if j = true then n else 5 * n
def upsOf (ns : List Int) (m : Int) : List Int := (List.range ns.length).map fun i : Nat => (ns.getD i 0 + (i : Int)) % m
def downsOf (ns : List Int) (m : Int) : List Int := (List.range ns.length).map fun i : Nat => (ns.getD i 0 - (i : Int)) % m
def peaceB (ns : List Int) (j : Bool) : Bool :=
  decide (((distinct ns : Nat) : Int) = (ns.length : Int)) && (decide (((distinct (upsOf ns (byOf ns.length j)) : Nat) : Int) = (ns.length : Int)) && decide (((distinct (downsOf ns (byOf ns.length j)) : Nat) : Int) = (ns.length : Int)))
def spPeace (K : PySem.W.Frag) : Sp := fun vs H Q _ => ∃ (q : Addr) (ns : List Int) (j : Bool), vs = [.ref q, .bl j] ∧ SqL K H q (ns.map V.int) ∧ 0 < ns.length ∧ ns.length ≤ 4000 ∧ RetV (.bl (peaceB ns j)) H Q
theorem ups_len (ns : List Int) (m : Int) : (upsOf ns m).length = ns.length := by simp [upsOf]
theorem downs_len (ns : List Int) (m : Int) : (downsOf ns m).length = ns.length := by simp [downsOf]
section
variable {P : Program} {w : World} {K : PySem.W.Frag} {mg : Str → Option Value} {base : Heap}
theorem ok_law_peace {f : Addr} {fd : FuncData} (F : Fun K "_law_peace" "_law_peace" s_law_peace f fd) (B : Bl mg) : FnOk P w K mg base (L2.CX P w) 1 f fd ["_law_places", "_law_joined"] (spPeace K) := by
  refine okB F sc_law_peace (fun vs H Q E h => ?_) (fun cdv A outer s H vs Q E hr h => ?_)
  · obtain ⟨q, ns, j, rfl, _⟩ := h
    rfl
  · obtain ⟨q, ns, j, rfl, hq, h0, hl, k⟩ := h
    have nd := sc_law_peace.nd
    have hb : 0 < byOf ns.length j := by
      unfold byOf
      split <;> omega
    have hlen : ((ns.map V.int).length : Int) = (ns.length : Int) := by simp
    refine BW.asg 2 nd (EV.isI (EV.len B.len (EV.var 0 rfl) hq) hlen) fun H1 e1 => ?_
    refine BW.asg 3 nd (EV.isI (j := byOf ns.length j) (EV.iteI (TV.val (EV.var 1 rfl)) (fun h1 => (EV.var 2 rfl)) (fun h1 => (EV.mul EV.int (EV.var 2 rfl) (mul_small (.inl ⟨by decide, by decide⟩))))) rfl) fun H2 e2 => ?_
    have e12 := e1.trans e2
    refine BW.asgC 4 (LC.enum (j1 := 5) (j2 := 6) (fun i => .int ((ns.getD i 0 + (i : Int)) % byOf ns.length j)) B.enumerate nd (blkOk_by (N := n_law_peace) (sc := defScope s_law_peace) (by decide +kernel)) (EV.var 0 rfl) (ex_l e12 hq) (by simp; omega) (fun i y H3 e3 hi s0 H0 C0 cl fp => ?_)) fun p1 H3 np1 e3 hp1 => ?_
    · obtain ⟨rfl, _⟩ := at_map hi
      exact (EV.mod (EV.add (EV.var 6 rfl) (EV.var 5 rfl)) (EV.var 3 rfl) hb)
    refine BW.asgC 7 (LC.enum (j1 := 5) (j2 := 6) (fun i => .int ((ns.getD i 0 - (i : Int)) % byOf ns.length j)) B.enumerate nd (blkOk_by (N := n_law_peace) (sc := defScope s_law_peace) (by decide +kernel)) (EV.var 0 rfl) (ex_l (e12.trans e3) hq) (by simp; omega) (fun i y H4 e4 hi s0 H0 C0 cl fp => ?_)) fun p2 H4 np2 e4 hp2 => ?_
    · obtain ⟨rfl, _⟩ := at_map hi
      exact (EV.mod (EV.sub (EV.var 6 rfl) (EV.var 5 rfl)) (EV.var 3 rfl) hb)
    have g1 : SqL K H4 p1 ((upsOf ns (byOf ns.length j)).map V.int) := by
      have := sq_of (K := K) (e4 _ _ hp1)
      simpa [upsOf, List.map_map, Function.comp_def] using this
    have g2 : SqL K H4 p2 ((downsOf ns (byOf ns.length j)).map V.int) := by
      have := sq_of (K := K) hp2
      simpa [downsOf, List.map_map, Function.comp_def] using this
    exact BW.ret (EV.and3 (EV.eq (EV.lenSet B.len B.set (EV.var 0 rfl) (ex_l ((e12.trans e3).trans e4) hq) hl) (EV.var 2 rfl)) (fun h1 => (EV.eq (EV.lenSet B.len B.set (EV.var 4 rfl) g1 (by rw [ups_len]; exact hl)) (EV.var 2 rfl))) (fun h1 h2 => (EV.eq (EV.lenSet B.len B.set (EV.var 7 rfl) g2 (by rw [downs_len]; exact hl)) (EV.var 2 rfl)))) fun H5 e5 => k H5 (((e12.trans e3).trans e4).trans e5)
theorem sv_peace {H : Hp} {q : Addr} {ns : List Int} {j : Bool} (hq : SqL K H q (ns.map V.int)) (h0 : 0 < ns.length) (hl : ns.length ≤ 4000) : SpV (spPeace K) [.ref q, .bl j] H (.bl (peaceB ns j)) := fun H1 e1 Q k _ => ⟨q, ns, j, rfl, ex_l e1 hq, h0, hl, k⟩
end
end QR

namespace QR
/-! ### peace by columns and slopes, and by two and two -/
def takeB (ns : List Int) (i k : Nat) : Bool := decide ((((ns.getD i 0 - ns.getD k 0).natAbs : Nat) : Int) = 0) || decide ((((ns.getD i 0 - ns.getD k 0).natAbs : Nat) : Int) = ((((i : Int) - (k : Int)).natAbs : Nat) : Int))
def takeJB (ns : List Int) (i k : Nat) : Bool := decide (ns.getD i 0 - ns.getD k 0 = 0) || (decide ((ns.getD i 0 - ns.getD k 0 - (i : Int) + (k : Int)) % (ns.length : Int) = 0) || decide ((ns.getD i 0 - ns.getD k 0 + (i : Int) - (k : Int)) % (ns.length : Int) = 0))
def takes (j : Bool) (ns : List Int) (i k : Nat) : Bool := if j = true then takeJB ns i k else takeB ns i k
theorem nodup_getD (xs : List Int) : xs.Nodup ↔ ∀ i k, i < k → k < xs.length → xs.getD i 0 ≠ xs.getD k 0 := by
  rw [List.Nodup, List.pairwise_iff_getElem]
  constructor
  · intro h i k hik hk
    have := h i k (by omega) hk hik
    simpa [List.getD_eq_getElem?_getD, List.getElem?_eq_getElem hk, List.getElem?_eq_getElem (show i < xs.length by omega)] using this
  · intro h i k hi hk hik
    have := h i k hik hk
    simpa [List.getD_eq_getElem?_getD, List.getElem?_eq_getElem hk, List.getElem?_eq_getElem hi] using this
theorem ups_getD {ns : List Int} {m : Int} {i : Nat} (h : i < ns.length) : (upsOf ns m).getD i 0 = (ns.getD i 0 + (i : Int)) % m := by
  unfold upsOf
  simp [List.getD_eq_getElem?_getD, h]
theorem downs_getD {ns : List Int} {m : Int} {i : Nat} (h : i < ns.length) : (downsOf ns m).getD i 0 = (ns.getD i 0 - (i : Int)) % m := by
  unfold downsOf
  simp [List.getD_eq_getElem?_getD, h]
theorem mod_zero_small {x m : Int} (h1 : -m < x) (h2 : x < m) : x % m = 0 ↔ x = 0 := by
  constructor
  · intro h
    by_cases hx : 0 ≤ x
    · rw [Int.emod_eq_of_lt hx h2] at h
      exact h
    · have : x % m = x + m := by
        have e : x % m = (x + m) % m := by rw [Int.add_emod_right]
        rw [e]
        exact Int.emod_eq_of_lt (by omega) (by omega)
      omega
  · intro h
    subst h
    exact Int.zero_emod m
theorem mod_eq_iff {a b m : Int} : a % m = b % m ↔ (a - b) % m = 0 := Int.emod_eq_emod_iff_emod_sub_eq_zero
theorem peaceB_iff (ns : List Int) (j : Bool) : peaceB ns j = true ↔ ∀ i k : Nat, i < k → k < ns.length → ns.getD i 0 ≠ ns.getD k 0 ∧ (ns.getD i 0 + (i : Int) - (ns.getD k 0 + (k : Int))) % byOf ns.length j ≠ 0 ∧ (ns.getD i 0 - (i : Int) - (ns.getD k 0 - (k : Int))) % byOf ns.length j ≠ 0 := by
  unfold peaceB
  simp only [Bool.and_eq_true, decide_eq_true_eq]
  have c : ∀ xs : List Int, xs.length = ns.length → ((((distinct xs : Nat) : Int) = (ns.length : Int)) ↔ xs.Nodup) := fun xs hl => by
    rw [← distinct_iff, hl]
    omega
  rw [c ns rfl, c _ (ups_len _ _), c _ (downs_len _ _), nodup_getD, nodup_getD, nodup_getD, ups_len, downs_len]
  constructor
  · rintro ⟨h1, h2, h3⟩ i k hik hk
    have a := h2 i k hik hk
    have b := h3 i k hik hk
    rw [ups_getD (by omega), ups_getD hk] at a
    rw [downs_getD (by omega), downs_getD hk] at b
    exact ⟨h1 i k hik hk, fun z => a (mod_eq_iff.mpr z), fun z => b (mod_eq_iff.mpr z)⟩
  · intro h
    refine ⟨fun i k hik hk => (h i k hik hk).1, fun i k hik hk => ?_, fun i k hik hk => ?_⟩
    · rw [ups_getD (by omega), ups_getD hk]
      exact fun z => (h i k hik hk).2.1 (mod_eq_iff.mp z)
    · rw [downs_getD (by omega), downs_getD hk]
      exact fun z => (h i k hik hk).2.2 (mod_eq_iff.mp z)
theorem getD_mem {ns : List Int} {i : Nat} (h : i < ns.length) : ns.getD i 0 ∈ ns := by
  rw [List.getD_eq_getElem?_getD, List.getElem?_eq_getElem h]
  exact List.getElem_mem h
/-- at peace on the board: no two take one another -/
theorem peaceB_false {ns : List Int} (hb : ∀ c ∈ ns, 0 ≤ c ∧ c < (ns.length : Int)) : peaceB ns false = true ↔ ∀ i k : Nat, i < k → k < ns.length → takeB ns i k = false := by
  rw [peaceB_iff]
  refine forall_congr' fun i => forall_congr' fun k => forall_congr' fun hik => forall_congr' fun hk => ?_
  have b1 := hb _ (getD_mem (show i < ns.length by omega))
  have b2 := hb _ (getD_mem hk)
  have m : byOf ns.length false = 5 * (ns.length : Int) := rfl
  unfold takeB
  rw [m, Ne, Ne, Ne, mod_zero_small (by omega) (by omega), mod_zero_small (by omega) (by omega)]
  simp only [Bool.or_eq_false_iff, decide_eq_false_iff_not]
  omega
theorem neg_mod_zero {x m : Int} : (-x) % m = 0 ↔ x % m = 0 := by
  constructor
  · intro h
    exact Int.emod_eq_zero_of_dvd (Int.dvd_neg.mp (Int.dvd_of_emod_eq_zero h))
  · intro h
    exact Int.emod_eq_zero_of_dvd (Int.dvd_neg.mpr (Int.dvd_of_emod_eq_zero h))
theorem peaceB_true {ns : List Int} : peaceB ns true = true ↔ ∀ i k : Nat, i < k → k < ns.length → takeJB ns i k = false := by
  rw [peaceB_iff]
  refine forall_congr' fun i => forall_congr' fun k => forall_congr' fun hik => forall_congr' fun hk => ?_
  have m : byOf ns.length true = (ns.length : Int) := rfl
  unfold takeJB
  rw [m]
  simp only [Bool.or_eq_false_iff, decide_eq_false_iff_not]
  have e1 : ns.getD i 0 + (i : Int) - (ns.getD k 0 + (k : Int)) = ns.getD i 0 - ns.getD k 0 + (i : Int) - (k : Int) := by omega
  have e2 : ns.getD i 0 - (i : Int) - (ns.getD k 0 - (k : Int)) = ns.getD i 0 - ns.getD k 0 - (i : Int) + (k : Int) := by omega
  rw [e1, e2]
  constructor
  · rintro ⟨h1, h2, h3⟩
    exact ⟨by omega, h3, h2⟩
  · rintro ⟨h1, h2, h3⟩
    exact ⟨by omega, h3, h2⟩
theorem peaceB_takes {ns : List Int} (hb : ∀ c ∈ ns, 0 ≤ c ∧ c < (ns.length : Int)) (j : Bool) : peaceB ns j = true ↔ ∀ i k : Nat, i < k → k < ns.length → takes j ns i k = false := by
  cases j with
  | true => exact peaceB_true
  | false => exact peaceB_false hb
end QR

namespace QR
/-! ### the first two that take one another -/
def NoTake (j : Bool) (ns : List Int) : Prop := ∀ b, b < ns.length → ∀ a, a < b → takes j ns a b = false
def IsFirst (j : Bool) (ns : List Int) (a b : Nat) : Prop := (a < b ∧ b < ns.length) ∧ takes j ns a b = true ∧ (∀ b', b' < b → ∀ a', a' < b' → takes j ns a' b' = false) ∧ ∀ a', a' < a → takes j ns a' b = false
def FirstIs (j : Bool) (ns : List Int) : Option (Nat × Nat) → Prop
  | none => NoTake j ns
  | some (a, b) => IsFirst j ns a b
theorem first_in (t : Nat → Bool) : ∀ n, (∀ a, a < n → t a = false) ∨ ∃ a, a < n ∧ t a = true ∧ ∀ a', a' < a → t a' = false
  | 0 => .inl fun a h => by omega
  | n + 1 => by
    rcases first_in t n with h | ⟨a, h1, h2, h3⟩
    · cases ht : t n with
      | true => exact .inr ⟨n, by omega, ht, fun a' ha => h a' ha⟩
      | false =>
        refine .inl fun a ha => ?_
        by_cases han : a < n
        · exact h a han
        · have : a = n := by omega
          subst this
          exact ht
    · exact .inr ⟨a, by omega, h2, h3⟩
theorem first_to (t : Nat → Nat → Bool) : ∀ n, (∀ b, b < n → ∀ a, a < b → t a b = false) ∨ ∃ a b, (a < b ∧ b < n) ∧ t a b = true ∧ (∀ b', b' < b → ∀ a', a' < b' → t a' b' = false) ∧ ∀ a', a' < a → t a' b = false
  | 0 => .inl fun a h => by omega
  | n + 1 => by
    rcases first_to t n with h | ⟨a, b, h1, h2, h3, h4⟩
    · rcases first_in (fun a => t a n) n with g | ⟨a, g1, g2, g3⟩
      · refine .inl fun b hb a ha => ?_
        by_cases hbn : b < n
        · exact h b hbn a ha
        · have : b = n := by omega
          subst this
          exact g a ha
      · exact .inr ⟨a, n, ⟨g1, by omega⟩, g2, h, g3⟩
    · exact .inr ⟨a, b, ⟨h1.1, by omega⟩, h2, h3, h4⟩
theorem first_ex (j : Bool) (ns : List Int) : ∃ o, FirstIs j ns o := by
  rcases first_to (takes j ns) ns.length with h | ⟨a, b, h1, h2, h3, h4⟩
  · exact ⟨none, h⟩
  · exact ⟨some (a, b), h1, h2, h3, h4⟩
theorem first_one {j : Bool} {ns : List Int} {a b a' b' : Nat} (h : IsFirst j ns a b) (g : IsFirst j ns a' b') : a = a' ∧ b = b' := by
  obtain ⟨h1, h2, h3, h4⟩ := h
  obtain ⟨g1, g2, g3, g4⟩ := g
  have hb : b = b' := by
    rcases Nat.lt_trichotomy b b' with z | z | z
    · have := g3 b z a h1.1
      rw [h2] at this
      cases this
    · exact z
    · have := h3 b' z a' g1.1
      rw [g2] at this
      cases this
  subst hb
  refine ⟨?_, rfl⟩
  rcases Nat.lt_trichotomy a a' with z | z | z
  · have := g4 a z
    rw [h2] at this
    cases this
  · exact z
  · have := h4 a' z
    rw [g2] at this
    cases this
theorem first_none {j : Bool} {ns : List Int} {o : Option (Nat × Nat)} (h : FirstIs j ns o) (g : NoTake j ns) : o = none := by
  cases o with
  | none => rfl
  | some p =>
    obtain ⟨h1, h2, _, _⟩ := (h : IsFirst j ns p.1 p.2)
    have := g p.2 h1.2 p.1 h1.1
    rw [h2] at this
    cases this
theorem first_some {j : Bool} {ns : List Int} {o : Option (Nat × Nat)} {a b : Nat} (h : FirstIs j ns o) (g : IsFirst j ns a b) : o = some (a, b) := by
  cases o with
  | none =>
    obtain ⟨g1, g2, _, _⟩ := g
    have := (h : NoTake j ns) b g1.2 a g1.1
    rw [g2] at this
    cases this
  | some p =>
    obtain ⟨e1, e2⟩ := first_one (h : IsFirst j ns p.1 p.2) g
    obtain ⟨p1, p2⟩ := p
    simp only at e1 e2
    rw [e1, e2]
theorem first_peace {j : Bool} {ns : List Int} {o : Option (Nat × Nat)} (hb : ∀ c ∈ ns, 0 ≤ c ∧ c < (ns.length : Int)) (h : FirstIs j ns o) : o.isNone = peaceB ns j := by
  cases o with
  | none =>
    have : peaceB ns j = true := (peaceB_takes hb j).mpr fun i k hik hk => (h : NoTake j ns) k hk i hik
    rw [this]
    rfl
  | some p =>
    obtain ⟨h1, h2, _, _⟩ := (h : IsFirst j ns p.1 p.2)
    cases hp : peaceB ns j with
    | false => rfl
    | true =>
      have := (peaceB_takes hb j).mp hp p.1 p.2 h1.1 h1.2
      rw [h2] at this
      cases this
/-- the search as a function, to be run -/
def firstF (j : Bool) (ns : List Int) : Option (Nat × Nat) := (List.range ns.length).findSome? fun b => ((List.range b).find? fun a => takes j ns a b).map fun a => (a, b)
end QR

namespace QR
open PySem PySem.Spec PyProof.Rows L2 Evl
section
variable {P : Program} {w : World} {K : PySem.W.Frag} {mg : Str → Option Value} {base : Heap} {xa : Ek → Addr}
/-! ### take, take_joined -/
def spTk (K : PySem.W.Frag) (j : Bool) : Sp := fun vs H Q _ => ∃ (q : Addr) (ns : List Int) (a b : Nat), vs = [.ref q, .int (a : Int), .int (b : Int)] ∧ SqL K H q (ns.map V.int) ∧ a < ns.length ∧ b < ns.length ∧ RetV (.bl (takes j ns a b)) H Q
theorem ok_take {f : Addr} {fd : FuncData} (F : Fun K "take" "take" s_take f fd) (B : Bl mg) : FnOk P w K mg base (L2.CX P w) 1 f fd ["setting", "one", "other"] (spTk K false) := by
  refine okB F sc_take (fun vs H Q E h => ?_) (fun cdv A outer s H vs Q E hr h => ?_)
  · obtain ⟨q, ns, a, b, rfl, _⟩ := h
    rfl
  · obtain ⟨q, ns, a, b, rfl, hq, ha, hb, k⟩ := h
    have nd := sc_take.nd
    refine BW.asg 3 nd (EV.abs B.abs (EV.sub (EV.ixL (EV.var 0 rfl) (EV.var 1 rfl) hq (at_ints ha)) (EV.ixL (EV.var 0 rfl) (EV.var 2 rfl) hq (at_ints hb)))) fun H1 e1 => ?_
    exact BW.ret (EV.or2 (EV.eq (EV.var 3 rfl) EV.int) (fun _ => EV.eq (EV.var 3 rfl) (EV.abs B.abs (EV.sub (EV.var 1 rfl) (EV.var 2 rfl))))) fun H2 e2 => k H2 (e1.trans e2)
theorem ok_take_joined {f : Addr} {fd : FuncData} (F : Fun K "take_joined" "take_joined" s_take_joined f fd) (B : Bl mg) : FnOk P w K mg base (L2.CX P w) 1 f fd ["setting", "one", "other"] (spTk K true) := by
  refine okB F sc_take_joined (fun vs H Q E h => ?_) (fun cdv A outer s H vs Q E hr h => ?_)
  · obtain ⟨q, ns, a, b, rfl, _⟩ := h
    rfl
  · obtain ⟨q, ns, a, b, rfl, hq, ha, hb, k⟩ := h
    have nd := sc_take_joined.nd
    have hlen : ((ns.map V.int).length : Int) = (ns.length : Int) := by simp
    refine BW.asg 3 nd (EV.isI (EV.len B.len (EV.var 0 rfl) hq) hlen) fun H1 e1 => ?_
    refine BW.asg 4 nd (EV.sub (EV.ixL (EV.var 0 rfl) (EV.var 1 rfl) (ex_l e1 hq) (at_ints ha)) (EV.ixL (EV.var 0 rfl) (EV.var 2 rfl) (ex_l e1 hq) (at_ints hb))) fun H2 e2 => ?_
    exact BW.ret (EV.or3 (EV.eq (EV.var 4 rfl) EV.int) (fun _ => EV.eq (EV.mod (EV.add (EV.sub (EV.var 4 rfl) (EV.var 1 rfl)) (EV.var 2 rfl)) (EV.var 3 rfl) (by omega)) EV.int) (fun _ _ => EV.eq (EV.mod (EV.sub (EV.add (EV.var 4 rfl) (EV.var 1 rfl)) (EV.var 2 rfl)) (EV.var 3 rfl) (by omega)) EV.int)) fun H3 e3 => k H3 ((e1.trans e2).trans e3)
theorem sv_tk {H : Hp} {j : Bool} {q : Addr} {ns : List Int} {a b : Nat} (hq : SqL K H q (ns.map V.int)) (ha : a < ns.length) (hb : b < ns.length) : SpV (spTk K j) [.ref q, .int (a : Int), .int (b : Int)] H (.bl (takes j ns a b)) := fun H1 e1 Q k _ => ⟨q, ns, a, b, rfl, ex_l e1 hq, ha, hb, k⟩
/-! ### first_taking -/
def RetF (o : Option (Nat × Nat)) (H : Hp) (Q : VK) : Prop := (o = none → RetV .non H Q) ∧ ∀ a b, o = some (a, b) → ∀ p H2, H p = none → Ex H H2 → H2 p = some (.tup [.int (a : Int), .int (b : Int)]) → Q (.ref p) H2
def spFirst (P : Program) (w : World) (K : PySem.W.Frag) (mg : Str → Option Value) (base : Heap) : Sp := fun vs H Q _ => ∃ (q f : Addr) (ns : List Int) (j : Bool) (o : Option (Nat × Nat)), vs = [.ref q, .ref f] ∧ SqL K H q (ns.map V.int) ∧ ns.length ≤ 1000 ∧ Hc P w K mg base 1 f (spTk K j) ∧ FirstIs j ns o ∧ RetF o H Q
theorem ok_first_taking {f : Addr} {fd : FuncData} (F : Fun K "first_taking" "first_taking" s_first_taking f fd) (B : Bl mg) : FnOk P w K mg base (L2.CX P w) 2 f fd ["setting", "taking"] (spFirst P w K mg base) := by
  refine okB F sc_first_taking (fun vs H Q E h => ?_) (fun cdv A outer s H vs Q E hr h => ?_)
  · obtain ⟨q, g, ns, j, o, rfl, _⟩ := h
    rfl
  · obtain ⟨q, g, ns, j, o, rfl, hq, hl, hc, ho, k⟩ := h
    have nd := sc_first_taking.nd
    have hlen : ((ns.map V.int).length : Int) = (ns.length : Int) := by simp
    refine BW.forR 2 B.range nd (EV.isI (EV.len B.len (EV.var 0 rfl) hq) hlen) ⟨by omega, by omega⟩ (fun i σ' H' => Ex H H' ∧ (∀ b, b < i → ∀ a, a < b → takes j ns a b = false) ∧ ∃ y2 y3, σ' = [some (.ref q), some (.ref g), y2, y3]) (fun H1 e1 => ⟨e1, fun b hb => by omega, _, _, rfl⟩) ?_ ?_
    · rintro i σ' H' hi ⟨ex, hf, y2, y3, rfl⟩
      refine BW.forR 3 B.range nd (EV.var 2 rfl) ⟨by omega, by omega⟩ (fun i2 σ' H' => Ex H H' ∧ (∀ a, a < i2 → takes j ns a i = false) ∧ ∃ y3, σ' = [some (.ref q), some (.ref g), some (.int (i : Int)), y3]) (fun H1 e1 => ⟨ex.trans e1, fun b hb => by omega, _, rfl⟩) ?_ ?_
      · rintro i2 σ2 H2 hi2 ⟨ex2, hf2, y3, rfl⟩
        refine BW.when (TV.val (EV.callL 1 hc hr rfl (AV.three (EV.var 0 rfl) (EV.var 3 rfl) (EV.var 2 rfl)) (sv_tk (ex_l ex2 hq) (by omega) (by omega)))) (fun hk H3 e3 => ?_) (fun hk H3 e3 => ?_)
        · have hfi : IsFirst j ns i2 i := ⟨⟨by omega, by omega⟩, hk, hf, hf2⟩
          have e : o = some (i2, i) := first_some ho hfi
          refine BW.retU (EU.tup (AV.two (EV.var 3 rfl) (EV.var 2 rfl))) fun p H4 np e4 hp => k.2 i2 i e p H4 (fresh_back (ex2.trans e3) np) ((ex2.trans e3).trans e4) hp
        · refine BW.nil ⟨ex2.trans e3, fun a ha => ?_, _, rfl⟩
          by_cases h : a < i2
          · exact hf2 a h
          · have : a = i2 := by omega
            subst this
            exact hk
      · rintro σ2 H2 ⟨ex2, hf2, y3, rfl⟩
        refine BW.nil ⟨ex2, fun b hb a ha => ?_, _, _, rfl⟩
        by_cases h : b < i
        · exact hf b h a ha
        · have : b = i := by omega
          subst this
          exact hf2 a (by omega)
    · rintro σ' H' ⟨ex, hf, y2, y3, rfl⟩
      have e : o = none := first_none ho fun b hb a ha => hf b (by omega) a ha
      exact BW.ret EV.non fun H2 e2 => k.1 e H2 (ex.trans e2)
end
section
variable {P : Program} {w : World} {K : PySem.W.Frag} {mg : Str → Option Value} {base : Heap} {xa : Ek → Addr} {ad : Kd → Addr} {CA : Addr}
/-- o is None of what first_taking tells -/
theorem EV.firstN {X : Cx} {e a b : Expr} {σ : L2.St} {H : Hp} {p pos pos2 : Pos} {k : Nat} {o : Option (Nat × Nat)} {ns : List Int} {j : Bool} {q g : Addr} (C : Fc X.prog X.w X.K X.mg X.base 2 "first_taking" (spFirst X.prog X.w X.K X.mg X.base)) (hr : Room k X.A)
    (ha : EV X a σ H (.ref q)) (hb : EV X b σ H (.ref g)) (hc : Hc X.prog X.w X.K X.mg X.base 1 g (spTk X.K j)) (hq : SqL X.K H q (ns.map V.int)) (hl : ns.length ≤ 1000) (ho : FirstIs j ns o) (hn : EV X e σ H .non) (hk : 2 ≤ k := by decide) (hg : Gl X "first_taking" := by rfl) (hs : [a, b].all noStar = true := by rfl) :
    EV X (.Compare (.Call (.Name "first_taking" p) [a, b] [] pos2) [.Is] [e] pos) σ H (.bl o.isNone) := by
  refine EV.of (pe_cmpR op_isN pe_self pe_self (nomark _)) fun H1 e1 Q kq => ?_
  refine EW.call C hr (AV.ev (AV.two ha hb) H1 e1 _ fun H2 e2 => ⟨q, g, ns, j, o, rfl, ex_l (e1.trans e2) hq, hl, hc, ho, ?_, ?_⟩) hk hg hs
  · intro h H3 e3
    refine hn.ev H3 ((e1.trans e2).trans e3) _ fun H4 e4 => ⟨rfl, ?_⟩
    subst h
    exact kq H4 ((e2.trans e3).trans e4)
  · intro x y h r H3 nr e3 hr3
    refine hn.ev H3 ((e1.trans e2).trans e3) _ fun H4 e4 => ⟨rfl, ?_⟩
    subst h
    exact kq H4 ((e2.trans e3).trans e4)
/-! ### the answers' shows -/
def spPeaceShows (K : PySem.W.Frag) (j : Bool) (C : Addr) : Sp := fun vs H Q _ => ∃ (p dx q : Addr) (ns : List Int) (o : Option (Nat × Nat)), vs = [.ref p, .ref q] ∧ H p = some (.ins C dx []) ∧ SqL K H q (ns.map V.int) ∧ ns.length ≤ 1000 ∧ FirstIs j ns o ∧ RetV (.bl o.isNone) H Q
theorem ok_Peace_shows {f C : Addr} {fd : FuncData} (F : Fun K "shows" "Peace.shows" s_Peace_shows f fd) (c_first : Fc P w K mg base 2 "first_taking" (spFirst P w K mg base)) (c_take : Fc P w K mg base 1 "take" (spTk K false)) : FnOk P w K mg base (L2.CX P w) 3 f fd ["self", "setting"] (spPeaceShows K false C) := by
  obtain ⟨g, gm, hc⟩ := Hc.of c_take
  refine okB F sc_Peace_shows (fun vs H Q E h => ?_) (fun cdv A outer s H vs Q E hr h => ?_)
  · obtain ⟨p, dx, q, ns, o, rfl, _⟩ := h
    rfl
  · obtain ⟨p, dx, q, ns, o, rfl, hp, hq, hl, ho, k⟩ := h
    exact BW.ret (EV.firstN c_first hr (EV.var 1 rfl) (EV.glob gm) hc hq hl ho EV.non) k
theorem ok_JoinedPeace_shows {f C : Addr} {fd : FuncData} (F : Fun K "shows" "JoinedPeace.shows" s_JoinedPeace_shows f fd) (c_first : Fc P w K mg base 2 "first_taking" (spFirst P w K mg base)) (c_take : Fc P w K mg base 1 "take_joined" (spTk K true)) : FnOk P w K mg base (L2.CX P w) 3 f fd ["self", "setting"] (spPeaceShows K true C) := by
  obtain ⟨g, gm, hc⟩ := Hc.of c_take
  refine okB F sc_JoinedPeace_shows (fun vs H Q E h => ?_) (fun cdv A outer s H vs Q E hr h => ?_)
  · obtain ⟨p, dx, q, ns, o, rfl, _⟩ := h
    rfl
  · obtain ⟨p, dx, q, ns, o, rfl, hp, hq, hl, ho, k⟩ := h
    exact BW.ret (EV.firstN c_first hr (EV.var 1 rfl) (EV.glob gm) hc hq hl ho EV.non) k
theorem ok_Take_init {f C : Addr} {fd : FuncData} {x : Str} (F : Fun K "__init__" "Take.__init__" s_Take___init__ f fd) (c : Cs K mg x C ["one", "other"]) : FnOk P w K mg base (L2.CX P w) 1 f fd ["self", "one", "other"] (spInit C ["one", "other"]) := by
  refine okB F sc_Take___init__ (fun vs H Q E h => ?_) (fun cdv A outer s H vs Q E hr h => ?_)
  · obtain ⟨q, dx, us, rfl, hl, _⟩ := h
    simpa using hl
  · obtain ⟨q, dx, us, rfl, hl, hq, k⟩ := h
    obtain ⟨u, v, rfl⟩ : ∃ u v, us = [u, v] := match us, hl with | [u, v], _ => ⟨u, v, rfl⟩
    refine BW.setF (EV.var 1 rfl) (EV.var 0 rfl) hq c.cl (c.na _ (by decide)) (by decide) fun H1 e1 => ?_
    refine BW.setF (EV.var 2 rfl) (EV.var 0 rfl) upd_same c.cl (c.na _ (by decide)) (Nat.le_of_ble_eq_true rfl) fun H2 e2 => BW.nil (k _ (fun b u hb hu => ?_) upd_same)
    rw [upd_ne hb]
    refine e2 _ _ ?_
    rw [upd_ne hb]
    exact e1 _ _ hu
theorem ok_JoinedTake_init {f C : Addr} {fd : FuncData} {x : Str} (F : Fun K "__init__" "JoinedTake.__init__" s_JoinedTake___init__ f fd) (c : Cs K mg x C ["one", "other"]) : FnOk P w K mg base (L2.CX P w) 1 f fd ["self", "one", "other"] (spInit C ["one", "other"]) := by
  refine okB F sc_JoinedTake___init__ (fun vs H Q E h => ?_) (fun cdv A outer s H vs Q E hr h => ?_)
  · obtain ⟨q, dx, us, rfl, hl, _⟩ := h
    simpa using hl
  · obtain ⟨q, dx, us, rfl, hl, hq, k⟩ := h
    obtain ⟨u, v, rfl⟩ : ∃ u v, us = [u, v] := match us, hl with | [u, v], _ => ⟨u, v, rfl⟩
    refine BW.setF (EV.var 1 rfl) (EV.var 0 rfl) hq c.cl (c.na _ (by decide)) (by decide) fun H1 e1 => ?_
    refine BW.setF (EV.var 2 rfl) (EV.var 0 rfl) upd_same c.cl (c.na _ (by decide)) (Nat.le_of_ble_eq_true rfl) fun H2 e2 => BW.nil (k _ (fun b u hb hu => ?_) upd_same)
    rw [upd_ne hb]
    refine e2 _ _ ?_
    rw [upd_ne hb]
    exact e1 _ _ hu
/-- whether the two rows are in order and take one another -/
def tkShows (j : Bool) (ns : List Int) (a b : Int) : Bool := (decide (0 ≤ a) && (decide (a < b) && decide (b < (ns.length : Int)))) && takes j ns a.toNat b.toNat
def fsT (a b : Int) : List (Str × V) := [("one", .int a), ("other", .int b)]
def spTakeShows (K : PySem.W.Frag) (j : Bool) (C : Addr) : Sp := fun vs H Q _ => ∃ (p dx q : Addr) (ns : List Int) (a b : Int), vs = [.ref p, .ref q] ∧ H p = some (.ins C dx (fsT a b)) ∧ SqL K H q (ns.map V.int) ∧ RetV (.bl (tkShows j ns a b)) H Q
theorem ok_Take_shows {f C : Addr} {fd : FuncData} {x : Str} (F : Fun K "shows" "Take.shows" s_Take_shows f fd) (B : Bl mg) (c : Cs K mg x C ["one", "other"]) (c_take : Fc P w K mg base 1 "take" (spTk K false)) : FnOk P w K mg base (L2.CX P w) 2 f fd ["self", "setting"] (spTakeShows K false C) := by
  refine okB F sc_Take_shows (fun vs H Q E h => ?_) (fun cdv A outer s H vs Q E hr h => ?_)
  · obtain ⟨p, dx, q, ns, a, b, rfl, _⟩ := h
    rfl
  · obtain ⟨p, dx, q, ns, a, b, rfl, hp, hq, k⟩ := h
    have n1 := c.na "one" (by decide)
    have n2 := c.na "other" (by decide)
    have l1 : (fsT a b).lookup ("one" : Str) = some (V.int a) := rfl
    have l2 : (fsT a b).lookup ("other" : Str) = some (V.int b) := rfl
    have hlen : ((ns.map V.int).length : Int) = (ns.length : Int) := by simp
    refine BW.ret (EV.and2 (EV.leLtLt EV.int (EV.fld (EV.var 0 rfl) hp c.cl n1 l1) (EV.fld (EV.var 0 rfl) hp c.cl n2 l2) (EV.isI (EV.len B.len (EV.var 1 rfl) hq) hlen)) (fun h1 => ?_)) k
    simp only [Bool.and_eq_true, decide_eq_true_eq] at h1
    have ea : a = ((a.toNat : Nat) : Int) := by omega
    have eb : b = ((b.toNat : Nat) : Int) := by omega
    exact EV.call c_take hr (AV.three (EV.var 1 rfl) (EV.is (EV.fld (EV.var 0 rfl) hp c.cl n1 l1) (congrArg V.int ea)) (EV.is (EV.fld (EV.var 0 rfl) hp c.cl n2 l2) (congrArg V.int eb))) (sv_tk hq (by omega) (by omega))
theorem ok_JoinedTake_shows {f C : Addr} {fd : FuncData} {x : Str} (F : Fun K "shows" "JoinedTake.shows" s_JoinedTake_shows f fd) (B : Bl mg) (c : Cs K mg x C ["one", "other"]) (c_take : Fc P w K mg base 1 "take_joined" (spTk K true)) : FnOk P w K mg base (L2.CX P w) 2 f fd ["self", "setting"] (spTakeShows K true C) := by
  refine okB F sc_JoinedTake_shows (fun vs H Q E h => ?_) (fun cdv A outer s H vs Q E hr h => ?_)
  · obtain ⟨p, dx, q, ns, a, b, rfl, _⟩ := h
    rfl
  · obtain ⟨p, dx, q, ns, a, b, rfl, hp, hq, k⟩ := h
    have n1 := c.na "one" (by decide)
    have n2 := c.na "other" (by decide)
    have l1 : (fsT a b).lookup ("one" : Str) = some (V.int a) := rfl
    have l2 : (fsT a b).lookup ("other" : Str) = some (V.int b) := rfl
    have hlen : ((ns.map V.int).length : Int) = (ns.length : Int) := by simp
    refine BW.ret (EV.and2 (EV.leLtLt EV.int (EV.fld (EV.var 0 rfl) hp c.cl n1 l1) (EV.fld (EV.var 0 rfl) hp c.cl n2 l2) (EV.isI (EV.len B.len (EV.var 1 rfl) hq) hlen)) (fun h1 => ?_)) k
    simp only [Bool.and_eq_true, decide_eq_true_eq] at h1
    have ea : a = ((a.toNat : Nat) : Int) := by omega
    have eb : b = ((b.toNat : Nat) : Int) := by omega
    exact EV.call c_take hr (AV.three (EV.var 1 rfl) (EV.is (EV.fld (EV.var 0 rfl) hp c.cl n1 l1) (congrArg V.int ea)) (EV.is (EV.fld (EV.var 0 rfl) hp c.cl n2 l2) (congrArg V.int eb))) (sv_tk hq (by omega) (by omega))
end
end QR

namespace QR
open PySem PySem.Spec PyProof.Rows L2 Evl
/-! ### the answers' own words -/
structure Sw (P : Program) (w : World) (K : PySem.W.Frag) (mg : Str → Option Value) (base : Heap) (ad : Kd → Addr) : Prop where
  sS : Mc P w K mg base 2 (ad .S) "shows" (spStepShows (ad .S))
  sB : Mc P w K mg base 2 (ad .B) "shows" (spBarShows (ad .B))
  sP : Mc P w K mg base 3 (ad .P) "shows" (spPeaceShows K false (ad .P))
  sJP : Mc P w K mg base 3 (ad .JP) "shows" (spPeaceShows K true (ad .JP))
  sT : Mc P w K mg base 2 (ad .T) "shows" (spTakeShows K false (ad .T))
  sJT : Mc P w K mg base 2 (ad .JT) "shows" (spTakeShows K true (ad .JT))
/-- how they are made -/
structure Mw (P : Program) (w : World) (K : PySem.W.Frag) (mg : Str → Option Value) (base : Heap) (ad : Kd → Addr) : Prop where
  kS : Kc P w K mg base 1 "Step" (ad .S) (spInit (ad .S) ["step"])
  kB : Kc P w K mg base 1 "Barred" (ad .B) (spInit (ad .B) ["by"])
  kT : Kc P w K mg base 1 "Take" (ad .T) (spInit (ad .T) ["one", "other"])
  kJT : Kc P w K mg base 1 "JoinedTake" (ad .JT) (spInit (ad .JT) ["one", "other"])
  kP : MkN K (ad .P)
  kJP : MkN K (ad .JP)
section
variable {P : Program} {w : World} {K : PySem.W.Frag} {mg : Str → Option Value} {base : Heap} {ad : Kd → Addr}
theorem sv_tkShows {j : Bool} {C : Addr} {H : Hp} {p dx q : Addr} {ns : List Int} {a b : Int} (hp : H p = some (.ins C dx (fsT a b))) (hq : SqL K H q (ns.map V.int)) : SpV (spTakeShows K j C) [.ref p, .ref q] H (.bl (tkShows j ns a b)) := fun H1 e1 Q k _ => ⟨p, dx, q, ns, a, b, rfl, e1 _ _ hp, ex_l e1 hq, k⟩
theorem sv_pcShows {j : Bool} {C : Addr} {H : Hp} {p dx q : Addr} {ns : List Int} {o : Option (Nat × Nat)} (hp : H p = some (.ins C dx [])) (hq : SqL K H q (ns.map V.int)) (hl : ns.length ≤ 1000) (ho : FirstIs j ns o) : SpV (spPeaceShows K j C) [.ref p, .ref q] H (.bl o.isNone) := fun H1 e1 Q k _ => ⟨p, dx, q, ns, o, rfl, e1 _ _ hp, ex_l e1 hq, hl, ho, k⟩
theorem sv_stepShows {C : Addr} {H : Hp} {q dx : Addr} {t n : Int} (hq : H q = some (.ins C dx [("step", .int t)])) (hn : 0 ≤ n) : SpV (spStepShows C) [.ref q, .int n] H (.bl (stepB t n)) := fun H1 e1 Q k _ => ⟨q, dx, t, n, rfl, e1 _ _ hq, hn, k⟩
theorem sv_barShows {C : Addr} {H : Hp} {q dx : Addr} {t n : Int} (hq : H q = some (.ins C dx [("by", .int t)])) : SpV (spBarShows C) [.ref q, .int n] H (.bl (barB t n)) := fun H1 e1 Q k _ => ⟨q, dx, t, n, rfl, e1 _ _ hq, k⟩
end
section
variable {X : Cx} {e a b c o : Expr} {es : List Expr} {σ : L2.St} {H : Hp} {pos p pf apos : Pos} {ad : Kd → Addr} {j k : Nat} {ns : List Int} {i l n t : Int}
/-- a call of shows; pl is found by rfl -/
theorem EV.shT {jd : Bool} {C : Addr} {pl : Sem Bool} (M : Mc X.prog X.w X.K X.mg X.base 2 C "shows" (spTakeShows X.K jd C)) (hr : Room j X.A) (h : EX X o σ H (.ins C (fsT i l))) (ha : EX X a σ H (Sh.ints ns)) (hk : 2 ≤ j := by decide) (hs : noStar a = true := by rfl)
    (ht : eval (.Call (.Attribute o "shows" apos) [a] [] pos) X.env = (do
      let ov ← eval o X.env
      standAt apos.atName
      let (f, first) ← holding [ov] (getMethod ov "shows" pl)
      callWith pos f first (backTo pos (starEach [a] X.env)) (backToKw pos (keywordEach [] X.env))) := by rfl) : EV X (.Call (.Attribute o "shows" apos) [a] [] pos) σ H (.bl (tkShows jd ns i l)) :=
  EV.methX (pl := pl) M hr h rfl (AX.one ha) (fun q dx vs H1 e1 hq hvs => by
    obtain ⟨u, rfl, hu⟩ := hvs.one
    obtain ⟨r, rfl, hr⟩ := hu.ofInts
    exact sv_tkShows hq hr) hk (by simp [hs]) ht
theorem EV.shP {jd : Bool} {C : Addr} {oo : Option (Nat × Nat)} {pl : Sem Bool} (M : Mc X.prog X.w X.K X.mg X.base 3 C "shows" (spPeaceShows X.K jd C)) (hr : Room j X.A) (h : EX X o σ H (.ins C [])) (ha : EX X a σ H (Sh.ints ns)) (hl : ns.length ≤ 1000) (ho : FirstIs jd ns oo) (hk : 3 ≤ j := by decide) (hs : noStar a = true := by rfl)
    (ht : eval (.Call (.Attribute o "shows" apos) [a] [] pos) X.env = (do
      let ov ← eval o X.env
      standAt apos.atName
      let (f, first) ← holding [ov] (getMethod ov "shows" pl)
      callWith pos f first (backTo pos (starEach [a] X.env)) (backToKw pos (keywordEach [] X.env))) := by rfl) : EV X (.Call (.Attribute o "shows" apos) [a] [] pos) σ H (.bl oo.isNone) :=
  EV.methX (pl := pl) M hr h rfl (AX.one ha) (fun q dx vs H1 e1 hq hvs => by
    obtain ⟨u, rfl, hu⟩ := hvs.one
    obtain ⟨r, rfl, hr⟩ := hu.ofInts
    exact sv_pcShows hq hr hl ho) hk (by simp [hs]) ht
theorem EV.shS {C : Addr} {pl : Sem Bool} (M : Mc X.prog X.w X.K X.mg X.base 2 C "shows" (spStepShows C)) (hr : Room j X.A) (h : EX X o σ H (.ins C [("step", .int t)])) (ha : EV X a σ H (.int n)) (hn : 0 ≤ n) (hk : 2 ≤ j := by decide) (hs : noStar a = true := by rfl)
    (ht : eval (.Call (.Attribute o "shows" apos) [a] [] pos) X.env = (do
      let ov ← eval o X.env
      standAt apos.atName
      let (f, first) ← holding [ov] (getMethod ov "shows" pl)
      callWith pos f first (backTo pos (starEach [a] X.env)) (backToKw pos (keywordEach [] X.env))) := by rfl) : EV X (.Call (.Attribute o "shows" apos) [a] [] pos) σ H (.bl (stepB t n)) :=
  EV.methX (pl := pl) M hr h rfl (AX.one (EX.vv ha)) (fun q dx vs H1 e1 hq hvs => by
    obtain ⟨u, rfl, hu⟩ := hvs.one
    cases hu.vv
    exact sv_stepShows hq hn) hk (by simp [hs]) ht
theorem EV.shB {C : Addr} {pl : Sem Bool} (M : Mc X.prog X.w X.K X.mg X.base 2 C "shows" (spBarShows C)) (hr : Room j X.A) (h : EX X o σ H (.ins C [("by", .int t)])) (ha : EV X a σ H (.int n)) (hk : 2 ≤ j := by decide) (hs : noStar a = true := by rfl)
    (ht : eval (.Call (.Attribute o "shows" apos) [a] [] pos) X.env = (do
      let ov ← eval o X.env
      standAt apos.atName
      let (f, first) ← holding [ov] (getMethod ov "shows" pl)
      callWith pos f first (backTo pos (starEach [a] X.env)) (backToKw pos (keywordEach [] X.env))) := by rfl) : EV X (.Call (.Attribute o "shows" apos) [a] [] pos) σ H (.bl (barB t n)) :=
  EV.methX (pl := pl) M hr h rfl (AX.one (EX.vv ha)) (fun q dx vs H1 e1 hq hvs => by
    obtain ⟨u, rfl, hu⟩ := hvs.one
    cases hu.vv
    exact sv_barShows hq) hk (by simp [hs]) ht
theorem EX.mkT (M : Mw X.prog X.w X.K X.mg X.base ad) (hr : Room j X.A) (ha : EV X a σ H (.int i)) (hb : EV X b σ H (.int l)) (hk : 2 ≤ j := by decide) (hg : Gl X "Take" := by rfl) (hs : [a, b].all noStar = true := by rfl) : EX X (.Call (.Name "Take" p) [a, b] [] pos) σ H (.ins (ad .T) (fsT i l)) := EX.ins (EI.make M.kT hr (AV.two ha hb) rfl hk hg hs)
theorem EX.mkJT (M : Mw X.prog X.w X.K X.mg X.base ad) (hr : Room j X.A) (ha : EV X a σ H (.int i)) (hb : EV X b σ H (.int l)) (hk : 2 ≤ j := by decide) (hg : Gl X "JoinedTake" := by rfl) (hs : [a, b].all noStar = true := by rfl) : EX X (.Call (.Name "JoinedTake" p) [a, b] [] pos) σ H (.ins (ad .JT) (fsT i l)) := EX.ins (EI.make M.kJT hr (AV.two ha hb) rfl hk hg hs)
theorem EX.mkS (M : Mw X.prog X.w X.K X.mg X.base ad) (hr : Room j X.A) (ha : EV X a σ H (.int i)) (hk : 2 ≤ j := by decide) (hg : Gl X "Step" := by rfl) (hs : [a].all noStar = true := by rfl) : EX X (.Call (.Name "Step" p) [a] [] pos) σ H (.ins (ad .S) [("step", .int i)]) := EX.ins (EI.make M.kS hr (AV.one ha) rfl hk hg hs)
theorem EX.mkB (M : Mw X.prog X.w X.K X.mg X.base ad) (hr : Room j X.A) (ha : EV X a σ H (.int i)) (hk : 2 ≤ j := by decide) (hg : Gl X "Barred" := by rfl) (hs : [a].all noStar = true := by rfl) : EX X (.Call (.Name "Barred" p) [a] [] pos) σ H (.ins (ad .B) [("by", .int i)]) := EX.ins (EI.make M.kB hr (AV.one ha) rfl hk hg hs)
theorem EX.mkP (M : Mw X.prog X.w X.K X.mg X.base ad) {CA : Addr} (A : Ans X.K X.mg ad CA) (hg : Gl X "Peace" := by rfl) : EX X (.Call (.Name "Peace" p) [] [] pos) σ H (.ins (ad .P) []) := EX.ins (EI.make0 M.kP (A.cs .P).mg hg)
theorem EX.mkJP (M : Mw X.prog X.w X.K X.mg X.base ad) {CA : Addr} (A : Ans X.K X.mg ad CA) (hg : Gl X "JoinedPeace" := by rfl) : EX X (.Call (.Name "JoinedPeace" p) [] [] pos) σ H (.ins (ad .JP) []) := EX.ins (EI.make0 M.kJP (A.cs .JP).mg hg)
end
end QR

namespace QR
open PySem PySem.Spec PyProof.Rows L2 Evl
/-! ### check_setting -/
def colB (n : Nat) : V → Bool
  | .int i => decide (0 ≤ i) && decide (i < (n : Int))
  | _ => false
def ckList (xs : List V) : Option Ek := if (1 ≤ xs.length ∧ xs.length ≤ 200) ∧ xs.all (colB xs.length) = true then none else some .setting
inductive SetIs (K : PySem.W.Frag) (H : Hp) : V → Option Ek → Prop
  | lst {p : Addr} {xs : List V} : SqL K H p xs → (∀ y ∈ xs, Kd? K H y) → SetIs K H (.ref p) (ckList xs)
  | oth {x : V} {n : String} : TyX K H x (.type n) → n ∈ kinds → n ≠ "list" → SetIs K H x (some .setting)
theorem SetIs.ex {K : PySem.W.Frag} {H H' : Hp} {x : V} {o : Option Ek} (h : SetIs K H x o) (e : Ex H H') : SetIs K H' x o := by
  cases h with
  | lst a b => exact .lst (ex_l e a) fun y hy => (b y hy).ex e
  | oth a b c => exact .oth (TyX.ex a e) b c
theorem SetIs.no {K : PySem.W.Frag} {H : Hp} {x : V} {o : Option Ek} (h : SetIs K H x o) : o = none ∨ o = some .setting := by
  cases h with
  | lst a b =>
    unfold ckList
    split
    · exact .inl rfl
    · exact .inr rfl
  | oth a b c => exact .inr rfl
theorem nolist : ∀ n ∈ kinds, n ≠ "list" → kitB n "list" = some false := by decide +kernel
theorem ckList_ints {ns : List Int} (h1 : 1 ≤ ns.length) (h2 : ns.length ≤ 200) (hb : ∀ c ∈ ns, 0 ≤ c ∧ c < (ns.length : Int)) : ckList (ns.map V.int) = none := by
  unfold ckList
  rw [if_pos]
  refine ⟨by rw [List.length_map]; exact ⟨h1, h2⟩, List.all_eq_true.mpr fun x hx => ?_⟩
  obtain ⟨c, hc, rfl⟩ := List.mem_map.mp hx
  have := hb c hc
  simp [colB, this]
theorem SetIs.ints {K : PySem.W.Frag} {H : Hp} {p : Addr} {ns : List Int} (h : SqL K H p (ns.map V.int)) (h1 : 1 ≤ ns.length) (h2 : ns.length ≤ 200) (hb : ∀ c ∈ ns, 0 ≤ c ∧ c < (ns.length : Int)) : SetIs K H (.ref p) none := by
  rw [← ckList_ints h1 h2 hb]
  exact .lst h fun y hy => by
    obtain ⟨c, hc, rfl⟩ := List.mem_map.mp hy
    exact Kd?.int
def spCkSetting (K : PySem.W.Frag) (xa : Ek → Addr) : Sp := fun vs H Q E => ∃ x o, vs = [x] ∧ SetIs K H x o ∧ Res xa o .non H Q E
section
variable {P : Program} {w : World} {K : PySem.W.Frag} {mg : Str → Option Value} {base : Heap} {xa : Ek → Addr}
theorem ok_check_setting {f : Addr} {fd : FuncData} (F : Fun K "check_setting" "check_setting" s_check_setting f fd) (B : Bl mg) (Cn : Fc P w K mg base 1 "is_number" (spIsNum K)) (xS : Xc K mg "BadSetting" (xa .setting)) (gM : ∃ t, mg "MOST" = some (.int 200 t)) : FnOk P w K mg base (L2.CX P w) 2 f fd ["setting"] (spCkSetting K xa) := by
  obtain ⟨tM, gM⟩ := gM
  refine okR F sc_check_setting (fun vs H Q E h => ?_) (fun cdv A outer s H vs Q E hr h => ?_)
  · obtain ⟨x, o, rfl, _⟩ := h
    rfl
  · obtain ⟨x, o, rfl, hx, q⟩ := h
    have nd := sc_check_setting.nd
    cases hx with
    | oth ty hk hn =>
      refine BW.take (TV.is (TV.or2 (k2 := false) (TV.not (TV.val (EV.isT B.isinstance B.list boot_list' (EV.var 0 rfl) ty (k := false) (nolist _ hk hn)))) (fun z => nomatch z)) rfl) fun H1 e1 => ?_
      exact BW.raise xS (takes_of rfl rfl rfl rfl) (q H1 e1)
    | @lst p xs hp hk =>
      refine BW.when (TV.or2 (TV.not (TV.val (EV.isT B.isinstance B.list boot_list' (EV.var 0 rfl) (ty_list hp) (k := true) (by decide +kernel)))) (fun _ => TV.not (TV.leLe EV.int (EV.len B.len (EV.var 0 rfl) hp) (EV.globI gM)))) (fun hk1 H1 e1 => ?_) (fun hk1 H1 e1 => ?_)
      · refine BW.raise xS (takes_of rfl rfl rfl rfl) (q.bad ?_ H1 e1)
        unfold ckList
        rw [if_neg]
        rintro ⟨⟨z1, z2⟩, _⟩
        simp only [Bool.not_true, Bool.false_or, Bool.not_eq_true', Bool.and_eq_false_iff, decide_eq_false_iff_not] at hk1
        omega
      · have hl : 1 ≤ (xs.length : Int) ∧ (xs.length : Int) ≤ 200 := by
          have hk2 := hk1
          simp only [Bool.not_true, Bool.false_or, Bool.not_eq_false', Bool.and_eq_true, decide_eq_true_eq] at hk2
          exact hk2
        refine BW.when (TV.not (TV.val (EV.allN (bs := xs.map (colB xs.length)) B.all (EL.is (LC.list (j := 1) (fun i => .bl (colB xs.length (xs.getD i .non))) nd (blkOk_by (N := n_check_setting) (sc := defScope s_check_setting) (by decide +kernel)) (EV.var 0 rfl) (ex_l e1 hp) (by omega) (fun i y H2 e2 hi s0 H0 C0 cl fp => ?_)).el ?_)))) (fun hk2 H2 e2 => ?_) (fun hk2 H2 e2 => ?_)
        · have hm : y ∈ xs := List.mem_of_getElem? hi
          have hg : xs.getD i .non = y := by rw [List.getD_eq_getElem?_getD, hi]; rfl
          rw [hg]
          have e12 := e1.trans e2
          have kd := (hk y hm).ex e12
          by_cases hb : numB y 0 = true
          · obtain ⟨c, rfl, hc⟩ := numB_int hb
            refine EV.isB (EV.and2 (EV.call Cn hr (AV.two (EV.var 1 rfl) EV.int) (sv_isnum' kd)) (fun _ => EV.lt (EV.var 1 rfl) (EV.len B.len (EV.var 0 rfl) (ex_l e12 hp)))) ?_
            simp [numB, colB]
          · refine EV.isB (EV.and2 (k2 := false) (EV.call Cn hr (AV.two (EV.var 1 rfl) EV.int) (sv_isnum' kd)) (fun z => absurd z hb)) ?_
            have h0 : numB y 0 = false := by simpa using hb
            rw [h0]
            cases y with
            | int c =>
              have : ¬ 0 ≤ c := of_decide_eq_false h0
              simp [colB, this]
            | _ => rfl
        · apply List.ext_getElem
          · simp
          · intro i h1 h2
            simp at h1 h2 ⊢
            rw [List.getElem?_eq_getElem h1]
            rfl
        · refine BW.raise xS (takes_of rfl rfl rfl rfl) (q.bad ?_ H2 (e1.trans e2))
          unfold ckList
          rw [if_neg]
          rintro ⟨_, z⟩
          have : ¬ xs.all (colB xs.length) = true := by
            intro z2
            rw [List.all_map] at hk2
            have : (xs.all (id ∘ colB xs.length)) = true := z2
            rw [this] at hk2
            cases hk2
          exact this z
        · refine BW.nil (q.good ?_ H2 (e1.trans e2))
          unfold ckList
          rw [if_pos]
          refine ⟨by omega, ?_⟩
          rw [List.all_map] at hk2
          have : (xs.all (id ∘ colB xs.length)) = true := by simpa using hk2
          exact this
theorem sx_setg {H : Hp} {x : V} {o : Option Ek} (h : SetIs K H x o) : SpX (spCkSetting K xa) xa [x] H o .non := fun H1 e1 Q E r => ⟨x, o, rfl, h.ex e1, r⟩
end
end QR

namespace QR
open PySem PySem.Spec PyProof.Rows L2 Evl
def RetI' (C : Addr) (fs : List (Str × V)) (H : Hp) (Q : VK) : Prop := ∀ q dx H2, H q = none → Ex H H2 → H2 q = some (.ins C dx fs) → Q (.ref q) H2
/-- what is told -/
def kdT : Bool → Option (Nat × Nat) → Kd
  | false, none => .P
  | false, some _ => .T
  | true, none => .JP
  | true, some _ => .JT
def fsO : Option (Nat × Nat) → List (Str × V)
  | none => []
  | some (a, b) => fsT a b
def spTold (K : PySem.W.Frag) (xa : Ek → Addr) (ad : Kd → Addr) (j : Bool) : Sp := fun vs H Q E => ∃ x o, vs = [x] ∧ SetIs K H x o ∧ (∀ k, o = some k → ∀ H2, Ex H H2 → E (.ref (xa k)) none H2) ∧
  (o = none → ∃ p ns fo, x = .ref p ∧ SqL K H p (ns.map V.int) ∧ ns.length ≤ 200 ∧ FirstIs j ns fo ∧ RetI' (ad (kdT j fo)) (fsO fo) H Q)
section
variable {P : Program} {w : World} {K : PySem.W.Frag} {mg : Str → Option Value} {base : Heap} {xa : Ek → Addr} {ad : Kd → Addr} {CA : Addr}
/-- found = first_taking(setting, g) -/
theorem BW.asgF {X : Cx} {a b : Expr} {rest : List Stmt} {D : Ends} {σ : L2.St} {H : Hp} {p p0 pos pos2 : Pos} {n : Str} {k : Nat} {o : Option (Nat × Nat)} {ns : List Int} {j : Bool} {q g : Addr} (i : Nat) (hN : X.N.Nodup) (C : Fc X.prog X.w X.K X.mg X.base 2 "first_taking" (spFirst X.prog X.w X.K X.mg X.base)) (hr : Room k X.A)
    (ha : EV X a σ H (.ref q)) (hb : EV X b σ H (.ref g)) (hc : Hc X.prog X.w X.K X.mg X.base 1 g (spTk X.K j)) (hq : SqL X.K H q (ns.map V.int)) (hl : ns.length ≤ 1000) (ho : FirstIs j ns o)
    (h1 : o = none → ∀ H1, Ex H H1 → BW X rest D (σ.set i (some .non)) H1) (h2 : ∀ x y, o = some (x, y) → ∀ r H1, Ex H H1 → H1 r = some (.tup [.int (x : Int), .int (y : Int)]) → BW X rest D (σ.set i (some (.ref r))) H1)
    (hk : 2 ≤ k := by decide) (hg : Gl X "first_taking" := by rfl) (hs : [a, b].all noStar = true := by rfl)
    (hi : X.N[i]? = some n := by rfl) (hx : Loc X.env.scope n := by first | exact Or.inl rfl | exact Or.inr rfl) (hw : swapsWith (.Call (.Name "first_taking" p) [a, b] [] pos2) (some (.Name n p0)) pos.line X.env = pure false := by rfl) (hf : X.fn n = true ∨ X.env.scope.names.lookup n = some .local := by first | exact .inl rfl | exact .inr rfl) :
    BW X (.Assign [.Name n p0] (.Call (.Name "first_taking" p) [a, b] [] pos2) pos :: rest) D σ H :=
  BW.asgW hN hi hx (EW.call C hr ((AV.two ha hb).ev H (Ex.refl H) _ fun H2 e2 => ⟨q, g, ns, j, o, rfl, ex_l e2 hq, hl, hc, ho, fun h H3 e3 => h1 h H3 (e2.trans e3), fun x y h r H3 nr e3 hr3 => h2 x y h r H3 (e2.trans e3) hr3⟩) hk hg hs) hw hf
theorem EI.made {X : Cx} {e : Expr} {σ : L2.St} {H : Hp} {C C' : Addr} {fs fs' : List (Str × V)} (h : EI X e σ H C fs) (q : C = C') (r : fs = fs') : EI X e σ H C' fs' := by subst q r; exact h
theorem ok_told {f : Addr} {fd : FuncData} (F : Fun K "told" "told" s_told f fd) (A : Ans K mg ad CA) (M : Mw P w K mg base ad) (Cs : Fc P w K mg base 2 "check_setting" (spCkSetting K xa)) (Cf : Fc P w K mg base 2 "first_taking" (spFirst P w K mg base)) (Ct : Fc P w K mg base 1 "take" (spTk K false)) : FnOk P w K mg base (L2.CX P w) 3 f fd ["setting"] (spTold K xa ad false) := by
  obtain ⟨g, gm, hc⟩ := Hc.of Ct
  refine okR F sc_told (fun vs H Q E h => ?_) (fun cdv Ar outer s H vs Q E hr h => ?_)
  · obtain ⟨x, o, rfl, _⟩ := h
    rfl
  · obtain ⟨x, o, rfl, hx, hE, hG⟩ := h
    have nd := sc_told.nd
    refine BW.exprX Cs hr (takes_of (E := E) rfl rfl rfl rfl) (AV.one (EV.var 0 rfl)) fun H1 e1 => sx_setg hx H1 e1 _ E ?_
    cases o with
    | some k0 => exact fun H2 e2 => hE k0 rfl H2 (e1.trans e2)
    | none =>
      obtain ⟨p, ns, fo, rfl, hp, hl, ho, hQ⟩ := hG rfl
      intro H2 e2
      have e12 := e1.trans e2
      refine BW.asgF 1 nd Cf hr (EV.var 0 rfl) (EV.glob gm) hc (ex_l e12 hp) (by omega) ho (fun hn H3 e3 => ?_) (fun x y hs r H3 e3 hr3 => ?_)
      · refine BW.retI (EI.made (C' := ad (kdT false fo)) (fs' := fsO fo) (EI.ite (TV.isN (EV.var 1 rfl) EV.non) (fun _ => EI.make0 M.kP (A.cs .P).mg) (fun z => by simp at z)) (by rw [hn]; rfl) (by rw [hn]; rfl)) fun r dx H4 nr e4 h4 => hQ r dx H4 (fresh_back (e12.trans e3) nr) ((e12.trans e3).trans e4) h4
      · refine BW.retI (EI.made (C' := ad (kdT false fo)) (fs' := fsO fo) (EI.ite (TV.isN (EV.var 1 rfl) EV.non) (fun z => by simp at z) (fun _ => EI.make M.kT hr (AV.two (EV.ixT (EV.var 1 rfl) EV.int (st_of hr3) (show atI _ (0 : Int) = some _ from rfl)) (EV.ixT (EV.var 1 rfl) EV.int (st_of hr3) (show atI _ (1 : Int) = some _ from rfl))))) (by rw [hs]; rfl) (by rw [hs]; rfl)) fun r dx H4 nr e4 h4 => hQ r dx H4 (fresh_back (e12.trans e3) nr) ((e12.trans e3).trans e4) h4
theorem ok_told_joined {f : Addr} {fd : FuncData} (F : Fun K "told_joined" "told_joined" s_told_joined f fd) (A : Ans K mg ad CA) (M : Mw P w K mg base ad) (Cs : Fc P w K mg base 2 "check_setting" (spCkSetting K xa)) (Cf : Fc P w K mg base 2 "first_taking" (spFirst P w K mg base)) (Ct : Fc P w K mg base 1 "take_joined" (spTk K true)) : FnOk P w K mg base (L2.CX P w) 3 f fd ["setting"] (spTold K xa ad true) := by
  obtain ⟨g, gm, hc⟩ := Hc.of Ct
  refine okR F sc_told_joined (fun vs H Q E h => ?_) (fun cdv Ar outer s H vs Q E hr h => ?_)
  · obtain ⟨x, o, rfl, _⟩ := h
    rfl
  · obtain ⟨x, o, rfl, hx, hE, hG⟩ := h
    have nd := sc_told_joined.nd
    refine BW.exprX Cs hr (takes_of (E := E) rfl rfl rfl rfl) (AV.one (EV.var 0 rfl)) fun H1 e1 => sx_setg hx H1 e1 _ E ?_
    cases o with
    | some k0 => exact fun H2 e2 => hE k0 rfl H2 (e1.trans e2)
    | none =>
      obtain ⟨p, ns, fo, rfl, hp, hl, ho, hQ⟩ := hG rfl
      intro H2 e2
      have e12 := e1.trans e2
      refine BW.asgF 1 nd Cf hr (EV.var 0 rfl) (EV.glob gm) hc (ex_l e12 hp) (by omega) ho (fun hn H3 e3 => ?_) (fun x y hs r H3 e3 hr3 => ?_)
      · refine BW.retI (EI.made (C' := ad (kdT true fo)) (fs' := fsO fo) (EI.ite (TV.isN (EV.var 1 rfl) EV.non) (fun _ => EI.make0 M.kJP (A.cs .JP).mg) (fun z => by simp at z)) (by rw [hn]; rfl) (by rw [hn]; rfl)) fun r dx H4 nr e4 h4 => hQ r dx H4 (fresh_back (e12.trans e3) nr) ((e12.trans e3).trans e4) h4
      · refine BW.retI (EI.made (C' := ad (kdT true fo)) (fs' := fsO fo) (EI.ite (TV.isN (EV.var 1 rfl) EV.non) (fun z => by simp at z) (fun _ => EI.make M.kJT hr (AV.two (EV.ixT (EV.var 1 rfl) EV.int (st_of hr3) (show atI _ (0 : Int) = some _ from rfl)) (EV.ixT (EV.var 1 rfl) EV.int (st_of hr3) (show atI _ (1 : Int) = some _ from rfl))))) (by rw [hs]; rfl) (by rw [hs]; rfl)) fun r dx H4 nr e4 h4 => hQ r dx H4 (fresh_back (e12.trans e3) nr) ((e12.trans e3).trans e4) h4
/-- a good setting told -/
theorem si_told {H : Hp} {j : Bool} {p : Addr} {ns : List Int} {fo : Option (Nat × Nat)} (hp : SqL K H p (ns.map V.int)) (h1 : 1 ≤ ns.length) (h2 : ns.length ≤ 200) (hb : ∀ c ∈ ns, 0 ≤ c ∧ c < (ns.length : Int)) (ho : FirstIs j ns fo) : SpI (spTold K xa ad j) [.ref p] H (ad (kdT j fo)) (fsO fo) := fun H1 e1 Q q E =>
  ⟨.ref p, none, rfl, SetIs.ints (ex_l e1 hp) h1 h2 hb, (fun k z => nomatch z), fun _ => ⟨p, ns, fo, rfl, ex_l e1 hp, h2, ho, q⟩⟩
end
section
variable {X : Cx} {e a b c o : Expr} {es : List Expr} {σ : L2.St} {H : Hp} {pos p pf apos : Pos} {ad : Kd → Addr} {xa : Ek → Addr} {j k : Nat} {ns : List Int}
/-- told(xs), told_joined(xs) of a list given by its shape -/
theorem EX.told {x : Str} {jd : Bool} {fo : Option (Nat × Nat)} (C : Fc X.prog X.w X.K X.mg X.base 3 x (spTold X.K xa ad jd)) (hr : Room j X.A) (ha : EX X a σ H (Sh.ints ns)) (h1 : 1 ≤ ns.length) (h2 : ns.length ≤ 200) (hb : ∀ c ∈ ns, 0 ≤ c ∧ c < (ns.length : Int)) (ho : FirstIs jd ns fo) (hk : 3 ≤ j := by decide) (hg : Gl X x := by rfl) (hs : [a].all noStar = true := by rfl) (hdb : (x == ("__debug__" : Str)) = false := by decide) :
    EX X (.Call (.Name x p) [a] [] pos) σ H (.ins (ad (kdT jd fo)) (fsO fo)) :=
  EX.ins (EI.callA C hr (AX.one ha) (fun vs H1 e1 hvs => by
    obtain ⟨u, rfl, hu⟩ := hvs.one
    obtain ⟨r, rfl, hr⟩ := hu.ofInts
    exact si_told hr h1 h2 hb ho) hk hg hs hdb)
/-- whether the answer is due of the setting ns -/
def dueT (jd : Bool) (fo : Option (Nat × Nat)) (ns : List Int) : Bool := match fo with
  | none => peaceB ns jd
  | some (a, b) => tkShows jd ns a b
theorem EV.shD {jd : Bool} {fo : Option (Nat × Nat)} {pl : Sem Bool} (S : Sw X.prog X.w X.K X.mg X.base ad) (hr : Room j X.A) (h : EX X o σ H (.ins (ad (kdT jd fo)) (fsO fo))) (ha : EX X a σ H (Sh.ints ns)) (hl : ns.length ≤ 1000) (hb : ∀ c ∈ ns, 0 ≤ c ∧ c < (ns.length : Int)) (hk : 3 ≤ j := by decide) (hs : noStar a = true := by rfl)
    (ht : eval (.Call (.Attribute o "shows" apos) [a] [] pos) X.env = (do
      let ov ← eval o X.env
      standAt apos.atName
      let (f, first) ← holding [ov] (getMethod ov "shows" pl)
      callWith pos f first (backTo pos (starEach [a] X.env)) (backToKw pos (keywordEach [] X.env))) := by rfl) : EV X (.Call (.Attribute o "shows" apos) [a] [] pos) σ H (.bl (dueT jd fo ns)) := by
  obtain ⟨o', ho'⟩ := first_ex jd ns
  have hp := first_peace hb ho'
  have hk2 : 2 ≤ j := by omega
  match jd, fo, h with
  | false, none, h => exact EV.isB (EV.shP (pl := pl) S.sP hr h ha hl ho' hk hs ht) hp
  | true, none, h => exact EV.isB (EV.shP (pl := pl) S.sJP hr h ha hl ho' hk hs ht) hp
  | false, some (x, y), h => exact EV.shT (pl := pl) S.sT hr h ha hk2 hs ht
  | true, some (x, y), h => exact EV.shT (pl := pl) S.sJT hr h ha hk2 hs ht
end
/-- the told answer is due of the setting itself -/
theorem due_self {jd : Bool} {ns : List Int} {fo : Option (Nat × Nat)} (hb : ∀ c ∈ ns, 0 ≤ c ∧ c < (ns.length : Int)) (ho : FirstIs jd ns fo) : dueT jd fo ns = true := by
  cases fo with
  | none =>
    have := first_peace hb ho
    exact this.symm
  | some p =>
    obtain ⟨⟨h1, h2⟩, h3, _, _⟩ := (ho : IsFirst jd ns p.1 p.2)
    show tkShows jd ns p.1 p.2 = true
    unfold tkShows
    rw [decide_eq_true (show (0 : Int) ≤ (p.1 : Int) by omega), decide_eq_true (show (p.1 : Int) < (p.2 : Int) by omega), decide_eq_true (show (p.2 : Int) < (ns.length : Int) by omega)]
    simpa using h3
end QR

namespace QR
open PySem PySem.Spec PyProof.Rows L2 Evl
/-! ### _law_takes -/
def ltB (j : Bool) (n on a b : Int) : Bool := if on = 0 ∨ (j = false ∧ ((on.natAbs : Nat) : Int) = (((a - b).natAbs : Nat) : Int)) then true else j && inV (.int ((a - b) % n)) [.int (on % n), .int (-on % n)]
theorem inV2 (x a b : Int) : inV (.int x) [.int a, .int b] = decide (x = a ∨ x = b) := by
  have : (∀ y : Int, eqV (.int y) (.int x) = decide (x = y)) := fun y => by simp [eqV, Bool.beq_eq_decide_eq, eq_comm]
  simp only [inV, List.any_cons, List.any_nil, Bool.or_false, this, Bool.decide_or]
theorem lt_takes (j : Bool) (ns : List Int) (a b : Nat) : ltB j (ns.length : Int) (ns.getD a 0 - ns.getD b 0) a b = takes j ns a b := by
  unfold ltB takes
  generalize hn : (ns.length : Int) = n
  cases j with
  | false =>
    simp only [true_and, Bool.false_and, Bool.false_eq_true, if_false]
    unfold takeB
    generalize ns.getD a 0 - ns.getD b 0 = on
    by_cases h : on = 0 ∨ ((on.natAbs : Nat) : Int) = ((((a : Int) - (b : Int)).natAbs : Nat) : Int)
    · rw [if_pos h]
      symm
      rw [Bool.or_eq_true, decide_eq_true_eq, decide_eq_true_eq]
      omega
    · rw [if_neg h]
      symm
      rw [Bool.or_eq_false_iff, decide_eq_false_iff_not, decide_eq_false_iff_not]
      omega
  | true =>
    unfold takeJB
    rw [hn]
    generalize ns.getD a 0 - ns.getD b 0 = on
    simp only [Bool.true_eq_false, false_and, or_false, Bool.true_and, if_true]
    by_cases h : on = 0
    · simp [h]
    · rw [if_neg h, inV2]
      have e1 : ((a : Int) - (b : Int)) % n = on % n ↔ (on - (a : Int) + (b : Int)) % n = 0 := by
        rw [mod_eq_iff, ← neg_mod_zero]
        rw [show -((a : Int) - (b : Int) - on) = on - (a : Int) + (b : Int) by omega]
      have e2 : ((a : Int) - (b : Int)) % n = -on % n ↔ (on + (a : Int) - (b : Int)) % n = 0 := by
        rw [mod_eq_iff]
        rw [show (a : Int) - (b : Int) - -on = on + (a : Int) - (b : Int) by omega]
      rw [decide_eq_false h, Bool.false_or, ← Bool.decide_or, decide_eq_decide, e1, e2]
section
variable {P : Program} {w : World} {K : PySem.W.Frag} {mg : Str → Option Value} {base : Heap}
def spLTakes (K : PySem.W.Frag) : Sp := fun vs H Q _ => ∃ (q : Addr) (ns : List Int) (a b : Nat) (j : Bool), vs = [.ref q, .int (a : Int), .int (b : Int), .bl j] ∧ SqL K H q (ns.map V.int) ∧ a < ns.length ∧ b < ns.length ∧ RetV (.bl (takes j ns a b)) H Q
theorem ok_law_takes {f : Addr} {fd : FuncData} (F : Fun K "_law_takes" "_law_takes" s_law_takes f fd) (B : Bl mg) : FnOk P w K mg base (L2.CX P w) 1 f fd ["_law_places", "_law_one", "_law_other", "_law_joined"] (spLTakes K) := by
  refine okB F sc_law_takes (fun vs H Q E h => ?_) (fun cdv A outer s H vs Q E hr h => ?_)
  · obtain ⟨q, ns, a, b, j, rfl, _⟩ := h
    rfl
  · obtain ⟨q, ns, a, b, j, rfl, hq, ha, hb, k⟩ := h
    have nd := sc_law_takes.nd
    have hlen : ((ns.map V.int).length : Int) = (ns.length : Int) := by simp
    refine BW.par 4 5 nd (EV.isI (EV.len B.len (EV.var 0 rfl) hq) hlen) (EV.sub (EV.ixL (EV.var 0 rfl) (EV.var 1 rfl) hq (at_ints ha)) (EV.ixL (EV.var 0 rfl) (EV.var 2 rfl) hq (at_ints hb))) fun H1 e1 => ?_
    have hk0 := lt_takes j ns a b
    generalize takes j ns a b = tk at hk0 k
    generalize ns.getD a 0 - ns.getD b 0 = on at hk0 ⊢
    refine BW.when (TV.or2 (TV.eq (EV.var 5 rfl) EV.int) (fun _ => TV.and2 (TV.not (TV.val (EV.var 3 rfl))) (fun _ => TV.eq (EV.abs B.abs (EV.var 5 rfl)) (EV.abs B.abs (EV.sub (EV.var 1 rfl) (EV.var 2 rfl)))))) (fun hk H2 e2 => ?_) (fun hk H2 e2 => ?_)
    · refine BW.ret EV.bl fun H3 e3 => ?_
      have hc : on = 0 ∨ (j = false ∧ ((on.natAbs : Nat) : Int) = ((((a : Int) - (b : Int)).natAbs : Nat) : Int)) := by simpa using hk
      unfold ltB at hk0
      rw [if_pos hc] at hk0
      rw [hk0]
      exact k H3 ((e1.trans e2).trans e3)
    · have hc : ¬ (on = 0 ∨ (j = false ∧ ((on.natAbs : Nat) : Int) = ((((a : Int) - (b : Int)).natAbs : Nat) : Int))) := by
        intro z
        simp at hk
        rcases z with z | ⟨z1, z2⟩
        · exact hk.1 z
        · have := hk.2 z1
          omega
      unfold ltB at hk0
      rw [if_neg hc] at hk0
      refine BW.asg 6 nd (EV.mod (EV.sub (EV.var 1 rfl) (EV.var 2 rfl)) (EV.var 4 rfl) (by omega)) fun H3 e3 => ?_
      refine BW.ret (EV.isB (EV.and2 (EV.var 3 rfl) (fun _ => EV.inL (EV.var 6 rfl) (EL.lst (AV.cons (EV.mod (EV.var 5 rfl) (EV.var 4 rfl) (by omega)) (AV.cons (EV.mod (EV.neg (EV.var 5 rfl)) (EV.var 4 rfl) (by omega)) AV.nil))))) hk0) fun H4 e4 => k H4 (((e1.trans e2).trans e3).trans e4)
theorem sv_ltakes {H : Hp} {q : Addr} {ns : List Int} {a b : Nat} {j : Bool} (hq : SqL K H q (ns.map V.int)) (ha : a < ns.length) (hb : b < ns.length) : SpV (spLTakes K) [.ref q, .int (a : Int), .int (b : Int), .bl j] H (.bl (takes j ns a b)) := fun H1 e1 Q k _ => ⟨q, ns, a, b, j, rfl, ex_l e1 hq, ha, hb, k⟩
end
end QR

namespace QR
open PySem PySem.Spec PyProof.Rows L2 Evl
/-! ### _law_settings -/
def goodL (m : Nat) (L : List Int) : Prop := L.length = m ∧ ∀ c ∈ L, 0 ≤ c ∧ c < (m : Int)
def GoodS (Ls : List (List Int)) : Prop := Ls.length = 6 ∧ ∀ L ∈ Ls, 1 ≤ L.length ∧ L.length ≤ 66 ∧ ∀ c ∈ L, 0 ≤ c ∧ c < (L.length : Int)
def spSettings (K : PySem.W.Frag) : Sp := fun vs H Q _ => ∃ (q : Addr) (ns : List Int), vs = [.ref q] ∧ SqL K H q (ns.map V.int) ∧ ns.length ≤ 63 ∧ (∀ z ∈ ns, Builtin.Int.intBits z ≤ 1048576) ∧
  ∀ Ls p us H2, GoodS Ls → H p = none → Ex H H2 → H2 p = some (.lst us) → IsAll K H2 us (Ls.map Sh.ints) → Q (.ref p) H2
theorem good_map {m : Nat} (f : Nat → Int) (h : ∀ i, 0 ≤ f i ∧ f i < (m : Int)) : goodL m ((List.range m).map f) := by
  refine ⟨by simp, fun c hc => ?_⟩
  obtain ⟨i, _, rfl⟩ := List.mem_map.mp hc
  exact h i
theorem mod_b {x : Int} {m : Nat} (h : 0 < m) : 0 ≤ x % (m : Int) ∧ x % (m : Int) < (m : Int) := ⟨Int.emod_nonneg _ (by omega), Int.emod_lt_of_pos _ (by omega)⟩
theorem size_at (n : Nat) (s : Int) (h0 : 1 ≤ n) (h1 : n ≤ 63) : ∃ m : Nat, atI [V.int (n : Int), V.int 5, V.int 7, V.int 11, V.int 25, V.int 35, V.int (1 + s / 8 % 40), V.int 4] (s % 8) = some (.int (m : Int)) ∧ 1 ≤ m ∧ m ≤ 63 := by
  have g0 := Int.emod_nonneg (s / 8) (show (40 : Int) ≠ 0 by decide)
  have g1 := Int.emod_lt_of_pos (s / 8) (show (0 : Int) < 40 by decide)
  have r0 := Int.emod_nonneg s (show (8 : Int) ≠ 0 by decide)
  have r1 := Int.emod_lt_of_pos s (show (0 : Int) < 8 by decide)
  obtain ⟨a, ha⟩ := Int.eq_ofNat_of_zero_le g0
  rw [ha] at g1 ⊢
  generalize s % 8 = r at r0 r1 ⊢
  have : r = 0 ∨ r = 1 ∨ r = 2 ∨ r = 3 ∨ r = 4 ∨ r = 5 ∨ r = 6 ∨ r = 7 := by omega
  rcases this with rfl | rfl | rfl | rfl | rfl | rfl | rfl | rfl
  · exact ⟨n, rfl, h0, h1⟩
  · exact ⟨5, rfl, by decide, by decide⟩
  · exact ⟨7, rfl, by decide, by decide⟩
  · exact ⟨11, rfl, by decide, by decide⟩
  · exact ⟨25, rfl, by decide, by decide⟩
  · exact ⟨35, rfl, by decide, by decide⟩
  · refine ⟨1 + a, ?_, by omega, by omega⟩
    show some (V.int (1 + (a : Int))) = some (V.int ((1 + a : Nat) : Int))
    rw [Int.natCast_add]
    rfl
  · exact ⟨4, rfl, by decide, by decide⟩
theorem rg_odd : ∀ h : Fin 70, RgC 1 (h.val : Int) 2 (h.val / 2) := by
  unfold RgC
  decide +kernel
theorem rg_even : ∀ h : Fin 70, RgC 0 (h.val : Int) 2 ((h.val + 1) / 2) := by
  unfold RgC
  decide +kernel
/-- the last of them -/
def lastL (h : Nat) : List Int := ((List.range (h / 2)).map fun i : Nat => (1 : Int) + (i : Int) * 2) ++ ((List.range ((h + 1) / 2)).map fun i : Nat => (0 : Int) + (i : Int) * 2)
theorem lastL_good {h : Nat} (he : h % 2 = 0) : goodL h (lastL h) := by
  unfold lastL
  refine ⟨by simp; omega, fun c hc => ?_⟩
  rcases List.mem_append.mp hc with z | z
  · obtain ⟨i, hi, rfl⟩ := List.mem_map.mp z
    have := List.mem_range.mp hi
    omega
  · obtain ⟨i, hi, rfl⟩ := List.mem_map.mp z
    have := List.mem_range.mp hi
    omega
section
variable {P : Program} {w : World} {K : PySem.W.Frag} {mg : Str → Option Value} {base : Heap}
theorem ok_law_settings {f : Addr} {fd : FuncData} (F : Fun K "_law_settings" "_law_settings" s_law_settings f fd) (B : Bl mg) (c_law_number : Fc P w K mg base 1 "_law_number" spNumber) : FnOk P w K mg base (L2.CX P w) 2 f fd ["_law_script"] (spSettings K) := by
  refine okB F sc_law_settings (fun vs H Q E h => ?_) (fun cdv A outer s H vs Q E hr h => ?_)
  · obtain ⟨q, ns, rfl, _⟩ := h
    rfl
  · obtain ⟨q, ns, rfl, hq, hl, hb, k⟩ := h
    have nd := sc_law_settings.nd
    obtain ⟨cs, hcs, c1, c63, cb⟩ : ∃ cs : List Int, cs = (if ns = [] then [0] else ns) ∧ 1 ≤ cs.length ∧ cs.length ≤ 63 ∧ ∀ z ∈ cs, Builtin.Int.intBits z ≤ 1048576 := by
      refine ⟨_, rfl, ?_⟩
      by_cases hn : ns = []
      · rw [if_pos hn]
        refine ⟨by decide, by decide, fun z hz => ?_⟩
        have : z = 0 := by simpa using hz
        subst this
        decide
      · rw [if_neg hn]
        exact ⟨by rw [Nat.one_le_iff_ne_zero, Ne, List.length_eq_zero_iff]; exact hn, hl, hb⟩
    refine BW.asgL 1 nd (EL.ite (xs := cs.map V.int) (TV.neL (ns := ns) (ms := []) hr (ES.old (EV.var 0 rfl) hq) (ES.new (EL.lst AV.nil))) (fun h1 => EL.is (EL.upto (EV.var 0 rfl) EV.int hq) ?_) (fun h1 => EL.is (EL.lst (AV.cons EV.int AV.nil)) ?_)) fun pc H1 npc e1 hpc => ?_
    · have hn : ns ≠ [] := by simpa using h1
      rw [hcs, if_neg hn, show (63 : Int) = ((63 : Nat) : Int) from rfl, cut_upto, ← List.map_take, List.take_of_length_le hl]
    · have hn : ns = [] := by simpa using h1
      rw [hcs, if_pos hn]
      rfl
    have hlen : ((cs.map V.int).length : Int) = (cs.length : Int) := by simp
    refine BW.asg 2 nd (EV.sum (ns := cs) B.sum (EV.var 1 rfl) (sq_of hpc)) fun H2 e2 => ?_
    generalize cs.sum = ws
    obtain ⟨m, hm, m1, m63⟩ := size_at cs.length ws c1 c63
    have hpc2 := e2 _ _ hpc
    refine BW.asg 3 nd (EV.ixU (EU.tup (AV.cons (EV.isI (EV.len B.len (EV.var 1 rfl) (sq_of hpc2)) hlen) (AV.cons EV.int (AV.cons EV.int (AV.cons EV.int (AV.cons EV.int (AV.cons EV.int (AV.cons (EV.add EV.int (EV.mod (EV.fdiv (EV.var 2 rfl) EV.int (by decide)) EV.int (by decide))) (AV.cons EV.int AV.nil))))))))) (EV.mod (EV.var 2 rfl) EV.int (by decide)) hm) fun H3 e3 => ?_
    have hpc3 := e3 _ _ hpc2
    have hat0 : atI (cs.map V.int) (0 : Int) = some (.int (cs.getD 0 0)) := at_ints (ns := cs) (i := 0) (by omega)
    refine BW.asg 4 nd (EV.call c_law_number hr (AV.three (EV.ixL (EV.var 1 rfl) EV.int (sq_of hpc3) hat0) EV.int (EV.var 2 rfl)) (sv_number (cb _ (getD_mem (by omega))) (by decide) (by decide))) fun H4 e4 => ?_
    generalize numberOf (cs.getD 0 0) 7 ws = nm
    have hpc4 := e4 _ _ hpc3
    have e14 := ((e1.trans e2).trans e3).trans e4
    have hmm : ((m : Int)).toNat = m := by omega
    -- found
    have g0 : goodL m ((List.range m).map fun i : Nat => (2 + nm % 3) * (i : Int) % (m : Int)) := good_map _ fun i => mod_b (by omega)
    have g1 : goodL m ((List.range m).map fun i : Nat => (2 * (i : Int) + nm) % (m : Int)) := good_map _ fun i => mod_b (by omega)
    refine BW.asgD 5 nd (ss := [Sh.ints ((List.range m).map fun i : Nat => (2 + nm % 3) * (i : Int) % (m : Int))]) (AX.one (EX.newI (EL.is (LC.range (j := 6) (fun i => .int ((2 + nm % 3) * (i : Int) % (m : Int))) B.range nd (blkOk_by (N := n_law_settings) (sc := defScope s_law_settings) (by decide +kernel)) (EV.var 3 rfl) ⟨by omega, by omega⟩ (fun i Ha ea hi s0 H0 C0 cl fp => (EV.mod (EV.mul (EV.add EV.int (EV.mod (EV.var 4 rfl) EV.int (by decide))) (EV.var 6 rfl) (mul_small (.inr ⟨by omega, by omega⟩))) (EV.var 3 rfl) (by omega)))).el (by rw [hmm, List.map_map]; rfl)))) fun l us0 H5 nl x5 hl5 A5 => ?_
    generalize (List.range m).map (fun i : Nat => (2 + nm % 3) * (i : Int) % (m : Int)) = L0 at g0 A5
    have hpc5 := x5 _ _ hpc4
    refine BW.appL (ys := ((List.range m).map fun i : Nat => (2 * (i : Int) + nm) % (m : Int)).map V.int) hl5 (EV.var 5 rfl) (EL.is (LC.range (j := 6) (fun i => .int ((2 * (i : Int) + nm) % (m : Int))) B.range nd (blkOk_by (N := n_law_settings) (sc := defScope s_law_settings) (by decide +kernel)) (EV.var 3 rfl) ⟨by omega, by omega⟩ (fun i Ha ea hi s0 H0 C0 cl fp => (EV.mod (EV.add (EV.mul EV.int (EV.var 6 rfl) (mul_small (.inl ⟨by decide, by decide⟩))) (EV.var 4 rfl)) (EV.var 3 rfl) (by omega)))).el (by rw [hmm, List.map_map]; rfl)) (by rw [A5.len]; exact Nat.le_of_ble_eq_true rfl) fun q1 H6 nq1 e6 hq1 => ?_
    generalize (List.range m).map (fun i : Nat => (2 * (i : Int) + nm) % (m : Int)) = L1 at g1 hq1
    obtain ⟨H7, hH7⟩ : ∃ H7, H7 = upd H6 l (.lst (us0 ++ [.ref q1])) := ⟨_, rfl⟩
    rw [← hH7]
    have x7 : Ex (hide H5 l) (hide H7 l) := by rw [hH7, hide_upd]; exact hide_mono e6
    have hl7 : H7 l = some (.lst (us0 ++ [.ref q1])) := by rw [hH7]; exact upd_same
    have nq1l : q1 ≠ l := fun z => by rw [z, hl5] at nq1; cases nq1
    have A7 : IsAll K (hide H7 l) (us0 ++ [.ref q1]) [Sh.ints L0, Sh.ints L1] := (A5.ex x7).append (.cons (Is.ints (sq_of (by rw [hH7, hide_upd, hide_at nq1l]; exact hq1))) .nil)
    clear hH7
    have x47 : Ex H4 (hide H7 l) := x5.trans x7
    generalize us0 ++ [.ref q1] = us1 at hl7 A7
    -- order
    refine BW.asgL 7 nd (EL.lst AV.nil) fun lo H8 nlo e8 hlo => ?_
    have nlol : lo ≠ l := fun z => by rw [z, hl7] at nlo; cases nlo
    refine BW.forR 8 B.range nd (EV.var 3 rfl) ⟨by omega, by omega⟩ (fun i σ' H' => Ex H7 (hide H' lo) ∧ (∃ os : List Int, H' lo = some (.lst (os.map V.int)) ∧ goodL i os) ∧ ∃ y8 y9, σ' = [some (.ref q), some (.ref pc), some (.int ws), some (.int (m : Int)), some (.int nm), some (.ref l), none, some (.ref lo), y8, y9, none, none])
      (fun H9 e9 => ⟨ex_hide (e8.trans e9) nlo, ⟨[], e9 _ _ hlo, rfl, fun c hc => nomatch hc⟩, _, _, rfl⟩) ?_ ?_
    · rintro i σ' H' hi ⟨ex, ⟨os, hos, gl, gb⟩, y8, y9, rfl⟩
      have hpi : H' pc = some (.lst (cs.map V.int)) := hide_ex _ _ (ex _ _ (hide_ex _ _ (x47 _ _ hpc4)))
      have hati : atI (cs.map V.int) ((i : Int) % (cs.length : Int)) = some (.int (cs.getD (i % cs.length) 0)) := by
        rw [← Int.natCast_emod]
        exact at_ints (Nat.mod_lt _ (by omega))
      refine BW.asg 9 nd (EV.fdiv (EV.call c_law_number hr (AV.three (EV.ixL (EV.var 1 rfl) (EV.mod (EV.var 8 rfl) (EV.isI (EV.len B.len (EV.var 1 rfl) (sq_of hpi)) hlen) (by omega)) (sq_of hpi) hati) (EV.var 8 rfl) (EV.var 2 rfl)) (sv_number (cb _ (getD_mem (Nat.mod_lt _ (by omega)))) (by omega) (by omega))) (EV.add EV.int (EV.fdiv (EV.var 8 rfl) (EV.isI (EV.len B.len (EV.var 1 rfl) (sq_of hpi)) hlen) ⟨by omega, by omega⟩)) ?_) fun Ha ea => ?_
      · have h0 : 0 ≤ (i : Int) / (cs.length : Int) := Int.ediv_nonneg (by omega) (by omega)
        have h1 : (i : Int) / (cs.length : Int) ≤ (i : Int) := Int.ediv_le_self _ (by omega)
        omega
      generalize numberOf (cs.getD (i % cs.length) 0) (i : Int) ws / (1 + (i : Int) / (cs.length : Int)) = pt
      obtain ⟨r, hr1⟩ := Int.eq_ofNat_of_zero_le (Int.emod_nonneg (pt / 3) (show ((i : Int) + 1) ≠ 0 by omega))
      have hr2 := Int.emod_lt_of_pos (pt / 3) (show (0 : Int) < (i : Int) + 1 by omega)
      refine BW.insert (n := r) (ea _ _ hos) (EV.var 7 rfl) (EV.isI (EV.mod (EV.fdiv (EV.var 9 rfl) EV.int (by decide)) (EV.add (EV.var 8 rfl) EV.int) (by omega)) hr1) (EV.var 8 rfl) (by omega) (by rw [List.length_map, gl]; omega) fun Hb eb => BW.nil ⟨?_, ⟨os.take r ++ [(i : Int)] ++ os.drop r, ?_, ?_, ?_⟩, _, _, rfl⟩
      · rw [hide_upd]
        exact ex.trans (hide_mono (ea.trans eb))
      · rw [upd_same]
        simp
      · simp
        omega
      · intro c hc
        rcases List.mem_append.mp hc with z | z
        · rcases List.mem_append.mp z with z | z
          · have := gb c (List.mem_of_mem_take z)
            omega
          · have : c = (i : Int) := by simpa using z
            omega
        · have := gb c (List.mem_of_mem_drop z)
          omega
    rintro σ' H9 ⟨x9, ⟨os, hos, g2⟩, y8, y9, rfl⟩
    rw [hmm] at g2
    have e79 : Ex H7 H9 := x9.trans hide_ex
    refine BW.app (e79 _ _ hl7) (EV.var 5 rfl) (v := .ref lo) (EV.var 7 rfl) (by rw [A7.len]; exact Nat.le_of_ble_eq_true rfl) fun H10 e10 => ?_
    obtain ⟨H11, hH11⟩ : ∃ H11, H11 = upd H10 l (.lst (us1 ++ [.ref lo])) := ⟨_, rfl⟩
    rw [← hH11]
    have x11 : Ex (hide H7 l) (hide H11 l) := by rw [hH11, hide_upd]; exact hide_mono (e79.trans e10)
    have hl11 : H11 l = some (.lst (us1 ++ [.ref lo])) := by rw [hH11]; exact upd_same
    have A11 : IsAll K (hide H11 l) (us1 ++ [.ref lo]) [Sh.ints L0, Sh.ints L1, Sh.ints os] := (A7.ex x11).append (.cons (Is.ints (sq_of (by rw [hH11, hide_upd, hide_at nlol]; exact e10 _ _ hos))) .nil)
    clear hH11
    generalize us1 ++ [.ref lo] = us2 at hl11 A11
    have x411 := x47.trans x11
    have hpc11 := hide_ex _ _ (x411 _ _ hpc4)
    have g3 : goodL m ((List.range m).map fun i : Nat => numberOf (cs.getD (i % cs.length) 0) ((i : Int) + 70) ws / 7 % (m : Int)) := good_map _ fun i => mod_b (by omega)
    refine BW.appL (ys := ((List.range m).map fun i : Nat => numberOf (cs.getD (i % cs.length) 0) ((i : Int) + 70) ws / 7 % (m : Int)).map V.int) hl11 (EV.var 5 rfl) (EL.is (LC.range (j := 8) (fun i => .int (numberOf (cs.getD (i % cs.length) 0) ((i : Int) + 70) ws / 7 % (m : Int))) B.range nd (blkOk_by (N := n_law_settings) (sc := defScope s_law_settings) (by decide +kernel)) (EV.var 3 rfl) ⟨by omega, by omega⟩ (fun i Ha ea hi s0 H0 C0 cl fp => ?_)).el (by rw [hmm, List.map_map]; rfl)) (by rw [A11.len]; exact Nat.le_of_ble_eq_true rfl) fun q3 H12 nq3 e12 hq3 => ?_
    · have hpi := ea _ _ hpc11
      have hati : atI (cs.map V.int) ((i : Int) % (cs.length : Int)) = some (.int (cs.getD (i % cs.length) 0)) := by
        rw [← Int.natCast_emod]
        exact at_ints (Nat.mod_lt _ (by omega))
      exact (EV.mod (EV.fdiv (EV.call c_law_number hr (AV.three (EV.ixL (EV.var 1 rfl) (EV.mod (EV.var 8 rfl) (EV.isI (EV.len B.len (EV.var 1 rfl) (sq_of hpi)) hlen) (by omega)) (sq_of hpi) hati) (EV.add (EV.var 8 rfl) EV.int) (EV.var 2 rfl)) (sv_number (cb _ (getD_mem (Nat.mod_lt _ (by omega)))) (by omega) (by omega))) EV.int (by decide)) (EV.var 3 rfl) (by omega))
    generalize (List.range m).map (fun i : Nat => numberOf (cs.getD (i % cs.length) 0) ((i : Int) + 70) ws / 7 % (m : Int)) = L3 at g3 hq3
    obtain ⟨H13, hH13⟩ : ∃ H13, H13 = upd H12 l (.lst (us2 ++ [.ref q3])) := ⟨_, rfl⟩
    rw [← hH13]
    have x13 : Ex (hide H11 l) (hide H13 l) := by rw [hH13, hide_upd]; exact hide_mono e12
    have hl13 : H13 l = some (.lst (us2 ++ [.ref q3])) := by rw [hH13]; exact upd_same
    have nq3l : q3 ≠ l := fun z => by rw [z, hl11] at nq3; cases nq3
    have A13 : IsAll K (hide H13 l) (us2 ++ [.ref q3]) [Sh.ints L0, Sh.ints L1, Sh.ints os, Sh.ints L3] := (A11.ex x13).append (.cons (Is.ints (sq_of (by rw [hH13, hide_upd, hide_at nq3l]; exact hq3))) .nil)
    clear hH13
    generalize us2 ++ [.ref q3] = us3 at hl13 A13
    have x413 := x411.trans x13
    have A13' := A13.ex hide_ex
    -- bent
    refine BW.asgL 10 nd (EL.listOf B.list (ES.ofX (EX.ixL (k := 1) (s := Sh.ints L1) (EX.var 5 rfl (.lst (sq_of hl13) A13')) EV.int rfl rfl))) fun pb H14 npb e14' hpb => ?_
    have npbl : pb ≠ l := fun z => by rw [z, hl13] at npb; cases npb
    obtain ⟨a, ha⟩ := Int.eq_ofNat_of_zero_le (Int.emod_nonneg (ws / 3) (show (m : Int) ≠ 0 by omega))
    have ha2 := Int.emod_lt_of_pos (ws / 3) (show (0 : Int) < (m : Int) by omega)
    refine BW.asg 8 nd (EV.isI (j := (a : Int)) (EV.mod (EV.fdiv (EV.var 2 rfl) EV.int (by decide)) (EV.var 3 rfl) (by omega)) ha) fun H15 e15 => ?_
    have ham : a < L1.length := by rw [g1.1]; omega
    have hpb15 := e15 _ _ hpb
    refine BW.setL (j := a) hpb15 (v := .int ((L1.getD a 0 + 1 + ws / 5) % (m : Int))) (EV.mod (EV.add (EV.add (EV.ixL (EV.var 10 rfl) (EV.var 8 rfl) (sq_of hpb15) (at_ints ham)) EV.int) (EV.fdiv (EV.var 2 rfl) EV.int (by decide))) (EV.var 3 rfl) (by omega)) (EV.var 10 rfl) (EV.var 8 rfl) (by rw [List.length_map]; exact ham) fun H16 e16 => ?_
    have g4 : goodL m (L1.set a ((L1.getD a 0 + 1 + ws / 5) % (m : Int))) := by
      refine ⟨by rw [List.length_set]; exact g1.1, fun c hc => ?_⟩
      rcases List.mem_or_eq_of_mem_set hc with z | z
      · exact g1.2 c z
      · rw [z]
        exact mod_b (by omega)
    rw [show (L1.map V.int).set a (.int ((L1.getD a 0 + 1 + ws / 5) % (m : Int))) = (L1.set a ((L1.getD a 0 + 1 + ws / 5) % (m : Int))).map V.int by rw [List.map_set]]
    generalize L1.set a ((L1.getD a 0 + 1 + ws / 5) % (m : Int)) = L4 at g4 ⊢
    obtain ⟨H17, hH17⟩ : ∃ H17, H17 = upd H16 pb (.lst (L4.map V.int)) := ⟨_, rfl⟩
    rw [← hH17]
    have x17 : Ex H13 H17 := by rw [hH17]; exact (((e14'.trans e15).trans e16).mut npb)
    have hpb17 : H17 pb = some (.lst (L4.map V.int)) := by rw [hH17]; exact upd_same
    clear hH17
    -- high
    refine BW.asg 11 nd (EV.add (EV.var 3 rfl) (EV.mod (EV.var 3 rfl) EV.int (by decide))) fun H18 e18 => ?_
    obtain ⟨h, hh, he, h66⟩ : ∃ h : Nat, (if (decide (((m : Int) + (m : Int) % 2) % 6 = 2)) = true then (m : Int) + (m : Int) % 2 + 2 else (m : Int) + (m : Int) % 2) = (h : Int) ∧ h % 2 = 0 ∧ 1 ≤ h ∧ h ≤ 66 := by
      by_cases h6 : ((m : Int) + (m : Int) % 2) % 6 = 2
      · refine ⟨m + m % 2 + 2, ?_, by omega, by omega, by omega⟩
        rw [if_pos (decide_eq_true h6)]
        omega
      · refine ⟨m + m % 2, ?_, by omega, by omega, by omega⟩
        rw [if_neg (by simp [h6])]
        omega
    refine BW.asg 11 nd (EV.isI (j := (h : Int)) (EV.iteI (TV.eq (EV.mod (EV.var 11 rfl) EV.int (by decide)) EV.int) (fun h1 => (EV.add (EV.var 11 rfl) EV.int)) (fun h1 => (EV.var 11 rfl))) hh) fun H19 e19 => ?_
    have x19 := (x17.trans e18).trans e19
    have g5 := lastL_good he
    have ro := rg_odd ⟨h, by omega⟩
    have re := rg_even ⟨h, by omega⟩
    refine BW.retN (EN.cat (ss := [Sh.ints L0, Sh.ints L1, Sh.ints os, Sh.ints L3]) (ts := [Sh.ints L4, Sh.ints (lastL h)]) (EX.var 5 rfl (.lst (sq_of (x19 _ _ hl13)) (A13'.ex x19))) (EX.lst (AX.two (EX.var 10 rfl (Is.ints (sq_of (e19 _ _ (e18 _ _ hpb17))))) (EX.newI (EL.is (EL.cat (ES.new (EL.listR3 (h / 2) B.list B.range EV.int (EV.var 11 rfl) EV.int ro (by omega))) (ES.new (EL.listR3 ((h + 1) / 2) B.list B.range EV.int (EV.var 11 rfl) EV.int re (by omega))) (by simp [rngV]; omega)) ?_))))) fun r vs H20 nr e20 hr20 A20 => ?_
    · unfold lastL rngV
      rw [List.map_append, List.map_map, List.map_map]
      rfl
    have x0 : Ex H H20 := (((e14.trans (x413.trans hide_ex)).trans x19).trans e20)
    refine k [L0, L1, os, L3, L4, lastL h] r vs H20 ⟨rfl, fun L hL => ?_⟩ (fresh_back ((e14.trans (x413.trans hide_ex)).trans x19) nr) x0 hr20 A20
    have hg : ∀ {m' : Nat} {L : List Int}, goodL m' L → 1 ≤ m' → m' ≤ 66 → 1 ≤ L.length ∧ L.length ≤ 66 ∧ ∀ c ∈ L, 0 ≤ c ∧ c < (L.length : Int) := fun g h1 h2 => ⟨by rw [g.1]; exact h1, by rw [g.1]; exact h2, fun c hc => by rw [g.1]; exact g.2 c hc⟩
    simp only [List.mem_cons, List.not_mem_nil, or_false] at hL
    rcases hL with rfl | rfl | rfl | rfl | rfl | rfl
    · exact hg g0 m1 (by omega)
    · exact hg g1 m1 (by omega)
    · exact hg g2 m1 (by omega)
    · exact hg g3 m1 (by omega)
    · exact hg g4 m1 (by omega)
    · exact hg g5 h66.1 h66.2
def SetR (ss : List Sh) : Prop := ∃ Ls, GoodS Ls ∧ ss = Ls.map Sh.ints
theorem SetR.at {ss : List Sh} (h : SetR ss) {i : Nat} {s : Sh} (hs : ss[i]? = some s) : ∃ L : List Int, s = Sh.ints L ∧ 1 ≤ L.length ∧ L.length ≤ 66 ∧ ∀ c ∈ L, 0 ≤ c ∧ c < (L.length : Int) := by
  obtain ⟨Ls, g, rfl⟩ := h
  rw [List.getElem?_map] at hs
  cases hL : Ls[i]? with
  | none => rw [hL] at hs; cases hs
  | some L =>
    rw [hL] at hs
    exact ⟨L, (Option.some.inj hs).symm, g.2 L (List.mem_of_getElem? hL)⟩
theorem EQ.settings {X : Cx} {a : Expr} {σ : L2.St} {H : Hp} {p pos : Pos} {j : Nat} {q : Addr} {ns : List Int} (C : Fc X.prog X.w X.K X.mg X.base 2 "_law_settings" (spSettings X.K)) (hr : Room j X.A) (ha : EV X a σ H (.ref q)) (hq : SqL X.K H q (ns.map V.int)) (hl : ns.length ≤ 63) (hb : ∀ z ∈ ns, Builtin.Int.intBits z ≤ 1048576) (hk : 2 ≤ j := by decide) (hg : Gl X "_law_settings" := by rfl) (hs : noStar a = true := by rfl) :
    EQ X (.Call (.Name "_law_settings" p) [a] [] pos) σ H SetR :=
  ⟨fun H1 e1 Q k => EW.call C hr ((AV.one ha).ev H1 e1 _ fun H2 e2 => ⟨q, ns, rfl, ex_l (e1.trans e2) hq, hl, hb, fun Ls p us H3 g np e3 hp hA => k _ p us H3 ⟨Ls, g, rfl⟩ (fresh_back e2 np) (e2.trans e3) hp hA⟩) hk hg (by simp [hs])⟩
end
end QR

namespace QR
open PySem PySem.Spec PyProof.Rows L2 Evl
theorem kdT_P (j : Bool) (fo : Option (Nat × Nat)) : (decide (kdT j fo = .P) || decide (kdT j fo = .JP)) = fo.isNone := by
  cases j <;> cases fo <;> rfl
theorem kdT_1 (j : Bool) (a b : Nat) : ("one" : Str) ∈ (kdT j (some (a, b))).flds := by cases j <;> exact List.mem_cons_self
theorem kdT_2 (j : Bool) (a b : Nat) : ("other" : Str) ∈ (kdT j (some (a, b))).flds := by cases j <;> exact List.mem_cons_of_mem _ List.mem_cons_self
section
variable {P : Program} {w : World} {K : PySem.W.Frag} {mg : Str → Option Value} {base : Heap} {ad : Kd → Addr} {xa : Ek → Addr} {CA : Addr}
/-! ### _law_due -/
def spDue2 (K : PySem.W.Frag) (ad : Kd → Addr) : Sp := fun vs H Q _ => ∃ (q p dx : Addr) (ns : List Int) (j : Bool) (fo : Option (Nat × Nat)), vs = [.ref q, .ref p, .bl j] ∧ SqL K H q (ns.map V.int) ∧ H p = some (.ins (ad (kdT j fo)) dx (fsO fo)) ∧ 0 < ns.length ∧ ns.length ≤ 4000 ∧ RetV (.bl (dueT j fo ns)) H Q
theorem ok_law_due2 {f : Addr} {fd : FuncData} (F : Fun K "_law_due" "_law_due" s_law_due f fd) (B : Bl mg) (A : Ans K mg ad CA) (c_law_peace : Fc P w K mg base 1 "_law_peace" (spPeace K)) (c_law_takes : Fc P w K mg base 1 "_law_takes" (spLTakes K)) : FnOk P w K mg base (L2.CX P w) 2 f fd ["_law_places", "_law_found", "_law_joined"] (spDue2 K ad) := by
  refine okB F sc_law_due (fun vs H Q E h => ?_) (fun cdv Ar outer s H vs Q E hr h => ?_)
  · obtain ⟨q, p, dx, ns, j, fo, rfl, _⟩ := h
    rfl
  · obtain ⟨q, p, dx, ns, j, fo, rfl, hq, hp, h0, hl, k⟩ := h
    have nd := sc_law_due.nd
    refine BW.when (TV.is (TV.or2 (TV.val (EV.isK A B.isinstance .P (EV.var 1 rfl) hp)) (fun h1 => (TV.val (EV.isK A B.isinstance .JP (EV.var 1 rfl) hp)))) (kdT_P j fo)) (fun hk H1 e1 => ?_) (fun hk H1 e1 => ?_)
    · cases fo with
      | some z => cases hk
      | none => exact BW.ret (EV.call c_law_peace hr (AV.two (EV.var 0 rfl) (EV.var 2 rfl)) (sv_peace (ex_l e1 hq) h0 hl)) fun H2 e2 => k H2 (e1.trans e2)
    · cases fo with
      | none => cases hk
      | some z =>
        obtain ⟨a, b⟩ := z
        have hlen : ((ns.map V.int).length : Int) = (ns.length : Int) := by simp
        have hp1 : H1 p = some (.ins (ad (kdT j (some (a, b)))) dx (fsT a b)) := e1 _ _ hp
        have f1 : ("one" : Str) ∈ (kdT j (some (a, b))).flds := kdT_1 j a b
        have f2 : ("other" : Str) ∈ (kdT j (some (a, b))).flds := kdT_2 j a b
        have l1 : (fsT a b).lookup ("one" : Str) = some (V.int a) := rfl
        have l2 : (fsT a b).lookup ("other" : Str) = some (V.int b) := rfl
        have hq1 := ex_l e1 hq
        refine BW.when (TV.not (TV.leLtLt EV.int (EV.fldK A (EV.var 1 rfl) hp1 l1 f1) (EV.fldK A (EV.var 1 rfl) hp1 l2 f2) (EV.isI (EV.len B.len (EV.var 0 rfl) hq1) hlen))) (fun hk2 H2 e2 => ?_) (fun hk2 H2 e2 => ?_)
        · refine BW.ret EV.bl fun H3 e3 => ?_
          have : dueT j (some (a, b)) ns = false := by
            show tkShows j ns a b = false
            unfold tkShows
            rw [Bool.not_eq_true'] at hk2
            rw [hk2]
            rfl
          have q := k H3 ((e1.trans e2).trans e3)
          rw [this] at q
          exact q
        · rw [Bool.not_eq_false'] at hk2
          have hp2 := e2 _ _ hp1
          have hq2 := ex_l e2 hq1
          have hk3 := hk2
          simp only [Bool.and_eq_true, decide_eq_true_eq] at hk3
          refine BW.ret (EV.isB (EV.call c_law_takes hr (AV.cons (EV.var 0 rfl) (AV.three (EV.fldK A (EV.var 1 rfl) hp2 l1 f1) (EV.fldK A (EV.var 1 rfl) hp2 l2 f2) (EV.var 2 rfl))) (sv_ltakes hq2 (by omega) (by omega))) ?_) fun H3 e3 => k H3 ((e1.trans e2).trans e3)
          show takes j ns a b = tkShows j ns a b
          unfold tkShows
          rw [hk2]
          simp
theorem sv_due2 {H : Hp} {q p dx : Addr} {ns : List Int} {j : Bool} {fo : Option (Nat × Nat)} (hq : SqL K H q (ns.map V.int)) (hp : H p = some (.ins (ad (kdT j fo)) dx (fsO fo))) (h0 : 0 < ns.length) (hl : ns.length ≤ 4000) : SpV (spDue2 K ad) [.ref q, .ref p, .bl j] H (.bl (dueT j fo ns)) := fun H1 e1 Q k _ => ⟨q, p, dx, ns, j, fo, rfl, ex_l e1 hq, e1 _ _ hp, h0, hl, k⟩
/-! ### _law_kinds -/
def spKinds (ad : Kd → Addr) : Sp := fun vs H Q _ => ∃ (p dx : Addr) (j : Bool) (fo : Option (Nat × Nat)) (fs : List (Str × V)), vs = [.ref p, .bl j] ∧ H p = some (.ins (ad (kdT j fo)) dx fs) ∧ RetL [.bl fo.isNone, .bl (!fo.isNone)] H Q
theorem ok_law_kinds {f : Addr} {fd : FuncData} (F : Fun K "_law_kinds" "_law_kinds" s_law_kinds f fd) (B : Bl mg) (A : Ans K mg ad CA) : FnOk P w K mg base (L2.CX P w) 1 f fd ["_law_found", "_law_joined"] (spKinds ad) := by
  refine okB F sc_law_kinds (fun vs H Q E h => ?_) (fun cdv Ar outer s H vs Q E hr h => ?_)
  · obtain ⟨p, dx, j, fo, fs, rfl, _⟩ := h
    rfl
  · obtain ⟨p, dx, j, fo, fs, rfl, hp, k⟩ := h
    have nd := sc_law_kinds.nd
    refine BW.asgL 2 nd (EL.lst (AV.two (EV.isK A B.isinstance .P (EV.var 0 rfl) hp) (EV.isK A B.isinstance .T (EV.var 0 rfl) hp))) fun p1 H1 np1 e1 hp1 => ?_
    have hq1 := e1 _ _ hp
    refine BW.asgL 3 nd (EL.lst (AV.two (EV.isK A B.isinstance .JP (EV.var 0 rfl) hq1) (EV.isK A B.isinstance .JT (EV.var 0 rfl) hq1))) fun p2 H2 np2 e2 hp2 => ?_
    have np2' := fresh_back e1 np2
    have e12 := e1.trans e2
    refine BW.whenC (fun σ' H' => Ex H2 H' ∧ ∃ r1 r2, H r1 = none ∧ H2 r1 = some (.lst [.bl fo.isNone, .bl (!fo.isNone)]) ∧ H2 r2 = some (.lst [.bl false, .bl false]) ∧ σ' = [some (.ref p), some (.bl j), some (.ref r1), some (.ref r2)]) (TV.val (EV.var 1 rfl)) (fun hk H3 e3 => ?_) (fun hk H3 e3 => ?_) ?_
    · refine BW.par 2 3 nd (EV.var 3 rfl) (EV.var 2 rfl) fun H4 e4 => BW.nil ⟨e3.trans e4, p2, p1, np2', ?_, ?_, rfl⟩
      · subst hk
        rw [hp2]
        cases fo <;> rfl
      · subst hk
        rw [e2 _ _ hp1]
        cases fo <;> rfl
    · refine ⟨e3, p1, p2, np1, ?_, ?_, rfl⟩
      · subst hk
        rw [e2 _ _ hp1]
        cases fo <;> rfl
      · subst hk
        rw [hp2]
        cases fo <;> rfl
    · rintro σ' H' ⟨e3, r1, r2, nr1, hr1, hr2, rfl⟩
      have hpp := e3 _ _ (e12 _ _ hp)
      refine BW.skip (TV.is (TV.or4 (TV.val (EV.any (bs := [false, false]) B.any (EV.var 3 rfl) (sq_of (e3 _ _ hr2)))) (fun _ => TV.val (EV.isK A B.isinstance .S (EV.var 0 rfl) hpp)) (fun _ _ => TV.val (EV.isK A B.isinstance .B (EV.var 0 rfl) hpp)) (fun _ _ _ => TV.not (TV.val (EV.isA A B.isinstance (EV.var 0 rfl) hpp)))) (by cases j <;> cases fo <;> rfl)) fun H4 e4 => ?_
      exact BW.ret (EV.var 2 rfl) fun H5 e5 => k r1 H5 nr1 (((e12.trans e3).trans e4).trans e5) (e5 _ _ (e4 _ _ (e3 _ _ hr1)))
theorem sl_kinds {H : Hp} {p dx : Addr} {j : Bool} {fo : Option (Nat × Nat)} {fs : List (Str × V)} (hp : H p = some (.ins (ad (kdT j fo)) dx fs)) : SpL (spKinds ad) [.ref p, .bl j] H [.bl fo.isNone, .bl (!fo.isNone)] := fun H1 e1 Q k _ => ⟨p, dx, j, fo, fs, rfl, e1 _ _ hp, k⟩
/-! ### _law_right -/
def GL (L : List Int) : Prop := 1 ≤ L.length ∧ L.length ≤ 66 ∧ ∀ c ∈ L, 0 ≤ c ∧ c < (L.length : Int)
def spR2 (K : PySem.W.Frag) : Sp := fun vs H Q _ => ∃ (q : Addr) (L L1 L2 : List Int) (y : V) (j : Bool), vs = [.ref q, y, .bl j] ∧ SqL K H q (L.map V.int) ∧ GL L ∧ GL L1 ∧ GL L2 ∧ Is K H y (.lst [Sh.ints L1, Sh.ints L2]) ∧ RetV (.bl true) H Q
theorem ok_law_right2 {f : Addr} {fd : FuncData} (F : Fun K "_law_right" "_law_right" s_law_right f fd) (B : Bl mg) (A : Ans K mg ad CA) (S : Sw P w K mg base ad) (c_told : Fc P w K mg base 3 "told" (spTold K xa ad false)) (c_told_joined : Fc P w K mg base 3 "told_joined" (spTold K xa ad true)) (c_law_kinds : Fc P w K mg base 1 "_law_kinds" (spKinds ad)) (c_law_whole : Fc P w K mg base 1 "_law_whole" spWhole) (c_law_peace : Fc P w K mg base 1 "_law_peace" (spPeace K)) (c_law_due : Fc P w K mg base 2 "_law_due" (spDue2 K ad)) : FnOk P w K mg base (L2.CX P w) 4 f fd ["_law_places", "_law_others", "_law_joined"] (spR2 K) := by
  refine okB F sc_law_right (fun vs H Q E h => ?_) (fun cdv Ar outer s H vs Q E hr h => ?_)
  · obtain ⟨q, L, L1, L2, y, j, rfl, _⟩ := h
    rfl
  · obtain ⟨q, L, L1, L2, y, j, rfl, hq, ⟨g1, g2, gb⟩, gL1, gL2, hy, k⟩ := h
    have nd := sc_law_right.nd
    obtain ⟨fo, ho⟩ := first_ex j L
    refine BW.asgL 3 nd (EL.listOf B.list (ES.old (EV.var 0 rfl) hq)) fun ph H1 nph e1 hph => ?_
    refine BW.forR 4 B.range nd EV.int ⟨by decide, by decide⟩ (fun i σ' H' => Ex H1 H' ∧ ∃ y4 y5 y6 y7, σ' = [some (.ref q), some y, some (.bl j), some (.ref ph), y4, y5, y6, y7]) (fun H2 e2 => ⟨e2, _, _, _, _, rfl⟩) ?_ ?_
    · rintro i σ' H2 hi ⟨e2, y4, y5, y6, y7, rfl⟩
      have e02 := e1.trans e2
      have hph2 := e2 _ _ hph
      refine BW.asgI 5 nd (C := ad (kdT j fo)) (fs := fsO fo) (EI.ite (TV.val (EV.var 2 rfl)) (fun h1 => ?_) (fun h1 => ?_)) fun p dx H3 np e3 hp => ?_
      · subst h1
        exact EI.call c_told_joined hr (AV.one (EV.var 3 rfl)) (si_told (sq_of hph2) g1 (by omega) gb ho)
      · subst h1
        exact EI.call c_told hr (AV.one (EV.var 3 rfl)) (si_told (sq_of hph2) g1 (by omega) gb ho)
      refine BW.asgL 6 nd (EL.call c_law_kinds hr (AV.two (EV.var 5 rfl) (EV.var 2 rfl)) (sl_kinds hp)) fun pk H4 npk e4 hpk => ?_
      have e04 := (e02.trans e3).trans e4
      have hq4 := ex_l e04 hq
      have hph4 := e4 _ _ (e3 _ _ hph2)
      refine BW.skip (TV.is (TV.or2 (TV.ne (EV.count (EV.var 6 rfl) (sq_of hpk) EV.bl) EV.int) (fun h1 => (TV.neL (ns := L) (ms := L) hr (ES.old (EV.var 3 rfl) (sq_of hph4)) (ES.old (EV.var 0 rfl) hq4)))) (by cases fo <;> simp [eqV])) fun H5 e5 => ?_
      have hpk5 := e5 _ _ hpk
      have hp5 := e5 _ _ (e4 _ _ hp)
      have hx0 : atI [V.bl fo.isNone, V.bl (!fo.isNone)] 0 = some (.bl fo.isNone) := rfl
      have hx1 : atI [V.bl fo.isNone, V.bl (!fo.isNone)] 1 = some (.bl (!fo.isNone)) := rfl
      refine BW.skip (TV.is (TV.and2 (k2 := false) (TV.val (EV.ixL (EV.var 6 rfl) EV.int (sq_of hpk5) hx1)) (fun h1 => ?_)) (Bool.and_false _)) fun H6 e6 => ?_
      · cases fo with
        | none => cases h1
        | some z =>
          obtain ⟨a, b⟩ := z
          have hp5' : H5 p = some (.ins (ad (kdT j (some (a, b)))) dx (fsT a b)) := hp5
          have f1 : ("one" : Str) ∈ (kdT j (some (a, b))).flds := kdT_1 j a b
          have f2 : ("other" : Str) ∈ (kdT j (some (a, b))).flds := kdT_2 j a b
          have l1 : (fsT a b).lookup ("one" : Str) = some (V.int a) := rfl
          have l2 : (fsT a b).lookup ("other" : Str) = some (V.int b) := rfl
          exact TV.is (TV.not (TV.and2 (TV.val (EV.call c_law_whole hr (AV.one (EV.fldK A (EV.var 5 rfl) hp5' l1 f1)) sv_whole)) (fun h1 => (TV.val (EV.call c_law_whole hr (AV.one (EV.fldK A (EV.var 5 rfl) hp5' l2 f2)) sv_whole))))) rfl
      have hpk6 := e6 _ _ hpk5
      have hp6 := e6 _ _ hp5
      have hq6 := ex_l (e5.trans e6) hq4
      refine BW.skip (TV.is (TV.or2 (TV.neB (EV.ixL (EV.var 6 rfl) EV.int (sq_of hpk6) hx0) (EV.call c_law_peace hr (AV.two (EV.var 0 rfl) (EV.var 2 rfl)) (sv_peace hq6 (by omega) (by omega)))) (fun h1 => (TV.not (TV.val (EV.call c_law_due hr (AV.three (EV.var 0 rfl) (EV.var 5 rfl) (EV.var 2 rfl)) (sv_due2 hq6 hp6 (by omega) (by omega))))))) (by rw [first_peace gb ho, due_self gb ho]; simp)) fun H7 e7 => ?_
      have hp7 := e7 _ _ hp6
      have hq7 := ex_l e7 hq6
      refine BW.skip (TV.is (TV.notB2 (EV.shD S hr (EX.var 5 rfl (.ins hp7)) (EX.var 0 rfl (Is.ints hq7)) (by omega) gb) EV.bl) (by rw [due_self gb ho]; rfl)) fun H8 e8 => ?_
      have e08 : Ex H H8 := (((e04.trans e5).trans e6).trans e7).trans e8
      refine BW.forX (ss := [Sh.ints L1, Sh.ints L2]) (EX.var 1 rfl (hy.ex e08)) (pg_name (i := 7) nd rfl (Or.inl rfl)) (fun Ha i2 σ' Hb => Ex Ha Hb ∧ ∃ y7, σ' = [some (.ref q), some y, some (.bl j), some (.ref ph), some (.int (i : Int)), some (.ref p), some (.ref pk), y7]) (fun Ha ea => ⟨Ex.refl _, _, rfl⟩) (fun Ha i2 σ' Hb pv => pv.1) ?_ ?_
      · rintro Ha i2 sh v σ' Hb ea hs hv ⟨eb, y7, rfl⟩
        obtain ⟨L', rfl, gl1, gl2, glb⟩ : ∃ L', sh = Sh.ints L' ∧ GL L' := by
          match i2, hs with
          | 0, hs => exact ⟨L1, (Option.some.inj hs).symm, gL1⟩
          | 1, hs => exact ⟨L2, (Option.some.inj hs).symm, gL2⟩
        obtain ⟨r, rfl, hr'⟩ := hv.ofInts
        have hpb : Hb p = some (.ins (ad (kdT j fo)) dx (fsO fo)) := eb _ _ (ea _ _ (e8 _ _ hp7))
        show BW _ _ _ [some (.ref q), some y, some (.bl j), some (.ref ph), some (.int (i : Int)), some (.ref p), some (.ref pk), some (.ref r)] Hb
        refine BW.skip (TV.is (TV.neB (EV.shD S hr (EX.var 5 rfl (.ins hpb)) (EX.var 7 rfl (Is.ints hr')) (by omega) glb) (EV.call c_law_due hr (AV.three (EV.var 7 rfl) (EV.var 5 rfl) (EV.var 2 rfl)) (sv_due2 hr' hpb (by omega) (by omega)))) (by simp)) fun Hc ec => BW.nil ⟨eb.trans ec, _, rfl⟩
      · rintro Ha σ' Hb ea ⟨eb, y7, rfl⟩
        exact BW.nil ⟨((((((((e2.trans e3).trans e4).trans e5).trans e6).trans e7).trans e8).trans ea).trans eb), _, _, _, _, rfl⟩
    · rintro σ' H2 ⟨e2, y4, y5, y6, y7, rfl⟩
      exact BW.ret EV.bl fun H3 e3 => k H3 ((e1.trans e2).trans e3)
theorem sv_R2 {H : Hp} {q : Addr} {L L1 L2 : List Int} {y : V} {j : Bool} (hq : SqL K H q (L.map V.int)) (gL : GL L) (g1 : GL L1) (g2 : GL L2) (hy : Is K H y (.lst [Sh.ints L1, Sh.ints L2])) : SpV (spR2 K) [.ref q, y, .bl j] H (.bl true) := fun H1 e1 Q k _ => ⟨q, L, L1, L2, y, j, rfl, ex_l e1 hq, gL, g1, g2, hy.ex e1, k⟩
end
end QR

namespace QR
open PySem PySem.Spec PyProof.Rows L2 Evl
theorem SetR.ix {ss : List Sh} (h : SetR ss) {x : Int} (h0 : -6 ≤ x) (h1 : x < 6) : ∃ (k : Nat) (L : List Int), ixN ss.length x = some k ∧ ss[k]? = some (Sh.ints L) ∧ GL L := by
  obtain ⟨Ls, g, rfl⟩ := h
  have hl : (Ls.map Sh.ints).length = 6 := by rw [List.length_map]; exact g.1
  obtain ⟨k, hk, hk6⟩ : ∃ k : Nat, ixN (Ls.map Sh.ints).length x = some k ∧ k < 6 := by
    rw [hl]
    unfold ixN
    by_cases hx : 0 ≤ x
    · exact ⟨x.toNat, by rw [if_pos hx, if_pos (by omega)], by omega⟩
    · exact ⟨(x + 6).toNat, by rw [if_neg hx, if_pos (by omega)]; rfl, by omega⟩
  have hkl : k < Ls.length := by rw [g.1]; exact hk6
  exact ⟨k, Ls[k], hk, by rw [List.getElem?_map, List.getElem?_eq_getElem hkl]; rfl, g.2 _ (List.getElem_mem hkl)⟩
theorem GL.rev {L : List Int} (h : GL L) : GL L.reverse := ⟨by rw [List.length_reverse]; exact h.1, by rw [List.length_reverse]; exact h.2.1, fun c hc => by rw [List.length_reverse]; exact h.2.2 c (List.mem_reverse.mp hc)⟩
theorem rg_step (s : Int) (b : Bool) : ∃ n : Nat, RgC (s % (if b = true then 1 else 3)) 6 (if b = true then 1 else 3) n ∧ ∀ i : Nat, i < n → 0 ≤ s % (if b = true then 1 else 3) + (i : Int) * (if b = true then 1 else 3) ∧ s % (if b = true then 1 else 3) + (i : Int) * (if b = true then 1 else 3) < 6 := by
  cases b with
  | true =>
    refine ⟨6, ?_, fun i hi => ?_⟩
    · rw [if_pos rfl, Int.emod_one]
      exact ⟨by decide, by decide, by decide, by decide⟩
    · rw [if_pos rfl, Int.emod_one]
      omega
  | false =>
    rw [if_neg (by decide)]
    have h0 := Int.emod_nonneg s (show (3 : Int) ≠ 0 by decide)
    have h1 := Int.emod_lt_of_pos s (show (0 : Int) < 3 by decide)
    generalize s % 3 = r at h0 h1 ⊢
    have : r = 0 ∨ r = 1 ∨ r = 2 := by omega
    rcases this with rfl | rfl | rfl
    · exact ⟨2, ⟨by decide, by decide, by decide, by decide⟩, fun i hi => by omega⟩
    · exact ⟨2, ⟨by decide, by decide, by decide, by decide⟩, fun i hi => by omega⟩
    · exact ⟨2, ⟨by decide, by decide, by decide, by decide⟩, fun i hi => by omega⟩
section
variable {P : Program} {w : World} {K : PySem.W.Frag} {mg : Str → Option Value} {base : Heap} {ad : Kd → Addr} {xa : Ek → Addr} {CA : Addr}
def spLaw (K : PySem.W.Frag) : Sp := fun vs H Q _ => ∃ (a : Addr) (ns : List Int), vs = [.ref a] ∧ SqL K H a (ns.map V.int) ∧ ns.length ≤ 63 ∧ (∀ z ∈ ns, Builtin.Int.intBits z ≤ 1048576) ∧ RetV (.bl true) H Q
theorem ok_law {f : Addr} {fd : FuncData} (F : Fun K "law" "law" s_law f fd) (B : Bl mg) (A : Ans K mg ad CA) (c_law_settings : Fc P w K mg base 2 "_law_settings" (spSettings K)) (c_told : Fc P w K mg base 3 "told" (spTold K xa ad false)) (c_told_joined : Fc P w K mg base 3 "told_joined" (spTold K xa ad true)) (c_law_right : Fc P w K mg base 4 "_law_right" (spR2 K)) : FnOk P w K mg base (L2.CX P w) 5 f fd ["_law_script"] (spLaw K) := by
  refine okB F sc_law (fun vs H Q E h => ?_) (fun cdv Ar outer s H vs Q E hr h => ?_)
  · obtain ⟨a, ns, rfl, _⟩ := h
    rfl
  · obtain ⟨a, ns, rfl, hq, hl, hb, k⟩ := h
    have nd := sc_law.nd
    refine BW.asgQ 1 nd (EQ.settings c_law_settings hr (EV.var 0 rfl) hq hl hb) fun ss q us H1 hR nq e1 hq1 hA => ?_
    have hlen6 : ss.length = 6 := by
      obtain ⟨Ls, g, rfl⟩ := hR
      rw [List.length_map]
      exact g.1
    have hev : ∀ {H2 : Hp}, Ex H1 H2 → Is K H2 (.ref q) (.lst ss) := fun e2 => .lst (sq_of (e2 _ _ hq1)) (hA.ex e2)
    obtain ⟨k0, L0, hk0, hL0, _⟩ := hR.ix (x := 0) (by decide) (by decide)
    refine BW.asg 2 nd (EV.iteI (TV.lt (EV.lenX B.len (EX.ixL (EX.var 1 rfl (hev (Ex.refl _))) EV.int hk0 hL0)) EV.int) (fun h1 => EV.int) (fun h1 => EV.int)) fun H2 e2 => ?_
    generalize decide (((L0.map fun n => Sh.v (V.int n)).length : Int) < 30) = bs
    obtain ⟨n, hn, hbn⟩ := rg_step ns.sum bs
    have e02 := e1.trans e2
    generalize hst : (if bs = true then (1 : Int) else 3) = st at hn hbn ⊢
    have hst0 : 0 < st := by rw [← hst]; split <;> decide
    refine BW.forR3 3 n B.range nd (EV.mod (EV.sumN (ns := ns) B.sum (EL.is (EL.upto (EV.var 0 rfl) EV.int (ex_l e02 hq)) ?_)) (EV.var 2 rfl) hst0) (EV.isI (j := 6) (EV.lenX B.len (EX.var 1 rfl (hev e2))) (by rw [hlen6]; rfl)) (EV.var 2 rfl) hn (fun i σ' H' => Ex H1 H' ∧ ∃ y3 y4, σ' = [some (.ref a), some (.ref q), some (.int st), y3, y4]) (fun H3 e3 => ⟨e2.trans e3, _, _, rfl⟩) ?_ ?_
    · rw [show (63 : Int) = ((63 : Nat) : Int) from rfl, cut_upto, ← List.map_take, List.take_of_length_le hl]
    · rintro i σ' H3 hi ⟨e3, y3, y4, rfl⟩
      obtain ⟨at0, at1⟩ := hbn i hi
      generalize ns.sum % st + (i : Int) * st = at' at at0 at1 ⊢
      refine BW.forNL (xs := [.bl false, .bl true]) (EL.lst (AV.two EV.bl EV.bl)) (pg_name (i := 4) nd rfl (Or.inl rfl)) (fun p j σ' H4 => Ex H3 H4 ∧ H4 p = some (.lst [.bl false, .bl true]) ∧ ∃ y4, σ' = [some (.ref a), some (.ref q), some (.int st), some (.int at'), y4])
        (fun p H4 np e4 hp => ⟨e4, hp, _, rfl⟩) (fun p j σ' H4 _ pv => sq_of pv.2.1) ?_ ?_
      · rintro p j x σ' H4 hj ⟨e4, hp, y4, rfl⟩
        obtain ⟨jd, rfl⟩ : ∃ jd : Bool, x = .bl jd := by
          match j, hj with
          | 0, hj => exact ⟨_, (Option.some.inj hj).symm⟩
          | 1, hj => exact ⟨_, (Option.some.inj hj).symm⟩
        show BW _ _ _ [some (.ref a), some (.ref q), some (.int st), some (.int at'), some (.bl jd)] H4
        obtain ⟨ka, La, hka, hLa, ga⟩ := hR.ix (x := at') (by omega) at1
        obtain ⟨kb, Lb, hkb, hLb, gb⟩ := hR.ix (x := at' - 1) (by omega) (by omega)
        obtain ⟨kc, Lc, hkc, hLc, gc⟩ := hR.ix (x := at' - 2) (by omega) (by omega)
        have he := hev (e3.trans e4)
        refine BW.skip (TV.is (TV.not (TV.val (EV.callA (z := .bl true) c_law_right hr (ss := [Sh.ints La, .lst [Sh.ints Lb, Sh.ints Lc.reverse], .v (.bl jd)]) (AX.three (EX.ixL (EX.var 1 rfl he) (EV.var 3 rfl) hka hLa) (EX.lst (AX.two (EX.ixL (EX.var 1 rfl he) (EV.sub (EV.var 3 rfl) EV.int) hkb hLb) (EX.newI (EL.is (EL.rev (ES.ofX (EX.ixL (EX.var 1 rfl he) (EV.sub (EV.var 3 rfl) EV.int) hkc hLc))) (by rw [List.map_reverse]))))) (EX.vv (EV.var 4 rfl))) (fun vs H5 e5 hvs => ?_)))) rfl) fun H5 e5 => BW.nil ⟨e4.trans e5, e5 _ _ hp, _, rfl⟩
        obtain ⟨u, v, x, rfl, hu, hv, hx⟩ := hvs.three
        obtain ⟨r, rfl, hr'⟩ := hu.ofInts
        cases hx.vv
        exact sv_R2 hr' ga gb gc.rev hv
      · rintro p σ' H4 ⟨e4, hp, y4, rfl⟩
        exact BW.nil ⟨e3.trans e4, _, _, rfl⟩
    rintro σ' H3 ⟨e3, y3, y4, rfl⟩
    have f1 : FirstIs false [0, 2, 1] (some (1, 2)) := by
      show IsFirst false [0, 2, 1] 1 2
      unfold IsFirst
      decide
    have f2 : FirstIs false [1, 3, 0, 2] none := by
      show NoTake false [1, 3, 0, 2]
      unfold NoTake
      decide
    have f3 : FirstIs false [0] none := by
      show NoTake false [0]
      unfold NoTake
      decide
    have f4 : FirstIs true [0, 2, 4, 1, 3] none := by
      show NoTake true [0, 2, 4, 1, 3]
      unfold NoTake
      decide
    have f5 : FirstIs true [0] none := by
      show NoTake true [0]
      unfold NoTake
      decide
    have f6 : FirstIs true [1, 3, 0, 2] (some (1, 2)) := by
      show IsFirst true [1, 3, 0, 2] 1 2
      unfold IsFirst
      decide
    refine BW.skip (TV.is (TV.or3 (TV.ne (EV.fldX (v := .int 1) (EX.told (ns := [0, 2, 1]) c_told hr (EX.newI (EL.lst (AV.three EV.int EV.int EV.int))) (by decide) (by decide) (by decide) f1) (A.cs .T).cl ((A.cs .T).na "one" (by decide)) rfl) EV.int) (fun h1 => (TV.not (TV.val (EV.isKX A B.isinstance .P (EX.told (ns := [1, 3, 0, 2]) c_told hr (EX.newI (EL.lst (AV.cons EV.int (AV.three EV.int EV.int EV.int)))) (by decide) (by decide) (by decide) f2))))) (fun h1 h2 => (TV.not (TV.val (EV.isKX A B.isinstance .P (EX.told (ns := [0]) c_told hr (EX.newI (EL.lst (AV.one EV.int))) (by decide) (by decide) (by decide) f3)))))) (by decide)) fun H4 e4 => ?_
    refine BW.skip (TV.is (TV.or2 (TV.not (TV.val (EV.isKX A B.isinstance .JP (EX.told (ns := [0, 2, 4, 1, 3]) c_told_joined hr (EX.newI (EL.lst (AV.cons EV.int (AV.cons EV.int (AV.three EV.int EV.int EV.int))))) (by decide) (by decide) (by decide) f4)))) (fun h1 => (TV.not (TV.val (EV.isKX A B.isinstance .JP (EX.told (ns := [0]) c_told_joined hr (EX.newI (EL.lst (AV.one EV.int))) (by decide) (by decide) (by decide) f5)))))) (by decide)) fun H5 e5 => ?_
    exact BW.ret (EV.isB (EV.isKX A B.isinstance .JT (EX.told (ns := [1, 3, 0, 2]) c_told_joined hr (EX.newI (EL.lst (AV.cons EV.int (AV.three EV.int EV.int EV.int)))) (by decide) (by decide) (by decide) f6)) (by decide)) fun H6 e6 => k H6 ((((e1.trans e3).trans e4).trans e5).trans e6)
end
end QR

namespace QR
open PySem PySem.Spec PyProof.Rows L2 Evl
def fnl : List He.DefD := [dG "is_number" s_is_number, dG "take" s_take, dG "take_joined" s_take_joined, dG "first_taking" s_first_taking, dG "common" s_common, dM "Step" "__init__" "Step.__init__" s_Step___init__, dM "Barred" "__init__" "Barred.__init__" s_Barred___init__, dM "Take" "__init__" "Take.__init__" s_Take___init__, dM "JoinedTake" "__init__" "JoinedTake.__init__" s_JoinedTake___init__, dM "Step" "shows" "Step.shows" s_Step_shows, dM "Barred" "shows" "Barred.shows" s_Barred_shows, dM "Peace" "shows" "Peace.shows" s_Peace_shows, dM "JoinedPeace" "shows" "JoinedPeace.shows" s_JoinedPeace_shows, dM "Take" "shows" "Take.shows" s_Take_shows, dM "JoinedTake" "shows" "JoinedTake.shows" s_JoinedTake_shows, dG "check_setting" s_check_setting, dG "told" s_told, dG "told_joined" s_told_joined, dG "_law_number" s_law_number, dG "_law_whole" s_law_whole, dG "_law_takes" s_law_takes, dG "_law_peace" s_law_peace, dG "_law_settings" s_law_settings, dG "_law_due" s_law_due, dG "_law_kinds" s_law_kinds, dG "_law_right" s_law_right, dG "law" s_law]
def fal : List He.Fa := [.glo "is_number", .glo "take", .glo "take_joined", .glo "first_taking", .glo "common", .mkr "Step", .glo "Step", .mkr "Barred", .glo "Barred", .mkr "Take", .glo "Take", .mkr "JoinedTake", .glo "JoinedTake", .meth "Step" "shows", .cls "Step", .meth "Barred" "shows", .cls "Barred", .meth "Peace" "shows", .cls "Peace", .meth "JoinedPeace" "shows", .cls "JoinedPeace", .meth "Take" "shows", .cls "Take", .meth "JoinedTake" "shows", .cls "JoinedTake", .glo "check_setting", .glo "told", .glo "told_joined", .glo "_law_number", .glo "_law_whole", .glo "_law_takes", .glo "_law_peace", .glo "_law_settings", .glo "_law_due", .glo "_law_kinds", .glo "_law_right", .glo "law", .int "MOST" 200, .free "isinstance", .free "int", .free "bool", .free "list", .free "len", .free "all", .free "any", .free "abs", .free "range", .free "sum", .free "min", .free "max", .free "set", .free "enumerate", .free "sorted", .free "tuple", .free "str", .free "ValueError"]
def tfl : List He.Defn := []
def exl (K : PySem.W.Frag) : Bool := (ansB K && (mkNB K "Peace" && mkNB K "JoinedPeace")) && excB [.setting] K
abbrev R : PySem.W.OpenRow := PySem.W.OpenLaw.row PySem.Challenge.rw_queenrows_k02_whole_told
abbrev hk : PySem.W.Hook := He.hookX 5 fal fnl [] tfl exl
def ob (s : PySem.W.SharedT) : He.AlX := He.obsX 5 fal fnl [] tfl exl (HandSHeadRun.getT s)
theorem ob_eq (s : PySem.W.SharedT) : ob s = hk.obs s.abs := He.obsX_eq (HandSHeadRun.getT_eq s)
def loose0 : List Str := ["__name__", "QueenError", "BadSetting", "MOST", "is_number", "check_setting", "take", "take_joined", "first_taking", "common", "Answer", "Peace", "JoinedPeace", "Take", "JoinedTake", "Step", "Barred", "told", "told_joined", "_law_number", "_law_whole", "_law_takes", "_law_peace", "_law_settings", "_law_due", "_law_kinds", "_law_right"]
def loose : List Str := loose0
theorem run (w : World) : HandSHeadRun.RunEq R (PySem.W.view R.prog [31]) hk ob 4000 loose w := by
  intro os
  kernel_rfl
theorem facts {P : Program} {w : World} {K : PySem.W.Frag} {h : Heap} {mg : Str → Option Value} {f : Addr} (X : K.In h) (G : h.Ns mainGlobals mg) (hfa : mg ("law" : Str) = some (.ref f)) (c : He.SaysX fal fnl [] tfl exl w h K) :
    ∃ fd : FuncData, (∀ (s : Shared) (v : Value), BindsTo s fd ⟨[v], []⟩ [("_law_script", v)]) ∧ ∀ base : Heap, K.In base → base.Ns mainGlobals mg → FnOk P w K mg base (L2.CX P w) 5 f fd ["_law_script"] (spLaw K) := by
  have d := c.t.d
  have B : Bl mg := ⟨He.free_ok X G (d.fact 38 (f := .free "isinstance") rfl), He.free_ok X G (d.fact 39 (f := .free "int") rfl), He.free_ok X G (d.fact 40 (f := .free "bool") rfl), He.free_ok X G (d.fact 41 (f := .free "list") rfl), He.free_ok X G (d.fact 42 (f := .free "len") rfl), He.free_ok X G (d.fact 43 (f := .free "all") rfl), He.free_ok X G (d.fact 44 (f := .free "any") rfl), He.free_ok X G (d.fact 45 (f := .free "abs") rfl), He.free_ok X G (d.fact 46 (f := .free "range") rfl), He.free_ok X G (d.fact 47 (f := .free "sum") rfl), He.free_ok X G (d.fact 48 (f := .free "min") rfl), He.free_ok X G (d.fact 49 (f := .free "max") rfl), He.free_ok X G (d.fact 50 (f := .free "set") rfl), He.free_ok X G (d.fact 51 (f := .free "enumerate") rfl), He.free_ok X G (d.fact 52 (f := .free "sorted") rfl), He.free_ok X G (d.fact 53 (f := .free "tuple") rfl), He.free_ok X G (d.fact 54 (f := .free "str") rfl), He.free_ok X G (d.fact 55 (f := .free "ValueError") rfl)⟩
  have hX := He.ba c.more
  have hM := He.ba hX.1
  have A := ans_of X G hM.1
  have hN := He.ba hM.2
  have xE := exc_of X G hX.2
  have gM := He.int_ok X G (d.fact 37 (f := .int "MOST" 200) rfl)
  obtain ⟨fdL, FL0⟩ := d.def_ 26 (d := dG "law" s_law) rfl
  have FL : Fun K "law" "law" s_law _ fdL := fun_ofD FL0
  have e := hfa.symm.trans (He.glo_ok X G (d.fact 36 (f := .glo "law") rfl))
  cases e
  obtain ⟨fd0, F0_0⟩ := d.def_ 0 (d := dG "is_number" s_is_number) rfl
  have F_is_number : Fun K "is_number" "is_number" s_is_number _ fd0 := fun_ofD F0_0
  have b_is_number := F_is_number.binds (ps := ["thing", "least"]) fun _ _ _ _ _ _ us hl => match us, hl with | [_, _], _ => rfl
  obtain ⟨fd1, F1_0⟩ := d.def_ 1 (d := dG "take" s_take) rfl
  have F_take : Fun K "take" "take" s_take _ fd1 := fun_ofD F1_0
  have b_take := F_take.binds (ps := ["setting", "one", "other"]) fun _ _ _ _ _ _ us hl => match us, hl with | [_, _, _], _ => rfl
  obtain ⟨fd2, F2_0⟩ := d.def_ 2 (d := dG "take_joined" s_take_joined) rfl
  have F_take_joined : Fun K "take_joined" "take_joined" s_take_joined _ fd2 := fun_ofD F2_0
  have b_take_joined := F_take_joined.binds (ps := ["setting", "one", "other"]) fun _ _ _ _ _ _ us hl => match us, hl with | [_, _, _], _ => rfl
  obtain ⟨fd3, F3_0⟩ := d.def_ 3 (d := dG "first_taking" s_first_taking) rfl
  have F_first_taking : Fun K "first_taking" "first_taking" s_first_taking _ fd3 := fun_ofD F3_0
  have b_first_taking := F_first_taking.binds (ps := ["setting", "taking"]) fun _ _ _ _ _ _ us hl => match us, hl with | [_, _], _ => rfl
  obtain ⟨fd4, F4_0⟩ := d.def_ 4 (d := dG "common" s_common) rfl
  have F_common : Fun K "common" "common" s_common _ fd4 := fun_ofD F4_0
  have b_common := F_common.binds (ps := ["one", "other"]) fun _ _ _ _ _ _ us hl => match us, hl with | [_, _], _ => rfl
  obtain ⟨fd5, F5_0⟩ := d.def_ 5 (d := dM "Step" "__init__" "Step.__init__" s_Step___init__) rfl
  have F_Step_init : Fun K "__init__" "Step.__init__" s_Step___init__ _ fd5 := fun_ofD F5_0
  have b_Step_init := F_Step_init.binds (ps := ["self", "step"]) fun _ _ _ _ _ _ us hl => match us, hl with | [_, _], _ => rfl
  obtain ⟨fd6, F6_0⟩ := d.def_ 6 (d := dM "Barred" "__init__" "Barred.__init__" s_Barred___init__) rfl
  have F_Barred_init : Fun K "__init__" "Barred.__init__" s_Barred___init__ _ fd6 := fun_ofD F6_0
  have b_Barred_init := F_Barred_init.binds (ps := ["self", "by"]) fun _ _ _ _ _ _ us hl => match us, hl with | [_, _], _ => rfl
  obtain ⟨fd7, F7_0⟩ := d.def_ 7 (d := dM "Take" "__init__" "Take.__init__" s_Take___init__) rfl
  have F_Take_init : Fun K "__init__" "Take.__init__" s_Take___init__ _ fd7 := fun_ofD F7_0
  have b_Take_init := F_Take_init.binds (ps := ["self", "one", "other"]) fun _ _ _ _ _ _ us hl => match us, hl with | [_, _, _], _ => rfl
  obtain ⟨fd8, F8_0⟩ := d.def_ 8 (d := dM "JoinedTake" "__init__" "JoinedTake.__init__" s_JoinedTake___init__) rfl
  have F_JoinedTake_init : Fun K "__init__" "JoinedTake.__init__" s_JoinedTake___init__ _ fd8 := fun_ofD F8_0
  have b_JoinedTake_init := F_JoinedTake_init.binds (ps := ["self", "one", "other"]) fun _ _ _ _ _ _ us hl => match us, hl with | [_, _, _], _ => rfl
  obtain ⟨fd9, F9_0⟩ := d.def_ 9 (d := dM "Step" "shows" "Step.shows" s_Step_shows) rfl
  have F_Step_shows : Fun K "shows" "Step.shows" s_Step_shows _ fd9 := fun_ofD F9_0
  have b_Step_shows := F_Step_shows.binds (ps := ["self", "size"]) fun _ _ _ _ _ _ us hl => match us, hl with | [_, _], _ => rfl
  obtain ⟨fd10, F10_0⟩ := d.def_ 10 (d := dM "Barred" "shows" "Barred.shows" s_Barred_shows) rfl
  have F_Barred_shows : Fun K "shows" "Barred.shows" s_Barred_shows _ fd10 := fun_ofD F10_0
  have b_Barred_shows := F_Barred_shows.binds (ps := ["self", "size"]) fun _ _ _ _ _ _ us hl => match us, hl with | [_, _], _ => rfl
  obtain ⟨fd11, F11_0⟩ := d.def_ 11 (d := dM "Peace" "shows" "Peace.shows" s_Peace_shows) rfl
  have F_Peace_shows : Fun K "shows" "Peace.shows" s_Peace_shows _ fd11 := fun_ofD F11_0
  have b_Peace_shows := F_Peace_shows.binds (ps := ["self", "setting"]) fun _ _ _ _ _ _ us hl => match us, hl with | [_, _], _ => rfl
  obtain ⟨fd12, F12_0⟩ := d.def_ 12 (d := dM "JoinedPeace" "shows" "JoinedPeace.shows" s_JoinedPeace_shows) rfl
  have F_JoinedPeace_shows : Fun K "shows" "JoinedPeace.shows" s_JoinedPeace_shows _ fd12 := fun_ofD F12_0
  have b_JoinedPeace_shows := F_JoinedPeace_shows.binds (ps := ["self", "setting"]) fun _ _ _ _ _ _ us hl => match us, hl with | [_, _], _ => rfl
  obtain ⟨fd13, F13_0⟩ := d.def_ 13 (d := dM "Take" "shows" "Take.shows" s_Take_shows) rfl
  have F_Take_shows : Fun K "shows" "Take.shows" s_Take_shows _ fd13 := fun_ofD F13_0
  have b_Take_shows := F_Take_shows.binds (ps := ["self", "setting"]) fun _ _ _ _ _ _ us hl => match us, hl with | [_, _], _ => rfl
  obtain ⟨fd14, F14_0⟩ := d.def_ 14 (d := dM "JoinedTake" "shows" "JoinedTake.shows" s_JoinedTake_shows) rfl
  have F_JoinedTake_shows : Fun K "shows" "JoinedTake.shows" s_JoinedTake_shows _ fd14 := fun_ofD F14_0
  have b_JoinedTake_shows := F_JoinedTake_shows.binds (ps := ["self", "setting"]) fun _ _ _ _ _ _ us hl => match us, hl with | [_, _], _ => rfl
  obtain ⟨fd15, F15_0⟩ := d.def_ 15 (d := dG "check_setting" s_check_setting) rfl
  have F_check_setting : Fun K "check_setting" "check_setting" s_check_setting _ fd15 := fun_ofD F15_0
  have b_check_setting := F_check_setting.binds (ps := ["setting"]) fun _ _ _ _ _ _ us hl => match us, hl with | [_], _ => rfl
  obtain ⟨fd16, F16_0⟩ := d.def_ 16 (d := dG "told" s_told) rfl
  have F_told : Fun K "told" "told" s_told _ fd16 := fun_ofD F16_0
  have b_told := F_told.binds (ps := ["setting"]) fun _ _ _ _ _ _ us hl => match us, hl with | [_], _ => rfl
  obtain ⟨fd17, F17_0⟩ := d.def_ 17 (d := dG "told_joined" s_told_joined) rfl
  have F_told_joined : Fun K "told_joined" "told_joined" s_told_joined _ fd17 := fun_ofD F17_0
  have b_told_joined := F_told_joined.binds (ps := ["setting"]) fun _ _ _ _ _ _ us hl => match us, hl with | [_], _ => rfl
  obtain ⟨fd18, F18_0⟩ := d.def_ 18 (d := dG "_law_number" s_law_number) rfl
  have F_law_number : Fun K "_law_number" "_law_number" s_law_number _ fd18 := fun_ofD F18_0
  have b_law_number := F_law_number.binds (ps := ["_law_cell", "_law_at", "_law_whole_here"]) fun _ _ _ _ _ _ us hl => match us, hl with | [_, _, _], _ => rfl
  obtain ⟨fd19, F19_0⟩ := d.def_ 19 (d := dG "_law_whole" s_law_whole) rfl
  have F_law_whole : Fun K "_law_whole" "_law_whole" s_law_whole _ fd19 := fun_ofD F19_0
  have b_law_whole := F_law_whole.binds (ps := ["_law_found"]) fun _ _ _ _ _ _ us hl => match us, hl with | [_], _ => rfl
  obtain ⟨fd20, F20_0⟩ := d.def_ 20 (d := dG "_law_takes" s_law_takes) rfl
  have F_law_takes : Fun K "_law_takes" "_law_takes" s_law_takes _ fd20 := fun_ofD F20_0
  have b_law_takes := F_law_takes.binds (ps := ["_law_places", "_law_one", "_law_other", "_law_joined"]) fun _ _ _ _ _ _ us hl => match us, hl with | [_, _, _, _], _ => rfl
  obtain ⟨fd21, F21_0⟩ := d.def_ 21 (d := dG "_law_peace" s_law_peace) rfl
  have F_law_peace : Fun K "_law_peace" "_law_peace" s_law_peace _ fd21 := fun_ofD F21_0
  have b_law_peace := F_law_peace.binds (ps := ["_law_places", "_law_joined"]) fun _ _ _ _ _ _ us hl => match us, hl with | [_, _], _ => rfl
  obtain ⟨fd22, F22_0⟩ := d.def_ 22 (d := dG "_law_settings" s_law_settings) rfl
  have F_law_settings : Fun K "_law_settings" "_law_settings" s_law_settings _ fd22 := fun_ofD F22_0
  have b_law_settings := F_law_settings.binds (ps := ["_law_script"]) fun _ _ _ _ _ _ us hl => match us, hl with | [_], _ => rfl
  obtain ⟨fd23, F23_0⟩ := d.def_ 23 (d := dG "_law_due" s_law_due) rfl
  have F_law_due : Fun K "_law_due" "_law_due" s_law_due _ fd23 := fun_ofD F23_0
  have b_law_due := F_law_due.binds (ps := ["_law_places", "_law_found", "_law_joined"]) fun _ _ _ _ _ _ us hl => match us, hl with | [_, _, _], _ => rfl
  obtain ⟨fd24, F24_0⟩ := d.def_ 24 (d := dG "_law_kinds" s_law_kinds) rfl
  have F_law_kinds : Fun K "_law_kinds" "_law_kinds" s_law_kinds _ fd24 := fun_ofD F24_0
  have b_law_kinds := F_law_kinds.binds (ps := ["_law_found", "_law_joined"]) fun _ _ _ _ _ _ us hl => match us, hl with | [_, _], _ => rfl
  obtain ⟨fd25, F25_0⟩ := d.def_ 25 (d := dG "_law_right" s_law_right) rfl
  have F_law_right : Fun K "_law_right" "_law_right" s_law_right _ fd25 := fun_ofD F25_0
  have b_law_right := F_law_right.binds (ps := ["_law_places", "_law_others", "_law_joined"]) fun _ _ _ _ _ _ us hl => match us, hl with | [_, _, _], _ => rfl
  refine ⟨fdL, fun s v => FunD.bindsA (ps := ["_law_script"]) FL0 (fun _ _ _ _ _ _ us hl => match us, hl with | [_], _ => rfl) s [v] rfl, fun base hKb hNb => ?_⟩
  have c_is_number : Fc P w K mg base 1 "is_number" (spIsNum K) := ⟨_, _, _, ok_is_number F_is_number B, He.glo_ok X G (d.fact 0 (f := .glo "is_number") rfl), F_is_number.kp, b_is_number⟩
  have c_take : Fc P w K mg base 1 "take" (spTk K false) := ⟨_, _, _, ok_take F_take B, He.glo_ok X G (d.fact 1 (f := .glo "take") rfl), F_take.kp, b_take⟩
  have c_take_joined : Fc P w K mg base 1 "take_joined" (spTk K true) := ⟨_, _, _, ok_take_joined F_take_joined B, He.glo_ok X G (d.fact 2 (f := .glo "take_joined") rfl), F_take_joined.kp, b_take_joined⟩
  have c_first_taking : Fc P w K mg base 2 "first_taking" (spFirst P w K mg base) := ⟨_, _, _, ok_first_taking F_first_taking B, He.glo_ok X G (d.fact 3 (f := .glo "first_taking") rfl), F_first_taking.kp, b_first_taking⟩
  have c_common : Fc P w K mg base 1 "common" (spCommon) := ⟨_, _, _, ok_common F_common, He.glo_ok X G (d.fact 4 (f := .glo "common") rfl), F_common.kp, b_common⟩
  have k_Step : Kc P w K mg base 1 "Step" (ga K "Step") (spInit (ga K "Step") ["step"]) := ⟨_, _, _, He.mkr_ok (d.fact 5 (f := .mkr "Step") rfl), ok_Step_init F_Step_init (A.cs .S), He.glo_ok X G (d.fact 6 (f := .glo "Step") rfl), b_Step_init⟩
  have k_Barred : Kc P w K mg base 1 "Barred" (ga K "Barred") (spInit (ga K "Barred") ["by"]) := ⟨_, _, _, He.mkr_ok (d.fact 7 (f := .mkr "Barred") rfl), ok_Barred_init F_Barred_init (A.cs .B), He.glo_ok X G (d.fact 8 (f := .glo "Barred") rfl), b_Barred_init⟩
  have k_Take : Kc P w K mg base 1 "Take" (ga K "Take") (spInit (ga K "Take") ["one", "other"]) := ⟨_, _, _, He.mkr_ok (d.fact 9 (f := .mkr "Take") rfl), ok_Take_init F_Take_init (A.cs .T), He.glo_ok X G (d.fact 10 (f := .glo "Take") rfl), b_Take_init⟩
  have k_JoinedTake : Kc P w K mg base 1 "JoinedTake" (ga K "JoinedTake") (spInit (ga K "JoinedTake") ["one", "other"]) := ⟨_, _, _, He.mkr_ok (d.fact 11 (f := .mkr "JoinedTake") rfl), ok_JoinedTake_init F_JoinedTake_init (A.cs .JT), He.glo_ok X G (d.fact 12 (f := .glo "JoinedTake") rfl), b_JoinedTake_init⟩
  have m_Step_shows : Mc P w K mg base 2 (ga K "Step") "shows" (spStepShows (ga K "Step")) := ⟨_, _, _, He.cls_ok (d.fact 14 (f := .cls "Step") rfl), He.meth_ok (d.fact 13 (f := .meth "Step" "shows") rfl), ok_Step_shows F_Step_shows B (A.cs .S) c_is_number c_common, b_Step_shows⟩
  have m_Barred_shows : Mc P w K mg base 2 (ga K "Barred") "shows" (spBarShows (ga K "Barred")) := ⟨_, _, _, He.cls_ok (d.fact 16 (f := .cls "Barred") rfl), He.meth_ok (d.fact 15 (f := .meth "Barred" "shows") rfl), ok_Barred_shows F_Barred_shows (A.cs .B), b_Barred_shows⟩
  have m_Peace_shows : Mc P w K mg base 3 (ga K "Peace") "shows" (spPeaceShows K false (ga K "Peace")) := ⟨_, _, _, He.cls_ok (d.fact 18 (f := .cls "Peace") rfl), He.meth_ok (d.fact 17 (f := .meth "Peace" "shows") rfl), ok_Peace_shows F_Peace_shows c_first_taking c_take, b_Peace_shows⟩
  have m_JoinedPeace_shows : Mc P w K mg base 3 (ga K "JoinedPeace") "shows" (spPeaceShows K true (ga K "JoinedPeace")) := ⟨_, _, _, He.cls_ok (d.fact 20 (f := .cls "JoinedPeace") rfl), He.meth_ok (d.fact 19 (f := .meth "JoinedPeace" "shows") rfl), ok_JoinedPeace_shows F_JoinedPeace_shows c_first_taking c_take_joined, b_JoinedPeace_shows⟩
  have m_Take_shows : Mc P w K mg base 2 (ga K "Take") "shows" (spTakeShows K false (ga K "Take")) := ⟨_, _, _, He.cls_ok (d.fact 22 (f := .cls "Take") rfl), He.meth_ok (d.fact 21 (f := .meth "Take" "shows") rfl), ok_Take_shows F_Take_shows B (A.cs .T) c_take, b_Take_shows⟩
  have m_JoinedTake_shows : Mc P w K mg base 2 (ga K "JoinedTake") "shows" (spTakeShows K true (ga K "JoinedTake")) := ⟨_, _, _, He.cls_ok (d.fact 24 (f := .cls "JoinedTake") rfl), He.meth_ok (d.fact 23 (f := .meth "JoinedTake" "shows") rfl), ok_JoinedTake_shows F_JoinedTake_shows B (A.cs .JT) c_take_joined, b_JoinedTake_shows⟩
  have S : Sw P w K mg base (fun k => ga K k.name) := ⟨m_Step_shows, m_Barred_shows, m_Peace_shows, m_JoinedPeace_shows, m_Take_shows, m_JoinedTake_shows⟩
  have M : Mw P w K mg base (fun k => ga K k.name) := ⟨k_Step, k_Barred, k_Take, k_JoinedTake, mkN_of hN.1, mkN_of hN.2⟩
  have c_check_setting : Fc P w K mg base 2 "check_setting" (spCkSetting K (xaOf K)) := ⟨_, _, _, ok_check_setting F_check_setting B c_is_number (xE .setting (by decide)) gM, He.glo_ok X G (d.fact 25 (f := .glo "check_setting") rfl), F_check_setting.kp, b_check_setting⟩
  have c_told : Fc P w K mg base 3 "told" (spTold K (xaOf K) (fun k => ga K k.name) false) := ⟨_, _, _, ok_told F_told A M c_check_setting c_first_taking c_take, He.glo_ok X G (d.fact 26 (f := .glo "told") rfl), F_told.kp, b_told⟩
  have c_told_joined : Fc P w K mg base 3 "told_joined" (spTold K (xaOf K) (fun k => ga K k.name) true) := ⟨_, _, _, ok_told_joined F_told_joined A M c_check_setting c_first_taking c_take_joined, He.glo_ok X G (d.fact 27 (f := .glo "told_joined") rfl), F_told_joined.kp, b_told_joined⟩
  have c_law_number : Fc P w K mg base 1 "_law_number" (spNumber) := ⟨_, _, _, ok_law_number F_law_number, He.glo_ok X G (d.fact 28 (f := .glo "_law_number") rfl), F_law_number.kp, b_law_number⟩
  have c_law_whole : Fc P w K mg base 1 "_law_whole" (spWhole) := ⟨_, _, _, ok_law_whole F_law_whole B, He.glo_ok X G (d.fact 29 (f := .glo "_law_whole") rfl), F_law_whole.kp, b_law_whole⟩
  have c_law_takes : Fc P w K mg base 1 "_law_takes" (spLTakes K) := ⟨_, _, _, ok_law_takes F_law_takes B, He.glo_ok X G (d.fact 30 (f := .glo "_law_takes") rfl), F_law_takes.kp, b_law_takes⟩
  have c_law_peace : Fc P w K mg base 1 "_law_peace" (spPeace K) := ⟨_, _, _, ok_law_peace F_law_peace B, He.glo_ok X G (d.fact 31 (f := .glo "_law_peace") rfl), F_law_peace.kp, b_law_peace⟩
  have c_law_settings : Fc P w K mg base 2 "_law_settings" (spSettings K) := ⟨_, _, _, ok_law_settings F_law_settings B c_law_number, He.glo_ok X G (d.fact 32 (f := .glo "_law_settings") rfl), F_law_settings.kp, b_law_settings⟩
  have c_law_due : Fc P w K mg base 2 "_law_due" (spDue2 K (fun k => ga K k.name)) := ⟨_, _, _, ok_law_due2 F_law_due B A c_law_peace c_law_takes, He.glo_ok X G (d.fact 33 (f := .glo "_law_due") rfl), F_law_due.kp, b_law_due⟩
  have c_law_kinds : Fc P w K mg base 1 "_law_kinds" (spKinds (fun k => ga K k.name)) := ⟨_, _, _, ok_law_kinds F_law_kinds B A, He.glo_ok X G (d.fact 34 (f := .glo "_law_kinds") rfl), F_law_kinds.kp, b_law_kinds⟩
  have c_law_right : Fc P w K mg base 4 "_law_right" (spR2 K) := ⟨_, _, _, ok_law_right2 F_law_right B A S c_told c_told_joined c_law_kinds c_law_whole c_law_peace c_law_due, He.glo_ok X G (d.fact 35 (f := .glo "_law_right") rfl), F_law_right.kp, b_law_right⟩
  exact ok_law FL B A c_law_settings c_told c_told_joined c_law_right
end QR
open PySem PySem.W PySem.Calls PyProof.Rows
set_option maxRecDepth 100000 in
set_option maxHeartbeats 0 in
theorem PySem.Challenge.cw_queenrows_k02_whole_told_holds : PySem.Challenge.rw_queenrows_k02_whole_told.Holds := by
  w_on; o_law
  refine HandSHeadRun.head_any (r := OpenLaw.row PySem.Challenge.rw_queenrows_k02_whole_told) (q := view (OpenLaw.row PySem.Challenge.rw_queenrows_k02_whole_told).prog [31]) (H := QR.hk) (ob := QR.ob) (M := 4000) (loose := QR.loose) (d := HandSHeadRun.topDef (OpenLaw.row PySem.Challenge.rw_queenrows_k02_whole_told).prog 31) (kwd := []) QR.ob_eq
    (by kernel_rfl) (fun s => by kernel_rfl) QR.run (by kernel_rfl) (by kernel_rfl) (by kernel_rfl) (by rfl) (by first | assumption | decide +kernel) (by decide +kernel) ⟨rfl, rfl, rfl, rfl, rfl, by decide +kernel⟩ ?hw ?hc
  case hw => w_witness2
  case hc =>
    refine LamX.walk_ofTsE (l := PySem.Challenge.rw_queenrows_k02_whole_told) (n := 63) (k := 5) (x := "_law_script") (CX := fun w => L2.CX (PySem.Challenge.rw_queenrows_k02_whole_told).prog w) rfl (by decide) (by kernel_rfl) ⟨rfl, by decide, by decide⟩ ?F (fun w H s e s' z => by obtain ⟨_, _, _, _, _, _, _, _, _, _, _, _, y⟩ := z; exact y.elim)
    intro w mg fa h Y G hmg0
    obtain ⟨K, KX, c⟩ := Y
    have hmg : mg ("law" : PySem.Str) = some (.ref fa) := by
      have e : (HandSHeadRun.topDef (OpenLaw.row PySem.Challenge.rw_queenrows_k02_whole_told).prog 31).name = ("law" : PySem.Str) := by kernel_rfl
      rw [← e]
      exact hmg0
    obtain ⟨fd, hb, hF⟩ := QR.facts (P := (PySem.Challenge.rw_queenrows_k02_whole_told).prog) (w := w) KX G hmg c
    exact ⟨K, KX, fd, [], QR.spLaw K, (fun p hp => nomatch hp), (fun p hp => nomatch hp), (fun p hp => nomatch hp), hb, fun H a ns hl hz _ hS => ⟨a, ns, rfl, hS, hl, hz, fun _ _ => rfl⟩, fun base h1 h2 _ => hF base h1 h2⟩
