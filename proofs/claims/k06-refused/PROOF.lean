import PyProof.Rows.All
import Wide.All
import OpenK.AllK
import Wide.FinOn
import HandS.ForExc
import HandS.Evl
import HandS.ExcCtx
import HandS.Hot
import HandS.HotCalls
import HandS.WordsExc
import HandS.ForMost
import HandS.Codes
import HandS.IsInst
import HandS.EndBits
import HandS.Style
import HandS.Wide
import PyProof.LongRange
import HandS.Zip
import HandS.SetFor
import KE.KStateDown
import HandS.Head0
import HandS.Head1
import HandS.Head2
import HandS.HeadHook1
import HandS.HeadHook2
import HandS.HeadHook3
import HandS.HeadHook4
import HandS.HeadWalk
import HandS.CallLocal
import HandS.Lambda
import HandS.EndTab
import HandS.ExcIs
import HandS.Comp
import HandS.ExcOwn
import PySem.Challenge.RW_queenrows_k06_refused
set_option Elab.async false
set_option linter.all false
set_option maxRecDepth 100000
set_option maxHeartbeats 4000000
namespace QR
open PySem PySem.Spec PyProof.Rows L2 Evl
theorem passLN {X : Cx} : Passes (L2N.CX X.prog X.w) X E0 := fun _ _ _ _ _ _ _ h => by
  obtain ⟨_, _, _, _, _, _, _, _, _, _, _, _, z⟩ := h
  exact z.elim
theorem takes0N {X : Cx} : L2N.Takes X (fun _ _ _ _ => False) := fun _ _ x => by
  obtain ⟨_, _, _, _, _, _, _, _, _, _, _, _, _, _, _, _, z⟩ := x
  exact z.elim
theorem okXN {P : Program} {w : World} {K : PySem.W.Frag} {mg : Str → Option Value} {base : Heap} {x qual : Str} {st : Stmt} {f : Addr} {fd : FuncData} {N ps : List Str} {k : Nat} {sp : Sp} (F : Fun K x qual st f fd) (S : FnScope N ps (defScope st)) (len : ∀ vs H Q E, sp vs H Q E → vs.length = ps.length)
    (hb : ∀ (cdv : Value) (A : Around) (outer : List Env) (s : Shared) (H : Hp) (vs : List V) (Q : VK) (E : XK), Room k (A.deeper (envOfC qual (defScope st) s.heap.objs.size f cdv)) → sp vs H Q E → ∃ t, PSs (cxOf (L2N.CX P w) P w K mg base N qual (defScope st) f cdv A outer s H E) (defBody st) t ∧ t { nx := fun _ H' => Q .non H', rt := Q } (L2.start N vs) H) :
    FnOk P w K mg base (L2N.CX P w) (k + 1) f fd ps sp := by
  obtain ⟨oc, od, kV, doc, pm, an, cdv, ct, osl, rfl, lk, hcd⟩ := F.ex
  exact fn_of lk hcd S len (hb cdv)
end QR

namespace QR
open PySem PySem.Spec PyProof.Rows L2 Evl

/-! ### what an expression, a test, a block leads to, at these slots and this heap -/
structure EW (X : Cx) (e : Expr) (σ : L2.St) (H : Hp) (Q : VK) : Prop where
  run : ∀ (pins : List (Addr × Obj)) (s : Shared), Inv X pins σ H s → wpAny (model X.prog X.w) X.A (eval e X.env) (EP X pins σ Q) X.xe s
structure TW (X : Cx) (e : Expr) (σ : L2.St) (H : Hp) (Q : Bool → Hp → Prop) : Prop where
  run : ∀ (pins : List (Addr × Obj)) (s : Shared), Inv X pins σ H s → wpAny (model X.prog X.w) X.A (isTrue e X.env (eval e X.env)) (TP X pins σ Q) X.xe s
structure LW (X : Cx) (e : Expr) (σ : L2.St) (H : Hp) (Q : Bool → Hp → Prop) : Prop where
  run : ∀ (whole : Sem Value) (pins : List (Addr × Obj)) (s : Shared), Inv X pins σ H s → wpAny (model X.prog X.w) X.A (isTrue e X.env whole) (TP X pins σ Q) X.xe s
structure BW (X : Cx) (st : List Stmt) (D : Ends) (σ : L2.St) (H : Hp) : Prop where
  run : ∀ (pins : List (Addr × Obj)) (s : Shared), Inv X pins σ H s → wpAny (model X.prog X.w) X.A (execs st X.env) (SP X pins D) X.xe s
section
variable {X : Cx} {e : Expr} {es : List Expr} {σ : L2.St} {H : Hp} {Q : VK} {v : V}
theorem pe_self : PE X e (EW X e) := ⟨fun pins s _ _ _ I h => h.run pins s I⟩
theorem pt_self : PT X e (TW X e) := ⟨fun pins s _ _ _ I h => h.run pins s I⟩
theorem pw_self : PW X e (LW X e) := ⟨fun wh pins s _ _ _ I h => h.run wh pins s I⟩
theorem pss_self {st : List Stmt} : PSs X st (BW X st) := ⟨fun pins s _ _ _ I h => h.run pins s I⟩
theorem EW.of {t : TE} (h : PE X e t) (r : t σ H Q) : EW X e σ H Q := ⟨fun pins s I => h.run pins s σ H Q I r⟩
theorem TW.of {t : TT} {Q : Bool → Hp → Prop} (h : PT X e t) (r : t σ H Q) : TW X e σ H Q := ⟨fun pins s I => h.run pins s σ H Q I r⟩
theorem LW.of {t : TT} {Q : Bool → Hp → Prop} (h : PW X e t) (r : t σ H Q) : LW X e σ H Q := ⟨fun wh pins s I => h.run wh pins s σ H Q I r⟩
theorem BW.of {t : TS} {st : List Stmt} {D : Ends} (h : PSs X st t) (r : t D σ H) : BW X st D σ H := ⟨fun pins s I => h.run pins s σ H D I r⟩
/-- the argument list as a reading -/
def tArgs (X : Cx) : List Expr → TA
  | [] => tNil
  | e :: es => tCons (EW X e) (tArgs X es)
/-! ### values -/
structure EV (X : Cx) (e : Expr) (σ : L2.St) (H : Hp) (v : V) : Prop where
  ev : Ev (EW X e) σ H v
structure EL (X : Cx) (e : Expr) (σ : L2.St) (H : Hp) (xs : List V) : Prop where
  ev : EvL (EW X e) σ H xs
structure EU (X : Cx) (e : Expr) (σ : L2.St) (H : Hp) (xs : List V) : Prop where
  ev : EvU (EW X e) σ H xs
structure TV (X : Cx) (e : Expr) (σ : L2.St) (H : Hp) (b : Bool) : Prop where
  ev : EvT (TW X e) σ H b
structure LV (X : Cx) (e : Expr) (σ : L2.St) (H : Hp) (b : Bool) : Prop where
  ev : EvT (LW X e) σ H b
theorem EV.of {t : TE} (h : PE X e t) (r : Ev t σ H v) : EV X e σ H v := ⟨fun H1 e1 Q q => EW.of h (r H1 e1 Q q)⟩
theorem EL.of {t : TE} {xs : List V} (h : PE X e t) (r : EvL t σ H xs) : EL X e σ H xs := ⟨fun H1 e1 Q q => EW.of h (r H1 e1 Q q)⟩
theorem EU.of {t : TE} {xs : List V} (h : PE X e t) (r : EvU t σ H xs) : EU X e σ H xs := ⟨fun H1 e1 Q q => EW.of h (r H1 e1 Q q)⟩
theorem TV.of {t : TT} {b : Bool} (h : PT X e t) (r : EvT t σ H b) : TV X e σ H b := ⟨fun H1 e1 Q q => TW.of h (r H1 e1 Q q)⟩
theorem LV.of {t : TT} {b : Bool} (h : PW X e t) (r : EvT t σ H b) : LV X e σ H b := ⟨fun H1 e1 Q q => LW.of h (r H1 e1 Q q)⟩
theorem EV.mono {H' : Hp} (h : EV X e σ H v) (e1 : Ex H H') : EV X e σ H' v := ⟨h.ev.mono e1⟩
theorem EL.mono {H' : Hp} {xs : List V} (h : EL X e σ H xs) (e1 : Ex H H') : EL X e σ H' xs := ⟨h.ev.mono e1⟩
theorem TV.mono {H' : Hp} {b : Bool} (h : TV X e σ H b) (e1 : Ex H H') : TV X e σ H' b := ⟨h.ev.mono e1⟩
theorem EV.is {w : V} (h : EV X e σ H v) (q : v = w) : EV X e σ H w := q ▸ h
theorem EL.is {xs ys : List V} (h : EL X e σ H xs) (q : xs = ys) : EL X e σ H ys := q ▸ h
theorem TV.is {b c : Bool} (h : TV X e σ H b) (q : b = c) : TV X e σ H c := q ▸ h
theorem EV.isI {i j : Int} (h : EV X e σ H (.int i)) (q : i = j) : EV X e σ H (.int j) := q ▸ h
theorem EV.isB {i j : Bool} (h : EV X e σ H (.bl i)) (q : i = j) : EV X e σ H (.bl j) := q ▸ h
/-- in a row: what is wanted behind it -/
theorem EV.go (h : EV X e σ H v) (k : ∀ H1, Ex H H1 → Q v H1) : EW X e σ H Q := h.ev H (Ex.refl H) Q k
theorem EL.go {xs : List V} (h : EL X e σ H xs) (k : ∀ p H1, H p = none → Ex H H1 → H1 p = some (.lst xs) → Q (.ref p) H1) : EW X e σ H Q := h.ev H (Ex.refl H) Q k
theorem EU.go {xs : List V} (h : EU X e σ H xs) (k : ∀ p H1, H p = none → Ex H H1 → H1 p = some (.tup xs) → Q (.ref p) H1) : EW X e σ H Q := h.ev H (Ex.refl H) Q k
theorem TV.go {b : Bool} {Q : Bool → Hp → Prop} (h : TV X e σ H b) (k : ∀ H1, Ex H H1 → Q b H1) : TW X e σ H Q := h.ev H (Ex.refl H) Q k
end
section
variable {X : Cx} {e a b c : Expr} {es : List Expr} {σ : L2.St} {H : Hp} {Q : VK} {v x y z : V} {pos p : Pos}
/-! ### names and constants -/
theorem EV.var (i : Nat) {x : Str} (h : σ[i]? = some (some v)) (hN : X.N[i]? = some x := by rfl) (hv : Vis X.env.scope x := by first | exact Or.inl rfl | exact Or.inr (Or.inl rfl) | exact Or.inr (Or.inr rfl)) (hd : (x == ("__debug__" : Str)) = false := by decide)
    (hcd : (x == ("__classdict__" : Str)) = false := by decide) : EV X (.Name x pos) σ H v := EV.of (pe_var hN hv hd hcd) (ev_var h)
theorem EV.int {i : Int} {j : Nat} : EV X (.Constant (.int i) j pos) σ H (.int i) := EV.of pe_int ev_c
theorem EV.bl {i : Bool} {j : Nat} : EV X (.Constant (.bool i) j pos) σ H (.bl i) := EV.of pe_bl ev_c
theorem EV.non {j : Nat} : EV X (.Constant .none j pos) σ H .non := EV.of pe_non ev_c
theorem EV.str {z : Str} {j : Nat} : EV X (.Constant (.str z) j pos) σ H (.str z) := EV.of pe_str ev_c
theorem EV.glob {x : Str} {f : Addr} (hm : X.mg x = some (.ref f)) (hg : Gl X x := by rfl) (hd : (x == ("__debug__" : Str)) = false := by decide) : EV X (.Name x pos) σ H (.ref f) := EV.of (pe_glob (v := .ref f) hg hm rfl hd) ev_c
theorem EV.globI {x : Str} {i : Int} {t : Tok} (hm : X.mg x = some (.int i t)) (hg : Gl X x := by rfl) (hd : (x == ("__debug__" : Str)) = false := by decide) : EV X (.Name x pos) σ H (.int i) := EV.of (pe_glob (v := .int i) hg hm ⟨t, rfl⟩ hd) ev_c
/-- the name of a built-in class, as a value -/
theorem EV.ty {x : Str} {T : String} (hm : X.mg x = none) (hv : bootBuiltins x = some (.type T)) (hg : Gl X x := by rfl) (hn : x ≠ "__name__" := by decide) (hd : (x == ("__debug__" : Str)) = false := by decide) : EV X (.Name x pos) σ H (.ty T) := EV.of (pe_bltn (v := .ty T) hg hm hv rfl hn hd) ev_c
/-! ### whole numbers -/
theorem EV.opI {op : Operator} {r : R2} (ho : OpR X (binaryOp op) r) (ha : EV X a σ H x) (hb : EV X b σ H y) (hr : RV r x y H z) : EV X (.BinOp a op b pos) σ H z := EV.of (pe_op ho pe_self pe_self) (ev_op ha.ev hb.ev hr)
theorem EV.add {i j : Int} (ha : EV X a σ H (.int i)) (hb : EV X b σ H (.int j)) : EV X (.BinOp a .Add b pos) σ H (.int (i + j)) := EV.opI op_add ha hb rv_I0
theorem EV.sub {i j : Int} (ha : EV X a σ H (.int i)) (hb : EV X b σ H (.int j)) : EV X (.BinOp a .Sub b pos) σ H (.int (i - j)) := EV.opI op_sub ha hb rv_I0
theorem op_mulV : OpR X (binaryOp .Mult) (rI IntMulOk fun i j => .int (i * j)) := opI fun _ _ _ _ _ _ _ hc q => mul_int q hc
theorem EV.mul {i j : Int} (ha : EV X a σ H (.int i)) (hb : EV X b σ H (.int j)) (hc : IntMulOk i j) : EV X (.BinOp a .Mult b pos) σ H (.int (i * j)) := EV.opI op_mulV ha hb (rv_I hc)
theorem EV.mod {i j : Int} (ha : EV X a σ H (.int i)) (hb : EV X b σ H (.int j)) (hc : 0 < j) : EV X (.BinOp a .Mod b pos) σ H (.int (i % j)) := EV.opI op_mod ha hb (rv_I (C := fun _ j => 0 < j) hc)
theorem EV.fdiv {i j : Int} (ha : EV X a σ H (.int i)) (hb : EV X b σ H (.int j)) (hc : 0 < j ∧ j < 1073741824) : EV X (.BinOp a .FloorDiv b pos) σ H (.int (i / j)) := EV.opI op_fdiv ha hb (rv_I (C := CDiv) hc)
theorem EV.pow {i j : Int} (ha : EV X a σ H (.int i)) (hb : EV X b σ H (.int j)) (hc : 0 ≤ j ∧ j ≤ 1000000 ∧ i.natAbs < 2 ^ 64) : EV X (.BinOp a .Pow b pos) σ H (.int (i ^ j.toNat)) := EV.opI op_pow ha hb (rv_I (C := CPow) hc)
theorem EV.neg {i : Int} (ha : EV X a σ H (.int i)) : EV X (.UnaryOp .USub a pos) σ H (.int (-i)) := EV.of (pe_un un_neg pe_self) (ev_un ha.ev ru_neg)
theorem mul_small {i j : Int} (h : (-(2 ^ 64) < i ∧ i < 2 ^ 64) ∨ (-(2 ^ 64) < j ∧ j < 2 ^ 64)) : IntMulOk i j := CMul.ok h
/-! ### comparisons -/
theorem EV.cmp {op : CmpOp} {r : R2} (ho : OpR X (compareOp op) r) (ha : EV X a σ H x) (hb : EV X b σ H y) (hr : RV r x y H z) (hm : behindInMarks op b = false) : EV X (.Compare a [op] [b] pos) σ H z := EV.of (pe_cmpR ho pe_self pe_self hm) (ev_op ha.ev hb.ev hr)
theorem EV.lt {i j : Int} (ha : EV X a σ H (.int i)) (hb : EV X b σ H (.int j)) : EV X (.Compare a [.Lt] [b] pos) σ H (.bl (decide (i < j))) := EV.cmp op_lt ha hb rv_I0 (nomark _)
theorem EV.le {i j : Int} (ha : EV X a σ H (.int i)) (hb : EV X b σ H (.int j)) : EV X (.Compare a [.LtE] [b] pos) σ H (.bl (decide (i ≤ j))) := EV.cmp op_le ha hb rv_I0 (nomark _)
theorem EV.gt {i j : Int} (ha : EV X a σ H (.int i)) (hb : EV X b σ H (.int j)) : EV X (.Compare a [.Gt] [b] pos) σ H (.bl (decide (j < i))) := EV.cmp op_gt ha hb rv_I0 (nomark _)
theorem EV.ge {i j : Int} (ha : EV X a σ H (.int i)) (hb : EV X b σ H (.int j)) : EV X (.Compare a [.GtE] [b] pos) σ H (.bl (decide (j ≤ i))) := EV.cmp op_ge ha hb rv_I0 (nomark _)
theorem EV.eq {i j : Int} (ha : EV X a σ H (.int i)) (hb : EV X b σ H (.int j)) : EV X (.Compare a [.Eq] [b] pos) σ H (.bl (decide (i = j))) := by
  refine EV.is (EV.cmp op_eq ha hb (rv_eq rfl) (nomark _)) ?_
  rw [dec_int, Bool.beq_eq_decide_eq]
theorem EV.ne {i j : Int} (ha : EV X a σ H (.int i)) (hb : EV X b σ H (.int j)) : EV X (.Compare a [.NotEq] [b] pos) σ H (.bl (decide (i ≠ j))) := by
  refine EV.is (EV.cmp op_ne ha hb (rv_ne rfl) (nomark _)) ?_
  rw [dec_int, Bool.beq_eq_decide_eq, ← decide_not]
theorem EV.eqB {i j : Bool} (ha : EV X a σ H (.bl i)) (hb : EV X b σ H (.bl j)) : EV X (.Compare a [.Eq] [b] pos) σ H (.bl (i == j)) := by
  refine EV.is (EV.cmp op_eq ha hb (rv_eq rfl) (nomark _)) ?_
  rw [dec_bl]
theorem EV.neB {i j : Bool} (ha : EV X a σ H (.bl i)) (hb : EV X b σ H (.bl j)) : EV X (.Compare a [.NotEq] [b] pos) σ H (.bl (i != j)) := by
  refine EV.is (EV.cmp op_ne ha hb (rv_ne rfl) (nomark _)) ?_
  rw [dec_bl]; rfl
theorem EV.isN (ha : EV X a σ H x) (hb : EV X b σ H .non) : EV X (.Compare a [.Is] [b] pos) σ H (.bl (decide (x = .non))) := EV.cmp op_isN ha hb (fun H1 _ _ q => ⟨rfl, q H1 (Ex.refl H1)⟩) (nomark _)
theorem EV.notN (ha : EV X a σ H x) (hb : EV X b σ H .non) : EV X (.Compare a [.IsNot] [b] pos) σ H (.bl (!decide (x = .non))) := EV.cmp op_notN ha hb (fun H1 _ _ q => ⟨rfl, q H1 (Ex.refl H1)⟩) (nomark _)
/-- a < b < c -/
theorem EV.chain {op op' : CmpOp} {r r' : R2} {k1 k2 : Bool} {w : V} (ho : OpR X (compareOp op) r) (ho' : OpR X (compareOp op') r') (ha : EV X a σ H x) (hb : EV X b σ H y) (hr : RV r x y H (.bl k1)) (hc : k1 = true → EV X c σ H w) (hr' : k1 = true → RV r' y w H (.bl k2))
    (hm : lastMarks [op, op'] [b, c] = false := by with_unfolding_all rfl) : EV X (.Compare a [op, op'] [b, c] pos) σ H (.bl (k1 && k2)) := by
  refine EV.of (pe_chain ho ho' pe_self pe_self pe_self hm) fun H1 e Q q => ?_
  refine ha.ev H1 e _ fun H2 e2 => hb.ev H2 (e.trans e2) _ fun H3 e3 => hr H3 ((e.trans e2).trans e3) _ fun H4 e4 => ⟨k1, rfl, ?_⟩
  cases k1 with
  | false => exact q H4 ((e2.trans e3).trans e4)
  | true => exact (hc rfl).ev H4 (((e.trans e2).trans e3).trans e4) _ fun H5 e5 => hr' rfl H5 ((((e.trans e2).trans e3).trans e4).trans e5) _ fun H6 e6 => q H6 ((((e2.trans e3).trans e4).trans e5).trans e6)
theorem EV.leLt {i j k : Int} (ha : EV X a σ H (.int i)) (hb : EV X b σ H (.int j)) (hc : EV X c σ H (.int k)) : EV X (.Compare a [.LtE, .Lt] [b, c] pos) σ H (.bl (decide (i ≤ j) && decide (j < k))) := EV.chain op_le op_lt ha hb rv_I0 (fun _ => hc) (fun _ => rv_I0) (nomark c)
theorem EV.leLe {i j k : Int} (ha : EV X a σ H (.int i)) (hb : EV X b σ H (.int j)) (hc : EV X c σ H (.int k)) : EV X (.Compare a [.LtE, .LtE] [b, c] pos) σ H (.bl (decide (i ≤ j) && decide (j ≤ k))) := EV.chain op_le op_le ha hb rv_I0 (fun _ => hc) (fun _ => rv_I0) (nomark c)
/-! ### truths -/
theorem EV.not {k : Bool} (ha : EV X a σ H (.bl k)) : EV X (.UnaryOp .Not a pos) σ H (.bl (!k)) := EV.of (pe_not pe_self) (ev_notV ha.ev)
theorem EV.one {op : BoolOp} (ha : EV X a σ H v) : EV X (.BoolOp op [a] pos) σ H v := EV.of (pe_one pe_self) ha.ev
theorem EV.and {k1 k2 : Bool} (ha : EV X a σ H (.bl k1)) (hb : k1 = true → EV X (.BoolOp .And (b :: es) pos) σ H (.bl k2)) : EV X (.BoolOp .And (a :: b :: es) pos) σ H (.bl (k1 && k2)) := EV.of (pe_and pe_self pe_self) (ev_andV ha.ev fun h => (hb h).ev)
theorem EV.or {k1 k2 : Bool} (ha : EV X a σ H (.bl k1)) (hb : k1 = false → EV X (.BoolOp .Or (b :: es) pos) σ H (.bl k2)) : EV X (.BoolOp .Or (a :: b :: es) pos) σ H (.bl (k1 || k2)) := EV.of (pe_or pe_self pe_self) (ev_orV ha.ev fun h => (hb h).ev)
theorem EV.and2 {k1 k2 : Bool} (ha : EV X a σ H (.bl k1)) (hb : k1 = true → EV X b σ H (.bl k2)) : EV X (.BoolOp .And [a, b] pos) σ H (.bl (k1 && k2)) := EV.and ha fun h => EV.one (hb h)
theorem EV.or2 {k1 k2 : Bool} (ha : EV X a σ H (.bl k1)) (hb : k1 = false → EV X b σ H (.bl k2)) : EV X (.BoolOp .Or [a, b] pos) σ H (.bl (k1 || k2)) := EV.or ha fun h => EV.one (hb h)
theorem EV.and3 {k1 k2 k3 : Bool} (ha : EV X a σ H (.bl k1)) (hb : k1 = true → EV X b σ H (.bl k2)) (hc : k1 = true → k2 = true → EV X c σ H (.bl k3)) : EV X (.BoolOp .And [a, b, c] pos) σ H (.bl (k1 && (k2 && k3))) := EV.and ha fun h => EV.and2 (hb h) (hc h)
theorem EV.or3 {k1 k2 k3 : Bool} (ha : EV X a σ H (.bl k1)) (hb : k1 = false → EV X b σ H (.bl k2)) (hc : k1 = false → k2 = false → EV X c σ H (.bl k3)) : EV X (.BoolOp .Or [a, b, c] pos) σ H (.bl (k1 || (k2 || k3))) := EV.or ha fun h => EV.or2 (hb h) (hc h)
theorem EV.ite {k : Bool} (ht : TV X c σ H k) (h1 : k = true → EV X a σ H v) (h2 : k = false → EV X b σ H v) : EV X (.IfExp c a b pos) σ H v := EV.of (pe_ifExp pt_self pe_self pe_self) (ev_if ht.ev (fun h => (h1 h).ev) fun h => (h2 h).ev)
theorem EV.iteI {k : Bool} {i j : Int} (ht : TV X c σ H k) (h1 : k = true → EV X a σ H (.int i)) (h2 : k = false → EV X b σ H (.int j)) : EV X (.IfExp c a b pos) σ H (.int (if k = true then i else j)) :=
  EV.ite ht (fun h => by rw [if_pos h]; exact h1 h) (fun h => by rw [if_neg (by rw [h]; decide)]; exact h2 h)
/-! ### tests -/
theorem TV.val {k : Bool} (h : EV X e σ H (.bl k)) (he : ∀ whole, isTrue e X.env whole = (do let v ← whole; standAt e.pos; holding [v] (truthy v)) := by intro _; rfl) : TV X e σ H k := TV.of (pt_val pe_self he) (et_B h.ev)
theorem TV.cmp {op : CmpOp} {k : Bool} (h : EV X (.Compare a [op] [b] pos) σ H (.bl k)) : TV X (.Compare a [op] [b] pos) σ H k → TV X (.Compare a [op] [b] pos) σ H k := fun z => z
theorem TV.op {op : CmpOp} {r : R2} {k : Bool} (ho : OpR X (compareOp op) r) (ha : EV X a σ H x) (hb : EV X b σ H y) (hr : RV r x y H (.bl k)) (hm : behindInMarks op b = false) : TV X (.Compare a [op] [b] pos) σ H k := TV.of (pt_cmpR ho pe_self pe_self hm) (et_test (ev_op ha.ev hb.ev hr))
theorem TV.lt {i j : Int} (ha : EV X a σ H (.int i)) (hb : EV X b σ H (.int j)) : TV X (.Compare a [.Lt] [b] pos) σ H (decide (i < j)) := TV.op op_lt ha hb rv_I0 (nomark _)
theorem TV.le {i j : Int} (ha : EV X a σ H (.int i)) (hb : EV X b σ H (.int j)) : TV X (.Compare a [.LtE] [b] pos) σ H (decide (i ≤ j)) := TV.op op_le ha hb rv_I0 (nomark _)
theorem TV.gt {i j : Int} (ha : EV X a σ H (.int i)) (hb : EV X b σ H (.int j)) : TV X (.Compare a [.Gt] [b] pos) σ H (decide (j < i)) := TV.op op_gt ha hb rv_I0 (nomark _)
theorem TV.ge {i j : Int} (ha : EV X a σ H (.int i)) (hb : EV X b σ H (.int j)) : TV X (.Compare a [.GtE] [b] pos) σ H (decide (j ≤ i)) := TV.op op_ge ha hb rv_I0 (nomark _)
theorem TV.eq {i j : Int} (ha : EV X a σ H (.int i)) (hb : EV X b σ H (.int j)) : TV X (.Compare a [.Eq] [b] pos) σ H (decide (i = j)) := by
  refine TV.is (TV.op op_eq ha hb (rv_eq rfl) (nomark _)) ?_
  rw [dec_int, Bool.beq_eq_decide_eq]
theorem TV.ne {i j : Int} (ha : EV X a σ H (.int i)) (hb : EV X b σ H (.int j)) : TV X (.Compare a [.NotEq] [b] pos) σ H (decide (i ≠ j)) := by
  refine TV.is (TV.op op_ne ha hb (rv_ne rfl) (nomark _)) ?_
  rw [dec_int, Bool.beq_eq_decide_eq, ← decide_not]
theorem TV.neB {i j : Bool} (ha : EV X a σ H (.bl i)) (hb : EV X b σ H (.bl j)) : TV X (.Compare a [.NotEq] [b] pos) σ H (i != j) := by
  refine TV.is (TV.op op_ne ha hb (rv_ne rfl) (nomark _)) ?_
  rw [dec_bl]; rfl
theorem TV.eqB {i j : Bool} (ha : EV X a σ H (.bl i)) (hb : EV X b σ H (.bl j)) : TV X (.Compare a [.Eq] [b] pos) σ H (i == j) := by
  refine TV.is (TV.op op_eq ha hb (rv_eq rfl) (nomark _)) ?_
  rw [dec_bl]
theorem TV.isN (ha : EV X a σ H x) (hb : EV X b σ H .non) : TV X (.Compare a [.Is] [b] pos) σ H (decide (x = .non)) := TV.op op_isN ha hb (fun H1 _ _ q => ⟨rfl, q H1 (Ex.refl H1)⟩) (nomark _)
theorem TV.notN (ha : EV X a σ H x) (hb : EV X b σ H .non) : TV X (.Compare a [.IsNot] [b] pos) σ H (!decide (x = .non)) := TV.op op_notN ha hb (fun H1 _ _ q => ⟨rfl, q H1 (Ex.refl H1)⟩) (nomark _)
theorem TV.chain {op op' : CmpOp} {r r' : R2} {k1 k2 : Bool} {w : V} (ho : OpR X (compareOp op) r) (ho' : OpR X (compareOp op') r') (ha : EV X a σ H x) (hb : EV X b σ H y) (hr : RV r x y H (.bl k1)) (hc : k1 = true → EV X c σ H w) (hr' : k1 = true → RV r' y w H (.bl k2))
    (hm : lastMarks [op, op'] [b, c] = false := by with_unfolding_all rfl) : TV X (.Compare a [op, op'] [b, c] pos) σ H (k1 && k2) := by
  refine TV.of (pt_chain ho ho' pe_self pe_self pe_self hm) fun H1 e Q q => ?_
  refine ha.ev H1 e _ fun H2 e2 => hb.ev H2 (e.trans e2) _ fun H3 e3 => hr H3 ((e.trans e2).trans e3) _ fun H4 e4 => ⟨k1, rfl, ?_⟩
  cases k1 with
  | false => exact ⟨_, rfl, q H4 ((e2.trans e3).trans e4)⟩
  | true => exact (hc rfl).ev H4 (((e.trans e2).trans e3).trans e4) _ fun H5 e5 => hr' rfl H5 ((((e.trans e2).trans e3).trans e4).trans e5) _ fun H6 e6 => ⟨_, rfl, q H6 ((((e2.trans e3).trans e4).trans e5).trans e6)⟩
theorem TV.leLt {i j k : Int} (ha : EV X a σ H (.int i)) (hb : EV X b σ H (.int j)) (hc : EV X c σ H (.int k)) : TV X (.Compare a [.LtE, .Lt] [b, c] pos) σ H (decide (i ≤ j) && decide (j < k)) := TV.chain op_le op_lt ha hb rv_I0 (fun _ => hc) (fun _ => rv_I0) (nomark c)
theorem TV.leLe {i j k : Int} (ha : EV X a σ H (.int i)) (hb : EV X b σ H (.int j)) (hc : EV X c σ H (.int k)) : TV X (.Compare a [.LtE, .LtE] [b, c] pos) σ H (decide (i ≤ j) && decide (j ≤ k)) := TV.chain op_le op_le ha hb rv_I0 (fun _ => hc) (fun _ => rv_I0) (nomark c)
theorem TV.not {k : Bool} (h : TV X a σ H k) : TV X (.UnaryOp .Not a pos) σ H (!k) := TV.of (pt_not pt_self) (et_not h.ev)
theorem LV.and1 {k : Bool} (h : TV X a σ H k) : LV X (.BoolOp .And [a] pos) σ H k := LV.of (pw_and1 pt_self) h.ev
theorem LV.or1 {k : Bool} (h : TV X a σ H k) : LV X (.BoolOp .Or [a] pos) σ H k := LV.of (pw_or1 pt_self) h.ev
theorem LV.and {k1 k2 : Bool} (h : TV X a σ H k1) (h2 : k1 = true → LV X (.BoolOp .And (b :: es) pos) σ H k2) : LV X (.BoolOp .And (a :: b :: es) pos) σ H (k1 && k2) := LV.of (pw_and pt_self pw_self) (et_and h.ev fun q => (h2 q).ev)
theorem LV.or {k1 k2 : Bool} (h : TV X a σ H k1) (h2 : k1 = false → LV X (.BoolOp .Or (b :: es) pos) σ H k2) : LV X (.BoolOp .Or (a :: b :: es) pos) σ H (k1 || k2) := LV.of (pw_or pt_self pw_self) (et_or h.ev fun q => (h2 q).ev)
theorem TV.bool {k : Bool} (h : LV X e σ H k) : TV X e σ H k := TV.of (PW.pt pw_self) h.ev
theorem TV.and2 {k1 k2 : Bool} (h : TV X a σ H k1) (h2 : k1 = true → TV X b σ H k2) : TV X (.BoolOp .And [a, b] pos) σ H (k1 && k2) := TV.bool (LV.and h fun q => LV.and1 (h2 q))
theorem TV.or2 {k1 k2 : Bool} (h : TV X a σ H k1) (h2 : k1 = false → TV X b σ H k2) : TV X (.BoolOp .Or [a, b] pos) σ H (k1 || k2) := TV.bool (LV.or h fun q => LV.or1 (h2 q))
theorem TV.and3 {k1 k2 k3 : Bool} (h : TV X a σ H k1) (h2 : k1 = true → TV X b σ H k2) (h3 : k1 = true → k2 = true → TV X c σ H k3) : TV X (.BoolOp .And [a, b, c] pos) σ H (k1 && (k2 && k3)) := TV.bool (LV.and h fun q => LV.and (h2 q) fun r => LV.and1 (h3 q r))
theorem TV.or3 {k1 k2 k3 : Bool} (h : TV X a σ H k1) (h2 : k1 = false → TV X b σ H k2) (h3 : k1 = false → k2 = false → TV X c σ H k3) : TV X (.BoolOp .Or [a, b, c] pos) σ H (k1 || (k2 || k3)) := TV.bool (LV.or h fun q => LV.or (h2 q) fun r => LV.or1 (h3 q r))
/-- a < b < c < d -/
def tChain3 (r r' r'' : R2) (ta tb tc td : TE) : TE := fun σ H Q => ta σ H fun x H1 => tb σ H1 fun y H2 => r x y H2 fun z H3 => ∃ k, z = .bl k ∧
  (if k = true then tc σ H3 fun w' H4 => r' y w' H4 fun z2 H5 => ∃ k2, z2 = .bl k2 ∧ (if k2 = true then td σ H5 fun u H6 => r'' w' u H6 Q else Q (.bl false) H5) else Q (.bl false) H3)
theorem pe_chain3 {d : Expr} {ta tb tc td : TE} {op op' op'' : CmpOp} {r r' r'' : R2} (ho : OpR X (compareOp op) r) (ho' : OpR X (compareOp op') r') (ho'' : OpR X (compareOp op'') r'') (ha : PE X a ta) (hb : PE X b tb) (hc : PE X c tc) (hd : PE X d td)
    (hm : lastMarks [op, op', op''] [b, c, d] = false) : PE X (.Compare a [op, op', op''] [b, c, d] pos) (tChain3 r r' r'' ta tb tc td) := by
  refine ⟨fun pins s σ H Q I h => ?_⟩
  refine Compare_chain (thn (ha.run pins s σ H _ I h) fun v s1 ⟨x, H1, I1, r1, q1⟩ => chain_link (thn (hb.run pins s1 σ H1 _ I1 q1) fun u s2 ⟨y, H2, I2, r2, q2⟩ =>
    thn (ho pins s2 σ H2 x y v u _ I2 r1 r2 q2) fun d s3 ⟨z, H3, I3, r3, k, e, q3⟩ => ?_)) hm
  subst e
  cases r3
  refine wpAny_truthy_bool ?_
  cases k with
  | false => exact ite_ff ⟨.bl false, H3, I3, rfl, q3⟩
  | true =>
    refine ite_tt (chain_link (thn (hc.run pins s3 σ H3 _ I3 q3) fun w' s4 ⟨z', H4, I4, r4, q4⟩ => thn (ho' pins s4 σ H4 y z' u w' _ I4 r2 r4 q4) fun d' s5 ⟨z2, H5, I5, r5, k2, e2, q5⟩ => ?_))
    subst e2
    cases r5
    refine wpAny_truthy_bool ?_
    cases k2 with
    | false => exact ite_ff ⟨.bl false, H5, I5, rfl, q5⟩
    | true => exact ite_tt (chain_last (thn (hd.run pins s5 σ H5 _ I5 q5) fun w2 s6 ⟨z3, H6, I6, r6, q6⟩ => ho'' pins s6 σ H6 z' z3 w' w2 Q I6 r4 r6 q6))
theorem EV.chain3 {d : Expr} {op op' op'' : CmpOp} {r r' r'' : R2} {k1 k2 k3 : Bool} {w u : V} (ho : OpR X (compareOp op) r) (ho' : OpR X (compareOp op') r') (ho'' : OpR X (compareOp op'') r'') (ha : EV X a σ H x) (hb : EV X b σ H y) (hr : RV r x y H (.bl k1)) (hc : EV X c σ H w) (hr' : RV r' y w H (.bl k2)) (hd : EV X d σ H u) (hr'' : RV r'' w u H (.bl k3))
    (hm : lastMarks [op, op', op''] [b, c, d] = false) : EV X (.Compare a [op, op', op''] [b, c, d] pos) σ H (.bl (k1 && (k2 && k3))) := by
  refine EV.of (pe_chain3 ho ho' ho'' pe_self pe_self pe_self pe_self hm) fun H1 e Q q => ?_
  refine ha.ev H1 e _ fun H2 e2 => hb.ev H2 (e.trans e2) _ fun H3 e3 => hr H3 ((e.trans e2).trans e3) _ fun H4 e4 => ⟨k1, rfl, ?_⟩
  have g4 := ((e2.trans e3).trans e4)
  cases k1 with
  | false => exact q H4 g4
  | true =>
    refine hc.ev H4 (e.trans g4) _ fun H5 e5 => hr' H5 ((e.trans g4).trans e5) _ fun H6 e6 => ⟨k2, rfl, ?_⟩
    have g6 := ((g4.trans e5).trans e6)
    cases k2 with
    | false => exact q H6 g6
    | true => exact hd.ev H6 (e.trans g6) _ fun H7 e7 => hr'' H7 ((e.trans g6).trans e7) _ fun H8 e8 => q H8 ((g6.trans e7).trans e8)
theorem EV.leLtLt {d : Expr} {i j k l : Int} (ha : EV X a σ H (.int i)) (hb : EV X b σ H (.int j)) (hc : EV X c σ H (.int k)) (hd : EV X d σ H (.int l)) : EV X (.Compare a [.LtE, .Lt, .Lt] [b, c, d] pos) σ H (.bl (decide (i ≤ j) && (decide (j < k) && decide (k < l)))) :=
  EV.chain3 op_le op_lt op_lt ha hb rv_I0 hc rv_I0 hd rv_I0 (nomark d)
end
/-! ### argument lists, displays, calls of built-ins -/
structure AV (X : Cx) (es : List Expr) (σ : L2.St) (H : Hp) (vs : List V) : Prop where
  ev : EvA (tArgs X es) σ H vs
section
variable {X : Cx} {e a b c : Expr} {es : List Expr} {σ : L2.St} {H : Hp} {Q : VK} {v x y z : V} {pos p : Pos} {vs xs : List V}
theorem AV.nil : AV X [] σ H [] := ⟨ea_nil⟩
theorem AV.cons (h : EV X e σ H v) (hr : AV X es σ H vs) : AV X (e :: es) σ H (v :: vs) := ⟨ea_cons h.ev hr.ev⟩
theorem AV.one (h : EV X e σ H v) : AV X [e] σ H [v] := AV.cons h AV.nil
theorem AV.two (h : EV X a σ H x) (h2 : EV X b σ H y) : AV X [a, b] σ H [x, y] := AV.cons h (AV.one h2)
theorem AV.three (h : EV X a σ H x) (h2 : EV X b σ H y) (h3 : EV X c σ H z) : AV X [a, b, c] σ H [x, y, z] := AV.cons h (AV.two h2 h3)
theorem pa_self : ∀ (es : List Expr), (∀ e ∈ es, ∀ r, starEach (e :: r) X.env = (false, eval e X.env) :: starEach r X.env) → PA X es (tArgs X es)
  | [], _ => pa_nil
  | e :: es, h => pa_cons pe_self (pa_self es fun e' he => h e' (List.mem_cons_of_mem _ he)) (h e List.mem_cons_self es)
/-- no star at the head of an argument -/
def noStar : Expr → Bool
  | .Starred .. => false
  | _ => true
theorem star_of {e : Expr} (h : noStar e = true) (r : List Expr) : starEach (e :: r) X.env = (false, eval e X.env) :: starEach r X.env := by
  cases e <;> first | rfl | exact nomatch h
theorem pa_all (h : es.all noStar = true) : PA X es (tArgs X es) := pa_self es fun e he r => star_of (List.all_eq_true.mp h e he) r
theorem back_any : ∀ (es : List Expr), es.all noStar = true → (backTo pos (starEach es X.env)).any (·.1) = false
  | [], _ => rfl
  | e :: es, h => by
    have h1 : noStar e = true := List.all_eq_true.mp h e List.mem_cons_self
    have h2 : es.all noStar = true := List.all_eq_true.mpr fun e' he => List.all_eq_true.mp h e' (List.mem_cons_of_mem _ he)
    rw [star_of h1 es]
    have ih := back_any es h2
    unfold backTo at ih ⊢
    simpa using ih
/-- [a, b, ..]; (a, b, ..) -/
theorem EL.lst (h : AV X es σ H vs) (hl : vs.length ≤ 100000 := by exact Nat.le_of_ble_eq_true rfl) (hs : es.all noStar = true := by rfl) : EL X (.List es pos) σ H vs := EL.of (pe_lst (pa_all hs)) (el_lst h.ev hl)
theorem EU.tup {x1 : Nat} (h : AV X es σ H vs) (hl : vs.length ≤ 100000 := by exact Nat.le_of_ble_eq_true rfl) (hs : es.all noStar = true := by rfl) : EU X (.Tuple es x1 pos) σ H vs := EU.of (pe_tup (pa_all hs)) (eu_tup h.ev hl)
/-- f(e, ..), f a built-in function; a built-in class -/
theorem EV.callB {f : Str} {id : String} {r : List V → Hp → VK → Prop} (hc : CallR X (.builtin id) r) (hm : X.mg f = none) (hv : bootBuiltins f = some (.builtin id)) (ha : AV X (e :: es) σ H vs) (hr : RC r vs H z) (hg : Gl X f := by rfl) (hn : f ≠ "__name__" := by decide) (hdb : (f == ("__debug__" : Str)) = false := by decide)
    (hs : (e :: es).all noStar = true := by rfl) : EV X (.Call (.Name f p) (e :: es) [] pos) σ H z :=
  EV.of (pe_callB hc hg hm hv (pa_all hs) hn hdb (star_of (List.all_eq_true.mp hs e List.mem_cons_self) es) (back_any es (List.all_eq_true.mpr fun e' he => List.all_eq_true.mp hs e' (List.mem_cons_of_mem _ he)))) (ev_cb ha.ev hr)
theorem EV.callT {f : Str} {id : String} {r : List V → Hp → VK → Prop} (hc : CallR X (.type id) r) (hm : X.mg f = none) (hv : bootBuiltins f = some (.type id)) (ha : AV X (e :: es) σ H vs) (hr : RC r vs H z) (hg : Gl X f := by rfl) (hn : f ≠ "__name__" := by decide) (hdb : (f == ("__debug__" : Str)) = false := by decide)
    (hs : (e :: es).all noStar = true := by rfl) : EV X (.Call (.Name f p) (e :: es) [] pos) σ H z :=
  EV.of (pe_callTy hc hg hm hv (pa_all hs) hn hdb (star_of (List.all_eq_true.mp hs e List.mem_cons_self) es) (back_any es (List.all_eq_true.mpr fun e' he => List.all_eq_true.mp hs e' (List.mem_cons_of_mem _ he)))) (ev_cb ha.ev hr)
theorem EL.callB {f : Str} {id : String} {r : List V → Hp → VK → Prop} (hc : CallR X (.builtin id) r) (hm : X.mg f = none) (hv : bootBuiltins f = some (.builtin id)) (ha : AV X (e :: es) σ H vs) (hr : RCL r vs H xs) (hg : Gl X f := by rfl) (hn : f ≠ "__name__" := by decide) (hdb : (f == ("__debug__" : Str)) = false := by decide)
    (hs : (e :: es).all noStar = true := by rfl) : EL X (.Call (.Name f p) (e :: es) [] pos) σ H xs :=
  EL.of (pe_callB hc hg hm hv (pa_all hs) hn hdb (star_of (List.all_eq_true.mp hs e List.mem_cons_self) es) (back_any es (List.all_eq_true.mpr fun e' he => List.all_eq_true.mp hs e' (List.mem_cons_of_mem _ he)))) (el_cb ha.ev hr)
theorem EL.callT {f : Str} {id : String} {r : List V → Hp → VK → Prop} (hc : CallR X (.type id) r) (hm : X.mg f = none) (hv : bootBuiltins f = some (.type id)) (ha : AV X (e :: es) σ H vs) (hr : RCL r vs H xs) (hg : Gl X f := by rfl) (hn : f ≠ "__name__" := by decide) (hdb : (f == ("__debug__" : Str)) = false := by decide)
    (hs : (e :: es).all noStar = true := by rfl) : EL X (.Call (.Name f p) (e :: es) [] pos) σ H xs :=
  EL.of (pe_callTy hc hg hm hv (pa_all hs) hn hdb (star_of (List.all_eq_true.mp hs e List.mem_cons_self) es) (back_any es (List.all_eq_true.mpr fun e' he => List.all_eq_true.mp hs e' (List.mem_cons_of_mem _ he)))) (el_cb ha.ev hr)
/-- the built-ins of this program; m: that the name is still the built-in's -/
theorem EV.abs {i : Int} (m : X.mg "abs" = none) (h : EV X a σ H (.int i)) (hg : Gl X "abs" := by rfl) (hs : noStar a = true := by rfl) : EV X (.Call (.Name "abs" p) [a] [] pos) σ H (.int (i.natAbs : Int)) := by
  refine EV.isI (EV.callB call_abs m (by decide +kernel) (AV.one h) (fun H1 _ _ q => ⟨i, rfl, q H1 (Ex.refl H1)⟩) hg (hs := by simp [hs])) ?_
  split <;> omega
theorem EV.max2 {i j : Int} (m : X.mg "max" = none) (h : EV X a σ H (.int i)) (h2 : EV X b σ H (.int j)) (hg : Gl X "max" := by rfl) (hc : X.calm = true := by rfl) (hs : [a, b].all noStar = true := by rfl) : EV X (.Call (.Name "max" p) [a, b] [] pos) σ H (.int (max i j)) := by
  refine EV.isI (EV.callB (call_max2 hc) m (by decide +kernel) (AV.two h h2) (fun H1 _ _ q => ⟨i, j, rfl, q H1 (Ex.refl H1)⟩) hg (hs := hs)) ?_
  split <;> omega
theorem EV.min2 {i j : Int} (m : X.mg "min" = none) (h : EV X a σ H (.int i)) (h2 : EV X b σ H (.int j)) (hg : Gl X "min" := by rfl) (hc : X.calm = true := by rfl) (hs : [a, b].all noStar = true := by rfl) : EV X (.Call (.Name "min" p) [a, b] [] pos) σ H (.int (min i j)) := by
  refine EV.isI (EV.callB (call_min2 hc) m (by decide +kernel) (AV.two h h2) (fun H1 _ _ q => ⟨i, j, rfl, q H1 (Ex.refl H1)⟩) hg (hs := hs)) ?_
  split <;> omega
theorem EV.len {q : Addr} (m : X.mg "len" = none) (h : EV X a σ H (.ref q)) (hq : SqL X.K H q xs) (hg : Gl X "len" := by rfl) (hs : noStar a = true := by rfl) : EV X (.Call (.Name "len" p) [a] [] pos) σ H (.int (xs.length : Int)) :=
  EV.callB call_len_seq m PySem.boot_len (AV.one h) (fun H1 e1 _ k => ⟨q, xs, rfl, .inl (ex_l e1 hq), k H1 (Ex.refl H1)⟩) hg (hs := by simp [hs])
/-- len of a list made on the way -/
theorem EV.lenN (m : X.mg "len" = none) (h : EL X a σ H xs) (hg : Gl X "len" := by rfl) (hs : noStar a = true := by rfl) : EV X (.Call (.Name "len" p) [a] [] pos) σ H (.int (xs.length : Int)) :=
  EV.of (pe_callB call_len_seq hg m PySem.boot_len (pa_all (es := [a]) (by simp [hs])) (by decide) (by decide) (star_of hs []) rfl) fun H1 e1 Q k => h.ev H1 e1 _ fun q H2 hq e2 h2 => ⟨q, xs, rfl, .inl (.inl (.inl h2)), k H2 e2⟩
theorem EV.sum {q : Addr} {ns : List Int} (m : X.mg "sum" = none) (h : EV X a σ H (.ref q)) (hq : SqL X.K H q (ns.map V.int)) (hg : Gl X "sum" := by rfl) (hc : X.calm = true := by rfl) (hs : noStar a = true := by rfl) : EV X (.Call (.Name "sum" p) [a] [] pos) σ H (.int ns.sum) :=
  EV.callB (cr_sum hc) m (by decide +kernel) (AV.one h) (fun H1 e1 _ k => ⟨q, ns, rfl, ex_l e1 hq, k H1 (Ex.refl H1)⟩) hg (hs := by simp [hs])
theorem EV.sumN {ns : List Int} (m : X.mg "sum" = none) (h : EL X a σ H (ns.map V.int)) (hg : Gl X "sum" := by rfl) (hc : X.calm = true := by rfl) (hs : noStar a = true := by rfl) : EV X (.Call (.Name "sum" p) [a] [] pos) σ H (.int ns.sum) :=
  EV.of (pe_callB (cr_sum hc) hg m (by decide +kernel) (pa_all (es := [a]) (by simp [hs])) (by decide) (by decide) (star_of hs []) rfl) fun H1 e1 Q k => h.ev H1 e1 _ fun q H2 hq e2 h2 => ⟨q, ns, rfl, .inl (.inl h2), k H2 e2⟩
theorem EV.allN {bs : List Bool} (m : X.mg "all" = none) (h : EL X a σ H (bs.map V.bl)) (hg : Gl X "all" := by rfl) (hc : X.calm = true := by rfl) (hs : noStar a = true := by rfl) : EV X (.Call (.Name "all" p) [a] [] pos) σ H (.bl (bs.all id)) :=
  EV.of (pe_callB (cr_all hc) hg m (by decide +kernel) (pa_all (es := [a]) (by simp [hs])) (by decide) (by decide) (star_of hs []) rfl) fun H1 e1 Q k => h.ev H1 e1 _ fun q H2 hq e2 h2 => ⟨q, bs, rfl, .inl (.inl h2), k H2 e2⟩
theorem EV.anyN {bs : List Bool} (m : X.mg "any" = none) (h : EL X a σ H (bs.map V.bl)) (hg : Gl X "any" := by rfl) (hc : X.calm = true := by rfl) (hs : noStar a = true := by rfl) : EV X (.Call (.Name "any" p) [a] [] pos) σ H (.bl (bs.any id)) :=
  EV.of (pe_callB (cr_any hc) hg m (by decide +kernel) (pa_all (es := [a]) (by simp [hs])) (by decide) (by decide) (star_of hs []) rfl) fun H1 e1 Q k => h.ev H1 e1 _ fun q H2 hq e2 h2 => ⟨q, bs, rfl, .inl (.inl h2), k H2 e2⟩
theorem EV.any {q : Addr} {bs : List Bool} (m : X.mg "any" = none) (h : EV X a σ H (.ref q)) (hq : SqL X.K H q (bs.map V.bl)) (hg : Gl X "any" := by rfl) (hc : X.calm = true := by rfl) (hs : noStar a = true := by rfl) : EV X (.Call (.Name "any" p) [a] [] pos) σ H (.bl (bs.any id)) :=
  EV.callB (cr_any hc) m (by decide +kernel) (AV.one h) (fun H1 e1 _ k => ⟨q, bs, rfl, ex_l e1 hq, k H1 (Ex.refl H1)⟩) hg (hs := by simp [hs])
/-! ### lists read -/
theorem EV.ixL {q : Addr} {i : Int} (h : EV X a σ H (.ref q)) (hi : EV X b σ H (.int i)) (hq : SqL X.K H q xs) (hv : atI xs i = some v) (hp : PlainIx b := by exact fun _ _ => rfl) : EV X (.Subscript a b pos) σ H v :=
  EV.of (pe_ix ix_list pe_self pe_self hp) (ev_op h.ev hi.ev (rv_ixL hq hv))
theorem EV.ixT {q : Addr} {i : Int} (h : EV X a σ H (.ref q)) (hi : EV X b σ H (.int i)) (hq : SqT X.K H q xs) (hv : atI xs i = some v) (hp : PlainIx b := by exact fun _ _ => rfl) : EV X (.Subscript a b pos) σ H v :=
  EV.of (pe_ix ix_tup pe_self pe_self hp) (ev_op h.ev hi.ev (rv_ixT hq hv))
/-- (a, b, c)[i], the tuple made on the way -/
theorem EV.ixU {i : Int} (h : EU X a σ H xs) (hi : EV X b σ H (.int i)) (hv : atI xs i = some v) (hp : PlainIx b := by exact fun _ _ => rfl) : EV X (.Subscript a b pos) σ H v :=
  EV.of (pe_ix ix_tup pe_self pe_self hp) fun H1 e1 Q k => h.ev H1 e1 _ fun q H2 hq e2 h2 => hi.ev H2 (e1.trans e2) _ fun H3 e3 => ⟨q, xs, i, v, rfl, rfl, .inl (.inl (e3 _ _ h2)), hv, k H3 (e2.trans e3)⟩
theorem EL.slice {q : Addr} {lo hi : Option Expr} {l h : Option Int} {tl th : TO} {p2 : Pos} (he : EV X a σ H (.ref q)) (hq : SqL X.K H q xs) (pl : PO X lo tl) (ph : PO X hi th) (hl : EvO tl σ H l) (hh : EvO th σ H h) : EL X (.Subscript a (.Slice lo hi none p2) pos) σ H (cutV xs l h) :=
  EL.of (pe_slice sl_list pe_self pl ph) (el_sl he.ev hl hh hq)
/-- xs[:n] -/
theorem EL.upto {q : Addr} {i : Int} {p2 : Pos} (he : EV X a σ H (.ref q)) (hi : EV X b σ H (.int i)) (hq : SqL X.K H q xs) : EL X (.Subscript a (.Slice none (some b) none p2) pos) σ H (cutV xs none (some i)) :=
  EL.slice he hq po_none (po_some pe_self) eo_none (eo_some hi.ev)
/-- x in [..], x in (..), made on the way -/
theorem TV.inL (ha : EV X a σ H x) (hb : EL X b σ H xs) (hx : flatV x = true := by rfl) (hf : xs.all flatV = true := by rfl) (hm : behindInMarks .In b = false := by rfl) : TV X (.Compare a [.In] [b] pos) σ H (inV x xs) :=
  TV.of (pt_cmpR op_in_seq pe_self pe_self hm) (et_test (ev_opL ha.ev hb.ev fun _ _ h _ => rv_isL (sq_of h) hx hf))
theorem EV.inL (ha : EV X a σ H x) (hb : EL X b σ H xs) (hx : flatV x = true := by rfl) (hf : xs.all flatV = true := by rfl) (hm : behindInMarks .In b = false := by rfl) : EV X (.Compare a [.In] [b] pos) σ H (.bl (inV x xs)) :=
  EV.of (pe_cmpR op_in_seq pe_self pe_self hm) (ev_opL ha.ev hb.ev fun _ _ h _ => rv_isL (sq_of h) hx hf)
theorem TV.inU (ha : EV X a σ H x) (hb : EU X b σ H xs) (hx : flatV x = true := by rfl) (hf : xs.all flatV = true := by rfl) (hm : behindInMarks .In b = false := by rfl) : TV X (.Compare a [.In] [b] pos) σ H (inV x xs) :=
  TV.of (pt_cmpR op_in_seq pe_self pe_self hm) (et_test (ev_inU ha.ev hb.ev hx hf))
theorem EV.inU (ha : EV X a σ H x) (hb : EU X b σ H xs) (hx : flatV x = true := by rfl) (hf : xs.all flatV = true := by rfl) (hm : behindInMarks .In b = false := by rfl) : EV X (.Compare a [.In] [b] pos) σ H (.bl (inV x xs)) :=
  EV.of (pe_cmpR op_in_seq pe_self pe_self hm) (ev_inU ha.ev hb.ev hx hf)
end
/-! ### calls of the program's own defs -/
/-- the def of that name keeps the promise -/
structure Fc (P : Program) (w : World) (K : PySem.W.Frag) (mg : Str → Option Value) (base : Heap) (k : Nat) (x : Str) (sp : Sp) : Prop where
  ex : ∃ (f : Addr) (fd : FuncData) (ps : List Str), FnOk P w K mg base (L2N.CX P w) k f fd ps sp ∧ mg x = some (.ref f) ∧ PySem.W.keepIn K (.ref f) = true ∧ Binds K fd ps []
section
variable {X : Cx} {e a b c : Expr} {es : List Expr} {σ : L2.St} {H : Hp} {Q : VK} {v z : V} {pos p : Pos} {vs xs : List V} {x : Str} {sp : Sp} {k j : Nat} {E : XK}
theorem pe_fc (C : Fc X.prog X.w X.K X.mg X.base k x sp) (hr : Room j X.A) (hk : k ≤ j) (hx : Passes (L2N.CX X.prog X.w) X E) (hg : Gl X x) (hs : (e :: es).all noStar = true) (hdb : (x == ("__debug__" : Str)) = false) : PE X (.Call (.Name x p) (e :: es) [] pos) (tCall sp [] E (tArgs X (e :: es))) := by
  obtain ⟨f, fd, ps, F, hm, kp, bn⟩ := C.ex
  exact pe_call F (hr.mono hk) hg hm kp bn .nil hx (pa_all hs) hdb (star_of (List.all_eq_true.mp hs e List.mem_cons_self) es) (back_any es (List.all_eq_true.mpr fun e' he => List.all_eq_true.mp hs e' (List.mem_cons_of_mem _ he)))
theorem EV.call (C : Fc X.prog X.w X.K X.mg X.base k x sp) (hr : Room j X.A) (ha : AV X (e :: es) σ H vs) (hv : SpV sp vs H z) (hk : k ≤ j := by decide) (hg : Gl X x := by rfl) (hs : (e :: es).all noStar = true := by rfl) (hdb : (x == ("__debug__" : Str)) = false := by decide) :
    EV X (.Call (.Name x p) (e :: es) [] pos) σ H z := EV.of (pe_fc C hr hk passLN hg hs hdb) (ev_call ha.ev (by rw [List.append_nil]; exact hv))
theorem EL.call (C : Fc X.prog X.w X.K X.mg X.base k x sp) (hr : Room j X.A) (ha : AV X (e :: es) σ H vs) (hv : SpL sp vs H xs) (hk : k ≤ j := by decide) (hg : Gl X x := by rfl) (hs : (e :: es).all noStar = true := by rfl) (hdb : (x == ("__debug__" : Str)) = false := by decide) :
    EL X (.Call (.Name x p) (e :: es) [] pos) σ H xs := EL.of (pe_fc C hr hk passLN hg hs hdb) (el_call ha.ev (by rw [List.append_nil]; exact hv))
/-- with what follows: nothing is raised; or what is raised leaves (tk) -/
theorem EW.call (C : Fc X.prog X.w X.K X.mg X.base k x sp) (hr : Room j X.A) (h : tArgs X (e :: es) σ H fun vs H1 => sp vs H1 Q E0) (hk : k ≤ j := by decide) (hg : Gl X x := by rfl) (hs : (e :: es).all noStar = true := by rfl) (hdb : (x == ("__debug__" : Str)) = false := by decide) :
    EW X (.Call (.Name x p) (e :: es) [] pos) σ H Q := by
  refine EW.of (pe_fc C hr hk passLN hg hs hdb) (?_ : tCall _ _ _ _ σ H Q)
  unfold tCall
  simpa only [List.append_nil] using h
theorem EW.callX (C : Fc X.prog X.w X.K X.mg X.base k x sp) (hr : Room j X.A) (tk : L2N.Takes X (fun cls d _ H => E cls d H)) (h : tArgs X (e :: es) σ H fun vs H1 => sp vs H1 Q E) (hk : k ≤ j := by decide) (hg : Gl X x := by rfl) (hs : (e :: es).all noStar = true := by rfl) (hdb : (x == ("__debug__" : Str)) = false := by decide) :
    EW X (.Call (.Name x p) (e :: es) [] pos) σ H Q := by
  refine EW.of (pe_fc C hr hk (L2N.passes_call (E := E) tk fun _ _ _ _ h => h) hg hs hdb) (?_ : tCall _ _ _ _ σ H Q)
  unfold tCall
  simpa only [List.append_nil] using h
end
/-! ### blocks -/
section
variable {X : Cx} {e a b c : Expr} {st : Stmt} {rest : List Stmt} {σ : L2.St} {H : Hp} {D : Ends} {v : V} {xs : List V} {pos p p2 : Pos} {x : Str}
theorem BW.nil (h : D.nx σ H) : BW X [] D σ H := BW.of pss_nil h
theorem BW.cons {t : TS} (h : PS X st t) (r : t { D with nx := BW X rest D } σ H) : BW X (st :: rest) D σ H := BW.of (pss_cons h pss_self) r
theorem BW.asgW {i : Nat} (hN : X.N.Nodup) (hi : X.N[i]? = some x) (hx : Loc X.env.scope x) (h : EW X e σ H fun v H1 => BW X rest D (σ.set i (some v)) H1) (hs : swapsWith e (some (.Name x p)) pos.line X.env = pure false := by rfl) (hf : X.fn x = true ∨ X.env.scope.names.lookup x = some .local := by first | exact .inl rfl | exact .inr rfl) : BW X (.Assign [.Name x p] e pos :: rest) D σ H :=
  BW.cons (ps_set (i := i) hN hi hx pe_self hs hf) h
/-- x = e, e a value; a new list; a new tuple -/
theorem BW.asg (i : Nat) (hN : X.N.Nodup) (h : EV X e σ H v) (k : ∀ H1, Ex H H1 → BW X rest D (σ.set i (some v)) H1) (hi : X.N[i]? = some x := by rfl) (hx : Loc X.env.scope x := by first | exact Or.inl rfl | exact Or.inr rfl) (hs : swapsWith e (some (.Name x p)) pos.line X.env = pure false := by rfl) (hf : X.fn x = true ∨ X.env.scope.names.lookup x = some .local := by first | exact .inl rfl | exact .inr rfl) : BW X (.Assign [.Name x p] e pos :: rest) D σ H :=
  BW.asgW hN hi hx (h.go k) hs hf
theorem BW.asgL (i : Nat) (hN : X.N.Nodup) (h : EL X e σ H xs) (k : ∀ q H1, H q = none → Ex H H1 → H1 q = some (.lst xs) → BW X rest D (σ.set i (some (.ref q))) H1) (hi : X.N[i]? = some x := by rfl) (hx : Loc X.env.scope x := by first | exact Or.inl rfl | exact Or.inr rfl) (hs : swapsWith e (some (.Name x p)) pos.line X.env = pure false := by rfl) (hf : X.fn x = true ∨ X.env.scope.names.lookup x = some .local := by first | exact .inl rfl | exact .inr rfl) : BW X (.Assign [.Name x p] e pos :: rest) D σ H :=
  BW.asgW hN hi hx (h.go k) hs hf
theorem BW.ret (h : EV X e σ H v) (k : ∀ H1, Ex H H1 → D.rt v H1) : BW X (.Return (some e) pos :: rest) D σ H := BW.cons (ps_ret pe_self) (h.go k)
theorem BW.retL (h : EL X e σ H xs) (k : ∀ q H1, H q = none → Ex H H1 → H1 q = some (.lst xs) → D.rt (.ref q) H1) : BW X (.Return (some e) pos :: rest) D σ H := BW.cons (ps_ret pe_self) (h.go k)
theorem BW.retU (h : EU X e σ H xs) (k : ∀ q H1, H q = none → Ex H H1 → H1 q = some (.tup xs) → D.rt (.ref q) H1) : BW X (.Return (some e) pos :: rest) D σ H := BW.cons (ps_ret pe_self) (h.go k)
theorem BW.retW (h : EW X e σ H D.rt) : BW X (.Return (some e) pos :: rest) D σ H := BW.cons (ps_ret pe_self) h
theorem BW.exprW (h : EW X e σ H fun _ H1 => BW X rest D σ H1) (hs : swapsWith e none pos.line X.env = pure false := by rfl) : BW X (.Expr e pos :: rest) D σ H := BW.cons (ps_expr pe_self hs) h
theorem BW.expr (h : EV X e σ H v) (k : ∀ H1, Ex H H1 → BW X rest D σ H1) (hs : swapsWith e none pos.line X.env = pure false := by rfl) : BW X (.Expr e pos :: rest) D σ H := BW.exprW (h.go k) hs
/-- what follows a block, as an Ends -/
abbrev Ends.bef (X : Cx) (rest : List Stmt) (D : Ends) : Ends := { D with nx := BW X rest D }
theorem BW.ite {s1 s2 : List Stmt} {k : Bool} (h : TV X c σ H k) (h1 : k = true → ∀ H1, Ex H H1 → BW X s1 (Ends.bef X rest D) σ H1) (h2 : k = false → ∀ H1, Ex H H1 → BW X s2 (Ends.bef X rest D) σ H1) : BW X (.If c s1 s2 pos :: rest) D σ H :=
  BW.cons (ps_if pt_self pss_self pss_self) (h.go fun H1 e => by
    cases k with
    | true => exact h1 rfl H1 e
    | false => exact h2 rfl H1 e)
/-- an if without else -/
theorem BW.when {s1 : List Stmt} {k : Bool} (h : TV X c σ H k) (h1 : k = true → ∀ H1, Ex H H1 → BW X s1 (Ends.bef X rest D) σ H1) (h2 : k = false → ∀ H1, Ex H H1 → BW X rest D σ H1) : BW X (.If c s1 [] pos :: rest) D σ H :=
  BW.ite h h1 fun hk H1 e => BW.nil (h2 hk H1 e)
/-- an if whose test is known to be false -/
theorem BW.skip {s1 : List Stmt} (h : TV X c σ H false) (h2 : ∀ H1, Ex H H1 → BW X rest D σ H1) : BW X (.If c s1 [] pos :: rest) D σ H := BW.when h (fun z => nomatch z) fun _ => h2
theorem BW.take {s1 s2 : List Stmt} (h : TV X c σ H true) (h1 : ∀ H1, Ex H H1 → BW X s1 (Ends.bef X rest D) σ H1) : BW X (.If c s1 s2 pos :: rest) D σ H := BW.ite h (fun _ => h1) fun z => nomatch z
theorem BW.iteW {s1 s2 : List Stmt} (h : TW X c σ H fun k H1 => (k = true → BW X s1 (Ends.bef X rest D) σ H1) ∧ (k = false → BW X s2 (Ends.bef X rest D) σ H1)) : BW X (.If c s1 s2 pos :: rest) D σ H := by
  refine BW.cons (ps_if pt_self pss_self pss_self) (?_ : tIfS _ _ _ _ σ H)
  refine ⟨fun pins s I => thn (h.run pins s I) fun k s1 ⟨H1, I1, q⟩ => ⟨H1, I1, ?_⟩⟩
  cases k with
  | true => exact q.1 rfl
  | false => exact q.2 rfl
theorem BW.never (h : False) : BW X rest D σ H := h.elim
end
/-! ### a def by its body -/
section
variable {P : Program} {w : World} {K : PySem.W.Frag} {mg : Str → Option Value} {base : Heap}
/-- a def from which nothing is let out -/
theorem okB {x qual : Str} {st : Stmt} {f : Addr} {fd : FuncData} {N ps : List Str} {k : Nat} {sp : Sp} (F : Fun K x qual st f fd) (S : FnScope N ps (defScope st)) (len : ∀ vs H Q E, sp vs H Q E → vs.length = ps.length)
    (hbody : ∀ (cdv : Value) (A : Around) (outer : List Env) (s : Shared) (H : Hp) (vs : List V) (Q : VK) (E : XK), Room k (A.deeper (envOfC qual (defScope st) s.heap.objs.size f cdv)) → sp vs H Q E →
      BW (cxOf (L2N.CX P w) P w K mg base N qual (defScope st) f cdv A outer s H E).nox (defBody st) { nx := fun _ H' => Q .non H', rt := Q } (start N vs) H) : FnOk P w K mg base (L2N.CX P w) (k + 1) f fd ps sp :=
  okXN F S len fun cdv A outer s H vs Q E hr hsp => ⟨_, pss_self.nox, hbody cdv A outer s H vs Q E hr hsp⟩
/-- a def that may raise -/
theorem okR {x qual : Str} {st : Stmt} {f : Addr} {fd : FuncData} {N ps : List Str} {k : Nat} {sp : Sp} (F : Fun K x qual st f fd) (S : FnScope N ps (defScope st)) (len : ∀ vs H Q E, sp vs H Q E → vs.length = ps.length)
    (hbody : ∀ (cdv : Value) (A : Around) (outer : List Env) (s : Shared) (H : Hp) (vs : List V) (Q : VK) (E : XK), Room k (A.deeper (envOfC qual (defScope st) s.heap.objs.size f cdv)) → sp vs H Q E →
      BW (cxOf (L2N.CX P w) P w K mg base N qual (defScope st) f cdv A outer s H E) (defBody st) { nx := fun _ H' => Q .non H', rt := Q } (start N vs) H) : FnOk P w K mg base (L2N.CX P w) (k + 1) f fd ps sp :=
  okXN F S len fun cdv A outer s H vs Q E hr hsp => ⟨_, pss_self, hbody cdv A outer s H vs Q E hr hsp⟩
end
end QR

namespace QR
open PySem PySem.Spec PyProof.Rows L2 Evl
/-! ### kinds of values -/
theorem TyX.ex {K : PySem.W.Frag} {H H' : Hp} {x : V} {t : Value} (ty : TyX K H x t) (e : Ex H H') : TyX K H' x t := by
  cases ty with
  | base b =>
    refine .base ?_
    cases b with
    | non => exact .non
    | bl x => exact .bl x
    | int i => exact .int i
    | str x => exact .str x
    | flt x => exact .flt x
    | lst h => exact .lst (e _ _ h)
    | frz h => exact .frz (e _ _ h)
    | tup h => exact .tup (e _ _ h)
    | dK h => exact .dK (e _ _ h)
    | dT h => exact .dT (e _ _ h)
    | ins h c a b d m => exact .ins (e _ _ h) c a b d m
  | byt b => exact .byt b
  | set h => exact .set (e _ _ h)
  | kList h c => exact .kList h c
  | kTuple h c => exact .kTuple h c
  | kDict h c => exact .kDict h c
  | fTuple h => exact .fTuple (e _ _ h)
  | fDict h => exact .fDict (e _ _ h)
theorem ty_list {K : PySem.W.Frag} {H : Hp} {a : Addr} {xs : List V} (h : SqL K H a xs) : TyX K H (.ref a) (.type "list") := by
  rcases h with (h | ⟨o, h⟩) | ⟨o, its, n, h, c, _⟩
  · exact .base (.lst h)
  · exact .base (.frz h)
  · exact .kList h c
theorem ty_tup {K : PySem.W.Frag} {H : Hp} {a : Addr} {xs : List V} (h : SqT K H a xs) : TyX K H (.ref a) (.type "tuple") := by
  rcases h with (h | ⟨o, h⟩) | ⟨o, its, n, h, c, _⟩
  · exact .base (.tup h)
  · exact .fTuple h
  · exact .kTuple h c
section
variable {X : Cx} {e a b c : Expr} {es : List Expr} {σ : L2.St} {H : Hp} {Q : VK} {v x y z : V} {pos p : Pos} {vs xs : List V}
theorem EV.isi {w : V} {t u : Value} {k : Bool} (m : X.mg "isinstance" = none) (ha : EV X a σ H x) (hb : EV X b σ H w) (kc : ClsV w u) (ty : TyX X.K H x t) (hk : PySem.W.kitOne X.K t u = some k) (hg : Gl X "isinstance" := by rfl) (hs : [a, b].all noStar = true := by rfl) :
    EV X (.Call (.Name "isinstance" p) [a, b] [] pos) σ H (.bl k) :=
  EV.callB call_isi m (by decide +kernel) (AV.two ha hb) (fun H1 e1 _ q => ⟨x, w, t, u, k, rfl, kc, TyX.ex ty e1, hk, q H1 (Ex.refl H1)⟩) hg (hs := hs)
/-- isinstance(e, T), T a built-in class -/
theorem EV.isT {f : Str} {T n : String} {k : Bool} {pf : Pos} (m : X.mg "isinstance" = none) (mT : X.mg f = none) (hv : bootBuiltins f = some (.type T)) (ha : EV X a σ H x) (ty : TyX X.K H x (.type n)) (hk : kitB n T = some k) (hg : Gl X "isinstance" := by rfl) (hgT : Gl X f := by rfl) (hs : [a, .Name f pf].all noStar = true := by rfl) (hn : f ≠ "__name__" := by decide) (hd : (f == ("__debug__" : Str)) = false := by decide) :
    EV X (.Call (.Name "isinstance" p) [a, .Name f pf] [] pos) σ H (.bl k) :=
  EV.isi m ha (EV.ty mT hv hgT hn hd) (.ty T) ty (kit_ty hk) hg hs
/-- e is True, e is not True -/
theorem EV.isB2 {i j : Bool} (ha : EV X a σ H (.bl i)) (hb : EV X b σ H (.bl j)) : EV X (.Compare a [.Is] [b] pos) σ H (.bl (decide (i = j))) := EV.cmp op_isBl ha hb (fun H1 _ _ q => ⟨i, j, rfl, rfl, q H1 (Ex.refl H1)⟩) (nomark _)
theorem TV.isB2 {i j : Bool} (ha : EV X a σ H (.bl i)) (hb : EV X b σ H (.bl j)) : TV X (.Compare a [.Is] [b] pos) σ H (decide (i = j)) := TV.op op_isBl ha hb (fun H1 _ _ q => ⟨i, j, rfl, rfl, q H1 (Ex.refl H1)⟩) (nomark _)
theorem TV.notB2 {i j : Bool} (ha : EV X a σ H (.bl i)) (hb : EV X b σ H (.bl j)) : TV X (.Compare a [.IsNot] [b] pos) σ H (!decide (i = j)) := TV.op op_notBl ha hb (fun H1 _ _ q => ⟨i, j, rfl, rfl, q H1 (Ex.refl H1)⟩) (nomark _)
end
/-! ### loops -/
section
variable {X : Cx} {e a b c tg iter : Expr} {body rest : List Stmt} {σ : L2.St} {H : Hp} {D : Ends} {v : V} {xs : List V} {pos p p2 pr : Pos} {x : Str}
/-- what stands behind a turn -/
abbrev Ends.turn (X : Cx) (rest : List Stmt) (D : Ends) (N : L2.St → Hp → Prop) : Ends := { D with nx := N, ct := N, bk := BW X rest D }
theorem BW.whl (W : Nat → L2.St → Hp → Prop) (m0 : Nat) (h0 : W m0 σ H)
    (hs : ∀ m σ' H', W m σ' H' → ∃ k, TV X c σ' H' k ∧ (k = true → ∀ H1, Ex H' H1 → BW X body (Ends.turn X rest D fun σ2 H2 => ∃ m', m' < m ∧ W m' σ2 H2) σ' H1) ∧ (k = false → ∀ H1, Ex H' H1 → BW X rest D σ' H1))
    (hp : PassesOwn (model X.prog X.w) X.A X.env X.xe := by first | exact PassesOwn.never | exact passes_of rfl) : BW X (.While c body [] pos :: rest) D σ H :=
  BW.cons (ps_while hp pt_self pss_self) (s_while W m0 h0 fun m σ' H' hw => by
    obtain ⟨k, h1, h2, h3⟩ := hs m σ' H' hw
    exact ⟨k, h1.ev, fun hk H1 e1 => ⟨_, fun σ2 H2 z => z, h2 hk H1 e1⟩, h3⟩)
theorem s_forR {ta : TA} {tu : TS} {j : Nat} {n : Int} (h : EvA ta σ H [.int n]) (hn : -100000 ≤ n ∧ n ≤ 100000) (Pv : Nat → L2.St → Hp → Prop) (h0 : ∀ H1, Ex H H1 → Pv 0 σ H1)
    (hs : ∀ (i : Nat) σ' H', (i : Int) < n → Pv i σ' H' → tu { D with nx := Pv (i + 1), ct := Pv (i + 1), bk := D.nx } (σ'.set j (some (.int (i : Int)))) H') (hd : ∀ σ' H', Pv n.toNat σ' H' → D.nx σ' H') : tFor (iRng1 ta) (gName j) tu D σ H :=
  h H (Ex.refl H) _ fun H1 e => ⟨n, rfl, by omega, by omega, for_range (lo := 0) (n := n.toNat) Pv (h0 H1 e) (fun i σ' H' hi p => by
    have e0 : (0 : Int) + (i : Int) = (i : Int) := Int.zero_add _
    show tu { D with nx := Pv (i + 1), ct := Pv (i + 1), bk := D.nx } (σ'.set j (some (.int ((0 : Int) + (i : Int))))) H'
    rw [e0]
    exact hs i σ' H' (by omega) p) hd⟩
theorem s_forU {xs : List V} {tl : TE} {g : TG} {tu : TS} {K : PySem.W.Frag} (h : EvU tl σ H xs) (Pv : Addr → Nat → L2.St → Hp → Prop) (h0 : ∀ p H1, H p = none → Ex H H1 → H1 p = some (.tup xs) → Pv p 0 σ H1) (hl : ∀ p i σ' H', i ≤ xs.length → Pv p i σ' H' → SqT K H' p xs)
    (hs : ∀ p i x σ' H', xs[i]? = some x → Pv p i σ' H' → g x σ' H' fun σ2 H2 => tu { D with nx := Pv p (i + 1), ct := Pv p (i + 1), bk := D.nx } σ2 H2) (hd : ∀ p σ' H', Pv p xs.length σ' H' → D.nx σ' H') : tFor (iTup K tl) g tu D σ H :=
  h H (Ex.refl H) _ fun p H1 hp e h1 => ⟨p, rfl, ⟨xs, st_of h1⟩, for_tup (Pv p) (h0 p H1 hp e h1) (hl p) (hs p) (hd p)⟩
theorem turn_long {P : Program} {w : World} {K : PySem.W.Frag} {tg : Expr} (it : Addr) (lo : Int) (n : Nat) : Turn P w K tg (Itr lo n) [it] it (fun i h => IsLongIter h it (lo + (i : Nat) * 1) ((n : Int) - (i : Nat)) 1) where
  mem := by simp
  obj := fun i h st b hb => by
    have e : b = it := by simpa using hb
    subst e
    exact ⟨_, st, fun v z => by
      have z' : Data.fields _ = Data.cell v := z
      cases z'⟩
  keep := fun i h h' st k => k it (by simp) _ st
  item := by
    intro X hP hw hK hc i pins s σ H E I hf st hg
    subst hP hw hK
    obtain ⟨f0, f1, f2, f3, f4, f5⟩ := hf it (by simp)
    have W := Walks.longrange (prog := X.prog) (w := X.w) (I.ok.hd hc) it lo 1 n
    refine W.item i s _ _ hg st fun v h' tk hv st' kk => ?_
    obtain ⟨t, rfl⟩ := hv
    have I1 : Inv X pins σ H { s with heap := h', toks := tk } := I.turned (fun b o hb e => kk b o (by simpa using hb) e) f0 f1 f3 f4 f5
    refine ⟨_, rfl, go_of (s := { s with heap := h', toks := tk }) (n := "longrange_iterator") st' rfl rfl (by decide) ⟨.int (lo + i), H, I1, ⟨t, ?_⟩, ⟨rfl, rfl⟩, st', fun b hb => (hf b hb).1⟩⟩
    rw [Int.mul_one]
  done := by
    intro X hP hw hK hc i pins s σ H E I hf st hg
    subst hP hw hK
    obtain ⟨f0, f1, f2, f3, f4, f5⟩ := hf it (by simp)
    exact wpAny_pyNext_long_end (I.ok.hd hc) st (by have : n ≤ i := hg; omega) fun h' eb => ⟨rfl, I.turned (t' := s.toks) (fun b o hb e => eb b o hb e) f0 f1 f3 f4 f5⟩
  self := fun _ _ _ _ _ st h => wpAny_pyIter_longiter st h
/-- a range object just made, of any bounds, walked -/
theorem range_itA {pins : List (Addr × Obj)} {σ : L2.St} {H : Hp} {s : Shared} {R : It → Hp → Prop} {E : Value → Shared → Prop} {lo hi : Int} {t u v : Tok} {tk : Nat} (I : Inv X pins σ H s)
    (q : R (Itr lo (hi - lo).toNat) H) : wpAny (model X.prog X.w) X.A (pyIter (.ref s.heap.objs.size)) (PIE X pins σ tg R) E { s with heap := s.heap.push { cls := .type "range", data := .fields #[.int lo t, .int hi u, .int 1 v] }, toks := tk } := by
  have I1 : Inv X pins σ H { s with heap := s.heap.push { cls := .type "range", data := .fields #[.int lo t, .int hi u, .int 1 v] }, toks := tk } := I.kept fun b o e => Heap.get?_push_of_some _ e
  have e1 : lo + ((0 : Nat) : Int) * 1 = lo := by simp
  have e2 : (((hi - lo).toNat : Nat) : Int) - ((0 : Nat) : Int) = Builtin.Range.rangeSize lo hi 1 := by rw [rangeSize_one]; split <;> omega
  cases hb : Builtin.Range.small lo hi 1 with
  | true =>
    refine wpAny_pyIter_range (IsRange.new ..) hb ?_
    refine ⟨(s.heap.push { cls := .type "range", data := .fields #[.int lo t, .int hi u, .int 1 v] }).objs.size, [(s.heap.push { cls := .type "range", data := .fields #[.int lo t, .int hi u, .int 1 v] }).objs.size], _, _, H, rfl,
      I1.kept (t' := tk) fun b o e => Heap.get?_push_of_some _ e, turn_range _ lo (hi - lo).toNat, ?_, fun b hb => ?_, q⟩
    · show IsRangeIter _ _ (lo + ((0 : Nat) : Int) * 1) ((((hi - lo).toNat : Nat) : Int) - ((0 : Nat) : Int)) 1
      rw [e1, e2]
      exact Heap.get?_push_size _ rfl
    · have e : b = (s.heap.push { cls := .type "range", data := .fields #[.int lo t, .int hi u, .int 1 v] }).objs.size := by simpa using hb
      subst e
      exact I1.fpOk (Nat.le_refl _) (I1.hok.fresh (Nat.le_refl _))
  | false =>
    refine wpAny_pyIter_longrange (IsRange.new ..) hb ?_
    refine ⟨(s.heap.push { cls := .type "range", data := .fields #[.int lo t, .int hi u, .int 1 v] }).objs.size, [(s.heap.push { cls := .type "range", data := .fields #[.int lo t, .int hi u, .int 1 v] }).objs.size], _, _, H, rfl,
      I1.kept (t' := tk) fun b o e => Heap.get?_push_of_some _ e, turn_long _ lo (hi - lo).toNat, ?_, fun b hb => ?_, q⟩
    · show IsLongIter _ _ (lo + ((0 : Nat) : Int) * 1) ((((hi - lo).toNat : Nat) : Int) - ((0 : Nat) : Int)) 1
      rw [e1, e2]
      exact Heap.get?_push_size _ rfl
    · have e : b = (s.heap.push { cls := .type "range", data := .fields #[.int lo t, .int hi u, .int 1 v] }).objs.size := by simpa using hb
      subst e
      exact I1.fpOk (Nat.le_refl _) (I1.hok.fresh (Nat.le_refl _))
def iRng2A (ta : TA) : TI := fun σ H R => ta σ H fun vs H1 => ∃ i j : Int, vs = [.int i, .int j] ∧ R (Itr i (j - i).toNat) H1
theorem pi_range2A {ta : TA} (hg : Gl X "range") (hm : X.mg "range" = none) (ha : PA X [a, b] ta) (hs : starEach [a, b] X.env = [(false, eval a X.env), (false, eval b X.env)]) (hs2 : starEach [b] X.env = [(false, eval b X.env)]) :
    PI X tg (.Call (.Name "range" p) [a, b] [] pos) (iRng2A ta) := by
  refine ⟨fun pins s σ H R I h => ?_⟩
  refine Call_ (ld_blt I hg hm boot_range (PyProof.Rows.callWith_type1 (thn (ha.run pos pins s σ H _ I h) fun us s1 ⟨vs, H1, I1, r1, q1⟩ => ?_) (by rw [hs, hs2]) (by rw [hs2]; rfl)))
  obtain ⟨i, j, e, q⟩ := q1
  subst e
  cases r1 with
  | cons r rr =>
    cases rr with
    | cons r' rr =>
      cases rr
      obtain ⟨t, rfl⟩ := r
      obtain ⟨t', rfl⟩ := r'
      exact call_range_2 (range_itA I1 q)
theorem s_forR2A {ta : TA} {tu : TS} {j : Nat} {lo n : Int} (h : EvA ta σ H [.int lo, .int n]) (Pv : Nat → L2.St → Hp → Prop) (h0 : ∀ H1, Ex H H1 → Pv 0 σ H1)
    (hs : ∀ (i : Nat) σ' H', lo + (i : Int) < n → Pv i σ' H' → tu { D with nx := Pv (i + 1), ct := Pv (i + 1), bk := D.nx } (σ'.set j (some (.int (lo + (i : Int))))) H') (hd : ∀ σ' H', Pv (n - lo).toNat σ' H' → D.nx σ' H') : tFor (iRng2A ta) (gName j) tu D σ H :=
  h H (Ex.refl H) _ fun H1 e => ⟨lo, n, rfl, for_range (lo := lo) (n := (n - lo).toNat) Pv (h0 H1 e) (fun i σ' H' hi p => hs i σ' H' (by omega) p) hd⟩
/-- for x in range(n) -/
theorem BW.forR (j : Nat) {n : Int} (m : X.mg "range" = none) (hN : X.N.Nodup) (h : EV X a σ H (.int n)) (hn : -100000 ≤ n ∧ n ≤ 100000) (Pv : Nat → L2.St → Hp → Prop) (h0 : ∀ H1, Ex H H1 → Pv 0 σ H1)
    (hs : ∀ (i : Nat) σ' H', (i : Int) < n → Pv i σ' H' → BW X body (Ends.turn X rest D (Pv (i + 1))) (σ'.set j (some (.int (i : Int)))) H') (hd : ∀ σ' H', Pv n.toNat σ' H' → BW X rest D σ' H')
    (hj : X.N[j]? = some x := by rfl) (hx : Loc X.env.scope x := by first | exact Or.inl rfl | exact Or.inr rfl) (hf : X.fn x = true ∨ X.env.scope.names.lookup x = some .local := by first | exact .inl rfl | exact .inr rfl) (hg : Gl X "range" := by rfl) (hst : noStar a = true := by rfl) (hc : X.calm = true := by rfl)
    (hp : PassesOwn (model X.prog X.w) X.A X.env X.xe := by first | exact PassesOwn.never | exact passes_of rfl) : BW X (.For (.Name x p) (.Call (.Name "range" pr) [a] [] p2) body [] pos :: rest) D σ H :=
  BW.cons (ps_for hp hc (pi_range1 hg m (pa_all (es := [a]) (by simp [hst])) (star_of hst [])) (pg_name (i := j) hN hj hx hf) pss_self) (s_forR (AV.one h).ev hn Pv h0 hs hd)
/-- for x in range(lo, n) -/
theorem BW.forR2 (j : Nat) {lo n : Int} (m : X.mg "range" = none) (hN : X.N.Nodup) (h : EV X a σ H (.int lo)) (h' : EV X b σ H (.int n)) (Pv : Nat → L2.St → Hp → Prop) (h0 : ∀ H1, Ex H H1 → Pv 0 σ H1)
    (hs : ∀ (i : Nat) σ' H', lo + (i : Int) < n → Pv i σ' H' → BW X body (Ends.turn X rest D (Pv (i + 1))) (σ'.set j (some (.int (lo + (i : Int))))) H') (hd : ∀ σ' H', Pv (n - lo).toNat σ' H' → BW X rest D σ' H')
    (hj : X.N[j]? = some x := by rfl) (hx : Loc X.env.scope x := by first | exact Or.inl rfl | exact Or.inr rfl) (hf : X.fn x = true ∨ X.env.scope.names.lookup x = some .local := by first | exact .inl rfl | exact .inr rfl) (hg : Gl X "range" := by rfl) (hst : noStar a = true := by rfl) (hst2 : noStar b = true := by rfl) (hc : X.calm = true := by rfl)
    (hp : PassesOwn (model X.prog X.w) X.A X.env X.xe := by first | exact PassesOwn.never | exact passes_of rfl) : BW X (.For (.Name x p) (.Call (.Name "range" pr) [a, b] [] p2) body [] pos :: rest) D σ H :=
  BW.cons (ps_for hp hc (pi_range2A hg m (pa_all (es := [a, b]) (by simp [hst, hst2])) (by rw [star_of hst, star_of hst2]; rfl) (star_of hst2 [])) (pg_name (i := j) hN hj hx hf) pss_self) (s_forR2A (AV.two h h').ev Pv h0 hs hd)
/-- for target in xs, a list that stands still; a list made on the way; a tuple made on the way -/
theorem BW.forL {g : TG} {q : Addr} (h : EV X iter σ H (.ref q)) (hq : SqL X.K H q xs) (hg : PG X tg g) (Pv : Nat → L2.St → Hp → Prop) (h0 : ∀ H1, Ex H H1 → Pv 0 σ H1) (hl : ∀ i σ' H', i ≤ xs.length → Pv i σ' H' → SqL X.K H' q xs)
    (hs : ∀ i x σ' H', xs[i]? = some x → Pv i σ' H' → g x σ' H' fun σ2 H2 => BW X body (Ends.turn X rest D (Pv (i + 1))) σ2 H2) (hd : ∀ σ' H', Pv xs.length σ' H' → BW X rest D σ' H')
    (hc : X.calm = true := by rfl) (hp : PassesOwn (model X.prog X.w) X.A X.env X.xe := by first | exact PassesOwn.never | exact passes_of rfl) (hfs : ∀ x, foldedSetIterable iter X.env x = pure x := by intro _; rfl) : BW X (.For tg iter body [] pos :: rest) D σ H :=
  BW.cons (ps_for hp hc (pi_list pe_self) hg pss_self hfs) (s_forL h.ev hq Pv h0 hl hs hd)
theorem BW.forNL {g : TG} (h : EL X iter σ H xs) (hg : PG X tg g) (Pv : Addr → Nat → L2.St → Hp → Prop) (h0 : ∀ p H1, H p = none → Ex H H1 → H1 p = some (.lst xs) → Pv p 0 σ H1) (hl : ∀ p i σ' H', i ≤ xs.length → Pv p i σ' H' → SqL X.K H' p xs)
    (hs : ∀ p i x σ' H', xs[i]? = some x → Pv p i σ' H' → g x σ' H' fun σ2 H2 => BW X body (Ends.turn X rest D (Pv p (i + 1))) σ2 H2) (hd : ∀ p σ' H', Pv p xs.length σ' H' → BW X rest D σ' H')
    (hc : X.calm = true := by rfl) (hp : PassesOwn (model X.prog X.w) X.A X.env X.xe := by first | exact PassesOwn.never | exact passes_of rfl) (hfs : ∀ x, foldedSetIterable iter X.env x = pure x := by intro _; rfl) : BW X (.For tg iter body [] pos :: rest) D σ H :=
  BW.cons (ps_for hp hc (pi_list pe_self) hg pss_self hfs) (s_forNL h.ev Pv h0 hl hs hd)
theorem BW.forNU {g : TG} (h : EU X iter σ H xs) (hg : PG X tg g) (Pv : Addr → Nat → L2.St → Hp → Prop) (h0 : ∀ p H1, H p = none → Ex H H1 → H1 p = some (.tup xs) → Pv p 0 σ H1) (hl : ∀ p i σ' H', i ≤ xs.length → Pv p i σ' H' → SqT X.K H' p xs)
    (hs : ∀ p i x σ' H', xs[i]? = some x → Pv p i σ' H' → g x σ' H' fun σ2 H2 => BW X body (Ends.turn X rest D (Pv p (i + 1))) σ2 H2) (hd : ∀ p σ' H', Pv p xs.length σ' H' → BW X rest D σ' H')
    (hc : X.calm = true := by rfl) (hp : PassesOwn (model X.prog X.w) X.A X.env X.xe := by first | exact PassesOwn.never | exact passes_of rfl) (hfs : ∀ x, foldedSetIterable iter X.env x = pure x := by intro _; rfl) : BW X (.For tg iter body [] pos :: rest) D σ H :=
  BW.cons (ps_for hp hc (pi_tup pe_self) hg pss_self hfs) (s_forU h.ev Pv h0 hl hs hd)
/-- a, b = e1, e2 -/
theorem BW.par (i j : Nat) {y : Str} {x1 x2 : V} {px py pt : Pos} {kt k2 pt2} (hN : X.N.Nodup) (ha : EV X a σ H x1) (hb : EV X b σ H x2) (k : ∀ H1, Ex H H1 → BW X rest D ((σ.set i (some x1)).set j (some x2)) H1)
    (hi : X.N[i]? = some x := by rfl) (hj : X.N[j]? = some y := by rfl) (hij : i ≠ j := by decide) (hx : X.env.scope.names.lookup x = some .local := by rfl) (hy : X.env.scope.names.lookup y = some .local := by rfl) (hc : X.calm = true := by rfl)
    (hw : swappedStores [.Tuple [.Name x px, .Name y py] kt pt] (.Tuple [a, b] k2 pt2) X.env = pure (some [x, y]) := by rfl)
    (hs : swapsWithSole [.Tuple [.Name x px, .Name y py] kt pt] (.Tuple [a, b] k2 pt2) pos.line X.env = pure false := by rfl) (hst : [a, b].all noStar = true := by rfl) :
    BW X (.Assign [.Tuple [.Name x px, .Name y py] kt pt] (.Tuple [a, b] k2 pt2) pos :: rest) D σ H :=
  BW.cons (ps_par hc hN hi hj hij hx hy (pa_all hst) hw hs) ((AV.two ha hb).ev H (Ex.refl H) _ fun H1 e => ⟨x1, x2, rfl, k H1 e⟩)
/-! ### list comprehensions -/
/-- what an element leads to, in the block -/
def EWb (X : Cx) (scope : Scope) (e : Expr) : TE := fun σ H Q => ∀ (s : Shared) (H0 : Hp) (C : Addr) (cl : List (Str × Addr)) (fp : List Addr), EW (X.blk s H0 scope (compEnvC scope cl C X.env) fp) e σ H Q
theorem pe_selfb {scope : Scope} {s : Shared} {H0 : Hp} {C : Addr} {cl : List (Str × Addr)} {fp : List Addr} : PE (X.blk s H0 scope (compEnvC scope cl C X.env) fp) e (EWb X scope e) := ⟨fun pins s' _ _ _ I h => (h s H0 C cl fp).run pins s' I⟩
/-- an element's value, in the block -/
def EVb (X : Cx) (scope : Scope) (e : Expr) (σ : L2.St) (H : Hp) (v : V) : Prop := ∀ (s : Shared) (H0 : Hp) (C : Addr) (cl : List (Str × Addr)) (fp : List Addr), EV (X.blk s H0 scope (compEnvC scope cl C X.env) fp) e σ H v
theorem EVb.ev {scope : Scope} (h : EVb X scope e σ H v) : Ev (EWb X scope e) σ H v := fun H1 e1 Q q s H0 C cl fp => (h s H0 C cl fp).ev H1 e1 Q q
structure LC (X : Cx) (e : Expr) (σ : L2.St) (H : Hp) (xs : List V) : Prop where
  el : EL X e σ H xs
  st : ∀ {i : Nat} {y : Str} {py spos : Pos} {rest : List Stmt} {D : Ends}, X.N[i]? = some y → X.env.scope.names.lookup y = some .local → swapsWith e (some (.Name y py)) spos.line X.env = pure true →
    (∀ q H1, H q = none → Ex H H1 → H1 q = some (.lst xs) → BW X rest D (σ.set i (some (.ref q))) H1) → BW X (.Assign [.Name y py] e spos :: rest) D σ H
theorem lc_of {elt : Expr} {scope : Scope} {own : List (Str × Nat)} {wi : TI} {g : TG} {xs : List V} (hc : X.calm = true) (hN : X.N.Nodup) (hi : PI X tg iter wi) (ok : BlkOk X.N X.env.scope scope own)
    (hg : ∀ (s : Shared) (H : Hp) (C : Addr) (cl : List (Str × Addr)) (fp : List Addr), PG (X.blk s H scope (compEnvC scope cl C X.env) fp) tg g) (hs : ∀ x, foldedSetIterable iter X.env x = pure x)
    (h : EvL (tLc wi g tYes (EWb X scope elt) (own.map (·.2))) σ H xs) : LC X (.ListComp elt [⟨tg, iter, [], 0⟩] scope pos) σ H xs :=
  ⟨EL.of (pe_lc hc hN hi ok hg (fun _ _ _ _ _ => pts_nil) (fun _ _ _ _ _ => pe_selfb) hs) h, fun hy hl hw k =>
    BW.cons (ps_setLc hc hN hy hl hw hi ok hg (fun _ _ _ _ _ => pts_nil) (fun _ _ _ _ _ => pe_selfb) hs) (h H (Ex.refl H) _ k)⟩
theorem BW.asgC (i : Nat) {y : Str} {py spos : Pos} {xs : List V} (h : LC X e σ H xs) (k : ∀ q H1, H q = none → Ex H H1 → H1 q = some (.lst xs) → BW X rest D (σ.set i (some (.ref q))) H1) (hy : X.N[i]? = some y := by rfl) (hl : X.env.scope.names.lookup y = some .local := by rfl)
    (hw : swapsWith e (some (.Name y py)) spos.line X.env = pure true := by exact sw_true rfl rfl rfl (by decide +kernel)) : BW X (.Assign [.Name y py] e spos :: rest) D σ H := h.st hy hl hw k
theorem given_all (n : Nat) (v : Nat → V) : given n (fun _ => true) v = (List.range n).map v := by
  unfold given
  rw [List.filter_eq_self.mpr (fun _ _ => rfl)]
theorem ev_yes {H : Hp} {σ : L2.St} : EvT tYes σ H true := fun H1 _ _ q => q H1 (Ex.refl H1)
/-- [e for x in range(n)] -/
theorem LC.range {elt : Expr} {scope : Scope} {j : Nat} {n : Int} (v : Nat → V) (m : X.mg "range" = none) (hN : X.N.Nodup) (ok : BlkOk X.N X.env.scope scope [(x, j)]) (h : EV X a σ H (.int n)) (hn : 0 ≤ n ∧ n ≤ 40000)
    (he : ∀ (i : Nat) H1, Ex H H1 → (i : Int) < n → EVb X scope elt ((wipe σ [j]).set j (some (.int (i : Int)))) H1 (v i))
    (hw : ∀ z, wipe ((wipe σ [j]).set j (some z)) [j] = wipe σ [j] := by intro _; rfl)
    (hg : ∀ (s : Shared) (H : Hp) (C : Addr) (cl : List (Str × Addr)) (fp : List Addr), PG (X.blk s H scope (compEnvC scope cl C X.env) fp) (.Name x p) (gName j) := by exact fun _ _ _ _ _ => pg_name (i := _) (by assumption) rfl (Or.inl rfl)) (hgl : Gl X "range" := by rfl) (hst : noStar a = true := by rfl) (hc : X.calm = true := by rfl) :
    LC X (.ListComp elt [⟨.Name x p, .Call (.Name "range" pr) [a] [] p2, [], 0⟩] scope pos) σ H ((List.range n.toNat).map v) := by
  refine lc_of (own := [(x, j)]) hc hN (pi_range1 hgl m (pa_all (es := [a]) (by simp [hst])) (star_of hst [])) ok hg (fun _ => rfl) ?_
  rw [← given_all]
  exact el_lcR1 (fun _ => true) v (AV.one h).ev hn hw (fun i H1 e1 hi => ev_yes) (fun i H1 e1 hi _ => (he i H1 e1 hi).ev)
/-- [e for x in xs] -/
theorem LC.list {elt : Expr} {scope : Scope} {j : Nat} {q : Addr} {xs : List V} (v : Nat → V) (hN : X.N.Nodup) (ok : BlkOk X.N X.env.scope scope [(x, j)]) (h : EV X iter σ H (.ref q)) (hq : SqL X.K H q xs) (hz : xs.length ≤ 40000)
    (he : ∀ (i : Nat) (y : V) H1, Ex H H1 → xs[i]? = some y → EVb X scope elt ((wipe σ [j]).set j (some y)) H1 (v i))
    (hw : ∀ z, wipe ((wipe σ [j]).set j (some z)) [j] = wipe σ [j] := by intro _; rfl)
    (hg : ∀ (s : Shared) (H : Hp) (C : Addr) (cl : List (Str × Addr)) (fp : List Addr), PG (X.blk s H scope (compEnvC scope cl C X.env) fp) (.Name x p) (gName j) := by exact fun _ _ _ _ _ => pg_name (i := _) (by assumption) rfl (Or.inl rfl)) (hc : X.calm = true := by rfl) (hfs : ∀ x, foldedSetIterable iter X.env x = pure x := by intro _; rfl) :
    LC X (.ListComp elt [⟨.Name x p, iter, [], 0⟩] scope pos) σ H ((List.range xs.length).map v) := by
  refine lc_of (own := [(x, j)]) hc hN (pi_list pe_self) ok hg hfs ?_
  rw [← given_all]
  exact el_lcL (fun _ => true) v h.ev hq hz hw (fun i y H1 e1 hi => ev_yes) (fun i y H1 e1 hi _ => (he i y H1 e1 hi).ev)
theorem LC.listN {elt : Expr} {scope : Scope} {j : Nat} {xs : List V} (v : Nat → V) (hN : X.N.Nodup) (ok : BlkOk X.N X.env.scope scope [(x, j)]) (h : EL X iter σ H xs) (hz : xs.length ≤ 40000)
    (he : ∀ (i : Nat) (y : V) H1, Ex H H1 → xs[i]? = some y → EVb X scope elt ((wipe σ [j]).set j (some y)) H1 (v i))
    (hw : ∀ z, wipe ((wipe σ [j]).set j (some z)) [j] = wipe σ [j] := by intro _; rfl)
    (hg : ∀ (s : Shared) (H : Hp) (C : Addr) (cl : List (Str × Addr)) (fp : List Addr), PG (X.blk s H scope (compEnvC scope cl C X.env) fp) (.Name x p) (gName j) := by exact fun _ _ _ _ _ => pg_name (i := _) (by assumption) rfl (Or.inl rfl)) (hc : X.calm = true := by rfl) (hfs : ∀ x, foldedSetIterable iter X.env x = pure x := by intro _; rfl) :
    LC X (.ListComp elt [⟨.Name x p, iter, [], 0⟩] scope pos) σ H ((List.range xs.length).map v) := by
  refine lc_of (own := [(x, j)]) hc hN (pi_list pe_self) ok hg hfs ?_
  rw [← given_all]
  exact el_lcNL (fun _ => true) v h.ev hz hw (fun i y H1 e1 hi => ev_yes) (fun i y H1 e1 hi _ => (he i y H1 e1 hi).ev)
end
end QR

namespace QR
open PySem PySem.Spec PyProof.Rows L2 Evl
/-! ### how many different ones a list of ints has -/
def distinct (ns : List Int) : Nat := (PyProof.Rows.firstMet (fun i => ns.getD i 0) ns.length).length
theorem firstMet_mem (f : Nat → Int) (y : Int) : ∀ i, y ∈ PyProof.Rows.firstMet f i ↔ ∃ j, j < i ∧ f j = y
  | 0 => by
    constructor
    · intro h
      cases h
    · rintro ⟨j, hj, _⟩
      omega
  | i + 1 => by
    have ih := firstMet_mem f y i
    rw [PyProof.Rows.firstMet_succ]
    show y ∈ (if (PyProof.Rows.firstMet f i).any (· == f i) then PyProof.Rows.firstMet f i else PyProof.Rows.firstMet f i ++ [f i]) ↔ _
    by_cases hb : (PyProof.Rows.firstMet f i).any (· == f i) = true
    · rw [if_pos hb, ih]
      constructor
      · rintro ⟨j, hj, e⟩
        exact ⟨j, by omega, e⟩
      · rintro ⟨j, hj, e⟩
        by_cases hji : j < i
        · exact ⟨j, hji, e⟩
        · have : j = i := by omega
          subst this
          obtain ⟨z, hz, ez⟩ := List.any_eq_true.mp hb
          have ez2 : z = f j := eq_of_beq ez
          rw [ez2, e] at hz
          exact ih.mp hz
    · rw [if_neg hb, List.mem_append, ih, List.mem_singleton]
      constructor
      · rintro (⟨j, hj, e⟩ | e)
        · exact ⟨j, by omega, e⟩
        · exact ⟨i, by omega, e.symm⟩
      · rintro ⟨j, hj, e⟩
        by_cases hji : j < i
        · exact .inl ⟨j, hji, e⟩
        · have : j = i := by omega
          subst this
          exact .inr e.symm
theorem firstMet_len (f : Nat → Int) : ∀ i, (PyProof.Rows.firstMet f i).length ≤ i ∧ ((PyProof.Rows.firstMet f i).length = i ↔ ∀ j k, j < k → k < i → f j ≠ f k)
  | 0 => ⟨Nat.le_refl _, by
    constructor
    · intro _ j k _ hk
      omega
    · intro _
      rfl⟩
  | i + 1 => by
    obtain ⟨h1, h2⟩ := firstMet_len f i
    have hm := firstMet_mem f (f i) i
    rw [PyProof.Rows.firstMet_succ]
    show (if (PyProof.Rows.firstMet f i).any (· == f i) then PyProof.Rows.firstMet f i else PyProof.Rows.firstMet f i ++ [f i]).length ≤ i + 1 ∧ ((if (PyProof.Rows.firstMet f i).any (· == f i) then PyProof.Rows.firstMet f i else PyProof.Rows.firstMet f i ++ [f i]).length = i + 1 ↔ _)
    by_cases hb : (PyProof.Rows.firstMet f i).any (· == f i) = true
    · rw [if_pos hb]
      refine ⟨by omega, ⟨fun z => by omega, fun z => ?_⟩⟩
      obtain ⟨y, hy, ey⟩ := List.any_eq_true.mp hb
      have ey2 : y = f i := eq_of_beq ey
      rw [ey2] at hy
      obtain ⟨j, hj, e⟩ := hm.mp hy
      exact absurd e (z j i hj (by omega))
    · rw [if_neg hb, List.length_append]
      refine ⟨by simp; omega, ⟨fun z j k hjk hk e => ?_, fun z => ?_⟩⟩
      · have z1 : (PyProof.Rows.firstMet f i).length = i := by simpa using z
        by_cases hki : k < i
        · exact h2.mp z1 j k hjk hki e
        · have : k = i := by omega
          subst this
          exact hb (List.any_eq_true.mpr ⟨f k, hm.mpr ⟨j, hjk, e⟩, by simp⟩)
      · have := h2.mpr fun j k hjk hk => z j k hjk (by omega)
        simp [this]
theorem distinct_le (ns : List Int) : distinct ns ≤ ns.length := (firstMet_len _ _).1
theorem distinct_iff (ns : List Int) : distinct ns = ns.length ↔ ns.Nodup := by
  unfold distinct
  rw [(firstMet_len _ _).2]
  constructor
  · intro h
    rw [List.Nodup, List.pairwise_iff_getElem]
    intro i j hi hj hij e
    refine h i j hij hj ?_
    simp [List.getD_eq_getElem?_getD, List.getElem?_eq_getElem hi, List.getElem?_eq_getElem hj, e]
  · intro h j k hjk hk e
    have hj : j < ns.length := by omega
    have := List.pairwise_iff_getElem.mp h j k hj hk hjk
    refine this ?_
    simpa [List.getD_eq_getElem?_getD, List.getElem?_eq_getElem hj, List.getElem?_eq_getElem hk] using e
def tLenSetA (K : PySem.W.Frag) (ta : TE) : TE := fun σ H Q => ta σ H fun x H1 => ∃ (l : Addr) (ns : List Int), x = .ref l ∧ SqL K H1 l (ns.map V.int) ∧ ns.length ≤ 4000 ∧ Q (.int (distinct ns : Nat)) H1
theorem pe_lenSetA {X : Cx} {a : Expr} {ta : TE} {p p2 q pos : Pos} (hg : Gl X "len") (hm : X.mg "len" = none) (hg2 : Gl X "set") (hm2 : X.mg "set" = none) (ha : PE X a ta) (hc : X.calm = true)
    (na : starEach [a] X.env = (false, eval a X.env) :: starEach [] X.env) : PE X (.Call (.Name "len" p) [.Call (.Name "set" p2) [a] [] q] [] pos) (tLenSetA X.K ta) := by
  refine ⟨fun pins s σ H Q I h => ?_⟩
  refine Call_ (ld_blt I hg hm boot_len ?_)
  refine PyProof.Rows.callWith_builtin1 (PyProof.Rows.args_cons ?_ rfl) rfl rfl
  refine Call_ (ld_blt I hg2 hm2 boot_set ?_)
  refine PyProof.Rows.callWith_type1 (PyProof.Rows.args_cons (thn (ha.run pins s σ H _ I h) fun v s1 ⟨x, H1, I1, r1, q1⟩ => PyProof.Rows.args_nil ?_) na) na rfl
  obtain ⟨l, ns, rfl, hq, hl, q1⟩ := q1
  cases r1
  obtain ⟨its, r, pl, hz⟩ := I1.list hq
  have hlen : its.toArray.size = ns.length := by rw [List.size_toArray, ← r.length, List.length_map]
  refine call_set_list (I1.ok.hd hc) pl.isList (by simpa using RZ.intsAre_vals r) (by rw [hlen]; unfold scanBound; omega) fun h' tk hS hk => ?_
  refine PyProof.Rows.args_nil ?_
  rw [hlen] at hS
  obtain ⟨o, es, ep, t, ho, hex, hd, _, _, _, hf, hn⟩ := hS
  have I2 : Inv X pins σ H1 { s1 with heap := h', toks := tk } := I1.kept fun b o e => hk b o (Heap.lt_size e) e
  have hdl := distinct_le ns
  unfold distinct at hdl
  exact call_len_set ho hex hd hf (by rw [hn] <;> omega) ⟨.int (distinct ns : Nat), H1, I2.tok _, ⟨_, by rw [hn]; rfl⟩, q1⟩
section
variable {X : Cx} {e a b c o : Expr} {es : List Expr} {st : Stmt} {body rest : List Stmt} {σ : L2.St} {H : Hp} {D : Ends} {Q : VK} {v x y z : V} {pos p p2 q2 pr : Pos} {vs xs : List V} {f m : Str}
theorem EV.lenSet {q : Addr} {ns : List Int} (mL : X.mg "len" = none) (mS : X.mg "set" = none) (h : EV X a σ H (.ref q)) (hq : SqL X.K H q (ns.map V.int)) (hl : ns.length ≤ 4000) (hg : Gl X "len" := by rfl) (hg2 : Gl X "set" := by rfl) (hc : X.calm = true := by rfl) (hs : noStar a = true := by rfl) :
    EV X (.Call (.Name "len" p) [.Call (.Name "set" p2) [a] [] q2] [] pos) σ H (.int (distinct ns : Nat)) :=
  EV.of (pe_lenSetA hg mL hg2 mS pe_self hc (star_of hs [])) fun H1 e1 Q k => h.ev H1 e1 _ fun H2 e2 => ⟨q, ns, rfl, ex_l (e1.trans e2) hq, hl, k H2 e2⟩
/-! ### enumerate -/
theorem el_lcE {K : PySem.W.Frag} {ta : TA} {te : TE} {q : Addr} {j1 j2 : Nat} {ws : List Nat} (v : Nat → V) (h : EvA ta σ H [.ref q]) (hx : SqL K H q xs) (hz : xs.length ≤ 40000)
    (hw : ∀ x y, wipe (((wipe σ ws).set j1 (some x)).set j2 (some y)) ws = wipe σ ws)
    (he : ∀ (i : Nat) (y : V) H1, Ex H H1 → xs[i]? = some y → Ev te (((wipe σ ws).set j1 (some (.int (i : Nat)))).set j2 (some y)) H1 (v i)) :
    EvL (tLc (iEnum K ta) (gTup K 2 (gCons (gName j1) (gCons (gName j2) gNil))) tYes te ws) σ H ((List.range xs.length).map v) := fun H0 e Q k => h H0 e _ fun H1 e1 => by
  refine ⟨q, xs, rfl, ex_l (e.trans e1) hx, fun Dl hD => ?_⟩
  rw [← given_all] at k
  refine ⟨fun i m H' => m = xs.length - i ∧ i ≤ xs.length ∧ Cw H1 (fun _ => true) v Dl i H', ⟨xs.length, by simp, Nat.zero_le _, hD, Ex.new hD, upd_same⟩, ?_⟩
  rintro i m H' ⟨rfl, hi, cw⟩
  have hq' := ex_l ((e.trans e1).trans cw.2.1) hx
  by_cases hlt : i < xs.length
  · refine .inr ⟨⟨xs, xs[i], hq', by simp [hlt]⟩, Cw H1 (fun _ => true) v Dl (i + 1), fun H2 c2 => ⟨xs.length - (i + 1), by omega, rfl, hlt, c2⟩, ?_⟩
    rintro x H2 ⟨T, y, rfl, nT, rfl, fy⟩
    have hy := fy xs hq'
    have cw2 : Cw H1 (fun _ => true) v Dl i (upd H' T (.tup [.int (i : Nat), y])) := by
      refine ⟨cw.1, cw.2.1.trans (Ex.new nT), ?_⟩
      rw [upd_ne (ne_of_none cw.2.2 nT)]
      exact cw.2.2
    refine ⟨T, [.int (i : Nat), y], rfl, .inl (.inl upd_same), rfl, .int (i : Nat), [y], rfl, y, [], rfl, rfl, hw _ _, ?_⟩
    exact cw_turn cw2 (by omega) ev_yes (fun _ => he i y H1 (e.trans e1) hy)
  · have : i = xs.length := by omega
    subst this
    exact .inl ⟨⟨xs, hq', Nat.le_refl _⟩, k Dl H' (fresh_back e1 cw.1) (e1.trans cw.2.1) cw.2.2⟩
/-- [e for r, p in enumerate(xs)] -/
theorem LC.enum {elt : Expr} {scope : Scope} {n1 n2 : Str} {j1 j2 : Nat} {q : Addr} {px py pt : Pos} {kt : Nat} (v : Nat → V) (mE : X.mg "enumerate" = none) (hN : X.N.Nodup) (ok : BlkOk X.N X.env.scope scope [(n1, j1), (n2, j2)]) (h : EV X a σ H (.ref q)) (hq : SqL X.K H q xs) (hz : xs.length ≤ 40000)
    (he : ∀ (i : Nat) (y : V) H1, Ex H H1 → xs[i]? = some y → EVb X scope elt (((wipe σ [j1, j2]).set j1 (some (.int (i : Nat)))).set j2 (some y)) H1 (v i))
    (hw : ∀ x y, wipe (((wipe σ [j1, j2]).set j1 (some x)).set j2 (some y)) [j1, j2] = wipe σ [j1, j2] := by intro _ _; rfl)
    (hg : ∀ (s : Shared) (H : Hp) (C : Addr) (cl : List (Str × Addr)) (fp : List Addr), PG (X.blk s H scope (compEnvC scope cl C X.env) fp) (.Tuple [.Name n1 px, .Name n2 py] kt pt) (gTup X.K 2 (gCons (gName j1) (gCons (gName j2) gNil))) := by
      exact fun _ _ _ _ _ => pg_tup rfl (pgs_cons (pg_name (i := _) (by assumption) rfl (Or.inl rfl)) (pgs_cons (pg_name (i := _) (by assumption) rfl (Or.inl rfl)) pgs_nil)))
    (hgl : Gl X "enumerate" := by rfl) (hst : noStar a = true := by rfl) (hc : X.calm = true := by rfl) :
    LC X (.ListComp elt [⟨.Tuple [.Name n1 px, .Name n2 py] kt pt, .Call (.Name "enumerate" pr) [a] [] p2, [], 0⟩] scope pos) σ H ((List.range xs.length).map v) :=
  lc_of (own := [(n1, j1), (n2, j2)]) hc hN (pi_enum hgl mE (pa_all (es := [a]) (by simp [hst])) (star_of hst [])) ok hg (fun _ => rfl) (el_lcE v (AV.one h).ev hq hz hw fun i y H1 e1 hi => (he i y H1 e1 hi).ev)
theorem s_forE {K : PySem.W.Frag} {ta : TA} {tu : TS} {q : Addr} {j1 j2 : Nat} (h : EvA ta σ H [.ref q]) (hx : SqL K H q xs) (Pv : Nat → L2.St → Hp → Prop) (h0 : ∀ H1, Ex H H1 → Pv 0 σ H1) (hl : ∀ i σ' H', i ≤ xs.length → Pv i σ' H' → SqL K H' q xs)
    (hs : ∀ (i : Nat) (y : V) σ' H' H2, xs[i]? = some y → Pv i σ' H' → Ex H' H2 → (∀ b, H2 b = none → H' b = none) → tu { D with nx := Pv (i + 1), ct := Pv (i + 1), bk := D.nx } ((σ'.set j1 (some (.int (i : Nat)))).set j2 (some y)) H2) (hd : ∀ σ' H', Pv xs.length σ' H' → D.nx σ' H') :
    tFor (iEnum K ta) (gTup K 2 (gCons (gName j1) (gCons (gName j2) gNil))) tu D σ H := h H (Ex.refl H) _ fun H1 e => by
  refine ⟨q, xs, rfl, ex_l e hx, fun i m σ' H' => m = xs.length - i ∧ i ≤ xs.length ∧ Pv i σ' H', ⟨xs.length, by simp, Nat.zero_le _, h0 H1 e⟩, ?_⟩
  rintro i m σ' H' ⟨rfl, hi, pv⟩
  have hq' := hl i σ' H' hi pv
  by_cases hlt : i < xs.length
  · refine .inr ⟨⟨xs, xs[i], hq', by simp [hlt]⟩, Pv (i + 1), fun σ2 H2 p2 => ⟨xs.length - (i + 1), by omega, rfl, hlt, p2⟩, ?_⟩
    rintro x H2 ⟨T, y, rfl, nT, rfl, fy⟩
    refine ⟨T, [.int (i : Nat), y], rfl, .inl (.inl upd_same), rfl, .int (i : Nat), [y], rfl, y, [], rfl, rfl, ?_⟩
    refine hs i y σ' H' _ (fy xs hq') pv (Ex.new nT) fun b hb => ?_
    by_cases hbT : b = T
    · rw [hbT]
      exact nT
    · rw [upd_ne hbT] at hb
      exact hb
  · have : i = xs.length := by omega
    subst this
    exact .inl ⟨⟨xs, hq', Nat.le_refl _⟩, hd σ' H' pv⟩
/-- for i, x in enumerate(xs) -/
theorem BW.forE (j1 j2 : Nat) {q : Addr} {n1 n2 : Str} {px py pt : Pos} {kt : Nat} (mE : X.mg "enumerate" = none) (hN : X.N.Nodup) (h : EV X a σ H (.ref q)) (hq : SqL X.K H q xs) (Pv : Nat → L2.St → Hp → Prop) (h0 : ∀ H1, Ex H H1 → Pv 0 σ H1) (hl : ∀ i σ' H', i ≤ xs.length → Pv i σ' H' → SqL X.K H' q xs)
    (hs : ∀ (i : Nat) (y : V) σ' H' H2, xs[i]? = some y → Pv i σ' H' → Ex H' H2 → (∀ b, H2 b = none → H' b = none) → BW X body (Ends.turn X rest D (Pv (i + 1))) ((σ'.set j1 (some (.int (i : Nat)))).set j2 (some y)) H2) (hd : ∀ σ' H', Pv xs.length σ' H' → BW X rest D σ' H')
    (hj1 : X.N[j1]? = some n1 := by rfl) (hx1 : Loc X.env.scope n1 := by first | exact Or.inl rfl | exact Or.inr rfl) (hf1 : X.fn n1 = true ∨ X.env.scope.names.lookup n1 = some .local := by first | exact .inl rfl | exact .inr rfl)
    (hj2 : X.N[j2]? = some n2 := by rfl) (hx2 : Loc X.env.scope n2 := by first | exact Or.inl rfl | exact Or.inr rfl) (hf2 : X.fn n2 = true ∨ X.env.scope.names.lookup n2 = some .local := by first | exact .inl rfl | exact .inr rfl)
    (hg : Gl X "enumerate" := by rfl) (hst : noStar a = true := by rfl) (hc : X.calm = true := by rfl)
    (hp : PassesOwn (model X.prog X.w) X.A X.env X.xe := by first | exact PassesOwn.never | exact passes_of rfl) : BW X (.For (.Tuple [.Name n1 px, .Name n2 py] kt pt) (.Call (.Name "enumerate" pr) [a] [] p2) body [] pos :: rest) D σ H :=
  BW.cons (ps_for hp hc (pi_enum hg mE (pa_all (es := [a]) (by simp [hst])) (star_of hst [])) (pg_tup hc (pgs_cons (pg_name (i := j1) hN hj1 hx1 hf1) (pgs_cons (pg_name (i := j2) hN hj2 hx2 hf2) pgs_nil))) pss_self) (s_forE (AV.one h).ev hq Pv h0 hl hs hd)
/-! ### objects -/
theorem EV.fld {ob C dx : Addr} {fs : List (Str × V)} (h : EV X e σ H (.ref ob)) (ho : H ob = some (.ins C dx fs)) (cl : Cls X.K C) (na : NoAttr X.K C f) (hl : fs.lookup f = some v) (hb : attributeBase e f X.env (eval e X.env) = eval e X.env := by rfl) : EV X (.Attribute e f pos) σ H v :=
  EV.of (pe_fld pe_self hb) fun H1 e1 Q k => h.ev H1 e1 _ fun H2 e2 => ⟨ob, C, dx, fs, v, rfl, e2 _ _ (e1 _ _ ho), cl, na, hl, k H2 e2⟩
/-- a method of the class at C keeps the promise -/
structure Mc (P : Program) (w : World) (K : PySem.W.Frag) (mg : Str → Option Value) (base : Heap) (k : Nat) (C : Addr) (m : Str) (sp : Sp) : Prop where
  ex : ∃ (f : Addr) (fd : FuncData) (ps : List Str), Cls K C ∧ Meth K C m f ∧ FnOk P w K mg base (L2N.CX P w) k f fd ps sp ∧ Binds K fd ps []
theorem EV.meth {apos : Pos} {C ob dx : Addr} {fs : List (Str × V)} {sp : Sp} {k j : Nat} {pl : Sem Bool} (M : Mc X.prog X.w X.K X.mg X.base k C m sp) (hr : Room j X.A) (h : EV X o σ H (.ref ob)) (ho : H ob = some (.ins C dx fs)) (hl : fs.lookup m = none) (ha : AV X (e :: es) σ H vs) (hv : SpV sp (.ref ob :: vs) H z)
    (hk : k ≤ j := by decide) (hs : (e :: es).all noStar = true := by rfl)
    (ht : eval (.Call (.Attribute o m apos) (e :: es) [] pos) X.env = (do
      let ov ← eval o X.env
      standAt apos.atName
      let (f, first) ← holding [ov] (getMethod ov m pl)
      callWith pos f first (backTo pos (starEach (e :: es) X.env)) (backToKw pos (keywordEach [] X.env))) := by rfl) : EV X (.Call (.Attribute o m apos) (e :: es) [] pos) σ H z := by
  obtain ⟨f, fd, ps, cl, me, F, bn⟩ := M.ex
  refine EV.of (pe_meth (pl := pl) pe_self cl me F (hr.mono hk) bn .nil passLN (pa_all hs) (star_of (List.all_eq_true.mp hs e List.mem_cons_self) es) (back_any es (List.all_eq_true.mpr fun e' he => List.all_eq_true.mp hs e' (List.mem_cons_of_mem _ he))) ht) fun H1 e1 Q kq => ?_
  refine h.ev H1 e1 _ fun H2 e2 => ⟨ob, dx, fs, rfl, e2 _ _ (e1 _ _ ho), hl, ?_⟩
  refine ha.ev H2 (e1.trans e2) _ fun H3 e3 => ?_
  rw [List.append_nil]
  exact hv H3 ((e1.trans e2).trans e3) Q (fun H4 e4 => kq H4 ((e2.trans e3).trans e4)) _
/-- a new instance of C with these fields -/
def EvI (te : TE) (σ : L2.St) (H : Hp) (C : Addr) (fs : List (Str × V)) : Prop := ∀ H1, Ex H H1 → ∀ Q : VK, (∀ q dx H2, H1 q = none → Ex H1 H2 → H2 q = some (.ins C dx fs) → Q (.ref q) H2) → te σ H1 Q
structure EI (X : Cx) (e : Expr) (σ : L2.St) (H : Hp) (C : Addr) (fs : List (Str × V)) : Prop where
  ev : EvI (EW X e) σ H C fs
theorem EI.go {C : Addr} {fs : List (Str × V)} (h : EI X e σ H C fs) (k : ∀ q dx H1, H q = none → Ex H H1 → H1 q = some (.ins C dx fs) → Q (.ref q) H1) : EW X e σ H Q := h.ev H (Ex.refl H) Q k
/-- the class of that name, at C, made by an __init__ that keeps the promise -/
structure Kc (P : Program) (w : World) (K : PySem.W.Frag) (mg : Str → Option Value) (base : Heap) (k : Nat) (x : Str) (C : Addr) (sp : Sp) : Prop where
  ex : ∃ (f : Addr) (fd : FuncData) (ps : List Str), Mk K C f ∧ FnOk P w K mg base (L2N.CX P w) k f fd ps sp ∧ mg x = some (.ref C) ∧ Binds K fd ps []
/-- __init__ that sets the fields fs of the new instance -/
def spInit (C : Addr) (names : List Str) : Sp := fun vs H Q _ => ∃ (q dx : Addr) (us : List V), vs = .ref q :: us ∧ us.length = names.length ∧ H q = some (.ins C dx []) ∧
  ∀ H2, (∀ b u, b ≠ q → H b = some u → H2 b = some u) → H2 q = some (.ins C dx (names.zip us)) → Q .non H2
theorem EI.make {x : Str} {C : Addr} {names : List Str} {k j : Nat} (M : Kc X.prog X.w X.K X.mg X.base k x C (spInit C names)) (hr : Room j X.A) (ha : AV X (e :: es) σ H vs) (hl : vs.length = names.length := by rfl) (hk : k + 1 ≤ j := by decide) (hg : Gl X x := by rfl) (hs : (e :: es).all noStar = true := by rfl) (hdb : (x == ("__debug__" : Str)) = false := by decide) :
    EI X (.Call (.Name x p) (e :: es) [] pos) σ H C (names.zip vs) := by
  obtain ⟨f, fd, ps, mk, F, hm, bn⟩ := M.ex
  refine ⟨fun H1 e1 Q q => EW.of (pe_make mk F (hr.mono hk) hg hm bn .nil passLN (pa_all hs) hdb (star_of (List.all_eq_true.mp hs e List.mem_cons_self) es) (back_any es (List.all_eq_true.mpr fun e' he => List.all_eq_true.mp hs e' (List.mem_cons_of_mem _ he)))) ?_⟩
  refine ha.ev H1 e1 _ fun H2 e2 => ?_
  intro x dx nx ndx nex
  rw [List.append_nil]
  refine ⟨x, dx, vs, rfl, hl, upd_same, fun H3 keep h3 => ⟨rfl, ?_⟩⟩
  refine q x dx H3 (fresh_back e2 nx) (fun b u hb => ?_) h3
  have hb2 := e2 _ _ hb
  have n1 : b ≠ x := ne_of_none hb2 nx
  refine keep b u n1 ?_
  rw [upd_ne n1, upd_ne (ne_of_none hb2 ndx)]
  exact hb2
/-- self.f = e -/
theorem BW.setF {ob C dx : Addr} {fs : List (Str × V)} {apos : Pos} (hv : EV X e σ H v) (h : EV X o σ H (.ref ob)) (ho : H ob = some (.ins C dx fs)) (cl : Cls X.K C) (na : NoAttr X.K C f) (hl : fs.length < 1000) (k : ∀ H1, Ex H H1 → BW X rest D σ (upd H1 ob (.ins C dx (putF f v fs))))
    (hs : swapsWith e (some (.Attribute o f apos)) pos.line X.env = pure false := by rfl) : BW X (.Assign [.Attribute o f apos] e pos :: rest) D σ H :=
  BW.cons (ps_fld pe_self pe_self hs) (hv.ev H (Ex.refl H) _ fun H1 e1 => h.ev H1 e1 _ fun H2 e2 => ⟨ob, C, dx, fs, rfl, e2 _ _ (e1 _ _ ho), cl, na, hl, k H2 (e1.trans e2)⟩)
/-- x = C(..); return C(..) -/
theorem BW.asgI {n : Str} (i : Nat) {C : Addr} {fs : List (Str × V)} (hN : X.N.Nodup) (h : EI X e σ H C fs) (k : ∀ q dx H1, H q = none → Ex H H1 → H1 q = some (.ins C dx fs) → BW X rest D (σ.set i (some (.ref q))) H1) (hi : X.N[i]? = some n := by rfl) (hx : Loc X.env.scope n := by first | exact Or.inl rfl | exact Or.inr rfl) (hs : swapsWith e (some (.Name n p)) pos.line X.env = pure false := by rfl) (hf : X.fn n = true ∨ X.env.scope.names.lookup n = some .local := by first | exact .inl rfl | exact .inr rfl) : BW X (.Assign [.Name n p] e pos :: rest) D σ H :=
  BW.asgW hN hi hx (h.go k) hs hf
theorem BW.retI {C : Addr} {fs : List (Str × V)} (h : EI X e σ H C fs) (k : ∀ q dx H1, H q = none → Ex H H1 → H1 q = some (.ins C dx fs) → D.rt (.ref q) H1) : BW X (.Return (some e) pos :: rest) D σ H := BW.retW (h.go k)
/-- a call that hands back a new instance -/
def SpI (sp : Sp) (vs : List V) (H : Hp) (C : Addr) (fs : List (Str × V)) : Prop := ∀ H1, Ex H H1 → ∀ Q : VK, (∀ q dx H2, H1 q = none → Ex H1 H2 → H2 q = some (.ins C dx fs) → Q (.ref q) H2) → ∀ E : XK, sp vs H1 Q E
theorem EI.call {x : Str} {C : Addr} {fs : List (Str × V)} {sp : Sp} {k j : Nat} (Cc : Fc X.prog X.w X.K X.mg X.base k x sp) (hr : Room j X.A) (ha : AV X (e :: es) σ H vs) (hv : SpI sp vs H C fs) (hk : k ≤ j := by decide) (hg : Gl X x := by rfl) (hs : (e :: es).all noStar = true := by rfl) (hdb : (x == ("__debug__" : Str)) = false := by decide) :
    EI X (.Call (.Name x p) (e :: es) [] pos) σ H C fs := ⟨fun H1 e1 Q q => EW.of (pe_fc Cc hr hk passLN hg hs hdb) (ha.ev H1 e1 _ fun H2 e2 => by
      rw [List.append_nil]
      exact hv H2 (e1.trans e2) Q (fun r dx H3 nr e3 h3 => q r dx H3 (fresh_back e2 nr) (e2.trans e3) h3) _)⟩
/-- what a class of the program has: its instances are told by isinstance -/
structure Ci (K : PySem.W.Frag) (mg : Str → Option Value) (x : Str) (C : Addr) : Prop where
  cl : Cls K C
  mg : mg x = some (.ref C)
  ha : PySem.W.findIn K (.ref C) "__class__" = some (some (.builtin "object.__class__"))
  hn : PySem.W.specialIn K (.builtin "object.__class__") "__get__" = some (some (.builtin "getset_descriptor.__get__"))
  htk : PySem.W.takesIn K (.builtin "object.__class__") = some true
  hm : PySem.W.mroIn K C (.type "object") = some true
theorem Ci.ty {K : PySem.W.Frag} {mg : Str → Option Value} {x : Str} {C q dx : Addr} {fs : List (Str × V)} (c : Ci K mg x C) (h : H q = some (.ins C dx fs)) : TyX K H (.ref q) (.ref C) := .base (.ins h c.cl c.ha c.hn c.htk c.hm)
/-- isinstance(e, D), D a class of the program; e an instance of C -/
theorem EV.isC {x : Str} {C Dc q dx : Addr} {fs : List (Str × V)} {k : Bool} {pf : Pos} {n : Str} (mI : X.mg "isinstance" = none) (c : Ci X.K X.mg n C) (hD : X.mg x = some (.ref Dc)) (ha : EV X a σ H (.ref q)) (hq : H q = some (.ins C dx fs)) (hk : PySem.W.kitOne X.K (.ref C) (.ref Dc) = some k) (hg : Gl X "isinstance" := by rfl) (hgD : Gl X x := by rfl) (hs : [a, .Name x pf].all noStar = true := by rfl) (hd : (x == ("__debug__" : Str)) = false := by decide) :
    EV X (.Call (.Name "isinstance" p) [a, .Name x pf] [] pos) σ H (.bl k) := EV.isi mI ha (EV.glob hD hgD hd) (.own Dc) (c.ty hq) hk hg hs
/-! ### a comprehension over a tuple made on the way -/
theorem el_lcNU {K : PySem.W.Frag} {tl te : TE} {j : Nat} {ws : List Nat} (v : Nat → V) (h : EvU tl σ H xs) (hz : xs.length ≤ 40000) (hw : ∀ x, wipe ((wipe σ ws).set j (some x)) ws = wipe σ ws)
    (he : ∀ (i : Nat) (y : V) H1, Ex H H1 → xs[i]? = some y → Ev te ((wipe σ ws).set j (some y)) H1 (v i)) : EvL (tLc (iTup K tl) (gName j) tYes te ws) σ H ((List.range xs.length).map v) := fun H0 e Q q => h H0 e _ fun r H1 hr e1 hx => by
  rw [← given_all] at q
  exact ⟨r, rfl, ⟨xs, st_of hx⟩, fun Dl hD => lc_tup (xs := xs) (Cw H1 (fun _ => true) v Dl) ⟨hD, Ex.new hD, upd_same⟩ (fun i H' _ p => st_of (p.2.1 r _ hx))
    (fun i y H' hi p => ⟨hw y, cw_turn p (by have := (List.getElem?_eq_some_iff.mp hi).1; omega) ev_yes (fun _ => he i y H1 (e.trans e1) hi)⟩)
    (fun H' p => q Dl H' (fresh_back e1 p.1) (e1.trans p.2.1) p.2.2)⟩
theorem LC.tupN {elt iter : Expr} {scope : Scope} {n : Str} {j : Nat} (v : Nat → V) (hN : X.N.Nodup) (ok : BlkOk X.N X.env.scope scope [(n, j)]) (h : EU X iter σ H xs) (hz : xs.length ≤ 40000)
    (he : ∀ (i : Nat) (y : V) H1, Ex H H1 → xs[i]? = some y → EVb X scope elt ((wipe σ [j]).set j (some y)) H1 (v i))
    (hw : ∀ z, wipe ((wipe σ [j]).set j (some z)) [j] = wipe σ [j] := by intro _; rfl)
    (hg : ∀ (s : Shared) (H : Hp) (C : Addr) (cl : List (Str × Addr)) (fp : List Addr), PG (X.blk s H scope (compEnvC scope cl C X.env) fp) (.Name n p) (gName j) := by exact fun _ _ _ _ _ => pg_name (i := _) (by assumption) rfl (Or.inl rfl)) (hc : X.calm = true := by rfl) (hfs : ∀ x, foldedSetIterable iter X.env x = pure x := by intro _; rfl) :
    LC X (.ListComp elt [⟨.Name n p, iter, [], 0⟩] scope pos) σ H ((List.range xs.length).map v) :=
  lc_of (own := [(n, j)]) hc hN (pi_tup pe_self) ok hg hfs (el_lcNU v h.ev hz hw fun i y H1 e1 hi => (he i y H1 e1 hi).ev)
end
end QR

namespace QR
open PySem PySem.Spec PyProof.Rows L2 Evl
/-! ### data: what == sees -/
mutual
theorem Dp.ex {K : PySem.W.Frag} {H H' : Hp} (e : Ex H H') : ∀ {v : V} {d : PyData}, Dp K H v d → Dp K H' v d
  | _, _, .non => .non
  | _, _, .bl b => .bl b
  | _, _, .int i => .int i
  | _, _, .str x => .str x
  | _, _, .lst h a => .lst (ex_l e h) (DpAll.ex e a)
  | _, _, .tup h a => .tup (ex_t e h) (DpAll.ex e a)
theorem DpAll.ex {K : PySem.W.Frag} {H H' : Hp} (e : Ex H H') : ∀ {vs : List V} {ds : List PyData}, DpAll K H vs ds → DpAll K H' vs ds
  | _, _, .nil => .nil
  | _, _, .cons a b => .cons (Dp.ex e a) (DpAll.ex e b)
end
theorem dp_ints {K : PySem.W.Frag} {H : Hp} : ∀ ns : List Int, DpAll K H (ns.map V.int) (ns.map PyData.int)
  | [] => .nil
  | n :: ns => .cons (.int n) (dp_ints ns)
theorem dp_bls {K : PySem.W.Frag} {H : Hp} : ∀ ns : List Bool, DpAll K H (ns.map V.bl) (ns.map PyData.bool)
  | [] => .nil
  | n :: ns => .cons (.bl n) (dp_bls ns)
/-- a list of whole numbers, of truths, as data -/
abbrev dI (ns : List Int) : PyData := .list (ns.map PyData.int)
abbrev dB (ns : List Bool) : PyData := .list (ns.map PyData.bool)
theorem eqvA_ints : ∀ ns ms : List Int, PyData.eqvAll (ns.map PyData.int) (ms.map PyData.int) = decide (ns = ms)
  | [], [] => by simp [PyData.eqvAll]
  | [], _ :: _ => by simp [PyData.eqvAll]
  | _ :: _, [] => by simp [PyData.eqvAll]
  | n :: ns, m :: ms => by
    simp only [List.map_cons, PyData.eqvAll, PyData.eqv, eqvA_ints ns ms, List.cons.injEq, Bool.beq_eq_decide_eq, Bool.decide_and]
theorem eqvA_bls : ∀ ns ms : List Bool, PyData.eqvAll (ns.map PyData.bool) (ms.map PyData.bool) = decide (ns = ms)
  | [], [] => by simp [PyData.eqvAll]
  | [], _ :: _ => by simp [PyData.eqvAll]
  | _ :: _, [] => by simp [PyData.eqvAll]
  | n :: ns, m :: ms => by
    simp only [List.map_cons, PyData.eqvAll, PyData.eqv, eqvA_bls ns ms, List.cons.injEq, Bool.beq_eq_decide_eq, Bool.decide_and]
theorem eqv_ints (ns ms : List Int) : PyData.eqv (dI ns) (dI ms) = decide (ns = ms) := by
  simp only [PyData.eqv, eqvA_ints]
theorem eqv_bls (ns ms : List Bool) : PyData.eqv (dB ns) (dB ms) = decide (ns = ms) := by
  simp only [PyData.eqv, eqvA_bls]
theorem lay_ints : ∀ ns : List Int, PyData.canLayAll0 (ns.map PyData.int) = true
  | [] => rfl
  | n :: ns => by simp [PyData.canLayAll0, PyData.canLay0, lay_ints ns]
theorem lay_bls : ∀ ns : List Bool, PyData.canLayAll0 (ns.map PyData.bool) = true
  | [] => rfl
  | n :: ns => by simp [PyData.canLayAll0, PyData.canLay0, lay_bls ns]
theorem dep_ints : ∀ ns : List Int, PyData.depthAll (ns.map PyData.int) = 0
  | [] => rfl
  | n :: ns => by simp [PyData.depthAll, PyData.depth, dep_ints ns]
theorem dep_bls : ∀ ns : List Bool, PyData.depthAll (ns.map PyData.bool) = 0
  | [] => rfl
  | n :: ns => by simp [PyData.depthAll, PyData.depth, dep_bls ns]
theorem shaped_ints (ns : List Int) : SeqAt.shaped (dI ns) = true := by
  simp [SeqAt.shaped, PyData.canLay0, PyData.depth, lay_ints, dep_ints]
theorem shaped_bls (ns : List Bool) : SeqAt.shaped (dB ns) = true := by
  simp [SeqAt.shaped, PyData.canLay0, PyData.depth, lay_bls, dep_bls]
section
variable {X : Cx} {e a b c o tg iter : Expr} {es : List Expr} {st : Stmt} {body rest : List Stmt} {σ : L2.St} {H : Hp} {D : Ends} {Q : VK} {v x y z : V} {pos p p2 q2 pr : Pos} {vs xs : List V} {f m : Str}
/-! ### a list, new or not -/
structure ES (X : Cx) (e : Expr) (σ : L2.St) (H : Hp) (xs : List V) : Prop where
  ev : ∀ H1, Ex H H1 → ∀ Q : VK, (∀ p H2, Ex H1 H2 → SqL X.K H2 p xs → Q (.ref p) H2) → EW X e σ H1 Q
theorem ES.new (h : EL X e σ H xs) : ES X e σ H xs := ⟨fun H1 e1 Q q => h.ev H1 e1 Q fun p H2 _ e2 h2 => q p H2 e2 (sq_of h2)⟩
theorem ES.old {q : Addr} (h : EV X e σ H (.ref q)) (hq : SqL X.K H q xs) : ES X e σ H xs := ⟨fun H1 e1 Q k => h.ev H1 e1 Q fun H2 e2 => k q H2 e2 (ex_l (e1.trans e2) hq)⟩
theorem ES.is {ys : List V} (h : ES X e σ H xs) (q : xs = ys) : ES X e σ H ys := q ▸ h
theorem ES.mono {H' : Hp} (h : ES X e σ H xs) (e1 : Ex H H') : ES X e σ H' xs := ⟨fun H1 e2 Q q => h.ev H1 (e1.trans e2) Q q⟩
/-! ### data -/
structure ED (X : Cx) (e : Expr) (σ : L2.St) (H : Hp) (d : PyData) : Prop where
  ev : ∀ H1, Ex H H1 → ∀ Q : VK, (∀ v H2, Ex H1 H2 → Dp X.K H2 v d → Q v H2) → EW X e σ H1 Q
theorem ED.val {d : PyData} (h : EV X e σ H v) (hd : Dp X.K H v d) : ED X e σ H d := ⟨fun H1 e1 Q q => h.ev H1 e1 Q fun H2 e2 => q v H2 e2 (Dp.ex (e1.trans e2) hd)⟩
theorem ED.int {i : Int} (h : EV X e σ H (.int i)) : ED X e σ H (.int i) := ED.val h (.int i)
theorem ED.ints {ns : List Int} (h : ES X e σ H (ns.map V.int)) : ED X e σ H (dI ns) := ⟨fun H1 e1 Q q => h.ev H1 e1 Q fun p H2 e2 h2 => q _ H2 e2 (.lst h2 (dp_ints ns))⟩
theorem ED.bls {ns : List Bool} (h : ES X e σ H (ns.map V.bl)) : ED X e σ H (dB ns) := ⟨fun H1 e1 Q q => h.ev H1 e1 Q fun p H2 e2 h2 => q _ H2 e2 (.lst h2 (dp_bls ns))⟩
theorem EV.eqD {d d' : PyData} {k : Nat} (hr : Room k X.A) (ha : ED X a σ H d) (hb : ED X b σ H d') (s1 : SeqAt.shaped d = true) (s2 : SeqAt.shaped d' = true) : EV X (.Compare a [.Eq] [b] pos) σ H (.bl (PyData.eqv d d')) :=
  EV.of (pe_cmpR (op_eqD hr.units) pe_self pe_self (nomark _)) fun H1 e1 Q q => ha.ev H1 e1 _ fun v H2 e2 dv => hb.ev H2 (e1.trans e2) _ fun w H3 e3 dw => ⟨d, d', Dp.ex e3 dv, dw, s1, s2, q H3 (e2.trans e3)⟩
theorem EV.neD {d d' : PyData} {k : Nat} (hr : Room k X.A) (ha : ED X a σ H d) (hb : ED X b σ H d') (s1 : SeqAt.shaped d = true) (s2 : SeqAt.shaped d' = true) : EV X (.Compare a [.NotEq] [b] pos) σ H (.bl (!PyData.eqv d d')) :=
  EV.of (pe_cmpR (op_neD hr.units) pe_self pe_self (nomark _)) fun H1 e1 Q q => ha.ev H1 e1 _ fun v H2 e2 dv => hb.ev H2 (e1.trans e2) _ fun w H3 e3 dw => ⟨d, d', Dp.ex e3 dv, dw, s1, s2, q H3 (e2.trans e3)⟩
theorem TV.eqD {d d' : PyData} {k : Nat} (hr : Room k X.A) (ha : ED X a σ H d) (hb : ED X b σ H d') (s1 : SeqAt.shaped d = true) (s2 : SeqAt.shaped d' = true) : TV X (.Compare a [.Eq] [b] pos) σ H (PyData.eqv d d') :=
  TV.of (pt_cmpR (op_eqD hr.units) pe_self pe_self (nomark _)) fun H1 e1 Q q => ha.ev H1 e1 _ fun v H2 e2 dv => hb.ev H2 (e1.trans e2) _ fun w H3 e3 dw => ⟨d, d', Dp.ex e3 dv, dw, s1, s2, _, rfl, q H3 (e2.trans e3)⟩
theorem TV.neD {d d' : PyData} {k : Nat} (hr : Room k X.A) (ha : ED X a σ H d) (hb : ED X b σ H d') (s1 : SeqAt.shaped d = true) (s2 : SeqAt.shaped d' = true) : TV X (.Compare a [.NotEq] [b] pos) σ H (!PyData.eqv d d') :=
  TV.of (pt_cmpR (op_neD hr.units) pe_self pe_self (nomark _)) fun H1 e1 Q q => ha.ev H1 e1 _ fun v H2 e2 dv => hb.ev H2 (e1.trans e2) _ fun w H3 e3 dw => ⟨d, d', Dp.ex e3 dv, dw, s1, s2, _, rfl, q H3 (e2.trans e3)⟩
theorem EV.eqL {ns ms : List Int} {k : Nat} (hr : Room k X.A) (ha : ES X a σ H (ns.map V.int)) (hb : ES X b σ H (ms.map V.int)) : EV X (.Compare a [.Eq] [b] pos) σ H (.bl (decide (ns = ms))) := EV.isB (EV.eqD hr (ED.ints ha) (ED.ints hb) (shaped_ints _) (shaped_ints _)) (eqv_ints _ _)
theorem EV.neL {ns ms : List Int} {k : Nat} (hr : Room k X.A) (ha : ES X a σ H (ns.map V.int)) (hb : ES X b σ H (ms.map V.int)) : EV X (.Compare a [.NotEq] [b] pos) σ H (.bl (!decide (ns = ms))) := EV.isB (EV.neD hr (ED.ints ha) (ED.ints hb) (shaped_ints _) (shaped_ints _)) (by rw [eqv_ints])
theorem TV.eqL {ns ms : List Int} {k : Nat} (hr : Room k X.A) (ha : ES X a σ H (ns.map V.int)) (hb : ES X b σ H (ms.map V.int)) : TV X (.Compare a [.Eq] [b] pos) σ H (decide (ns = ms)) := TV.is (TV.eqD hr (ED.ints ha) (ED.ints hb) (shaped_ints _) (shaped_ints _)) (eqv_ints _ _)
theorem TV.neL {ns ms : List Int} {k : Nat} (hr : Room k X.A) (ha : ES X a σ H (ns.map V.int)) (hb : ES X b σ H (ms.map V.int)) : TV X (.Compare a [.NotEq] [b] pos) σ H (!decide (ns = ms)) := TV.is (TV.neD hr (ED.ints ha) (ED.ints hb) (shaped_ints _) (shaped_ints _)) (by rw [eqv_ints])
theorem TV.neLB {ns ms : List Bool} {k : Nat} (hr : Room k X.A) (ha : ES X a σ H (ns.map V.bl)) (hb : ES X b σ H (ms.map V.bl)) : TV X (.Compare a [.NotEq] [b] pos) σ H (!decide (ns = ms)) := TV.is (TV.neD hr (ED.bls ha) (ED.bls hb) (shaped_bls _) (shaped_bls _)) (by rw [eqv_bls])
theorem EV.eqLB {ns ms : List Bool} {k : Nat} (hr : Room k X.A) (ha : ES X a σ H (ns.map V.bl)) (hb : ES X b σ H (ms.map V.bl)) : EV X (.Compare a [.Eq] [b] pos) σ H (.bl (decide (ns = ms))) := EV.isB (EV.eqD hr (ED.bls ha) (ED.bls hb) (shaped_bls _) (shaped_bls _)) (eqv_bls _ _)
/-! ### calls whose first argument is a list, new or not -/
theorem EV.callS {w : Str} {sp : Sp} {k j : Nat} (C : Fc X.prog X.w X.K X.mg X.base k w sp) (hr : Room j X.A) (h : ES X e σ H xs) (ha : AV X es σ H vs) (hv : ∀ p H1, Ex H H1 → SqL X.K H1 p xs → SpV sp (.ref p :: vs) H1 z) (hk : k ≤ j := by decide) (hg : Gl X w := by rfl) (hs : (e :: es).all noStar = true := by rfl) (hdb : (w == ("__debug__" : Str)) = false := by decide) :
    EV X (.Call (.Name w p) (e :: es) [] pos) σ H z := EV.of (pe_fc C hr hk passLN hg hs hdb) fun H1 e1 Q q => h.ev H1 e1 _ fun r H2 e2 hr2 => ha.ev H2 (e1.trans e2) _ fun H3 e3 => by
      show sp (V.ref r :: vs ++ []) H3 Q E0
      rw [List.append_nil]
      exact hv r H3 ((e1.trans e2).trans e3) (ex_l e3 hr2) H3 (Ex.refl H3) Q (fun H4 e4 => q H4 ((e2.trans e3).trans e4)) _
/-! ### xs.append(e), xs.count(e) -/
theorem BW.app {l : Addr} {apos : Pos} (hl : H l = some (.lst xs)) (ha : EV X a σ H (.ref l)) (h : EV X e σ H v) (hz : xs.length < 100000) (k : ∀ H1, Ex H H1 → BW X rest D σ (upd H1 l (.lst (xs ++ [v])))) (hs : noStar e = true := by rfl)
    (he : PE X (.Call (.Attribute a "append" apos) [e] [] p) (tBM X.K "list" rAppend (EW X a) (tArgs X [e])) := by exact pe_bm PySem.F.plainAttrs_list PySem.F.slot_list_append PySem.F.type_list_append mt_append pe_self (pa_all rfl))
    (hw : swapsWith (.Call (.Attribute a "append" apos) [e] [] p) none pos.line X.env = pure false := by rfl) : BW X (.Expr (.Call (.Attribute a "append" apos) [e] [] p) pos :: rest) D σ H :=
  BW.cons (ps_expr he hw) (ha.ev H (Ex.refl H) _ fun H1 e1 => ⟨.inl ⟨rfl, xs, sq_of (e1 l _ hl)⟩, (AV.one h).ev H1 e1 _ fun H2 e2 => ⟨l, xs, v, rfl, rfl, e2 l _ (e1 l _ hl), sz_lt hz, k H2 (e1.trans e2)⟩⟩)
end
theorem countP_eqU {x : V} : ∀ {xs : List V} {us : List Value}, Vals xs us → xs.all flatV = true → us.countP (eqU x) = xs.countP fun y => eqV y x
  | _, _, .nil, _ => rfl
  | y :: ys, _, .cons r t, h => by
    have h1 : flatV y = true := List.all_eq_true.mp h y List.mem_cons_self
    have h2 : ys.all flatV = true := List.all_eq_true.mpr fun z hz => List.all_eq_true.mp h z (List.mem_cons_of_mem _ hz)
    rw [List.countP_cons, List.countP_cons, countP_eqU t h2, eqU_of r h1]
def rCntV (K : PySem.W.Frag) : V → List V → Hp → VK → Prop := fun x xs H Q => ∃ (p : Addr) (ys : List V) (y : V), x = .ref p ∧ xs = [y] ∧ SqL K H p ys ∧ flatV y = true ∧ ys.all flatV = true ∧ Q (.int (ys.countP (fun z => eqV z y) : Nat)) H
theorem mt_cntV {X : Cx} : MtR X "list.count" (rCntV X.K) := by
  intro pins s σ H x xs v us Q I rx rxs h
  obtain ⟨p, ys, y, rfl, rfl, hs, hy, hf, q⟩ := h
  cases rx
  obtain ⟨u, rfl, ru⟩ := rxs.one
  obtain ⟨its, rv, ⟨⟨cls, dd, data, sl⟩, n, ho, hc, hdn, hd⟩, hlen⟩ := I.list hs
  simp only at hc hd
  subst hc hd
  refine call_meets PySem.F.slot_list_count ⟨_, ho, rfl⟩ PySem.F.entry_list_count (PySem.F.args_list_count_2 _ _)
    (SeqAt.list_countAt p its.toArray n dd sl u (eqU y)) ⟨ho, fun z hz => mem_eqAt ru hy rv hf z (by simpa using hz), ?_⟩
  have ec : its.toArray.toList.countP (eqU y) = ys.countP (fun z => eqV z y) := countP_eqU rv hf
  refine ⟨.int (ys.countP (fun z => eqV z y) : Nat), H, I.tok _, ⟨s.toks, ?_⟩, q⟩
  show Value.int ((its.toArray.toList.countP (eqU y) : Nat) : Int) s.toks = _
  rw [ec]
section
variable {X : Cx} {e a b c o tg iter : Expr} {es : List Expr} {st : Stmt} {body rest : List Stmt} {σ : L2.St} {H : Hp} {D : Ends} {Q : VK} {v x y z : V} {pos p p2 q2 pr apos : Pos} {vs xs : List V} {f m : Str}
theorem EV.count {l : Addr} (ha : EV X a σ H (.ref l)) (hl : SqL X.K H l xs) (h : EV X e σ H v) (hv : flatV v = true := by rfl) (hf : xs.all flatV = true := by rfl)
    (he : PE X (.Call (.Attribute a "count" apos) [e] [] p) (tBM X.K "list" (rCntV X.K) (EW X a) (tArgs X [e])) := by exact pe_bm PySem.F.plainAttrs_list PySem.F.slot_list_count PySem.F.type_list_count mt_cntV pe_self (pa_all rfl)) :
    EV X (.Call (.Attribute a "count" apos) [e] [] p) σ H (.int (xs.countP (fun z => eqV z v) : Nat)) :=
  EV.of he fun H1 e1 Q q => ha.ev H1 e1 _ fun H2 e2 => ⟨.inl ⟨rfl, xs, ex_l (e1.trans e2) hl⟩, (AV.one h).ev H2 (e1.trans e2) _ fun H3 e3 => ⟨l, xs, v, rfl, rfl, ex_l ((e1.trans e2).trans e3) hl, hv, hf, q H3 (e2.trans e3)⟩⟩
/-! ### for x in range(a, b, c) -/
theorem s_forR3 {ta : TA} {tu : TS} {j n : Nat} {lo hi cc : Int} (h : EvA ta σ H [.int lo, .int hi, .int cc]) (hn : RgC lo hi cc n) (Pv : Nat → L2.St → Hp → Prop) (h0 : ∀ H1, Ex H H1 → Pv 0 σ H1)
    (hs : ∀ (i : Nat) σ' H', i < n → Pv i σ' H' → tu { D with nx := Pv (i + 1), ct := Pv (i + 1), bk := D.nx } (σ'.set j (some (.int (lo + (i : Nat) * cc)))) H') (hd : ∀ σ' H', Pv n σ' H' → D.nx σ' H') : tFor (iRng3 ta) (gName j) tu D σ H :=
  h H (Ex.refl H) _ fun H1 e => ⟨lo, hi, cc, n, rfl, hn, for_rangeC (lo := lo) (c := cc) (n := n) Pv (h0 H1 e) hs hd⟩
theorem BW.forR3 (j n : Nat) {lo hi cc : Int} (mR : X.mg "range" = none) (hN : X.N.Nodup) (h : EV X a σ H (.int lo)) (h' : EV X b σ H (.int hi)) (h'' : EV X c σ H (.int cc)) (hn : RgC lo hi cc n) (Pv : Nat → L2.St → Hp → Prop) (h0 : ∀ H1, Ex H H1 → Pv 0 σ H1)
    (hs : ∀ (i : Nat) σ' H', i < n → Pv i σ' H' → BW X body (Ends.turn X rest D (Pv (i + 1))) (σ'.set j (some (.int (lo + (i : Nat) * cc)))) H') (hd : ∀ σ' H', Pv n σ' H' → BW X rest D σ' H')
    (hj : X.N[j]? = some f := by rfl) (hx : Loc X.env.scope f := by first | exact Or.inl rfl | exact Or.inr rfl) (hf : X.fn f = true ∨ X.env.scope.names.lookup f = some .local := by first | exact .inl rfl | exact .inr rfl) (hg : Gl X "range" := by rfl) (hst : [a, b, c].all noStar = true := by rfl) (hc : X.calm = true := by rfl)
    (hp : PassesOwn (model X.prog X.w) X.A X.env X.xe := by first | exact PassesOwn.never | exact passes_of rfl) : BW X (.For (.Name f p) (.Call (.Name "range" pr) [a, b, c] [] p2) body [] pos :: rest) D σ H :=
  BW.cons (ps_for hp hc (pi_range3 hg mR (pa_all hst) (star_of (List.all_eq_true.mp hst a List.mem_cons_self) [b, c]) (back_any [b, c] (List.all_eq_true.mpr fun e' he => List.all_eq_true.mp hst e' (List.mem_cons_of_mem _ he)))) (pg_name (i := j) hN hj hx hf) pss_self) (s_forR3 (AV.three h h' h'').ev hn Pv h0 hs hd)
theorem EV.and4 {d : Expr} {k1 k2 k3 k4 : Bool} (ha : EV X a σ H (.bl k1)) (hb : k1 = true → EV X b σ H (.bl k2)) (hc : k1 = true → k2 = true → EV X c σ H (.bl k3)) (hd : k1 = true → k2 = true → k3 = true → EV X d σ H (.bl k4)) : EV X (.BoolOp .And [a, b, c, d] pos) σ H (.bl (k1 && (k2 && (k3 && k4)))) := EV.and ha fun h => EV.and3 (hb h) (hc h) (hd h)
end
/-- an if without else whose branch falls through or leaves: what follows once -/
theorem BW.whenJ {X : Cx} {c : Expr} {s1 rest : List Stmt} {σ : L2.St} {H : Hp} {D : Ends} {pos : Pos} {k : Bool} (h : TV X c σ H k) (h2 : ∀ H1, Ex H H1 → BW X rest D σ H1) (h1 : k = true → (∀ H1, Ex H H1 → BW X rest D σ H1) → ∀ H1, Ex H H1 → BW X s1 (Ends.bef X rest D) σ H1) : BW X (.If c s1 [] pos :: rest) D σ H :=
  BW.when h (fun hk => h1 hk h2) (fun _ => h2)
/-! ### slices -/
theorem cut_upto (xs : List V) (k : Nat) : cutV xs none (some (k : Int)) = xs.take k := by
  unfold cutV
  rw [HT.sIx_nat, HT.sIx_none]
  show List.take (min k xs.length - 0) (List.drop 0 xs) = _
  rw [Nat.sub_zero, List.drop_zero]
  rcases Nat.le_total k xs.length with h | h
  · rw [Nat.min_eq_left h]
  · rw [Nat.min_eq_right h, List.take_length, List.take_of_length_le h]
theorem at_ints {ns : List Int} {i : Nat} (h : i < ns.length) : atI (ns.map V.int) (i : Int) = some (.int (ns.getD i 0)) := by
  refine atI_nat ?_
  rw [List.getElem?_map, List.getElem?_eq_getElem h, List.getD_eq_getElem?_getD, List.getElem?_eq_getElem h]
  rfl
end QR

namespace QR
open PySem PySem.Spec PyProof.Rows L2 Evl
/-! ### shapes: what a value looks like, through the heap -/
inductive Sh where
  | v (x : V)
  | lst (xs : List Sh)
  | tup (xs : List Sh)
  | ins (C : Addr) (fs : List (Str × V))
abbrev Sh.i (n : Int) : Sh := .v (.int n)
abbrev Sh.b (k : Bool) : Sh := .v (.bl k)
mutual
inductive Is (K : PySem.W.Frag) (H : Hp) : V → Sh → Prop
  | v (x : V) : Is K H x (.v x)
  | lst {p : Addr} {vs : List V} {xs : List Sh} : SqL K H p vs → IsAll K H vs xs → Is K H (.ref p) (.lst xs)
  | tup {p : Addr} {vs : List V} {xs : List Sh} : SqT K H p vs → IsAll K H vs xs → Is K H (.ref p) (.tup xs)
  | ins {p C dx : Addr} {fs : List (Str × V)} : H p = some (.ins C dx fs) → Is K H (.ref p) (.ins C fs)
inductive IsAll (K : PySem.W.Frag) (H : Hp) : List V → List Sh → Prop
  | nil : IsAll K H [] []
  | cons {v : V} {s : Sh} {vs : List V} {ss : List Sh} : Is K H v s → IsAll K H vs ss → IsAll K H (v :: vs) (s :: ss)
end
mutual
theorem Is.ex {K : PySem.W.Frag} {H H' : Hp} (e : Ex H H') : ∀ {v : V} {s : Sh}, Is K H v s → Is K H' v s
  | _, _, .v x => .v x
  | _, _, .lst h a => .lst (ex_l e h) (IsAll.ex e a)
  | _, _, .tup h a => .tup (ex_t e h) (IsAll.ex e a)
  | _, _, .ins h => .ins (e _ _ h)
theorem IsAll.ex {K : PySem.W.Frag} {H H' : Hp} (e : Ex H H') : ∀ {vs : List V} {ss : List Sh}, IsAll K H vs ss → IsAll K H' vs ss
  | _, _, .nil => .nil
  | _, _, .cons a b => .cons (Is.ex e a) (IsAll.ex e b)
end
theorem Is.vv {K : PySem.W.Frag} {H : Hp} {v x : V} (h : Is K H v (.v x)) : v = x := by cases h; rfl
theorem Is.ofL {K : PySem.W.Frag} {H : Hp} {v : V} {ss : List Sh} (h : Is K H v (.lst ss)) : ∃ p vs, v = .ref p ∧ SqL K H p vs ∧ IsAll K H vs ss := by
  cases h with
  | lst a b => exact ⟨_, _, rfl, a, b⟩
theorem Is.ofU {K : PySem.W.Frag} {H : Hp} {v : V} {ss : List Sh} (h : Is K H v (.tup ss)) : ∃ p vs, v = .ref p ∧ SqT K H p vs ∧ IsAll K H vs ss := by
  cases h with
  | tup a b => exact ⟨_, _, rfl, a, b⟩
theorem Is.ofI {K : PySem.W.Frag} {H : Hp} {v : V} {C : Addr} {fs : List (Str × V)} (h : Is K H v (.ins C fs)) : ∃ p dx, v = .ref p ∧ H p = some (.ins C dx fs) := by
  cases h with
  | ins a => exact ⟨_, _, rfl, a⟩
theorem IsAll.len {K : PySem.W.Frag} {H : Hp} : ∀ {vs : List V} {ss : List Sh}, IsAll K H vs ss → vs.length = ss.length
  | _, _, .nil => rfl
  | _, _, .cons _ b => congrArg (· + 1) b.len
theorem IsAll.at {K : PySem.W.Frag} {H : Hp} : ∀ {vs : List V} {ss : List Sh} {i : Nat} {s : Sh}, IsAll K H vs ss → ss[i]? = some s → ∃ v, vs[i]? = some v ∧ Is K H v s
  | _, _, i, _, .nil, h => by simp at h
  | _, _, 0, _, .cons a _, h => by
    cases Option.some.inj h
    exact ⟨_, rfl, a⟩
  | _, _, i + 1, _, .cons _ b, h => by
    obtain ⟨v, h1, h2⟩ := IsAll.at (i := i) b (by simpa using h)
    exact ⟨v, by simpa using h1, h2⟩
theorem IsAll.at' {K : PySem.W.Frag} {H : Hp} : ∀ {vs : List V} {ss : List Sh} {i : Nat} {v : V}, IsAll K H vs ss → vs[i]? = some v → ∃ s, ss[i]? = some s ∧ Is K H v s
  | _, _, i, _, .nil, h => by simp at h
  | _, _, 0, _, .cons a _, h => by
    cases Option.some.inj h
    exact ⟨_, rfl, a⟩
  | _, _, i + 1, _, .cons _ b, h => by
    obtain ⟨v, h1, h2⟩ := IsAll.at' (i := i) b (by simpa using h)
    exact ⟨v, by simpa using h1, h2⟩
theorem IsAll.append {K : PySem.W.Frag} {H : Hp} : ∀ {vs us : List V} {ss ts : List Sh}, IsAll K H vs ss → IsAll K H us ts → IsAll K H (vs ++ us) (ss ++ ts)
  | _, _, _, _, .nil, h => h
  | _, _, _, _, .cons a b, h => .cons a (IsAll.append b h)
theorem IsAll.take {K : PySem.W.Frag} {H : Hp} : ∀ {vs : List V} {ss : List Sh} (n : Nat), IsAll K H vs ss → IsAll K H (vs.take n) (ss.take n)
  | _, _, 0, _ => by simp; exact .nil
  | _, _, n + 1, .nil => .nil
  | _, _, n + 1, .cons a b => .cons a (IsAll.take n b)
theorem IsAll.vals {K : PySem.W.Frag} {H : Hp} : ∀ vs : List V, IsAll K H vs (vs.map Sh.v)
  | [] => .nil
  | v :: vs => .cons (.v v) (IsAll.vals vs)
theorem IsAll.valsE {K : PySem.W.Frag} {H : Hp} : ∀ {us vs : List V}, IsAll K H us (vs.map Sh.v) → us = vs
  | _, [], .nil => rfl
  | _, v :: vs, .cons a b => by rw [a.vv, IsAll.valsE b]
/-- a list of whole numbers -/
abbrev Sh.ints (ns : List Int) : Sh := .lst (ns.map fun n => .v (.int n))
abbrev Sh.bls (ns : List Bool) : Sh := .lst (ns.map fun n => .v (.bl n))
theorem ints_v (ns : List Int) : (ns.map fun n => Sh.v (V.int n)) = (ns.map V.int).map Sh.v := by rw [List.map_map]; rfl
theorem bls_v (ns : List Bool) : (ns.map fun n => Sh.v (V.bl n)) = (ns.map V.bl).map Sh.v := by rw [List.map_map]; rfl
theorem Is.ints {K : PySem.W.Frag} {H : Hp} {p : Addr} {ns : List Int} (h : SqL K H p (ns.map V.int)) : Is K H (.ref p) (Sh.ints ns) := .lst h (by rw [ints_v]; exact IsAll.vals _)
theorem Is.bls {K : PySem.W.Frag} {H : Hp} {p : Addr} {ns : List Bool} (h : SqL K H p (ns.map V.bl)) : Is K H (.ref p) (Sh.bls ns) := .lst h (by rw [bls_v]; exact IsAll.vals _)
theorem Is.ofInts {K : PySem.W.Frag} {H : Hp} {v : V} {ns : List Int} (h : Is K H v (Sh.ints ns)) : ∃ p, v = .ref p ∧ SqL K H p (ns.map V.int) := by
  obtain ⟨p, vs, rfl, h1, h2⟩ := h.ofL
  rw [ints_v] at h2
  exact ⟨p, rfl, by rw [← h2.valsE]; exact h1⟩
theorem Is.ofBls {K : PySem.W.Frag} {H : Hp} {v : V} {ns : List Bool} (h : Is K H v (Sh.bls ns)) : ∃ p, v = .ref p ∧ SqL K H p (ns.map V.bl) := by
  obtain ⟨p, vs, rfl, h1, h2⟩ := h.ofL
  rw [bls_v] at h2
  exact ⟨p, rfl, by rw [← h2.valsE]; exact h1⟩
/-! ### the judgement -/
structure EX (X : Cx) (e : Expr) (σ : L2.St) (H : Hp) (s : Sh) : Prop where
  ev : ∀ H1, Ex H H1 → ∀ Q : VK, (∀ v H2, Ex H1 H2 → Is X.K H2 v s → Q v H2) → EW X e σ H1 Q
structure AX (X : Cx) (es : List Expr) (σ : L2.St) (H : Hp) (ss : List Sh) : Prop where
  ev : ∀ H1, Ex H H1 → ∀ Q : List V → Hp → Prop, (∀ vs H2, Ex H1 H2 → IsAll X.K H2 vs ss → Q vs H2) → tArgs X es σ H1 Q
/-- a new list of these shapes -/
structure EN (X : Cx) (e : Expr) (σ : L2.St) (H : Hp) (ss : List Sh) : Prop where
  ev : ∀ H1, Ex H H1 → ∀ Q : VK, (∀ p vs H2, H1 p = none → Ex H1 H2 → H2 p = some (.lst vs) → IsAll X.K H2 vs ss → Q (.ref p) H2) → EW X e σ H1 Q
section
variable {X : Cx} {e a b c o tg iter : Expr} {es : List Expr} {st : Stmt} {body rest : List Stmt} {σ : L2.St} {H : Hp} {D : Ends} {Q : VK} {v x y z : V} {pos p p2 q2 pr apos : Pos} {vs xs : List V} {f m : Str} {s t : Sh} {ss ts : List Sh}
theorem EX.is (h : EX X e σ H s) (q : s = t) : EX X e σ H t := q ▸ h
theorem EX.mono {H' : Hp} (h : EX X e σ H s) (e1 : Ex H H') : EX X e σ H' s := ⟨fun H1 a Q q => h.ev H1 (e1.trans a) Q q⟩
theorem EX.go (h : EX X e σ H s) (k : ∀ v H1, Ex H H1 → Is X.K H1 v s → Q v H1) : EW X e σ H Q := h.ev H (Ex.refl H) Q k
theorem EX.val (h : EV X e σ H v) (hv : Is X.K H v s) : EX X e σ H s := ⟨fun H1 e1 Q q => h.ev H1 e1 Q fun H2 e2 => q v H2 e2 (hv.ex (e1.trans e2))⟩
theorem EX.vv (h : EV X e σ H v) : EX X e σ H (.v v) := EX.val h (.v v)
theorem EV.ofX (h : EX X e σ H (.v v)) : EV X e σ H v := ⟨fun H1 e1 Q q => h.ev H1 e1 Q fun u H2 e2 hu => by rw [hu.vv]; exact q H2 e2⟩
theorem EX.var (i : Nat) {n : Str} (h : σ[i]? = some (some v)) (hv : Is X.K H v s) (hN : X.N[i]? = some n := by rfl) (hvs : Vis X.env.scope n := by first | exact Or.inl rfl | exact Or.inr (Or.inl rfl) | exact Or.inr (Or.inr rfl)) (hd : (n == ("__debug__" : Str)) = false := by decide)
    (hcd : (n == ("__classdict__" : Str)) = false := by decide) : EX X (.Name n pos) σ H s := EX.val (EV.var i h hN hvs hd hcd) hv
theorem EX.new (h : EL X e σ H xs) : EX X e σ H (.lst (xs.map Sh.v)) := ⟨fun H1 e1 Q q => h.ev H1 e1 Q fun p H2 _ e2 h2 => q _ H2 e2 (.lst (sq_of h2) (IsAll.vals _))⟩
theorem EX.newA (h : EL X e σ H xs) (ha : IsAll X.K H xs ss) : EX X e σ H (.lst ss) := ⟨fun H1 e1 Q q => h.ev H1 e1 Q fun p H2 _ e2 h2 => q _ H2 e2 (.lst (sq_of h2) (ha.ex (e1.trans e2)))⟩
theorem EX.newI {ns : List Int} (h : EL X e σ H (ns.map V.int)) : EX X e σ H (Sh.ints ns) := (EX.new h).is (by rw [← ints_v])
theorem EX.newB {ns : List Bool} (h : EL X e σ H (ns.map V.bl)) : EX X e σ H (Sh.bls ns) := (EX.new h).is (by rw [← bls_v])
theorem EX.newU (h : EU X e σ H xs) : EX X e σ H (.tup (xs.map Sh.v)) := ⟨fun H1 e1 Q q => h.ev H1 e1 Q fun p H2 _ e2 h2 => q _ H2 e2 (.tup (st_of h2) (IsAll.vals _))⟩
theorem EX.ofN (h : EN X e σ H ss) : EX X e σ H (.lst ss) := ⟨fun H1 e1 Q q => h.ev H1 e1 Q fun p vs H2 _ e2 h2 ha => q _ H2 e2 (.lst (sq_of h2) ha)⟩
theorem EN.ofL (h : EL X e σ H xs) (ha : IsAll X.K H xs ss) : EN X e σ H ss := ⟨fun H1 e1 Q q => h.ev H1 e1 Q fun p H2 np e2 h2 => q p xs H2 np e2 h2 (ha.ex (e1.trans e2))⟩
theorem EN.is (h : EN X e σ H ss) (q : ss = ts) : EN X e σ H ts := q ▸ h
theorem EX.ins {C : Addr} {fs : List (Str × V)} (h : EI X e σ H C fs) : EX X e σ H (.ins C fs) := ⟨fun H1 e1 Q q => h.ev H1 e1 Q fun p dx H2 _ e2 h2 => q _ H2 e2 (.ins h2)⟩
theorem ES.ofX {ns : List Int} (h : EX X e σ H (Sh.ints ns)) : ES X e σ H (ns.map V.int) := ⟨fun H1 e1 Q q => h.ev H1 e1 Q fun v H2 e2 hv => by
  obtain ⟨p, rfl, hp⟩ := hv.ofInts
  exact q p H2 e2 hp⟩
theorem ES.ofXB {ns : List Bool} (h : EX X e σ H (Sh.bls ns)) : ES X e σ H (ns.map V.bl) := ⟨fun H1 e1 Q q => h.ev H1 e1 Q fun v H2 e2 hv => by
  obtain ⟨p, rfl, hp⟩ := hv.ofBls
  exact q p H2 e2 hp⟩
theorem EX.ofS {ns : List Int} (h : ES X e σ H (ns.map V.int)) : EX X e σ H (Sh.ints ns) := ⟨fun H1 e1 Q q => h.ev H1 e1 Q fun p H2 e2 hp => q _ H2 e2 (Is.ints hp)⟩
theorem AX.nil : AX X [] σ H [] := ⟨fun H1 _ _ q => q [] H1 (Ex.refl H1) .nil⟩
theorem AX.cons (h : EX X e σ H s) (hr : AX X es σ H ss) : AX X (e :: es) σ H (s :: ss) := ⟨fun H1 e1 Q q => h.ev H1 e1 _ fun v H2 e2 hv => hr.ev H2 (e1.trans e2) _ fun vs H3 e3 hs => q _ H3 (e2.trans e3) (.cons (hv.ex e3) hs)⟩
theorem AX.one (h : EX X e σ H s) : AX X [e] σ H [s] := AX.cons h AX.nil
theorem EN.lst (h : AX X es σ H ss) (hl : ss.length ≤ 100000 := by exact Nat.le_of_ble_eq_true rfl) (hs : es.all noStar = true := by rfl) : EN X (.List es pos) σ H ss :=
  ⟨fun H1 e1 Q q => EW.of (pe_lst (pa_all hs)) (h.ev H1 e1 _ fun vs H2 e2 ha => ⟨sz_of (by rw [ha.len]; exact hl), fun p hp => q p vs _ (fresh_back e2 hp) (e2.trans (Ex.new hp)) upd_same (ha.ex (Ex.new hp))⟩)⟩
theorem EX.lst (h : AX X es σ H ss) (hl : ss.length ≤ 100000 := by exact Nat.le_of_ble_eq_true rfl) (hs : es.all noStar = true := by rfl) : EX X (.List es pos) σ H (.lst ss) := EX.ofN (EN.lst h hl hs)
theorem EX.tup {x1 : Nat} (h : AX X es σ H ss) (hl : ss.length ≤ 100000 := by exact Nat.le_of_ble_eq_true rfl) (hs : es.all noStar = true := by rfl) : EX X (.Tuple es x1 pos) σ H (.tup ss) :=
  ⟨fun H1 e1 Q q => EW.of (pe_tup (pa_all hs)) (h.ev H1 e1 _ fun vs H2 e2 ha => ⟨sz_of (by rw [ha.len]; exact hl), fun p hp => q _ _ (e2.trans (Ex.new hp)) (.tup (st_of upd_same) (ha.ex (Ex.new hp)))⟩)⟩
/-! ### statements -/
theorem BW.asgX {n : Str} (i : Nat) (hN : X.N.Nodup) (h : EX X e σ H s) (k : ∀ v H1, Ex H H1 → Is X.K H1 v s → BW X rest D (σ.set i (some v)) H1) (hi : X.N[i]? = some n := by rfl) (hx : Loc X.env.scope n := by first | exact Or.inl rfl | exact Or.inr rfl) (hs : swapsWith e (some (.Name n p)) pos.line X.env = pure false := by rfl) (hf : X.fn n = true ∨ X.env.scope.names.lookup n = some .local := by first | exact .inl rfl | exact .inr rfl) : BW X (.Assign [.Name n p] e pos :: rest) D σ H :=
  BW.asgW hN hi hx (h.go k) hs hf
theorem BW.asgN {n : Str} (i : Nat) (hN : X.N.Nodup) (h : EN X e σ H ss) (k : ∀ q vs H1, H q = none → Ex H H1 → H1 q = some (.lst vs) → IsAll X.K H1 vs ss → BW X rest D (σ.set i (some (.ref q))) H1) (hi : X.N[i]? = some n := by rfl) (hx : Loc X.env.scope n := by first | exact Or.inl rfl | exact Or.inr rfl) (hs : swapsWith e (some (.Name n p)) pos.line X.env = pure false := by rfl) (hf : X.fn n = true ∨ X.env.scope.names.lookup n = some .local := by first | exact .inl rfl | exact .inr rfl) : BW X (.Assign [.Name n p] e pos :: rest) D σ H :=
  BW.asgW hN hi hx (h.ev H (Ex.refl H) _ k) hs hf
theorem BW.retX (h : EX X e σ H s) (k : ∀ v H1, Ex H H1 → Is X.K H1 v s → D.rt v H1) : BW X (.Return (some e) pos :: rest) D σ H := BW.retW (h.go k)
theorem BW.retN (h : EN X e σ H ss) (k : ∀ q vs H1, H q = none → Ex H H1 → H1 q = some (.lst vs) → IsAll X.K H1 vs ss → D.rt (.ref q) H1) : BW X (.Return (some e) pos :: rest) D σ H := BW.retW (h.ev H (Ex.refl H) _ k)
/-! ### reading -/
theorem atI_len {xs : List V} {i : Int} {v : V} (h : atI xs i = some v) : ∃ k : Nat, xs[k]? = some v ∧ ∀ ys : List V, ys.length = xs.length → atI ys i = ys[k]? := by
  unfold atI at h ⊢
  cases hk : ixN xs.length i with
  | none => rw [hk] at h; cases h
  | some k =>
    rw [hk] at h
    exact ⟨k, h, fun ys hy => by rw [hy, hk]; rfl⟩
/-- the place i of n -/
def IxAt (n : Nat) (i : Int) (k : Nat) : Prop := ixN n i = some k
theorem EX.ixL {i : Int} {k : Nat} (h : EX X a σ H (.lst ss)) (hi : EV X b σ H (.int i)) (hk : ixN ss.length i = some k) (hs : ss[k]? = some s) (hp : PlainIx b := by exact fun _ _ => rfl) : EX X (.Subscript a b pos) σ H s :=
  ⟨fun H1 e1 Q q => EW.of (pe_ix ix_list pe_self pe_self hp) (h.ev H1 e1 _ fun v H2 e2 hv => by
    obtain ⟨p, vs, rfl, hsq, ha⟩ := hv.ofL
    refine hi.ev H2 (e1.trans e2) _ fun H3 e3 => ?_
    obtain ⟨u, hu, iu⟩ := ha.at hs
    refine ⟨p, vs, i, u, rfl, rfl, ex_l e3 hsq, ?_, q u H3 (e2.trans e3) (iu.ex e3)⟩
    unfold atI
    rw [ha.len, hk]
    exact hu)⟩
theorem EX.ixT {i : Int} {k : Nat} (h : EX X a σ H (.tup ss)) (hi : EV X b σ H (.int i)) (hk : ixN ss.length i = some k) (hs : ss[k]? = some s) (hp : PlainIx b := by exact fun _ _ => rfl) : EX X (.Subscript a b pos) σ H s :=
  ⟨fun H1 e1 Q q => EW.of (pe_ix ix_tup pe_self pe_self hp) (h.ev H1 e1 _ fun v H2 e2 hv => by
    obtain ⟨p, vs, rfl, hsq, ha⟩ := hv.ofU
    refine hi.ev H2 (e1.trans e2) _ fun H3 e3 => ?_
    obtain ⟨u, hu, iu⟩ := ha.at hs
    refine ⟨p, vs, i, u, rfl, rfl, ex_t e3 hsq, ?_, q u H3 (e2.trans e3) (iu.ex e3)⟩
    unfold atI
    rw [ha.len, hk]
    exact hu)⟩
theorem EV.fldX {C : Addr} {fs : List (Str × V)} (h : EX X e σ H (.ins C fs)) (cl : Cls X.K C) (na : NoAttr X.K C f) (hl : fs.lookup f = some v) (hb : attributeBase e f X.env (eval e X.env) = eval e X.env := by rfl) : EV X (.Attribute e f pos) σ H v :=
  EV.of (pe_fld pe_self hb) fun H1 e1 Q k => h.ev H1 e1 _ fun u H2 e2 hu => by
    obtain ⟨ob, dx, rfl, ho⟩ := hu.ofI
    exact ⟨ob, C, dx, fs, v, rfl, ho, cl, na, hl, k H2 e2⟩
theorem EV.lenX (mL : X.mg "len" = none) (h : EX X a σ H (.lst ss)) (hg : Gl X "len" := by rfl) (hs : noStar a = true := by rfl) : EV X (.Call (.Name "len" p) [a] [] pos) σ H (.int (ss.length : Int)) :=
  EV.of (pe_callB call_len_seq hg mL PySem.boot_len (pa_all (es := [a]) (by simp [hs])) (by decide) (by decide) (star_of hs []) rfl) fun H1 e1 Q k => h.ev H1 e1 _ fun u H2 e2 hu => by
    obtain ⟨q, vs, rfl, hq, ha⟩ := hu.ofL
    exact ⟨q, vs, rfl, .inl hq, by rw [ha.len]; exact k H2 e2⟩
/-! ### loops over a list that stands still -/
theorem BW.forX {g : TG} (h : EX X iter σ H (.lst ss)) (hg : PG X tg g) (Pv : Hp → Nat → L2.St → Hp → Prop) (h0 : ∀ H1, Ex H H1 → Pv H1 0 σ H1) (hl : ∀ H1 i σ' H', Pv H1 i σ' H' → Ex H1 H')
    (hs : ∀ H1 i s v σ' H', Ex H H1 → ss[i]? = some s → Is X.K H' v s → Pv H1 i σ' H' → g v σ' H' fun σ2 H2 => BW X body (Ends.turn X rest D (Pv H1 (i + 1))) σ2 H2) (hd : ∀ H1 σ' H', Ex H H1 → Pv H1 ss.length σ' H' → BW X rest D σ' H')
    (hc : X.calm = true := by rfl) (hp : PassesOwn (model X.prog X.w) X.A X.env X.xe := by first | exact PassesOwn.never | exact passes_of rfl) (hfs : ∀ x, foldedSetIterable iter X.env x = pure x := by intro _; rfl) : BW X (.For tg iter body [] pos :: rest) D σ H := by
  refine BW.cons (ps_for hp hc (pi_list pe_self) hg pss_self hfs) (h.ev H (Ex.refl H) _ fun v H1 e1 hv => ?_)
  obtain ⟨q, vs, rfl, hq, ha⟩ := hv.ofL
  have hlen := ha.len
  refine ⟨q, rfl, ⟨vs, hq⟩, for_list (xs := vs) (Pv H1) (h0 H1 e1) (fun i σ' H' _ pv => ex_l (hl H1 i σ' H' pv) hq) (fun i x σ' H' hi pv => ?_) fun σ' H' pv => hd H1 σ' H' e1 (hlen ▸ pv)⟩
  obtain ⟨t, ht, it⟩ := ha.at' hi
  exact hs H1 i t x σ' H' e1 ht (it.ex (hl H1 i σ' H' pv)) pv
theorem el_lcX {K : PySem.W.Frag} {tl te : TE} {j : Nat} {ws : List Nat} (w : Nat → V) (h : ∀ H1, Ex H H1 → ∀ Q : VK, (∀ v H2, Ex H1 H2 → Is K H2 v (.lst ss) → Q v H2) → tl σ H1 Q) (hz : ss.length ≤ 40000) (hw : ∀ x, wipe ((wipe σ ws).set j (some x)) ws = wipe σ ws)
    (he : ∀ (i : Nat) (s : Sh) (y : V) H1, Ex H H1 → ss[i]? = some s → Is K H1 y s → Ev te ((wipe σ ws).set j (some y)) H1 (w i)) : EvL (tLc (iList K tl) (gName j) tYes te ws) σ H ((List.range ss.length).map w) := fun H0 e Q q => h H0 e _ fun u H1 e1 hu => by
  obtain ⟨a, vs, rfl, hx, ha⟩ := hu.ofL
  have hlen := ha.len
  rw [← given_all, ← hlen] at q
  exact ⟨a, rfl, ⟨vs, hx⟩, fun Dl hD => lc_list (xs := vs) (Cw H1 (fun _ => true) w Dl) ⟨hD, Ex.new hD, upd_same⟩ (fun i H' _ p => ex_l p.2.1 hx)
    (fun i y H' hi p => ⟨hw y, cw_turn p (by have := (List.getElem?_eq_some_iff.mp hi).1; omega) ev_yes (fun _ => by
      obtain ⟨s, hs, iy⟩ := ha.at' hi
      exact he i s y H1 (e.trans e1) hs iy)⟩)
    (fun H' p => q Dl H' (fresh_back e1 p.1) (e1.trans p.2.1) p.2.2)⟩
/-- [e for x in xs], xs by its shapes -/
theorem LC.listX {elt iter : Expr} {scope : Scope} {n : Str} {j : Nat} (w : Nat → V) (hN : X.N.Nodup) (ok : BlkOk X.N X.env.scope scope [(n, j)]) (h : EX X iter σ H (.lst ss)) (hz : ss.length ≤ 40000)
    (he : ∀ (i : Nat) (s : Sh) (y : V) H1, Ex H H1 → ss[i]? = some s → Is X.K H1 y s → EVb X scope elt ((wipe σ [j]).set j (some y)) H1 (w i))
    (hw : ∀ z, wipe ((wipe σ [j]).set j (some z)) [j] = wipe σ [j] := by intro _; rfl)
    (hg : ∀ (s : Shared) (H : Hp) (C : Addr) (cl : List (Str × Addr)) (fp : List Addr), PG (X.blk s H scope (compEnvC scope cl C X.env) fp) (.Name n p) (gName j) := by exact fun _ _ _ _ _ => pg_name (i := _) (by assumption) rfl (Or.inl rfl)) (hc : X.calm = true := by rfl) (hfs : ∀ x, foldedSetIterable iter X.env x = pure x := by intro _; rfl) :
    LC X (.ListComp elt [⟨.Name n p, iter, [], 0⟩] scope pos) σ H ((List.range ss.length).map w) :=
  lc_of (own := [(n, j)]) hc hN (pi_list pe_self) ok hg hfs (el_lcX w h.ev hz hw fun i s y H1 e1 hs iy => (he i s y H1 e1 hs iy).ev)
end
end QR

namespace QR
open PySem PySem.Spec PyProof.Rows L2 Evl
/-! ### xs + ys -/
def rCatS (K : PySem.W.Frag) : R2 := fun x y H Q => ∃ l b xs zs, x = .ref l ∧ y = .ref b ∧ SqL K H l xs ∧ SqL K H b zs ∧ xs.length + zs.length ≤ sizeLine ∧ ∀ p, H p = none → Q (.ref p) (upd H p (.lst (xs ++ zs)))
theorem op_catS {X : Cx} : OpR X (binaryOp .Add) (rCatS X.K) := by
  intro pins s σ H x y v u Q I rx ry h
  obtain ⟨l, b, xs, zs, rfl, rfl, hH, hB, hz, q⟩ := h
  cases rx
  cases ry
  obtain ⟨its, r, pl, hz1⟩ := I.list hH
  obtain ⟨its2, r2, pl2, hz2⟩ := I.list hB
  have hl := r.length
  have hl2 := r2.length
  obtain ⟨⟨cls, dd, data, sl⟩, ho, hc, n, hd⟩ := pl.isList
  obtain ⟨⟨cls2, dd2, data2, sl2⟩, ho2, hc2, n2, hd2⟩ := pl2.isList
  simp only at hc hd hc2 hd2
  subst hc hd hc2 hd2
  have e : its.toArray ++ its2.toArray = (its ++ its2).toArray := by simp
  refine concat_meets ⟨_, ho, rfl⟩ ⟨_, ho2, rfl⟩ noFill_list_add seq_list_add PySem.F.slot_list_add PySem.F.entry_list_add (PySem.F.args_list_add_2 _ _) (list_addW l b its.toArray its2.toArray n n2 dd dd2 sl sl2 (by simp; omega)) ⟨ho, ho2, ?_⟩
  rw [e]
  exact ⟨.ref _, _, I.lnew (t' := s.toks) (r.append r2) (by rw [List.length_append]; omega), rfl, q _ I.fresh⟩
/-! ### list(range(..)) -/
theorem vals_ints_of {lo c : Int} : ∀ {us : List Value} {k : Nat}, (∀ j v, us[j]? = some v → ∃ t, v = Value.int (lo + (k + j : Nat) * c) t) → Vals ((List.range' k us.length).map fun i : Nat => V.int (lo + (i : Nat) * c)) us
  | [], k, _ => .nil
  | u :: us, k, h => by
    obtain ⟨t, e⟩ := h 0 u rfl
    rw [List.length_cons, List.range'_succ, List.map_cons]
    refine .cons ⟨t, by rw [e]; simp⟩ (vals_ints_of (k := k + 1) fun j v hj => ?_)
    obtain ⟨t, e⟩ := h (j + 1) v (by simpa using hj)
    exact ⟨t, by rw [e, show k + (j + 1) = k + 1 + j by omega]⟩
def rngV (lo c : Int) (n : Nat) : List V := (List.range n).map fun i : Nat => V.int (lo + (i : Nat) * c)
section
variable {X : Cx} {e a b c o tg iter : Expr} {es : List Expr} {st : Stmt} {body rest : List Stmt} {σ : L2.St} {H : Hp} {D : Ends} {Q : VK} {v x y z : V} {pos p p2 q2 pr apos : Pos} {vs xs : List V} {f m : Str} {s t : Sh} {ss ts : List Sh}
/-- from a new range object on -/
theorem list_of_range {pins : List (Addr × Obj)} {s : Shared} {r : Addr} {lo hi cc : Int} {t u v : Tok} {n : Nat} (hc : X.calm = true) (I : Inv X pins σ H s) (hr : IsRange s.heap r lo hi cc t u v) (hs : Builtin.Range.small lo hi cc = true) (hn : Builtin.Range.rangeSize lo hi cc = n) (hl : n ≤ 100000)
    (q : ∀ p H2, H p = none → Ex H H2 → H2 p = some (.lst (rngV lo cc n)) → Q (.ref p) H2) : wpAny (model X.prog X.w) X.A (call (.type "list") [.ref r]) (EP X pins σ Q) X.xe s := by
  refine call_list_range (I.ok.hd hc) hr hs hn (by omega) fun h' tk acc c' kp e hi => ?_
  have hv : Vals (rngV lo cc n) acc.toList := by
    have := vals_ints_of (lo := lo) (c := cc) (us := acc.toList) (k := 0) (fun j v hj => by
      obtain ⟨t, e⟩ := hi.2 j v (by simpa using hj)
      exact ⟨t, by rw [e]; simp⟩)
    unfold rngV
    rw [List.range_eq_range']
    have hsz : acc.toList.length = n := by simpa using hi.1
    rw [hsz] at this
    exact this
  have hz : (rngV lo cc n).length ≤ sizeLine := by
    unfold rngV
    rw [List.length_map, List.length_range]
    exact Nat.le_trans hl (by decide)
  exact ⟨.ref s.heap.objs.size, _, I.laid (t' := tk) kp (Nat.le_refl _) (show ObjOk X.prog X.w _ h' _ (.lst (rngV lo cc n)) from ⟨hz, acc.toList, c', hv, by simpa using e⟩), rfl, q _ _ (I.hok.fresh (Nat.le_refl _)) (Ex.new (I.hok.fresh (Nat.le_refl _))) upd_same⟩
def tLR (tb : TA) : TE := fun σ H Q => tb σ H fun vs H1 => ∃ (lo hi cc : Int) (n : Nat), (vs = [.int hi] ∧ lo = 0 ∧ cc = 1 ∨ vs = [.int lo, .int hi] ∧ cc = 1 ∨ vs = [.int lo, .int hi, .int cc] ∧ cc ≠ 0 ∧ cc.natAbs < 1073741824) ∧
  Builtin.Range.small lo hi cc = true ∧ Builtin.Range.rangeSize lo hi cc = n ∧ n ≤ 100000 ∧ ∀ p H2, H1 p = none → Ex H1 H2 → H2 p = some (.lst (rngV lo cc n)) → Q (.ref p) H2
theorem pe_listRange {ta : TA} (hg : Gl X "list") (hm : X.mg "list" = none) (hg2 : Gl X "range") (hm2 : X.mg "range" = none) (hc : X.calm = true) (ha : PA X (e :: es) ta) (hs : (e :: es).all noStar = true) :
    PE X (.Call (.Name "list" p) [.Call (.Name "range" p2) (e :: es) [] q2] [] pos) (tLR ta) := by
  refine ⟨fun pins s σ H Q I h => ?_⟩
  refine wpAny_Call_Name_kw (ld_blt (u := .type "list") I hg hm (by decide +kernel) ?_ (by decide) (by decide))
  refine PyProof.Rows.callWith_type1 (PyProof.Rows.args_cons ?_ rfl) rfl rfl
  refine wpAny_Call_Name_kw (ld_blt I hg2 hm2 boot_range ?_ (by decide) (by decide))
  refine PyProof.Rows.callWith_type1 (thn (ha.run q2 pins s σ H _ I h) fun us s1 ⟨vs, H1, I1, r1, q1⟩ => ?_) (star_of (List.all_eq_true.mp hs e List.mem_cons_self) es) (back_any es (List.all_eq_true.mpr fun e' he => List.all_eq_true.mp hs e' (List.mem_cons_of_mem _ he)))
  obtain ⟨lo, hi, cc, n, hcase, hsm, hn, hl, q⟩ := q1
  rcases hcase with ⟨rfl, rfl, rfl⟩ | ⟨rfl, rfl⟩ | ⟨rfl, hc0, hcb⟩
  · cases r1 with
    | cons r rr =>
      cases rr
      obtain ⟨t, rfl⟩ := r
      refine call_range_1 (PyProof.Rows.args_nil ?_)
      have I2 : Inv X pins σ H1 { s1 with heap := s1.heap.push { cls := .type "range", data := .fields #[.int 0 s1.toks, .int hi t, .int 1 (s1.toks + 1)] }, toks := s1.toks + 1 + 1 } := I1.kept fun b o e => Heap.get?_push_of_some _ e
      exact list_of_range hc I2 (IsRange.new ..) hsm hn hl q
  · cases r1 with
    | cons r rr =>
      cases rr with
      | cons r' rr =>
        cases rr
        obtain ⟨t, rfl⟩ := r
        obtain ⟨t', rfl⟩ := r'
        refine call_range_2 (PyProof.Rows.args_nil ?_)
        have I2 : Inv X pins σ H1 { s1 with heap := s1.heap.push { cls := .type "range", data := .fields #[.int lo t, .int hi t', .int 1 s1.toks] }, toks := s1.toks + 1 } := I1.kept fun b o e => Heap.get?_push_of_some _ e
        exact list_of_range hc I2 (IsRange.new ..) hsm hn hl q
  · cases r1 with
    | cons r rr =>
      cases rr with
      | cons r' rr =>
        cases rr with
        | cons r'' rr =>
          cases rr
          obtain ⟨t, rfl⟩ := r
          obtain ⟨t', rfl⟩ := r'
          obtain ⟨t'', rfl⟩ := r''
          refine call_range_3 hc0 (PyProof.Rows.args_nil ?_) (Or.inl (PyProof.noPylong_small (by omega)))
          have I2 : Inv X pins σ H1 { s1 with heap := s1.heap.push { cls := .type "range", data := .fields #[.int lo t, .int hi t', .int cc t''] }, toks := s1.toks } := I1.kept fun b o e => Heap.get?_push_of_some _ e
          exact list_of_range hc I2 (IsRange.new ..) hsm hn hl q
theorem small_of {lo hi : Int} (h1 : -100000 ≤ lo) (h2 : lo ≤ 100000) (h3 : -100000 ≤ hi) (h4 : hi ≤ 100000) : Builtin.Range.small lo hi 1 = true := small_one (by omega) (by omega) (by omega) (by omega)
/-- list(range(n)), list(range(a, b)), list(range(a, b, c)) -/
theorem EL.listR1 {n : Int} (mL : X.mg "list" = none) (mR : X.mg "range" = none) (h : EV X a σ H (.int n)) (hn : 0 ≤ n ∧ n ≤ 100000) (hg : Gl X "list" := by rfl) (hg2 : Gl X "range" := by rfl) (hc : X.calm = true := by rfl) (hs : noStar a = true := by rfl) :
    EL X (.Call (.Name "list" p) [.Call (.Name "range" p2) [a] [] q2] [] pos) σ H ((List.range n.toNat).map fun i : Nat => V.int (i : Int)) :=
  EL.of (pe_listRange hg mL hg2 mR hc (pa_all (es := [a]) (by simp [hs])) (by simp [hs])) fun H1 e1 Q k => (AV.one h).ev H1 e1 _ fun H2 e2 => ⟨0, n, 1, n.toNat, .inl ⟨rfl, rfl, rfl⟩, small_of (by omega) (by omega) (by omega) (by omega), by rw [rangeSize_one]; split <;> omega, by omega, fun p H3 np e3 hp => k p H3 (fresh_back e2 np) (e2.trans e3) (by
    rw [hp]
    unfold rngV
    congr 2
    refine List.map_congr_left fun i _ => ?_
    show V.int (0 + (i : Int) * 1) = _
    rw [Int.mul_one, Int.zero_add])⟩
theorem EL.listR2 {lo n : Int} (mL : X.mg "list" = none) (mR : X.mg "range" = none) (h : EV X a σ H (.int lo)) (h' : EV X b σ H (.int n)) (hn : -1000 ≤ lo ∧ lo ≤ n ∧ n ≤ 90000) (hg : Gl X "list" := by rfl) (hg2 : Gl X "range" := by rfl) (hc : X.calm = true := by rfl) (hs : [a, b].all noStar = true := by rfl) :
    EL X (.Call (.Name "list" p) [.Call (.Name "range" p2) [a, b] [] q2] [] pos) σ H ((List.range (n - lo).toNat).map fun i : Nat => V.int (lo + (i : Int))) :=
  EL.of (pe_listRange hg mL hg2 mR hc (pa_all hs) hs) fun H1 e1 Q k => (AV.two h h').ev H1 e1 _ fun H2 e2 => ⟨lo, n, 1, (n - lo).toNat, .inr (.inl ⟨rfl, rfl⟩), small_of (by omega) (by omega) (by omega) (by omega), by rw [rangeSize_one]; split <;> omega, by omega, fun p H3 np e3 hp => k p H3 (fresh_back e2 np) (e2.trans e3) (by
    rw [hp]
    unfold rngV
    congr 2
    refine List.map_congr_left fun i _ => ?_
    rw [Int.mul_one])⟩
theorem EL.listR3 {lo hi cc : Int} (n : Nat) (mL : X.mg "list" = none) (mR : X.mg "range" = none) (h : EV X a σ H (.int lo)) (h' : EV X b σ H (.int hi)) (h'' : EV X c σ H (.int cc)) (hn : RgC lo hi cc n) (hl : n ≤ 100000) (hg : Gl X "list" := by rfl) (hg2 : Gl X "range" := by rfl) (hc : X.calm = true := by rfl) (hs : [a, b, c].all noStar = true := by rfl) :
    EL X (.Call (.Name "list" p) [.Call (.Name "range" p2) [a, b, c] [] q2] [] pos) σ H (rngV lo cc n) :=
  EL.of (pe_listRange hg mL hg2 mR hc (pa_all hs) hs) fun H1 e1 Q k => (AV.three h h' h'').ev H1 e1 _ fun H2 e2 => ⟨lo, hi, cc, n, .inr (.inr ⟨rfl, hn.1, hn.2.1⟩), hn.2.2.1, hn.2.2.2, hl, fun p H3 np e3 hp => k p H3 (fresh_back e2 np) (e2.trans e3) hp⟩
/-! ### xs + ys, list(xs), xs * k, slices -/
theorem EL.cat {ys : List V} (ha : ES X a σ H xs) (hb : ES X b σ H ys) (hz : xs.length + ys.length ≤ 100000) : EL X (.BinOp a .Add b pos) σ H (xs ++ ys) :=
  EL.of (pe_op op_catS pe_self pe_self) fun H1 e1 Q k => ha.ev H1 e1 _ fun p H2 e2 hp => hb.ev H2 (e1.trans e2) _ fun q H3 e3 hq => ⟨p, q, xs, ys, rfl, rfl, ex_l e3 hp, hq, sz_of hz, fun r hr => k r _ (fresh_back (e2.trans e3) hr) ((e2.trans e3).trans (Ex.new hr)) upd_same⟩
theorem EN.cat (ha : EX X a σ H (.lst ss)) (hb : EX X b σ H (.lst ts)) (hz : ss.length + ts.length ≤ 100000 := by exact Nat.le_of_ble_eq_true rfl) : EN X (.BinOp a .Add b pos) σ H (ss ++ ts) :=
  ⟨fun H1 e1 Q k => EW.of (pe_op op_catS pe_self pe_self) (ha.ev H1 e1 _ fun v H2 e2 hv => hb.ev H2 (e1.trans e2) _ fun u H3 e3 hu => by
    obtain ⟨p, vs, rfl, hp, h1⟩ := hv.ofL
    obtain ⟨q, us, rfl, hq, h2⟩ := hu.ofL
    exact ⟨p, q, vs, us, rfl, rfl, ex_l e3 hp, hq, sz_of (by rw [h1.len, h2.len]; exact hz), fun r hr => k r _ _ (fresh_back (e2.trans e3) hr) ((e2.trans e3).trans (Ex.new hr)) upd_same (((h1.ex e3).append h2).ex (Ex.new hr))⟩)⟩
theorem EL.listOf (mL : X.mg "list" = none) (ha : ES X a σ H xs) (hg : Gl X "list" := by rfl) (hs : noStar a = true := by rfl) : EL X (.Call (.Name "list" p) [a] [] pos) σ H xs :=
  EL.of (pe_callTy call_list_of hg mL (by decide +kernel) (pa_all (es := [a]) (by simp [hs])) (by decide) (by decide) (star_of hs []) rfl) fun H1 e1 Q k => ha.ev H1 e1 _ fun p H2 e2 hp => ⟨p, xs, rfl, .inl hp, fun l hl => k l _ (fresh_back e2 hl) (e2.trans (Ex.new hl)) upd_same⟩
theorem EN.listOf (mL : X.mg "list" = none) (ha : EX X a σ H (.lst ss)) (hg : Gl X "list" := by rfl) (hs : noStar a = true := by rfl) : EN X (.Call (.Name "list" p) [a] [] pos) σ H ss :=
  ⟨fun H1 e1 Q k => EW.of (pe_callTy call_list_of hg mL (by decide +kernel) (pa_all (es := [a]) (by simp [hs])) (by decide) (by decide) (star_of hs []) rfl) (ha.ev H1 e1 _ fun v H2 e2 hv => by
    obtain ⟨p, vs, rfl, hp, h1⟩ := hv.ofL
    exact ⟨p, vs, rfl, .inl hp, fun l hl => k l _ _ (fresh_back e2 hl) (e2.trans (Ex.new hl)) upd_same (h1.ex (Ex.new hl))⟩)⟩
theorem EL.rep {k : Int} (ha : EL X a σ H xs) (hb : EV X b σ H (.int k)) (hk : -(2 ^ 63) ≤ k ∧ k < 2 ^ 63) (hz : xs.length * k.toNat ≤ 100000) : EL X (.BinOp a .Mult b pos) σ H (List.replicate k.toNat xs).flatten :=
  EL.of (pe_op op_rep pe_self pe_self) fun H1 e1 Q q => ha.ev H1 e1 _ fun p H2 np e2 hp => hb.ev H2 (e1.trans e2) _ fun H3 e3 => ⟨p, k, xs, rfl, rfl, e3 _ _ hp, hk.1, hk.2, sz_of hz, fun r hr => q r _ (fresh_back (e2.trans e3) hr) ((e2.trans e3).trans (Ex.new hr)) upd_same⟩
theorem EL.rev {k : Nat} {p1 p3 : Pos} (ha : ES X a σ H xs) : EL X (.Subscript a (.Slice none none (some (.UnaryOp .USub (.Constant (.int 1) k p1) p2)) p3) pos) σ H xs.reverse :=
  EL.of (pe_revL pe_self) fun H1 e1 Q q => ha.ev H1 e1 _ fun p H2 e2 hp => ⟨p, xs, rfl, hp, fun r hr => q r _ (fresh_back e2 hr) (e2.trans (Ex.new hr)) upd_same⟩
theorem IsAll.rev {K : PySem.W.Frag} {H : Hp} : ∀ {vs : List V} {ss : List Sh}, IsAll K H vs ss → IsAll K H vs.reverse ss.reverse
  | _, _, .nil => .nil
  | _, _, .cons a b => by
    rw [List.reverse_cons, List.reverse_cons]
    exact (IsAll.rev b).append (.cons a .nil)
theorem IsAll.drop {K : PySem.W.Frag} {H : Hp} : ∀ {vs : List V} {ss : List Sh} (n : Nat), IsAll K H vs ss → IsAll K H (vs.drop n) (ss.drop n)
  | _, _, 0, h => h
  | _, _, n + 1, .nil => .nil
  | _, _, n + 1, .cons a b => IsAll.drop n b
/-- a slice of shapes -/
def cutS' (ss : List Sh) (lo hi : Option Int) : List Sh := (ss.drop (HT.sIx ss.length 0 lo)).take (HT.sIx ss.length ss.length hi - HT.sIx ss.length 0 lo)
theorem EN.slice {lo hi : Option Expr} {l h : Option Int} {tl th : TO} (ha : EX X a σ H (.lst ss)) (pl : PO X lo tl) (ph : PO X hi th) (hl : EvO tl σ H l) (hh : EvO th σ H h) : EN X (.Subscript a (.Slice lo hi none p2) pos) σ H (cutS' ss l h) :=
  ⟨fun H1 e1 Q k => EW.of (pe_slice sl_list pe_self pl ph) (ha.ev H1 e1 _ fun v H2 e2 hv => hl H2 (e1.trans e2) _ fun H3 e3 => hh H3 ((e1.trans e2).trans e3) _ fun H4 e4 => by
    obtain ⟨q, vs, rfl, hq, h1⟩ := hv.ofL
    refine ⟨q, vs, rfl, ex_l (e3.trans e4) hq, fun r hr => k r _ _ (fresh_back ((e2.trans e3).trans e4) hr) (((e2.trans e3).trans e4).trans (Ex.new hr)) upd_same ?_⟩
    unfold cutV cutS'
    rw [h1.len]
    exact (((h1.ex (e3.trans e4)).drop _).take _).ex (Ex.new hr))⟩
/-- xs[:n] -/
theorem cutS_upto (ss : List Sh) (k : Nat) : cutS' ss none (some (k : Int)) = ss.take k := by
  unfold cutS'
  rw [HT.sIx_nat, HT.sIx_none]
  show List.take (min k ss.length - 0) (List.drop 0 ss) = _
  rw [Nat.sub_zero, List.drop_zero]
  rcases Nat.le_total k ss.length with h | h
  · rw [Nat.min_eq_left h]
  · rw [Nat.min_eq_right h, List.take_length, List.take_of_length_le h]
theorem EN.upto {n : Nat} (ha : EX X a σ H (.lst ss)) (hb : EV X b σ H (.int (n : Int))) : EN X (.Subscript a (.Slice none (some b) none p2) pos) σ H (ss.take n) :=
  (EN.slice ha po_none (po_some pe_self) eo_none (eo_some hb.ev)).is (cutS_upto ss n)
/-! ### x -= e, x += e -/
theorem BW.augS {n : Str} (i : Nat) {u w : Int} (hN : X.N.Nodup) (hx : σ[i]? = some (some (.int u))) (h : EV X e σ H (.int w)) (k : ∀ H1, Ex H H1 → BW X rest D (σ.set i (some (.int (u - w)))) H1)
    (hi : X.N[i]? = some n := by rfl) (hl : Loc X.env.scope n := by first | exact Or.inl rfl | exact Or.inr rfl) (hf : X.fn n = true ∨ X.env.scope.names.lookup n = some .local := by first | exact .inl rfl | exact .inr rfl) : BW X (.AugAssign (.Name n p) .Sub e pos :: rest) D σ H :=
  BW.cons (ps_aug (i := i) hN hi hl pe_self ip_sub hf) ⟨.int u, hx, h.ev H (Ex.refl H) _ fun H1 e1 => ⟨u, w, rfl, rfl, k H1 e1⟩⟩
/-! ### a, b = x over a pair; pairs in loops -/
theorem g_pair {K : PySem.W.Frag} {j1 j2 : Nat} {u w : V} {R : L2.St → Hp → Prop} (h : Is K H v (.tup [.v u, .v w])) (k : R ((σ.set j1 (some u)).set j2 (some w)) H) : gTup K 2 (gCons (gName j1) (gCons (gName j2) gNil)) v σ H R := by
  obtain ⟨p, vs, rfl, hp, ha⟩ := h.ofU
  have e : vs = [u, w] := IsAll.valsE (vs := [u, w]) ha
  subst e
  exact ⟨p, [u, w], rfl, hp, rfl, u, [w], rfl, w, [], rfl, rfl, k⟩
/-! ### xs[i] = e; xs.extend(ys); xs.insert(i, v); xs.index(v) -/
theorem BW.setL {l : Addr} {j : Nat} {apos : Pos} (hl : H l = some (.lst xs)) (h : EV X e σ H v) (ho : EV X a σ H (.ref l)) (hi : EV X b σ H (.int (j : Int))) (hj : j < xs.length) (k : ∀ H1, Ex H H1 → BW X rest D σ (upd H1 l (.lst (xs.set j v))))
    (hg : PG X (.Subscript a b apos) (gSub (EW X a) (EW X b) rSetL) := by exact pg_sub pe_self pe_self set_list) (hs : swapsWithSole [.Subscript a b apos] e pos.line X.env = pure false := by rfl) (hw : swappedStores [.Subscript a b apos] e X.env = pure none := by rfl) : BW X (.Assign [.Subscript a b apos] e pos :: rest) D σ H :=
  BW.cons (ps_asg pe_self hg hs hw) (s_setL (D := { D with nx := BW X rest D }) hl h.ev ho.ev hi.ev hj k)
theorem BW.extend {l q : Addr} {ys : List V} (hl : H l = some (.lst xs)) (ha : EV X a σ H (.ref l)) (h : EL X e σ H ys) (hz : xs.length + ys.length ≤ 100000) (k : ∀ H1, Ex H H1 → BW X rest D σ (upd H1 l (.lst (xs ++ ys)))) (hs : noStar e = true := by rfl)
    (he : PE X (.Call (.Attribute a "extend" apos) [e] [] p) (tBM X.K "list" rExtend (EW X a) (tArgs X [e])) := by exact pe_bm PySem.F.plainAttrs_list PySem.F.slot_list_extend PySem.F.type_list_extend mt_extend pe_self (pa_all rfl))
    (hw : swapsWith (.Call (.Attribute a "extend" apos) [e] [] p) none pos.line X.env = pure false := by rfl) : BW X (.Expr (.Call (.Attribute a "extend" apos) [e] [] p) pos :: rest) D σ H :=
  BW.cons (ps_expr he hw) (ha.ev H (Ex.refl H) _ fun H1 e1 => ⟨.inl ⟨rfl, xs, sq_of (e1 l _ hl)⟩, h.ev H1 e1 _ fun q H2 np e2 hq => ⟨l, q, xs, ys, rfl, rfl, e2 l _ (e1 l _ hl), hq, sz_of hz, k H2 (e1.trans e2)⟩⟩)
/-! ### what follows, once -/
theorem BW.mono {D' : Ends} {st : List Stmt} (h : BW X st D σ H) (hn : ∀ σ' H', D.nx σ' H' → D'.nx σ' H') (hr : ∀ v H', D.rt v H' → D'.rt v H') (hb : ∀ σ' H', D.bk σ' H' → D'.bk σ' H') (hc : ∀ σ' H', D.ct σ' H' → D'.ct σ' H') : BW X st D' σ H :=
  ⟨fun pins s I => thn (h.run pins s I) fun f s1 q => by
    cases f with
    | next =>
      obtain ⟨σ', H', I', q⟩ := q
      exact ⟨σ', H', I', hn _ _ q⟩
    | brk =>
      obtain ⟨σ', H', I', q⟩ := q
      exact ⟨σ', H', I', hb _ _ q⟩
    | cont =>
      obtain ⟨σ', H', I', q⟩ := q
      exact ⟨σ', H', I', hc _ _ q⟩
    | ret u =>
      obtain ⟨v, σ', H', I', r, q⟩ := q
      exact ⟨v, σ', H', I', r, hr _ _ q⟩⟩
/-- an if whose ways meet in Mid -/
theorem BW.iteC {s1 s2 : List Stmt} {k : Bool} (Mid : L2.St → Hp → Prop) (h : TV X c σ H k) (h1 : k = true → ∀ H1, Ex H H1 → BW X s1 { D with nx := Mid } σ H1) (h2 : k = false → ∀ H1, Ex H H1 → BW X s2 { D with nx := Mid } σ H1) (k' : ∀ σ' H', Mid σ' H' → BW X rest D σ' H') : BW X (.If c s1 s2 pos :: rest) D σ H :=
  BW.ite h (fun hk H1 e1 => (h1 hk H1 e1).mono k' (fun _ _ z => z) (fun _ _ z => z) (fun _ _ z => z)) (fun hk H1 e1 => (h2 hk H1 e1).mono k' (fun _ _ z => z) (fun _ _ z => z) (fun _ _ z => z))
theorem BW.whenC {s1 : List Stmt} {k : Bool} (Mid : L2.St → Hp → Prop) (h : TV X c σ H k) (h1 : k = true → ∀ H1, Ex H H1 → BW X s1 { D with nx := Mid } σ H1) (h2 : k = false → ∀ H1, Ex H H1 → Mid σ H1) (k' : ∀ σ' H', Mid σ' H' → BW X rest D σ' H') : BW X (.If c s1 [] pos :: rest) D σ H :=
  BW.iteC Mid h h1 (fun hk H1 e1 => BW.nil (h2 hk H1 e1)) k'
end
end QR

namespace QR
open PySem PySem.Spec PyProof.Rows L2 Evl
/-! ### the heap but for one list that grows -/
def hide (H : Hp) (l : Addr) : Hp := fun b => if b = l then none else H b
theorem hide_at {H : Hp} {l b : Addr} (h : b ≠ l) : hide H l b = H b := if_neg h
theorem hide_ex {H : Hp} {l : Addr} : Ex (hide H l) H := fun b o h => by
  unfold hide at h
  split at h
  · cases h
  · exact h
theorem hide_mono {H H1 : Hp} {l : Addr} (e : Ex H H1) : Ex (hide H l) (hide H1 l) := fun b o h => by
  unfold hide at h ⊢
  split at h
  · cases h
  · rename_i hb
    rw [if_neg hb]
    exact e _ _ h
theorem hide_upd {H : Hp} {l : Addr} {o : HO} : hide (upd H l o) l = hide H l := funext fun b => by
  unfold hide
  split
  · rfl
  · rename_i hb
    rw [upd_ne hb]
/-- a heap that does not know l stays, if l changes -/
theorem ex_hide {H0 H : Hp} {l : Addr} (e : Ex H0 H) (n : H0 l = none) : Ex H0 (hide H l) := fun b o h => by
  rw [hide_at (ne_of_none h n)]
  exact e _ _ h
theorem hide_out {H : Hp} {l : Addr} {o : HO} : Ex (hide H l) (upd H l o) := fun b u h => by
  unfold hide at h
  split at h
  · cases h
  · rename_i hb
    rw [upd_ne hb]
    exact h
theorem Is.hideT {K : PySem.W.Frag} {H : Hp} {l : Addr} {v : V} {us xs : List V} (h : Is K H v (.tup (us.map Sh.v))) (hl : H l = some (.lst xs)) : Is K (hide H l) v (.tup (us.map Sh.v)) := by
  obtain ⟨p, vs, rfl, hp, ha⟩ := h.ofU
  have e := ha.valsE
  subst e
  refine .tup ?_ (IsAll.vals _)
  rcases hp with (h | ⟨o, h⟩) | h
  · refine Or.inl (Or.inl ?_)
    rw [hide_at (by rintro rfl; rw [hl] at h; cases h)]
    exact h
  · refine Or.inl (Or.inr ⟨o, ?_⟩)
    rw [hide_at (by rintro rfl; rw [hl] at h; cases h)]
    exact h
  · exact Or.inr h
theorem Is.hideI {K : PySem.W.Frag} {H : Hp} {l : Addr} {v : V} {C : Addr} {fs : List (Str × V)} {xs : List V} (h : Is K H v (.ins C fs)) (hl : H l = some (.lst xs)) : Is K (hide H l) v (.ins C fs) := by
  obtain ⟨p, dx, rfl, hp⟩ := h.ofI
  refine .ins (dx := dx) ?_
  rw [hide_at (by rintro rfl; rw [hl] at hp; cases hp)]
  exact hp
section
variable {X : Cx} {e a b c o tg iter : Expr} {es : List Expr} {st : Stmt} {body rest : List Stmt} {σ : L2.St} {H : Hp} {D : Ends} {Q : VK} {v x y z : V} {pos p p2 q2 pr apos : Pos} {vs xs : List V} {f m : Str} {s t : Sh} {ss ts : List Sh}
theorem BW.appX {l : Addr} (hl : H l = some (.lst xs)) (ha : EV X a σ H (.ref l)) (h : EX X e σ H s) (hz : xs.length < 100000) (k : ∀ v H1, Ex H H1 → Is X.K H1 v s → BW X rest D σ (upd H1 l (.lst (xs ++ [v])))) (hs : noStar e = true := by rfl)
    (he : PE X (.Call (.Attribute a "append" apos) [e] [] p) (tBM X.K "list" rAppend (EW X a) (tArgs X [e])) := by exact pe_bm PySem.F.plainAttrs_list PySem.F.slot_list_append PySem.F.type_list_append mt_append pe_self (pa_all rfl))
    (hw : swapsWith (.Call (.Attribute a "append" apos) [e] [] p) none pos.line X.env = pure false := by rfl) : BW X (.Expr (.Call (.Attribute a "append" apos) [e] [] p) pos :: rest) D σ H :=
  BW.cons (ps_expr he hw) (ha.ev H (Ex.refl H) _ fun H1 e1 => ⟨.inl ⟨rfl, xs, sq_of (e1 l _ hl)⟩, h.ev H1 e1 _ fun v H2 e2 hv => ⟨l, xs, v, rfl, rfl, e2 l _ (e1 l _ hl), sz_lt hz, k v H2 (e1.trans e2) hv⟩⟩)
/-- the list that is appended is new -/
theorem BW.appL {l : Addr} {ys : List V} (hl : H l = some (.lst xs)) (ha : EV X a σ H (.ref l)) (h : EL X e σ H ys) (hz : xs.length < 100000) (k : ∀ q H1, H q = none → Ex H H1 → H1 q = some (.lst ys) → BW X rest D σ (upd H1 l (.lst (xs ++ [.ref q])))) (hs : noStar e = true := by rfl)
    (he : PE X (.Call (.Attribute a "append" apos) [e] [] p) (tBM X.K "list" rAppend (EW X a) (tArgs X [e])) := by exact pe_bm PySem.F.plainAttrs_list PySem.F.slot_list_append PySem.F.type_list_append mt_append pe_self (pa_all rfl))
    (hw : swapsWith (.Call (.Attribute a "append" apos) [e] [] p) none pos.line X.env = pure false := by rfl) : BW X (.Expr (.Call (.Attribute a "append" apos) [e] [] p) pos :: rest) D σ H :=
  BW.cons (ps_expr he hw) (ha.ev H (Ex.refl H) _ fun H1 e1 => ⟨.inl ⟨rfl, xs, sq_of (e1 l _ hl)⟩, h.ev H1 e1 _ fun q H2 np e2 hq => ⟨l, xs, .ref q, rfl, rfl, e2 l _ (e1 l _ hl), sz_lt hz, k q H2 (fresh_back e1 np) (e1.trans e2) hq⟩⟩)
end
section
variable {X : Cx} {e a b c d o : Expr} {es : List Expr} {σ : L2.St} {H : Hp} {z : V} {pos p : Pos} {xs : List V} {w : Str} {sp : Sp} {k j : Nat} {ss : List Sh}
/-- a call whose arguments are told by their shapes -/
theorem EV.callA (C : Fc X.prog X.w X.K X.mg X.base k w sp) (hr : Room j X.A) (ha : AX X (e :: es) σ H ss) (hv : ∀ vs H1, Ex H H1 → IsAll X.K H1 vs ss → SpV sp vs H1 z) (hk : k ≤ j := by decide) (hg : Gl X w := by rfl) (hs : (e :: es).all noStar = true := by rfl) (hdb : (w == ("__debug__" : Str)) = false := by decide) :
    EV X (.Call (.Name w p) (e :: es) [] pos) σ H z := EV.of (pe_fc C hr hk passLN hg hs hdb) fun H1 e1 Q q => ha.ev H1 e1 _ fun vs H2 e2 hvs => by
      show sp (vs ++ []) H2 Q E0
      rw [List.append_nil]
      exact hv vs H2 (e1.trans e2) hvs H2 (Ex.refl H2) Q (fun H3 e3 => q H3 (e2.trans e3)) _
theorem EL.callA (C : Fc X.prog X.w X.K X.mg X.base k w sp) (hr : Room j X.A) (ha : AX X (e :: es) σ H ss) (hv : ∀ vs H1, Ex H H1 → IsAll X.K H1 vs ss → SpL sp vs H1 xs) (hk : k ≤ j := by decide) (hg : Gl X w := by rfl) (hs : (e :: es).all noStar = true := by rfl) (hdb : (w == ("__debug__" : Str)) = false := by decide) :
    EL X (.Call (.Name w p) (e :: es) [] pos) σ H xs := EL.of (pe_fc C hr hk passLN hg hs hdb) fun H1 e1 Q q => ha.ev H1 e1 _ fun vs H2 e2 hvs => by
      show sp (vs ++ []) H2 Q E0
      rw [List.append_nil]
      exact hv vs H2 (e1.trans e2) hvs H2 (Ex.refl H2) Q (fun r H3 nr e3 h3 => q r H3 (fresh_back e2 nr) (e2.trans e3) h3) _
theorem EI.callA {C : Addr} {fs : List (Str × V)} (Cc : Fc X.prog X.w X.K X.mg X.base k w sp) (hr : Room j X.A) (ha : AX X (e :: es) σ H ss) (hv : ∀ vs H1, Ex H H1 → IsAll X.K H1 vs ss → SpI sp vs H1 C fs) (hk : k ≤ j := by decide) (hg : Gl X w := by rfl) (hs : (e :: es).all noStar = true := by rfl) (hdb : (w == ("__debug__" : Str)) = false := by decide) :
    EI X (.Call (.Name w p) (e :: es) [] pos) σ H C fs := ⟨fun H1 e1 Q q => EW.of (pe_fc Cc hr hk passLN hg hs hdb) (ha.ev H1 e1 _ fun vs H2 e2 hvs => by
      show sp (vs ++ []) H2 Q E0
      rw [List.append_nil]
      exact hv vs H2 (e1.trans e2) hvs H2 (Ex.refl H2) Q (fun r dx H3 nr e3 h3 => q r dx H3 (fresh_back e2 nr) (e2.trans e3) h3) _)⟩
theorem IsAll.two {K : PySem.W.Frag} {H : Hp} {vs : List V} {s t : Sh} (h : IsAll K H vs [s, t]) : ∃ u v, vs = [u, v] ∧ Is K H u s ∧ Is K H v t := by
  cases h with
  | cons a b => cases b with
    | cons b c => cases c with
      | nil => exact ⟨_, _, rfl, a, b⟩
theorem IsAll.one {K : PySem.W.Frag} {H : Hp} {vs : List V} {s : Sh} (h : IsAll K H vs [s]) : ∃ u, vs = [u] ∧ Is K H u s := by
  cases h with
  | cons a b => cases b with
    | nil => exact ⟨_, rfl, a⟩
theorem IsAll.three {K : PySem.W.Frag} {H : Hp} {vs : List V} {s t r : Sh} (h : IsAll K H vs [s, t, r]) : ∃ u v x, vs = [u, v, x] ∧ Is K H u s ∧ Is K H v t ∧ Is K H x r := by
  cases h with
  | cons a b =>
    obtain ⟨u, v, rfl, h1, h2⟩ := IsAll.two b
    exact ⟨_, _, _, rfl, a, h1, h2⟩
theorem AX.two {s t : Sh} (h : EX X a σ H s) (h2 : EX X b σ H t) : AX X [a, b] σ H [s, t] := AX.cons h (AX.one h2)
theorem AX.three {s t r : Sh} (h : EX X a σ H s) (h2 : EX X b σ H t) (h3 : EX X c σ H r) : AX X [a, b, c] σ H [s, t, r] := AX.cons h (AX.two h2 h3)
theorem TV.or4 {k1 k2 k3 k4 : Bool} (h : TV X a σ H k1) (h2 : k1 = false → TV X b σ H k2) (h3 : k1 = false → k2 = false → TV X c σ H k3) (h4 : k1 = false → k2 = false → k3 = false → TV X d σ H k4) : TV X (.BoolOp .Or [a, b, c, d] pos) σ H (k1 || (k2 || (k3 || k4))) := TV.bool (LV.or h fun q => LV.or (h2 q) fun r => LV.or (h3 q r) fun t => LV.or1 (h4 q r t))
end
theorem in0 (a b : Int) : inV (.int a) [.int 0, .int b] = decide (a = 0 ∨ a = b) := by
  have : (∀ x : Int, eqV (.int x) (.int a) = decide (a = x)) := fun x => by simp [eqV, Bool.beq_eq_decide_eq, eq_comm]
  simp only [inV, List.any_cons, List.any_nil, Bool.or_false, this, Bool.decide_or]
end QR

namespace QR
open PySem PySem.Spec PyProof.Rows L2 Evl
/-! ### the end: what the head tells -/
theorem fun_ofD {K : PySem.W.Frag} {x qual : Str} {st : Stmt} {f : Addr} {fd : FuncData} (F : FunD K x qual (defArgs st) (defBody st) (defScope st) [] [] f fd) : Fun K x qual st f fd := by
  obtain ⟨⟨oc, od, dV, kV, doc, pm, an, cdv, ct, osl, e, lk, hcd, hd, _⟩, kp⟩ := F
  rcases hd with ⟨_, rfl⟩ | ⟨hn, _⟩
  · exact ⟨⟨oc, od, kV, doc, pm, an, cdv, ct, osl, e, lk, hcd⟩, kp⟩
  · exact absurd rfl hn
/-- a def of the top, a method of a class -/
def dG (x : Str) (st : Stmt) : He.DefD := ⟨(x, none), x, x, defArgs st, defBody st, defScope st, [], []⟩
def dM (C m q : Str) (st : Stmt) : He.DefD := ⟨(C, some m), m, q, defArgs st, defBody st, defScope st, [], []⟩
abbrev ga (K : PySem.W.Frag) (x : Str) : Addr := He.ga K x
/-- what the kit of classes must say -/
def ciB (K : PySem.W.Frag) (x : Str) : Bool :=
  He.eqO (PySem.W.findIn K (.ref (ga K x)) "__class__") (some (some (.builtin "object.__class__"))) &&
  (He.eqO (PySem.W.specialIn K (.builtin "object.__class__") "__get__") (some (some (.builtin "getset_descriptor.__get__"))) &&
  (decide (PySem.W.takesIn K (.builtin "object.__class__") = some true) && decide (PySem.W.mroIn K (ga K x) (.type "object") = some true)))
def kitBB (K : PySem.W.Frag) (x y : Str) (b : Bool) : Bool := decide (PySem.W.kitOne K (.ref (ga K x)) (.ref (ga K y)) = some b)
theorem ci_ok {K : PySem.W.Frag} {mg : Str → Option Value} {x : Str} (hm : mg x = some (.ref (ga K x))) (hc : (He.Fa.cls x).ok K = true) (h : ciB K x = true) : Ci K mg x (ga K x) := by
  obtain ⟨h1, h⟩ := He.ba h
  obtain ⟨h2, h⟩ := He.ba h
  obtain ⟨h3, h4⟩ := He.ba h
  exact ⟨He.cls_ok hc, hm, He.eqO_ok h1, He.eqO_ok h2, of_decide_eq_true h3, of_decide_eq_true h4⟩
theorem kit_ok {K : PySem.W.Frag} {x y : Str} {b : Bool} (h : kitBB K x y b = true) : PySem.W.kitOne K (.ref (ga K x)) (.ref (ga K y)) = some b := of_decide_eq_true h
/-- the free names -/
def freeL : List Str := ["isinstance", "int", "bool", "list", "len", "all", "any", "abs", "range", "sum", "min", "max", "set", "enumerate", "sorted", "tuple", "str", "ValueError"]
section
variable {K : PySem.W.Frag} {h : Heap} {mg : Str → Option Value} {fa : List He.Fa} {fn : List He.DefD}
theorem fact_of (c : He.SaysD fa fn K) {f : He.Fa} (hf : f ∈ fa) : f.ok K = true := c.facts hf
theorem glo_of (X : K.In h) (G : h.Ns mainGlobals mg) (c : He.SaysD fa fn K) {x : Str} (hf : He.Fa.glo x ∈ fa) : mg x = some (.ref (ga K x)) := He.glo_ok X G (c.facts hf)
theorem free_of (X : K.In h) (G : h.Ns mainGlobals mg) (c : He.SaysD fa fn K) {x : Str} (hf : He.Fa.free x ∈ fa) : mg x = none := He.free_ok X G (c.facts hf)
end
end QR

namespace QR
open PySem PySem.Spec PyProof.Rows L2 Evl
/-! ### C() of a class without an __init__ of its own -/
structure MkN (K : PySem.W.Frag) (C : Addr) : Prop where
  makes : PySem.W.makesIn K C = true
  init : PySem.W.findIn K (.ref C) "__init__" = some (some (.builtin "object.__init__"))
  kp : PySem.W.keepIn K (.ref C) = true
def mkNB (K : PySem.W.Frag) (x : Str) : Bool := PySem.W.makesIn K (ga K x) && (He.eqO (PySem.W.findIn K (.ref (ga K x)) "__init__") (some (some (.builtin "object.__init__"))) && PySem.W.keepIn K (.ref (ga K x)))
theorem mkN_of {K : PySem.W.Frag} {x : Str} (h : mkNB K x = true) : MkN K (ga K x) := by
  obtain ⟨h1, h⟩ := He.ba h
  obtain ⟨h2, h3⟩ := He.ba h
  exact ⟨h1, He.eqO_ok h2, h3⟩
section
variable {X : Cx} {e a b c o : Expr} {es : List Expr} {rest : List Stmt} {D : Ends} {σ : L2.St} {H : Hp} {Q : VK} {v z : V} {pos p : Pos} {vs xs : List V} {x : Str} {C : Addr}
theorem run_makeN {pins : List (Addr × Obj)} {s : Shared} (M : MkN X.K C) (I : Inv X pins σ H s) (h : ∀ x dx, H x = none → H dx = none → dx ≠ x → Q (.ref x) (upd (upd H dx (.own x)) x (.ins C dx []))) :
    wpAny (model X.prog X.w) X.A (call (.ref C) []) (EP X pins σ Q) X.xe s := by
  have hq := h (s.heap.objs.size + 1) s.heap.objs.size (I.hok.fresh (Nat.le_succ _)) (I.hok.fresh (Nat.le_refl _)) (Nat.ne_of_lt (Nat.lt_succ_self _))
  have I2 := Inv.made (C := C) I
  refine wpAny_call (make_map0 I.kIn M.makes M.init (fun self => PySem.W.Looks.of_pure (PySem.W.oi_bind self)) ?_)
  have e2 : ((s.heap.push PySem.W.emptyDict).push (PySem.W.instObj C s.heap.objs.size)).get? (s.heap.objs.size + 1) = some (PySem.W.instObj C s.heap.objs.size) := by
    have := Heap.get?_push_size (s.heap.push PySem.W.emptyDict) (o := PySem.W.instObj C s.heap.objs.size) rfl
    rwa [Heap.size_push] at this
  have Y := PySem.W.makes_of (M := model X.prog X.w) I.kIn M.makes
  have t1 : PySem.W.Looks (model X.prog X.w) ((s.heap.push PySem.W.emptyDict).push (PySem.W.instObj C s.heap.objs.size)) (typeOf (.ref (s.heap.objs.size + 1))) (.ref C) := (PySem.W.Looks.ld e2).andThen .now
  have t2 : PySem.W.Looks (model X.prog X.w) ((s.heap.push PySem.W.emptyDict).push (PySem.W.instObj C s.heap.objs.size)) (isInstance (.ref (s.heap.objs.size + 1)) (.type "object")) true := t1.andThen (Y.top.keeps fun b o e => Heap.get?_push_of_some _ (Heap.get?_push_of_some _ e))
  refine codeAny_call_builtin PySem.W.oi_plain PySem.W.entry_oi (@PySem.W.check_slot (model X.prog X.w) _ _ _ "object.__init__" "object" "__init__" (.ref (s.heap.objs.size + 1)) [] [] _ PySem.W.oi_kind PySem.W.oi_split t2 (PySem.W.oi_args (.ref (s.heap.objs.size + 1))) ?_)
  rw [PySem.W.oi_run]
  exact wpAny_pure (And.intro rfl ⟨V.ref (s.heap.objs.size + 1), _, I2, rfl, hq⟩)
theorem EI.make0 (M : MkN X.K C) (hm : X.mg x = some (.ref C)) (hg : Gl X x := by rfl) (hdb : (x == ("__debug__" : Str)) = false := by decide) : EI X (.Call (.Name x p) [] [] pos) σ H C [] :=
  ⟨fun H1 e1 Q q => ⟨fun pins s I => by
    refine wpAny_Call_Name_kw (ld_glob I hg hm ?_ hdb)
    refine PySem.W.callWith_K0 I.kIn M.kp (run_makeN M I fun x dx nx ndx ne => ?_)
    refine q x dx _ nx (fun b u hb => ?_) upd_same
    rw [upd_ne (ne_of_none hb nx), upd_ne (ne_of_none hb ndx)]
    exact hb⟩⟩
theorem pt_chain3 {d : Expr} {ta tb tc td : TE} {op op' op'' : CmpOp} {r r' r'' : R2} (ho : OpR X (compareOp op) r) (ho' : OpR X (compareOp op') r') (ho'' : OpR X (compareOp op'') r'') (ha : PE X a ta) (hb : PE X b tb) (hc : PE X c tc) (hd : PE X d td)
    (hm : lastMarks [op, op', op''] [b, c, d] = false) : PT X (.Compare a [op, op', op''] [b, c, d] pos) (tTest (tChain3 r r' r'' ta tb tc td)) := by
  refine ⟨fun pins s σ H Q I h => ?_⟩
  refine isTrue_chain (thn (ha.run pins s σ H _ I h) fun v s1 ⟨x, H1, I1, r1, q1⟩ => test_link (thn (hb.run pins s1 σ H1 _ I1 q1) fun u s2 ⟨y, H2, I2, r2, q2⟩ =>
    thn (ho pins s2 σ H2 x y v u _ I2 r1 r2 q2) fun d s3 ⟨z, H3, I3, r3, k, e, q3⟩ => ?_)) hm
  subst e
  cases r3
  refine wpAny_truthy_bool ?_
  cases k with
  | false =>
    obtain ⟨k', e', q'⟩ := q3
    cases e'
    exact ite_ff ⟨H3, I3, q'⟩
  | true =>
    refine ite_tt (test_link (thn (hc.run pins s3 σ H3 _ I3 q3) fun w' s4 ⟨z', H4, I4, r4, q4⟩ => thn (ho' pins s4 σ H4 y z' u w' _ I4 r2 r4 q4) fun d' s5 ⟨z2, H5, I5, r5, k2, e2, q5⟩ => ?_))
    subst e2
    cases r5
    refine wpAny_truthy_bool ?_
    cases k2 with
    | false =>
      obtain ⟨k', e', q'⟩ := q5
      cases e'
      exact ite_ff ⟨H5, I5, q'⟩
    | true =>
      refine ite_tt (test_last (thn (hd.run pins s5 σ H5 _ I5 q5) fun w2 s6 ⟨z3, H6, I6, r6, q6⟩ => thn (ho'' pins s6 σ H6 z' z3 w' w2 _ I6 r4 r6 q6) fun d3 s7 ⟨z4, H7, I7, r7, k3, e3, q7⟩ => ?_))
      subst e3
      cases r7
      exact wpAny_truthy_bool ⟨H7, I7, q7⟩
theorem TV.leLtLt {d : Expr} {i j k l : Int} (ha : EV X a σ H (.int i)) (hb : EV X b σ H (.int j)) (hc : EV X c σ H (.int k)) (hd : EV X d σ H (.int l)) : TV X (.Compare a [.LtE, .Lt, .Lt] [b, c, d] pos) σ H (decide (i ≤ j) && (decide (j < k) && decide (k < l))) := by
  refine TV.of (pt_chain3 op_le op_lt op_lt pe_self pe_self pe_self pe_self (nomark d)) fun H1 e Q q => ?_
  refine ha.ev H1 e _ fun H2 e2 => hb.ev H2 (e.trans e2) _ fun H3 e3 => ⟨i, j, rfl, rfl, decide (i ≤ j), rfl, ?_⟩
  have g4 := e2.trans e3
  cases hk1 : decide (i ≤ j) with
  | false => exact ⟨_, rfl, by rw [hk1] at q; exact q H3 g4⟩
  | true =>
    refine hc.ev H3 (e.trans g4) _ fun H5 e5 => ⟨j, k, rfl, rfl, decide (j < k), rfl, ?_⟩
    have g6 := g4.trans e5
    cases hk2 : decide (j < k) with
    | false => exact ⟨_, rfl, by rw [hk1, hk2] at q; exact q H5 g6⟩
    | true => exact hd.ev H5 (e.trans g6) _ fun H7 e7 => ⟨k, l, rfl, rfl, _, rfl, by rw [hk1, hk2] at q; exact q H7 (g6.trans e7)⟩
/-! ### a call of a def that a slot holds -/
structure Hc (P : Program) (w : World) (K : PySem.W.Frag) (mg : Str → Option Value) (base : Heap) (k : Nat) (f : Addr) (sp : Sp) : Prop where
  ex : ∃ (fd : FuncData) (ps : List Str), FnOk P w K mg base (L2N.CX P w) k f fd ps sp ∧ PySem.W.keepIn K (.ref f) = true ∧ Binds K fd ps []
theorem Hc.of {P : Program} {w : World} {K : PySem.W.Frag} {mg : Str → Option Value} {base : Heap} {k : Nat} {x : Str} {sp : Sp} (C : Fc P w K mg base k x sp) : ∃ f, mg x = some (.ref f) ∧ Hc P w K mg base k f sp := by
  obtain ⟨f, fd, ps, F, hm, kp, bn⟩ := C.ex
  exact ⟨f, hm, ⟨fd, ps, F, kp, bn⟩⟩
theorem EV.callL {f : Addr} {sp : Sp} {k j : Nat} (i : Nat) (F : Hc X.prog X.w X.K X.mg X.base k f sp) (hr : Room j X.A) (hi : σ[i]? = some (some (.ref f))) (ha : AV X (e :: es) σ H vs) (hv : SpV sp vs H z) (hk : k ≤ j := by decide)
    (hN : X.N[i]? = some x := by rfl) (hvs : Vis X.env.scope x := by first | exact Or.inl rfl | exact Or.inr (Or.inl rfl) | exact Or.inr (Or.inr rfl)) (hs : (e :: es).all noStar = true := by rfl) (hdb : (x == ("__debug__" : Str)) = false := by decide) (hcd : (x == ("__classdict__" : Str)) = false := by decide) :
    EV X (.Call (.Name x p) (e :: es) [] pos) σ H z := by
  obtain ⟨fd, ps, F, kp, bn⟩ := F.ex
  refine EV.of (pe_callL (i := i) (f := f) (dvs := []) F (hr.mono hk) hN hvs kp bn .nil passLN (pa_all hs) hdb hcd (star_of (List.all_eq_true.mp hs e List.mem_cons_self) es) (back_any es (List.all_eq_true.mpr fun e' he => List.all_eq_true.mp hs e' (List.mem_cons_of_mem _ he)))) fun H1 e1 Q q => ⟨hi, ha.ev H1 e1 _ fun H2 e2 => ?_⟩
  rw [List.append_nil]
  exact hv H2 (e1.trans e2) Q (fun H3 e3 => q H3 (e2.trans e3)) _
/-- x = [e, ..], told so that the list may grow -/
theorem BW.asgD {n : Str} {ss : List Sh} (i : Nat) {lp : Pos} (hN : X.N.Nodup) (h : AX X es σ H ss) (k : ∀ q vs H1, H q = none → Ex H (hide H1 q) → H1 q = some (.lst vs) → IsAll X.K (hide H1 q) vs ss → BW X rest D (σ.set i (some (.ref q))) H1) (hl : ss.length ≤ 100000 := by exact Nat.le_of_ble_eq_true rfl) (hs : es.all noStar = true := by rfl)
    (hi : X.N[i]? = some n := by rfl) (hx : Loc X.env.scope n := by first | exact Or.inl rfl | exact Or.inr rfl) (hw : swapsWith (.List es lp) (some (.Name n p)) pos.line X.env = pure false := by rfl) (hf : X.fn n = true ∨ X.env.scope.names.lookup n = some .local := by first | exact .inl rfl | exact .inr rfl) : BW X (.Assign [.Name n p] (.List es lp) pos :: rest) D σ H :=
  BW.asgW hN hi hx (EW.of (pe_lst (pa_all hs)) (h.ev H (Ex.refl H) _ fun vs H2 e2 ha => ⟨sz_of (by rw [ha.len]; exact hl), fun q hq => k q vs _ (fresh_back e2 hq) (ex_hide (e2.trans (Ex.new hq)) (fresh_back e2 hq)) upd_same (ha.ex (ex_hide (Ex.new hq) hq))⟩)) hw hf
/-- xs.insert(i, v) -/
theorem BW.insert {l : Addr} {n : Nat} {apos : Pos} (hl : H l = some (.lst xs)) (ha : EV X a σ H (.ref l)) (h1 : EV X b σ H (.int (n : Int))) (h2 : EV X c σ H v) (hn : n < 2 ^ 62) (hz : xs.length < 100000) (k : ∀ H1, Ex H H1 → BW X rest D σ (upd H1 l (.lst (xs.take n ++ [v] ++ xs.drop n)))) (hs : [b, c].all noStar = true := by rfl)
    (he : PE X (.Call (.Attribute a "insert" apos) [b, c] [] p) (tBM X.K "list" (fun x vs H Q => ∃ (l : Addr) (xs : List V) (i : Int) (y : V), x = .ref l ∧ vs = [.int i, y] ∧ H l = some (.lst xs) ∧ xs.length < sizeLine ∧ 0 ≤ i ∧ i < 2 ^ 63 ∧ Q .non (upd H l (.lst (xs.take i.toNat ++ [y] ++ xs.drop i.toNat)))) (EW X a) (tArgs X [b, c])) := by exact pe_bm PySem.F.plainAttrs_list PySem.F.slot_list_insert PySem.F.type_list_insert mt_insert pe_self (pa_all rfl))
    (hw : swapsWith (.Call (.Attribute a "insert" apos) [b, c] [] p) none pos.line X.env = pure false := by rfl) : BW X (.Expr (.Call (.Attribute a "insert" apos) [b, c] [] p) pos :: rest) D σ H :=
  BW.cons (ps_expr he hw) (ha.ev H (Ex.refl H) _ fun H1 e1 => ⟨.inl ⟨rfl, xs, sq_of (e1 l _ hl)⟩, (AV.two h1 h2).ev H1 e1 _ fun H2 e2 => ⟨l, xs, (n : Int), v, rfl, rfl, e2 l _ (e1 l _ hl), sz_lt hz, by omega, by omega, k H2 (e1.trans e2)⟩⟩)
theorem EL.ite {k : Bool} (ht : TV X c σ H k) (h1 : k = true → EL X a σ H xs) (h2 : k = false → EL X b σ H xs) : EL X (.IfExp c a b pos) σ H xs :=
  ⟨fun H1 e1 Q q => EW.of (pe_ifExp pt_self pe_self pe_self) (ht.ev H1 e1 _ fun H2 e2 => by
    cases k with
    | true => exact (h1 rfl).ev H2 (e1.trans e2) Q fun p H3 np e3 hp => q p H3 (fresh_back e2 np) (e2.trans e3) hp
    | false => exact (h2 rfl).ev H2 (e1.trans e2) Q fun p H3 np e3 hp => q p H3 (fresh_back e2 np) (e2.trans e3) hp)⟩
theorem EI.ite {k : Bool} {fs : List (Str × V)} (ht : TV X c σ H k) (h1 : k = true → EI X a σ H C fs) (h2 : k = false → EI X b σ H C fs) : EI X (.IfExp c a b pos) σ H C fs :=
  ⟨fun H1 e1 Q q => EW.of (pe_ifExp pt_self pe_self pe_self) (ht.ev H1 e1 _ fun H2 e2 => by
    cases k with
    | true => exact (h1 rfl).ev H2 (e1.trans e2) Q fun p dx H3 np e3 hp => q p dx H3 (fresh_back e2 np) (e2.trans e3) hp
    | false => exact (h2 rfl).ev H2 (e1.trans e2) Q fun p dx H3 np e3 hp => q p dx H3 (fresh_back e2 np) (e2.trans e3) hp)⟩
/-- o.m(e, ..), all told by shapes -/
theorem EV.methX {m : Str} {apos : Pos} {fs : List (Str × V)} {ss : List Sh} {sp : Sp} {k j : Nat} {pl : Sem Bool} (M : Mc X.prog X.w X.K X.mg X.base k C m sp) (hr : Room j X.A) (h : EX X o σ H (.ins C fs)) (hl : fs.lookup m = none) (ha : AX X (e :: es) σ H ss)
    (hv : ∀ q dx vs H1, Ex H H1 → H1 q = some (.ins C dx fs) → IsAll X.K H1 vs ss → SpV sp (.ref q :: vs) H1 z) (hk : k ≤ j := by decide) (hs : (e :: es).all noStar = true := by rfl)
    (ht : eval (.Call (.Attribute o m apos) (e :: es) [] pos) X.env = (do
      let ov ← eval o X.env
      standAt apos.atName
      let (f, first) ← holding [ov] (getMethod ov m pl)
      callWith pos f first (backTo pos (starEach (e :: es) X.env)) (backToKw pos (keywordEach [] X.env))) := by rfl) : EV X (.Call (.Attribute o m apos) (e :: es) [] pos) σ H z := by
  obtain ⟨f, fd, ps, cl, me, F, bn⟩ := M.ex
  refine EV.of (pe_meth (pl := pl) pe_self cl me F (hr.mono hk) bn .nil passLN (pa_all hs) (star_of (List.all_eq_true.mp hs e List.mem_cons_self) es) (back_any es (List.all_eq_true.mpr fun e' he => List.all_eq_true.mp hs e' (List.mem_cons_of_mem _ he))) ht) fun H1 e1 Q kq => ?_
  refine h.ev H1 e1 _ fun v H2 e2 hi => ?_
  obtain ⟨ob, dx, rfl, ho⟩ := hi.ofI
  refine ⟨ob, dx, fs, rfl, ho, hl, ?_⟩
  refine ha.ev H2 (e1.trans e2) _ fun vs H3 e3 hvs => ?_
  rw [List.append_nil]
  exact hv ob dx vs H3 ((e1.trans e2).trans e3) (e3 _ _ ho) hvs H3 (Ex.refl H3) Q (fun H4 e4 => kq H4 ((e2.trans e3).trans e4)) _
/-! ### a new list of shapes of which only R is known -/
structure EQ (X : Cx) (e : Expr) (σ : L2.St) (H : Hp) (R : List Sh → Prop) : Prop where
  ev : ∀ H1, Ex H H1 → ∀ Q : VK, (∀ ss p vs H2, R ss → H1 p = none → Ex H1 H2 → H2 p = some (.lst vs) → IsAll X.K H2 vs ss → Q (.ref p) H2) → EW X e σ H1 Q
theorem EQ.ofN {ss : List Sh} (h : EN X e σ H ss) : EQ X e σ H (· = ss) := ⟨fun H1 e1 Q q => h.ev H1 e1 Q fun p vs H2 np e2 hp ha => q ss p vs H2 rfl np e2 hp ha⟩
theorem BW.asgQ {n : Str} {R : List Sh → Prop} (i : Nat) (hN : X.N.Nodup) (h : EQ X e σ H R) (k : ∀ ss q vs H1, R ss → H q = none → Ex H H1 → H1 q = some (.lst vs) → IsAll X.K H1 vs ss → BW X rest D (σ.set i (some (.ref q))) H1) (hi : X.N[i]? = some n := by rfl) (hx : Loc X.env.scope n := by first | exact Or.inl rfl | exact Or.inr rfl) (hs : swapsWith e (some (.Name n p)) pos.line X.env = pure false := by rfl) (hf : X.fn n = true ∨ X.env.scope.names.lookup n = some .local := by first | exact .inl rfl | exact .inr rfl) : BW X (.Assign [.Name n p] e pos :: rest) D σ H :=
  BW.asgW hN hi hx (h.ev H (Ex.refl H) _ k) hs hf
theorem EQ.cat {R S : List Sh → Prop} (ha : EQ X a σ H R) (hb : EQ X b σ H S) (hz : ∀ ss ts, R ss → S ts → ss.length + ts.length ≤ 100000) : EQ X (.BinOp a .Add b pos) σ H (fun us => ∃ ss ts, us = ss ++ ts ∧ R ss ∧ S ts) :=
  ⟨fun H1 e1 Q k => EW.of (pe_op op_catS pe_self pe_self) (ha.ev H1 e1 _ fun ss p vs H2 hR np e2 hp h1 => hb.ev H2 (e1.trans e2) _ fun ts q us H3 hS nq e3 hq h2 =>
    ⟨p, q, vs, us, rfl, rfl, sq_of (e3 _ _ hp), sq_of hq, sz_of (by rw [h1.len, h2.len]; exact hz ss ts hR hS), fun r hr => k (ss ++ ts) r _ _ ⟨ss, ts, rfl, hR, hS⟩ (fresh_back (e2.trans e3) hr) ((e2.trans e3).trans (Ex.new hr)) upd_same (((h1.ex e3).append h2).ex (Ex.new hr))⟩)⟩
theorem BW.forQ {tg iter : Expr} {body : List Stmt} {g : TG} {R : List Sh → Prop} (h : EQ X iter σ H R) (hg : PG X tg g) (Pv : List Sh → Hp → Nat → L2.St → Hp → Prop) (h0 : ∀ ss H1, R ss → Ex H H1 → Pv ss H1 0 σ H1) (hl : ∀ ss H1 i σ' H', Pv ss H1 i σ' H' → Ex H1 H')
    (hs : ∀ ss H1 i s v σ' H', R ss → Ex H H1 → ss[i]? = some s → Is X.K H' v s → Pv ss H1 i σ' H' → g v σ' H' fun σ2 H2 => BW X body (Ends.turn X rest D (Pv ss H1 (i + 1))) σ2 H2) (hd : ∀ ss H1 σ' H', R ss → Ex H H1 → Pv ss H1 ss.length σ' H' → BW X rest D σ' H')
    (hc : X.calm = true := by rfl) (hp : PassesOwn (model X.prog X.w) X.A X.env X.xe := by first | exact PassesOwn.never | exact passes_of rfl) (hfs : ∀ x, foldedSetIterable iter X.env x = pure x := by intro _; rfl) : BW X (.For tg iter body [] pos :: rest) D σ H := by
  refine BW.cons (ps_for hp hc (pi_list pe_self) hg pss_self hfs) (h.ev H (Ex.refl H) _ fun ss q vs H1 hR nq e1 hq ha => ?_)
  have hlen := ha.len
  refine ⟨q, rfl, ⟨vs, sq_of hq⟩, for_list (xs := vs) (Pv ss H1) (h0 ss H1 hR e1) (fun i σ' H' _ pv => sq_of (hl ss H1 i σ' H' pv _ _ hq)) (fun i x σ' H' hi pv => ?_) fun σ' H' pv => hd ss H1 σ' H' hR e1 (hlen ▸ pv)⟩
  obtain ⟨t, ht, it⟩ := ha.at' hi
  exact hs ss H1 i t x σ' H' hR e1 ht (it.ex (hl ss H1 i σ' H' pv)) pv
end
end QR

namespace QR
open PySem PySem.Spec PyProof.Rows L2 Evl
/-! ### lists of lists of whole numbers, as data -/
abbrev dLL (Ls : List (List Int)) : PyData := .list (Ls.map dI)
theorem eqvA_lists : ∀ Ls Ms : List (List Int), PyData.eqvAll (Ls.map dI) (Ms.map dI) = decide (Ls = Ms)
  | [], [] => by simp [PyData.eqvAll]
  | [], _ :: _ => by simp [PyData.eqvAll]
  | _ :: _, [] => by simp [PyData.eqvAll]
  | n :: ns, m :: ms => by
    have h := eqv_ints n m
    simp only [List.map_cons, PyData.eqvAll, h, eqvA_lists ns ms, List.cons.injEq, Bool.decide_and]
theorem eqv_lists (Ls Ms : List (List Int)) : PyData.eqv (dLL Ls) (dLL Ms) = decide (Ls = Ms) := by
  simp only [PyData.eqv, eqvA_lists]
theorem lay_lists : ∀ Ls : List (List Int), PyData.canLayAll0 (Ls.map dI) = true
  | [] => rfl
  | n :: ns => by simp [PyData.canLayAll0, PyData.canLay0, lay_ints, lay_lists ns]
theorem dep_lists : ∀ Ls : List (List Int), PyData.depthAll (Ls.map dI) ≤ 1
  | [] => Nat.zero_le _
  | n :: ns => by
    have := dep_lists ns
    simp [PyData.depthAll, PyData.depth, dep_ints]
    omega
theorem shaped_lists (Ls : List (List Int)) : SeqAt.shaped (dLL Ls) = true := by
  have := dep_lists Ls
  simp [SeqAt.shaped, PyData.canLay0, PyData.depth, lay_lists]
  omega
theorem dp_lists {K : PySem.W.Frag} {H : Hp} : ∀ {Ls : List (List Int)} {vs : List V}, IsAll K H vs (Ls.map Sh.ints) → DpAll K H vs (Ls.map dI)
  | [], _, .nil => .nil
  | L :: Ls, _, .cons a b => by
    obtain ⟨p, rfl, hp⟩ := a.ofInts
    exact .cons (.lst hp (dp_ints L)) (dp_lists b)
section
variable {X : Cx} {e a b c o : Expr} {es : List Expr} {rest : List Stmt} {D : Ends} {σ : L2.St} {H : Hp} {Q : VK} {v z : V} {pos p : Pos} {vs xs ys : List V} {x : Str} {C : Addr} {s t : Sh}
theorem ED.lists {Ls : List (List Int)} (h : EX X e σ H (.lst (Ls.map Sh.ints))) : ED X e σ H (dLL Ls) := ⟨fun H1 e1 Q q => h.ev H1 e1 Q fun v H2 e2 hv => by
  obtain ⟨p, vs, rfl, hp, ha⟩ := hv.ofL
  exact q _ H2 e2 (.lst hp (dp_lists ha))⟩
theorem TV.neLL {Ls Ms : List (List Int)} {k : Nat} (hr : Room k X.A) (ha : EX X a σ H (.lst (Ls.map Sh.ints))) (hb : EX X b σ H (.lst (Ms.map Sh.ints))) : TV X (.Compare a [.NotEq] [b] pos) σ H (!decide (Ls = Ms)) := TV.is (TV.neD hr (ED.lists ha) (ED.lists hb) (shaped_lists _) (shaped_lists _)) (by rw [eqv_lists])
/-- x, y = e1, e2, told by shapes -/
theorem BW.parA (i j : Nat) {n m : Str} {px py pt : Pos} {kt k2 pt2} (hN : X.N.Nodup) (ha : AX X [a, b] σ H [s, t]) (k : ∀ v w H1, Ex H H1 → Is X.K H1 v s → Is X.K H1 w t → BW X rest D ((σ.set i (some v)).set j (some w)) H1)
    (hi : X.N[i]? = some n := by rfl) (hj : X.N[j]? = some m := by rfl) (hij : i ≠ j := by decide) (hx : X.env.scope.names.lookup n = some .local := by rfl) (hy : X.env.scope.names.lookup m = some .local := by rfl) (hc : X.calm = true := by rfl)
    (hw : swappedStores [.Tuple [.Name n px, .Name m py] kt pt] (.Tuple [a, b] k2 pt2) X.env = pure (some [n, m]) := by rfl)
    (hs : swapsWithSole [.Tuple [.Name n px, .Name m py] kt pt] (.Tuple [a, b] k2 pt2) pos.line X.env = pure false := by rfl) (hst : [a, b].all noStar = true := by rfl) :
    BW X (.Assign [.Tuple [.Name n px, .Name m py] kt pt] (.Tuple [a, b] k2 pt2) pos :: rest) D σ H :=
  BW.cons (ps_par hc hN hi hj hij hx hy (pa_all hst) hw hs) (ha.ev H (Ex.refl H) _ fun vs H1 e1 hvs => by
    obtain ⟨v, w, rfl, hv, hw⟩ := hvs.two
    exact ⟨v, w, rfl, k v w H1 e1 hv hw⟩)
/-- x, y = e1, e2 by way of a pair (where a name is a cell) -/
theorem BW.parT (i j : Nat) {n m : Str} {px py pt : Pos} {kt k2 pt2} (hN : X.N.Nodup) (ha : AX X [a, b] σ H [s, t]) (k : ∀ v w H1, Ex H H1 → Is X.K H1 v s → Is X.K H1 w t → BW X rest D ((σ.set i (some v)).set j (some w)) H1)
    (hi : X.N[i]? = some n := by rfl) (hj : X.N[j]? = some m := by rfl) (hx : Loc X.env.scope n := by first | exact Or.inl rfl | exact Or.inr rfl) (hy : Loc X.env.scope m := by first | exact Or.inl rfl | exact Or.inr rfl) (hc : X.calm = true := by rfl)
    (hf1 : X.fn n = true ∨ X.env.scope.names.lookup n = some .local := by first | exact .inl rfl | exact .inr rfl) (hf2 : X.fn m = true ∨ X.env.scope.names.lookup m = some .local := by first | exact .inl rfl | exact .inr rfl)
    (hs : swapsWithSole [.Tuple [.Name n px, .Name m py] kt pt] (.Tuple [a, b] k2 pt2) pos.line X.env = pure false := by rfl) (hw : swappedStores [.Tuple [.Name n px, .Name m py] kt pt] (.Tuple [a, b] k2 pt2) X.env = pure none := by rfl) (hst : [a, b].all noStar = true := by rfl)
    (h1 : (assignEach [.Tuple [.Name n px, .Name m py] kt pt] X.env).map (·.2) = [assign (.Tuple [.Name n px, .Name m py] kt pt) X.env] := by rfl) :
    BW X (.Assign [.Tuple [.Name n px, .Name m py] kt pt] (.Tuple [a, b] k2 pt2) pos :: rest) D σ H :=
  BW.cons (ps_asg pe_self (pg_tup hc (pgs_cons (pg_name (i := i) hN hi hx hf1) (pgs_cons (pg_name (i := j) hN hj hy hf2) pgs_nil))) hs hw h1) ((EX.tup ha (Nat.le_of_ble_eq_true rfl) hst).ev H (Ex.refl H) _ fun v H1 e1 hv => by
    obtain ⟨p, vs, rfl, hp, hvs⟩ := hv.ofU
    obtain ⟨u, w, rfl, hu, hw⟩ := hvs.two
    exact ⟨p, [u, w], rfl, hp, rfl, u, [w], rfl, w, [], rfl, rfl, k u w H1 e1 hu hw⟩)
/-- x = [e1, e2], both new lists; their places -/
theorem BW.asgLL {n : Str} (i : Nat) {lp : Pos} (hN : X.N.Nodup) (ha : EL X a σ H xs) (hb : EL X b σ H ys) (k : ∀ l p q H1, H l = none → H p = none → H q = none → p ≠ q → l ≠ p → l ≠ q → Ex H H1 → H1 l = some (.lst [.ref p, .ref q]) → H1 p = some (.lst xs) → H1 q = some (.lst ys) → BW X rest D (σ.set i (some (.ref l))) H1)
    (hs : [a, b].all noStar = true := by rfl) (hi : X.N[i]? = some n := by rfl) (hx : Loc X.env.scope n := by first | exact Or.inl rfl | exact Or.inr rfl) (hw : swapsWith (.List [a, b] lp) (some (.Name n p)) pos.line X.env = pure false := by rfl) (hf : X.fn n = true ∨ X.env.scope.names.lookup n = some .local := by first | exact .inl rfl | exact .inr rfl) : BW X (.Assign [.Name n p] (.List [a, b] lp) pos :: rest) D σ H :=
  BW.asgW hN hi hx (EW.of (pe_lst (pa_all hs)) (ha.ev H (Ex.refl H) _ fun p H1 np e1 hp => hb.ev H1 e1 _ fun q H2 nq e2 hq => ⟨sz_of (Nat.le_of_ble_eq_true rfl), fun l hl => by
    have hp2 := e2 _ _ hp
    have lp : l ≠ p := fun z => by rw [z, hp2] at hl; cases hl
    have lq : l ≠ q := fun z => by rw [z, hq] at hl; cases hl
    have pq : p ≠ q := fun z => by rw [← z, hp] at nq; cases nq
    exact k l p q _ (fresh_back (e1.trans e2) hl) np (fresh_back e1 nq) pq lp lq ((e1.trans e2).trans (Ex.new hl)) upd_same (by rw [upd_ne lp.symm]; exact hp2) (by rw [upd_ne lq.symm]; exact hq)⟩)) hw hf
/-- xs.index(v) -/
theorem EV.index {l : Addr} {ns : List Int} {i : Int} {apos : Pos} (ha : EV X a σ H (.ref l)) (hl : SqL X.K H l (ns.map V.int)) (h : EV X e σ H (.int i)) (hm : i ∈ ns)
    (he : PE X (.Call (.Attribute a "index" apos) [e] [] p) (tBM X.K "list" (rIndex X.K) (EW X a) (tArgs X [e])) := by exact pe_bm PySem.F.plainAttrs_list PySem.F.slot_list_index PySem.F.type_list_index mt_index pe_self (pa_all rfl)) :
    EV X (.Call (.Attribute a "index" apos) [e] [] p) σ H (.int (ns.idxOf i : Nat)) :=
  EV.of he fun H1 e1 Q q => ha.ev H1 e1 _ fun H2 e2 => ⟨.inl ⟨rfl, _, ex_l (e1.trans e2) hl⟩, (AV.one h).ev H2 (e1.trans e2) _ fun H3 e3 => by
    have hlt := List.idxOf_lt_length_of_mem hm
    refine ⟨l, ns.map V.int, .int i, ns.idxOf i, .int i, rfl, rfl, ex_l ((e1.trans e2).trans e3) hl, rfl, ?_, ?_, ?_, ?_, q H3 (e2.trans e3)⟩
    · rw [List.all_map]
      exact List.all_eq_true.mpr fun _ _ => rfl
    · rw [List.getElem?_map, List.getElem?_eq_getElem hlt, List.getElem_idxOf hlt]
      rfl
    · simp [eqV]
    · intro m z' hm' hz
      rw [List.getElem?_map] at hz
      cases hz2 : ns[m]? with
      | none => rw [hz2] at hz; cases hz
      | some c =>
        rw [hz2] at hz
        cases Option.some.inj hz
        have hne : c ≠ i := by
          intro e
          have h1 := List.not_of_lt_findIdx (p := fun x => x == i) (xs := ns) (show m < ns.findIdx (fun x => x == i) from hm')
          have := (List.getElem?_eq_some_iff.mp hz2)
          obtain ⟨hlt2, hc⟩ := this
          rw [hc, e] at h1
          simp at h1
        simp [eqV, hne]⟩
end
end QR

namespace QR
open PySem PySem.Spec PyProof.Rows L2 Evl
/-! ### try .. except x as n, as a block; the exception's context is None -/
section
variable {X : Cx} {σ : L2.St} {H : Hp} {D : Ends} {rest body suite : List Stmt} {b₀ : Stmt} {x n : Str} {c : Value} {np pos pos' : Pos} {Wout : WX}
def tSuite (X : Cx) (st : List Stmt) : Addr → Value → Option Addr → TS := fun a cls d D σ H => ∀ (oe : Obj) (pn : List (Addr × Obj)), L2N.Zn cls d oe → (∃ vs, oe.data = .fields vs) → BW (X.suite a ((a, oe) :: pn)) st D σ H
theorem BW.tryAs (i : Nat) (nd : X.N.Nodup) (hc : Names X x c) (tk : L2N.Takes X Wout)
    (hb : ∀ (W : WX) (pn : List (Addr × Obj)) (xe : Value → Shared → Prop), W = wAs X.K c i (tSuite X (b₀ :: suite)) Wout (Ends.bef X rest D) → L2N.Takes (X.tr pn xe) W → BW (X.tr pn xe) body (Ends.bef X rest D) σ H)
    (hs : X.stack = X.env :: X.outer := by rfl) (hf : X.env.frame = some X.env.locals := by rfl) (hi : X.N[i]? = some n := by rfl) (hln : X.env.kindOf n = some .local := by rfl) :
    BW X (.Try body [.ExceptHandler (some (.Name x np)) (some n) (b₀ :: suite) pos'] [] [] pos :: rest) D σ H := by
  refine BW.cons (L2N.ps_try_as (i := i) (tb := fun W D σ H => ∀ (pn : List (Addr × Obj)) (xe : Value → Shared → Prop), L2N.Takes (X.tr pn xe) W → BW (X.tr pn xe) body D σ H) (ts := tSuite X (b₀ :: suite)) hs hf nd hi hln hc tk (fun W pn xe tk' _ => ⟨fun pins s σ H D I h => (h pn xe tk').run pins s I⟩)
    (fun a oe cls d pn hz hf => ⟨fun pins s σ H D I h => (h oe pn hz hf).run pins s I⟩)) ?_
  intro pn xe tk'
  exact hb _ pn xe rfl tk'
/-- the handled exception stands in the suite's context -/
theorem hotC {a : Addr} {oe : Obj} {cls : Value} {d : Option Addr} {pn : List (Addr × Obj)} (hz : L2N.Zn cls d oe) (hf : ∃ vs, oe.data = .fields vs) : L2H.HotC (X.suite a ((a, oe) :: pn)) := by
  obtain ⟨vs, hv⟩ := hf
  exact ⟨(a, oe), ⟨rfl, vs, hv, hz.2.2 vs hv⟩, List.mem_cons_self⟩
end
end QR

namespace QR
open PySem PySem.Spec PyProof.Rows L2 Evl
/-! ### [e for x in range(n)] while an exception is handled -/
section
variable {X : Cx}
abbrev Rg (it : Addr) (n i : Nat) (h : Heap) : Prop := IsRangeIter h it ((i : Nat) : Int) ((n : Int) - (i : Nat)) 1
theorem rg_obj {it : Addr} {n i : Nat} {h : Heap} (st : Rg it n i h) : ∃ o, h.get? it = some o ∧ ∀ v, o.data ≠ .cell v := ⟨_, st, fun v z => nomatch (show Data.fields _ = Data.cell v from z)⟩
/-- the iterator has come -/
def PIH (X : Cx) (pins : List (Addr × Obj)) (σ : L2.St) (R : It → Hp → Prop) (u : Value) (s2 : Shared) : Prop := ∃ (it : Addr) (n : Nat) (H' : Hp), u = .ref it ∧ Inv X pins σ H' s2 ∧ Rg it n 0 s2.heap ∧ FpOk X pins H' it ∧ R (Itr 0 n) H'
theorem range_hot {pins : List (Addr × Obj)} {σ : L2.St} {H : Hp} {s : Shared} {R : It → Hp → Prop} {E : Value → Shared → Prop} {hi : Int} {t u v : Tok} {tk : Nat} (I : Inv X pins σ H s) (h3 : -(2 ^ 62) ≤ hi) (h4 : hi < 2 ^ 62) (q : R (Itr 0 hi.toNat) H) :
    wpAny (model X.prog X.w) X.A (pyIter (.ref s.heap.objs.size)) (PIH X pins σ R) E { s with heap := s.heap.push { cls := .type "range", data := .fields #[.int 0 t, .int hi u, .int 1 v] }, toks := tk } := by
  refine wpAny_pyIter_range (IsRange.new ..) (small_one (by omega) (by omega) h3 h4) ?_
  have J : Inv X pins σ H { s with heap := s.heap.push { cls := .type "range", data := .fields #[.int 0 t, .int hi u, .int 1 v] }, toks := tk } := I.kept fun b o e => Heap.get?_push_of_some _ e
  refine ⟨_, hi.toNat, H, rfl, J.kept (t' := tk) fun b o e => Heap.get?_push_of_some _ e, ?_, J.fpOk (Nat.le_refl _) (J.hok.fresh (Nat.le_refl _)), q⟩
  have e : ((hi.toNat : Nat) : Int) - ((0 : Nat) : Int) = Builtin.Range.rangeSize 0 hi 1 := by rw [rangeSize_one]; split <;> omega
  show IsRangeIter _ _ ((0 : Nat) : Int) (((hi.toNat : Nat) : Int) - ((0 : Nat) : Int)) 1
  rw [e]
  exact Heap.get?_push_size _ rfl
theorem iter_hot {a : Expr} {ta : TA} {p pos : Pos} {pins : List (Addr × Obj)} {σ : L2.St} {H : Hp} {s : Shared} {R : It → Hp → Prop} (I : Inv X pins σ H s) (hg : Gl X "range") (hm : X.mg "range" = none) (ha : PA X [a] ta) (hs : starEach [a] X.env = [(false, eval a X.env)]) (h : iRng1 ta σ H R) :
    wpAny (model X.prog X.w) X.A (eval (.Call (.Name "range" p) [a] [] pos) X.env) (fun v s1 => wpAny (model X.prog X.w) X.A (pyIter v) (PIH X pins σ R) X.xe s1) X.xe s := by
  refine Call_ (ld_blt I hg hm boot_range (PyProof.Rows.callWith_type1 (thn (ha.run pos pins s σ H _ I h) fun us s1 ⟨vs, H1, J, r, k⟩ => ?_) hs rfl))
  obtain ⟨j, rfl, k1, k2, k3⟩ := k
  obtain ⟨u, rfl, t, rfl⟩ := r.one
  exact call_range_1 (range_hot J k1 k2 k3)
theorem pe_lcHot {elt a : Expr} {x : Str} {scope : Scope} {own : List (Str × Nat)} {px pr p2 pos : Pos} {ta : TA} {g : TG} {te : TE} (hot : L2H.HotC X) (hstk : X.stack = X.env :: X.outer) (hfrm : X.env.frame = some X.env.locals) (hN : X.N.Nodup) (hgl : Gl X "range") (hm : X.mg "range" = none) (ha : PA X [a] ta) (hst : starEach [a] X.env = [(false, eval a X.env)]) (ok : BlkOk X.N X.env.scope scope own)
    (hg : ∀ (s : Shared) (H : Hp) (C : Addr) (cl : List (Str × Addr)) (fp : List Addr), PG (X.blk s H scope (compEnvC scope cl C X.env) fp) (.Name x px) g) (he : ∀ (s : Shared) (H : Hp) (C : Addr) (cl : List (Str × Addr)) (fp : List Addr), PE (X.blk s H scope (compEnvC scope cl C X.env) fp) elt te) :
    PE X (.ListComp elt [⟨.Name x px, .Call (.Name "range" pr) [a] [] p2, [], 0⟩] scope pos) (tLc (iRng1 ta) g tYes te (own.map (·.2))) := by
  refine ⟨fun pins s σ H Q I h => ?_⟩
  rw [eval_ListComp]
  have hfree : ∀ y ∈ scope.names, y.2 = .free → ∃ c, X.env.cells.lookup y.1 = some c := fun y hy e => (ok.free y hy e).elim (fun k => I.ok.has _ (.inl k)) (fun k => I.ok.has _ (.inr k))
  refine wpAny_comprehension_free rfl (fun _ => rfl) (closure_ok hfree) ok.kind (fun y hy e => by rw [ok.uniq y hy, e]) (thn (iter_hot I hgl hm ha hst h) fun xv s1 hx => thn hx fun itv s2 h2 => ?_)
  obtain ⟨it, n, H2, rfl, I2, st2, f2, q⟩ := h2
  refine wpAny_newObj_type (newEnv_comp ?_) (by show 0 ≤ sizeLine; decide)
  generalize hD : s2.heap.objs.size = D
  have nD : H2 D = none := I2.hok.fresh (Nat.le_of_eq hD)
  obtain ⟨W, ⟨m0, w0⟩, turn⟩ := q D nD
  generalize hs3 : ({ s2 with heap := s2.heap.push { cls := .type "list", data := .seq ([] : List Value).toArray } } : Shared) = s3
  have h3 : s3.heap = s2.heap.push { cls := .type "list", data := .seq ([] : List Value).toArray } := by rw [← hs3]
  have I3 : Inv X pins σ (upd H2 D (.lst [])) s3 := by
    rw [← hs3]
    exact I2.laid (t' := s2.toks) (fun b o e => Heap.get?_push_of_some _ e) (Nat.le_of_eq hD) ⟨Nat.zero_le _, [], 0, .nil, by rw [← hD]; exact Heap.get?_push_size _ rfl⟩
  have lt2 : it < s2.heap.objs.size := (rg_obj st2).elim fun o e => Heap.lt_size e.1
  have f3 : ∀ b ∈ [it], FpOk X pins (upd H2 D (.lst [])) b ∧ b < s3.heap.objs.size := fun b hb => by
    obtain rfl : b = it := by simpa using hb
    exact ⟨⟨by rw [upd_ne (by rw [← hD]; exact Nat.ne_of_lt lt2)]; exact f2.1, f2.2⟩, by rw [h3, Heap.size_push]; exact Nat.lt_succ_of_lt lt2⟩
  have st3 : Rg it n 0 s3.heap := by rw [h3]; exact Heap.get?_push_of_some _ st2
  have I4 := block_start I3 ok hN f3
  have pg := hg s3 (upd H2 D (.lst [])) s3.heap.objs.size (cellsFrom (s3.heap.objs.size + 1) scope.names (cloFrom X.env.cells scope.names [])) [it]
  have pe := he s3 (upd H2 D (.lst [])) s3.heap.objs.size (cellsFrom (s3.heap.objs.size + 1) scope.names (cloFrom X.env.cells scope.names [])) [it]
  show codeAny _ _ (.compStart _ 0 (.ref it) (.ref D) (compEnvC scope (cellsFrom (s3.heap.objs.size + 1) scope.names (cloFrom X.env.cells scope.names [])) s3.heap.objs.size X.env)) (compPost (model X.prog X.w) X.A X.xe _ _ (.ref D) s3.heap.objs.size) { s3 with heap := pushCells (s3.heap.push { cls := .type "dict", data := .dict #[] }) scope.names }
  have nit : (upd H2 D (.lst [])) it = none := (f3 it List.mem_cons_self).1.1
  generalize hce : compEnvC scope (cellsFrom (s3.heap.objs.size + 1) scope.names (cloFrom X.env.cells scope.names [])) s3.heap.objs.size X.env = ce at I4 pg pe ⊢
  have cL : ce.locals = s3.heap.objs.size := by subst hce; rfl
  generalize hH3 : upd H2 D (.lst []) = H3 at I3 I4 pg pe w0 nit f3
  generalize hs4 : ({ s3 with heap := pushCells (s3.heap.push { cls := .type "dict", data := .dict #[] }) scope.names } : Shared) = s4 at I4 ⊢
  have st4 : Rg it n 0 s4.heap := by rw [← hs4]; exact pushCells_keeps _ _ _ _ (Heap.get?_push_of_some _ st3)
  obtain ⟨⟨x1, oe⟩, ⟨hh, ve, hve, hc2⟩, hpn⟩ := hot
  have pin3 := I3.pin (x1, oe) (List.mem_append_left _ hpn)
  -- the handled exception stays as it is
  have hotB : ∀ {σ' : L2.St} {H' : Hp} {s' : Shared}, Inv (X.blk s3 H3 scope ce [it]) [] σ' H' s' → HotX.HotAt X.A x1 s'.heap := fun {σ' H' s'} J => by
    refine ⟨hh, oe, ve, J.base.keep x1 oe pin3.1 pin3.2.1 ?_ ?_, hve, hc2⟩
    · show x1 ∉ frs X.stack
      rw [hstk]
      intro z
      unfold frs at z
      rw [List.filterMap_cons, hfrm] at z
      rcases List.mem_cons.mp z with z | z
      · exact pin3.2.2.1 z
      · exact pin3.2.2.2.1 z
    · intro z
      have z' : x1 = it := by simpa using z
      exact (f3 it List.mem_cons_self).1.2.2.2.2.2 (x1, oe) (List.mem_append_left _ hpn) z'
  have stat : ∀ {σ' : L2.St} {H' : Hp} {s' : Shared}, Inv (X.blk s3 H3 scope ce [it]) [] σ' H' s' → H' it = none → FpOk (X.blk s3 H3 scope ce [it]) [] H' it := fun {σ' H' s'} J hn =>
    ⟨hn, (J.ok.exf it List.mem_cons_self).1, J.ok.exfs it List.mem_cons_self, .inl List.mem_cons_self, fun x c e => (J.ok.exf it List.mem_cons_self).2 x c e, fun p hp => absurd (show p ∈ ([] : List (Addr × Obj)) ++ [] from hp) (by simp)⟩
  have loop : codeAny (model X.prog X.w) X.A (.compLoop (.ListComp elt [⟨.Name x px, .Call (.Name "range" pr) [a] [] p2, [], 0⟩] scope pos) 0 (.ref it) (.ref D) ce) (compPost (model X.prog X.w) X.A X.xe none (EP X pins σ Q) (.ref D) s3.heap.objs.size) s4 := by
    refine compLoop_any (fun m s' => ∃ i H', Inv (X.blk s3 H3 scope ce [it]) [] (wipe σ (own.map (·.2))) H' s' ∧ Rg it n i s'.heap ∧ H' it = none ∧ W i m H') ?_ m0 ⟨0, H3, I4, st4, nit, w0⟩
    rintro m s5 ⟨i, H5, I5, st5, n5, w5⟩
    obtain ⟨g0, g1, g2, g3, g4, g5⟩ := stat I5 n5
    rcases turn i m H5 w5 with ⟨stop, qq⟩ | ⟨go, Nx, hNx, step⟩
    · have stop' : n ≤ i := stop
      refine HotX.pyNext_range_end_hot (hotB I5) st5 (by omega) fun h' kp => ?_
      have I6 : Inv (X.blk s3 H3 scope ce [it]) [] (wipe σ (own.map (·.2))) H5 { s5 with heap := h' } := I5.kept (t' := s5.toks) kp
      have I7 : Inv X pins σ H5 { s5 with heap := h' } := I3.call' (ch := [it]) I6.os I6.base I6.hok I6.bare fun b hb => ⟨(f3 b hb).1.2.2.2.1, (f3 b hb).1.2.1, (f3 b hb).1.2.2.2.2.1, (f3 b hb).1.2.2.2.2.2⟩
      have nC : H5 s3.heap.objs.size = none := cL ▸ (show H5 ce.locals = none from I6.free)
      obtain ⟨mm, hn, _⟩ := I6.loc
      have hn' : ({ s5 with heap := h' } : Shared).heap.Ns s3.heap.objs.size mm := cL ▸ (show ({ s5 with heap := h' } : Shared).heap.Ns ce.locals mm from hn)
      obtain ⟨k0, k1, k2, k3, k4, k5⟩ := I3.fpOk (Nat.le_refl _) nC
      exact ⟨mm, hn', fun h'' sb => ⟨.ref D, H5, I7.turned (t' := s5.toks) (fun b o hb e => (sb.2 b hb).trans e) k0 k1 k3 k4 k5, rfl, qq⟩⟩
    · have go' : i < n := go
      refine wpAny_pyNext_range_item st5 (by omega) fun h' st' sb => ?_
      have I7 : Inv (X.blk s3 H3 scope ce [it]) [] (wipe σ (own.map (·.2))) H5 { s5 with heap := h', toks := s5.toks + 1 } := I5.turned (fun b o hb e => (sb.2 b hb).trans e) g0 g1 g3 g4 g5
      have st7 : Rg it n (i + 1) h' := by
        have e1 : ((i + 1 : Nat) : Int) = (i : Int) + 1 := by omega
        show IsRangeIter h' it ((i + 1 : Nat) : Int) ((n : Int) - ((i + 1 : Nat) : Int)) 1
        rw [e1, ← Int.sub_sub]
        exact st'
      refine wpAny_pure ?_
      have I7' := I7.pinned (fp := [it]) (fun b hb => by obtain rfl : b = it := (by simpa using hb); exact stat I7 n5) (fun b hb => by obtain rfl : b = it := (by simpa using hb); exact rg_obj st7)
      have yl : (Itr 0 n).yld i H5 (.int (i : Int)) H5 := ⟨rfl, by rw [Int.zero_add]⟩
      refine thnF (pg.run _ _ _ H5 (.int (i : Int)) _ _ I7' ⟨s5.toks, rfl⟩ (step _ H5 yl)) fun _ s8 ⟨σ8, H8, I8, hw8, q8⟩ => ?_
      refine wpAny_tests_nil ?_
      rw [if_pos rfl]
      have q8' : te σ8 H8 fun y H4 => ∃ acc, H4 D = some (.lst acc) ∧ acc.length < sizeLine ∧ Nx (upd H4 D (.lst (acc ++ [y]))) := q8
      refine thnF (pe.run _ s8 σ8 H8 _ I8 q8') fun z s10 ⟨yv, H10, I10, r10, acc, hD10, hz10, nx⟩ => ?_
      refine app_ok (X := X.blk s3 H3 scope ce [it]) I10 hD10 hz10 r10 fun s11 I11 => ?_
      obtain ⟨m', hm', w'⟩ := hNx _ nx
      obtain ⟨oi, ei, ci⟩ := rg_obj st7
      have pz := I11.pin (it, oi) (List.mem_append_right _ (List.mem_append_right _ (mem_pinsAt List.mem_cons_self ei)))
      have st11 : Rg it n (i + 1) s11.heap := by
        have := pz.1
        rw [← ei] at this
        exact this.trans st7
      refine ⟨m', hm', i + 1, _, (I11.unpinned (pins := [])).weak (by rw [← hw8, wipe_length]) (fun j v e => ?_), st11, pz.2.1, w'⟩
      rw [← hw8] at e
      exact (wipe_some e).1
  exact codeAny_compStart_list loop (wpAny_pyIter_rangeiter st4 loop)
end
end QR

namespace QR
/-! ### the mathematics of the told setting -/
def colE (m r : Int) : Int := if m % 6 ≠ 2 then (if r < m / 2 then 2 * r + 1 else 2 * (r - m / 2)) else if r < m / 2 then (2 * r + m / 2 - 1) % m else m - 1 - (2 * (m - 1 - r) + m / 2 - 1) % m
def rowE (m c : Int) : Int := if m % 6 ≠ 2 then (if c % 2 = 1 then c / 2 else m / 2 + c / 2) else if (c - m / 2 + 1) % m % 2 = 0 then (c - m / 2 + 1) % m / 2 else m - 1 - (m - c - m / 2) % m / 2
def colF (n r : Int) : Int := if n % 2 = 1 then (if r = n - 1 then r else colE (n - 1) r) else colE n r
def rowF (n c : Int) : Int := if n % 2 = 1 then (if c = n - 1 then c else rowE (n - 1) c) else rowE n c
theorem mod_lo {x m : Int} (h0 : 0 ≤ x) (h1 : x < m) : x % m = x := Int.emod_eq_of_lt h0 h1
theorem mod_hi {x m : Int} (h0 : m ≤ x) (h1 : x < 2 * m) : x % m = x - m := by
  have : x % m = (x - m) % m := by rw [Int.sub_emod_right]
  rw [this]
  exact Int.emod_eq_of_lt (by omega) (by omega)
theorem mod_neg {x m : Int} (h0 : -m ≤ x) (h1 : x < 0) : x % m = x + m := by
  have : x % m = (x + m) % m := by rw [Int.add_emod_right]
  rw [this]
  exact Int.emod_eq_of_lt (by omega) (by omega)
/-- the column, by cases -/
def ColC (m r c : Int) : Prop := (m % 6 ≠ 2 ∧ (r < m / 2 ∧ c = 2 * r + 1 ∨ m / 2 ≤ r ∧ c = 2 * (r - m / 2))) ∨
  (m % 6 = 2 ∧ (r < m / 2 ∧ (c = 2 * r + m / 2 - 1 ∧ c < m ∨ c = 2 * r + m / 2 - 1 - m ∧ 0 ≤ c) ∨ m / 2 ≤ r ∧ (c = m - 1 - (2 * (m - 1 - r) + m / 2 - 1) ∧ 0 ≤ c ∨ c = m - 1 - (2 * (m - 1 - r) + m / 2 - 1 - m) ∧ c < m)))
theorem col_c {m r : Int} (he : m % 2 = 0) (h0 : 0 ≤ r) (h1 : r < m) : ColC m r (colE m r) := by
  unfold colE ColC
  by_cases h6 : m % 6 = 2
  · right
    refine ⟨h6, ?_⟩
    rw [if_neg (by omega)]
    by_cases hr : r < m / 2
    · left
      refine ⟨hr, ?_⟩
      rw [if_pos hr]
      by_cases hx : 2 * r + m / 2 - 1 < m
      · left
        rw [mod_lo (by omega) hx]
        omega
      · right
        rw [mod_hi (by omega) (by omega)]
        omega
    · right
      refine ⟨by omega, ?_⟩
      rw [if_neg hr]
      by_cases hx : 2 * (m - 1 - r) + m / 2 - 1 < m
      · left
        rw [mod_lo (by omega) hx]
        omega
      · right
        rw [mod_hi (by omega) (by omega)]
        omega
  · left
    refine ⟨h6, ?_⟩
    rw [if_pos h6]
    by_cases hr : r < m / 2
    · left
      rw [if_pos hr]
      omega
    · right
      rw [if_neg hr]
      omega
theorem colE_bounds {m r : Int} (he : m % 2 = 0) (h0 : 0 ≤ r) (h1 : r < m) : 0 ≤ colE m r ∧ colE m r < m := by
  have h := col_c he h0 h1
  unfold ColC at h
  omega
theorem colE_off {m r : Int} (he : m % 2 = 0) (h2 : m ≠ 2) (h0 : 0 ≤ r) (h1 : r < m) : colE m r ≠ r := by
  have h := col_c he h0 h1
  unfold ColC at h
  omega
theorem colE_peace {m r s : Int} (he : m % 2 = 0) (h2 : m ≠ 2) (h0 : 0 ≤ r) (h1 : r < s) (h3 : s < m) : colE m r ≠ colE m s ∧ colE m r - colE m s ≠ s - r ∧ colE m s - colE m r ≠ s - r := by
  have a := col_c he h0 (by omega : r < m)
  have b := col_c he (by omega : 0 ≤ s) h3
  generalize colE m r = c at a ⊢
  generalize colE m s = d at b ⊢
  unfold ColC at a b
  rcases a with ⟨a6, a | a⟩ | ⟨a6, ⟨ar, a | a⟩ | ⟨ar, a | a⟩⟩ <;> rcases b with ⟨b6, b | b⟩ | ⟨b6, ⟨br, b | b⟩ | ⟨br, b | b⟩⟩ <;> first | (exfalso; omega) | (refine ⟨?_, ?_, ?_⟩ <;> omega)
theorem rowE_col {m r : Int} (he : m % 2 = 0) (h0 : 0 ≤ r) (h1 : r < m) : rowE m (colE m r) = r := by
  have h := col_c he h0 h1
  generalize colE m r = c at h ⊢
  unfold ColC at h
  unfold rowE
  rcases h with ⟨h6, h | h⟩ | ⟨h6, ⟨hr, h | h⟩ | ⟨hr, h | h⟩⟩
  · rw [if_pos h6, if_pos (by omega)]
    omega
  · rw [if_pos h6, if_neg (by omega)]
    omega
  · rw [if_neg (by omega)]
    have e : (c - m / 2 + 1) % m = 2 * r := by rw [mod_lo (by omega) (by omega)]; omega
    rw [e, if_pos (by omega)]
    omega
  · rw [if_neg (by omega)]
    have e : (c - m / 2 + 1) % m = 2 * r := by rw [mod_neg (by omega) (by omega)]; omega
    rw [e, if_pos (by omega)]
    omega
  · rw [if_neg (by omega)]
    have e : (c - m / 2 + 1) % m % 2 = 1 := by
      by_cases hx : 0 ≤ c - m / 2 + 1
      · rw [mod_lo hx (by omega)]
        omega
      · rw [mod_neg (x := c - m / 2 + 1) (m := m) (by omega) (by omega)]
        omega
    rw [if_neg (by omega)]
    have e2 : (m - c - m / 2) % m = 2 * (m - 1 - r) := by rw [mod_lo (by omega) (by omega)]; omega
    rw [e2]
    omega
  · rw [if_neg (by omega)]
    have e : (c - m / 2 + 1) % m % 2 = 1 := by
      by_cases hx : 0 ≤ c - m / 2 + 1
      · rw [mod_lo hx (by omega)]
        omega
      · rw [mod_neg (x := c - m / 2 + 1) (m := m) (by omega) (by omega)]
        omega
    rw [if_neg (by omega)]
    have e2 : (m - c - m / 2) % m = 2 * (m - 1 - r) := by rw [mod_neg (by omega) (by omega)]; omega
    rw [e2]
    omega
theorem rowE_c {m c : Int} (he : m % 2 = 0) (h2 : m ≠ 2) (h0 : 0 ≤ c) (h1 : c < m) : 0 ≤ rowE m c ∧ rowE m c < m ∧ colE m (rowE m c) = c := by
  unfold rowE
  by_cases h6 : m % 6 = 2
  · rw [if_neg (by omega)]
    by_cases hx : 0 ≤ c - m / 2 + 1
    · rw [mod_lo hx (by omega)]
      by_cases hp : (c - m / 2 + 1) % 2 = 0
      · rw [if_pos hp]
        refine ⟨by omega, by omega, ?_⟩
        unfold colE
        rw [if_neg (by omega), if_pos (by omega), mod_lo (by omega) (by omega)]
        omega
      · rw [if_neg hp]
        by_cases hy : 0 ≤ m - c - m / 2
        · rw [mod_lo hy (by omega)]
          refine ⟨by omega, by omega, ?_⟩
          unfold colE
          rw [if_neg (by omega), if_neg (by omega), mod_lo (by omega) (by omega)]
          omega
        · rw [mod_neg (by omega) (by omega)]
          refine ⟨by omega, by omega, ?_⟩
          unfold colE
          rw [if_neg (by omega), if_neg (by omega), mod_hi (by omega) (by omega)]
          omega
    · rw [mod_neg (x := c - m / 2 + 1) (m := m) (by omega) (by omega)]
      by_cases hp : (c - m / 2 + 1 + m) % 2 = 0
      · rw [if_pos hp]
        refine ⟨by omega, by omega, ?_⟩
        unfold colE
        rw [if_neg (by omega), if_pos (by omega), mod_hi (by omega) (by omega)]
        omega
      · rw [if_neg hp]
        by_cases hy : 0 ≤ m - c - m / 2
        · rw [mod_lo hy (by omega)]
          refine ⟨by omega, by omega, ?_⟩
          unfold colE
          rw [if_neg (by omega), if_neg (by omega), mod_lo (by omega) (by omega)]
          omega
        · rw [mod_neg (by omega) (by omega)]
          refine ⟨by omega, by omega, ?_⟩
          unfold colE
          rw [if_neg (by omega), if_neg (by omega), mod_hi (by omega) (by omega)]
          omega
  · rw [if_pos h6]
    by_cases hp : c % 2 = 1
    · rw [if_pos hp]
      refine ⟨by omega, by omega, ?_⟩
      unfold colE
      rw [if_pos h6, if_pos (by omega)]
      omega
    · rw [if_neg hp]
      refine ⟨by omega, by omega, ?_⟩
      unfold colE
      rw [if_pos h6, if_neg (by omega)]
      omega
theorem colF_bounds {n r : Int} (h0 : 0 ≤ r) (h1 : r < n) : 0 ≤ colF n r ∧ colF n r < n := by
  unfold colF
  split
  · split
    · omega
    · have := colE_bounds (m := n - 1) (r := r) (by omega) h0 (by omega)
      omega
  · exact colE_bounds (by omega) h0 h1
theorem rowF_col {n r : Int} (h0 : 0 ≤ r) (h1 : r < n) : rowF n (colF n r) = r := by
  unfold colF rowF
  split
  · split
    · omega
    · have := colE_bounds (m := n - 1) (r := r) (by omega) h0 (by omega)
      rw [if_neg (by omega)]
      exact rowE_col (by omega) h0 (by omega)
  · exact rowE_col (by omega) h0 h1
theorem rowF_c {n c : Int} (h2 : n ≠ 2) (h3 : n ≠ 3) (h0 : 0 ≤ c) (h1 : c < n) : 0 ≤ rowF n c ∧ rowF n c < n ∧ colF n (rowF n c) = c := by
  unfold rowF
  split
  · rename_i hn
    split
    · rename_i hc
      refine ⟨by omega, by omega, ?_⟩
      unfold colF
      rw [if_pos hn, if_pos hc]
    · obtain ⟨a, b, d⟩ := rowE_c (m := n - 1) (c := c) (by omega) (by omega) h0 (by omega)
      refine ⟨a, by omega, ?_⟩
      unfold colF
      rw [if_pos hn, if_neg (by omega)]
      exact d
  · rename_i hn
    obtain ⟨a, b, d⟩ := rowE_c (m := n) (c := c) (by omega) h2 h0 h1
    refine ⟨a, b, ?_⟩
    unfold colF
    rw [if_neg hn]
    exact d
theorem colF_peace' {n r s : Int} (h2 : n ≠ 2) (h3 : n ≠ 3) (h0 : 0 ≤ r) (h1 : r < s) (hs : s < n) : colF n r ≠ colF n s ∧ colF n r - colF n s ≠ s - r ∧ colF n s - colF n r ≠ s - r := by
  unfold colF
  split
  · rw [if_neg (by omega)]
    split
    · rename_i hl
      have := colE_bounds (m := n - 1) (r := r) (by omega) h0 (by omega)
      have := colE_off (m := n - 1) (r := r) (by omega) (by omega) h0 (by omega)
      omega
    · exact colE_peace (by omega) (by omega) h0 h1 (by omega)
  · exact colE_peace (by omega) h2 h0 h1 hs
/-- no two take one another -/
theorem colF_peace {n r s : Int} (h2 : n ≠ 2) (h3 : n ≠ 3) (h0 : 0 ≤ r) (h0' : r < n) (h1 : 0 ≤ s) (h1' : s < n) (hne : r ≠ s) : (colF n r - colF n s).natAbs ≠ 0 ∧ (colF n r - colF n s).natAbs ≠ (r - s).natAbs := by
  rcases Int.lt_or_gt_of_ne hne with h | h
  · have := colF_peace' h2 h3 h0 h h1'
    omega
  · have := colF_peace' h2 h3 h1 h h0'
    omega
end QR

namespace QR
open PySem PySem.Spec PyProof.Rows L2 Evl

def topS (i : Nat) : Stmt := PySem.Challenge.pw_queenrows_k06_refused.main.body.getD i (.Pass ⟨0, 0, 0, 0⟩)
/-! _wall : 0:k -/
abbrev s_wall : Stmt := topS 0
abbrev n_wall : List Str := ["k"]
theorem sc_wall : FnScope n_wall ["k"] (defScope s_wall) := ⟨rfl, rfl, rfl, by decide +kernel, rfl, by decide +kernel, by decide +kernel⟩
/-! is_number : 0:thing 1:least -/
abbrev s_is_number : Stmt := topS 10
abbrev n_is_number : List Str := ["thing", "least"]
theorem sc_is_number : FnScope n_is_number ["thing", "least"] (defScope s_is_number) := ⟨rfl, rfl, rfl, by decide +kernel, rfl, by decide +kernel, by decide +kernel⟩
/-! check_size : 0:size -/
abbrev s_check_size : Stmt := topS 11
abbrev n_check_size : List Str := ["size"]
theorem sc_check_size : FnScope n_check_size ["size"] (defScope s_check_size) := ⟨rfl, rfl, rfl, by decide +kernel, rfl, by decide +kernel, by decide +kernel⟩
/-! check_setting : 0:setting 1:column -/
abbrev s_check_setting : Stmt := topS 12
abbrev n_check_setting : List Str := ["setting", "column"]
theorem sc_check_setting : FnScope n_check_setting ["setting"] (defScope s_check_setting) := ⟨rfl, rfl, rfl, by decide +kernel, rfl, by decide +kernel, by decide +kernel⟩
/-! take : 0:setting 1:one 2:other 3:apart -/
abbrev s_take : Stmt := topS 13
abbrev n_take : List Str := ["setting", "one", "other", "apart"]
theorem sc_take : FnScope n_take ["setting", "one", "other"] (defScope s_take) := ⟨rfl, rfl, rfl, by decide +kernel, rfl, by decide +kernel, by decide +kernel⟩
/-! take_joined : 0:setting 1:one 2:other 3:size 4:on -/
abbrev s_take_joined : Stmt := topS 14
abbrev n_take_joined : List Str := ["setting", "one", "other", "size", "on"]
theorem sc_take_joined : FnScope n_take_joined ["setting", "one", "other"] (defScope s_take_joined) := ⟨rfl, rfl, rfl, by decide +kernel, rfl, by decide +kernel, by decide +kernel⟩
/-! first_taking : 0:setting 1:taking 2:other 3:one -/
abbrev s_first_taking : Stmt := topS 15
abbrev n_first_taking : List Str := ["setting", "taking", "other", "one"]
theorem sc_first_taking : FnScope n_first_taking ["setting", "taking"] (defScope s_first_taking) := ⟨rfl, rfl, rfl, by decide +kernel, rfl, by decide +kernel, by decide +kernel⟩
/-! column_of : 0:size 1:row 2:half -/
abbrev s_column_of : Stmt := topS 17
abbrev n_column_of : List Str := ["size", "row", "half"]
theorem sc_column_of : FnScope n_column_of ["size", "row"] (defScope s_column_of) := ⟨rfl, rfl, rfl, by decide +kernel, rfl, by decide +kernel, by decide +kernel⟩
/-! row_at : 0:size 1:column 2:half 3:on -/
abbrev s_row_at : Stmt := topS 18
abbrev n_row_at : List Str := ["size", "column", "half", "on"]
theorem sc_row_at : FnScope n_row_at ["size", "column"] (defScope s_row_at) := ⟨rfl, rfl, rfl, by decide +kernel, rfl, by decide +kernel, by decide +kernel⟩
/-! check_peaceful : 0:size -/
abbrev s_check_peaceful : Stmt := topS 19
abbrev n_check_peaceful : List Str := ["size"]
theorem sc_check_peaceful : FnScope n_check_peaceful ["size"] (defScope s_check_peaceful) := ⟨rfl, rfl, rfl, by decide +kernel, rfl, by decide +kernel, by decide +kernel⟩
/-! check_place : 0:size 1:place -/
abbrev s_check_place : Stmt := topS 20
abbrev n_check_place : List Str := ["size", "place"]
theorem sc_check_place : FnScope n_check_place ["size", "place"] (defScope s_check_place) := ⟨rfl, rfl, rfl, by decide +kernel, rfl, by decide +kernel, by decide +kernel⟩
/-! column : 0:size 1:row -/
abbrev s_column : Stmt := topS 21
abbrev n_column : List Str := ["size", "row"]
theorem sc_column : FnScope n_column ["size", "row"] (defScope s_column) := ⟨rfl, rfl, rfl, by decide +kernel, rfl, by decide +kernel, by decide +kernel⟩
/-! row_of : 0:size 1:column -/
abbrev s_row_of : Stmt := topS 22
abbrev n_row_of : List Str := ["size", "column"]
theorem sc_row_of : FnScope n_row_of ["size", "column"] (defScope s_row_of) := ⟨rfl, rfl, rfl, by decide +kernel, rfl, by decide +kernel, by decide +kernel⟩
/-! setting : 0:size 1:row -/
abbrev s_setting : Stmt := topS 23
abbrev n_setting : List Str := ["size", "row"]
theorem sc_setting : FnScope n_setting ["size"] (defScope s_setting) := ⟨rfl, rfl, rfl, by decide +kernel, rfl, by decide +kernel, by decide +kernel⟩
/-! Peace.shows : 0:self 1:setting -/
abbrev s_Peace_shows : Stmt := inClass (topS 26) 0
abbrev n_Peace_shows : List Str := ["self", "setting"]
theorem sc_Peace_shows : FnScope n_Peace_shows ["self", "setting"] (defScope s_Peace_shows) := ⟨rfl, rfl, rfl, by decide +kernel, rfl, by decide +kernel, by decide +kernel⟩
/-! JoinedPeace.shows : 0:self 1:setting -/
abbrev s_JoinedPeace_shows : Stmt := inClass (topS 27) 0
abbrev n_JoinedPeace_shows : List Str := ["self", "setting"]
theorem sc_JoinedPeace_shows : FnScope n_JoinedPeace_shows ["self", "setting"] (defScope s_JoinedPeace_shows) := ⟨rfl, rfl, rfl, by decide +kernel, rfl, by decide +kernel, by decide +kernel⟩
/-! Take.__init__ : 0:self 1:one 2:other -/
abbrev s_Take___init__ : Stmt := inClass (topS 28) 0
abbrev n_Take___init__ : List Str := ["self", "one", "other"]
theorem sc_Take___init__ : FnScope n_Take___init__ ["self", "one", "other"] (defScope s_Take___init__) := ⟨rfl, rfl, rfl, by decide +kernel, rfl, by decide +kernel, by decide +kernel⟩
/-! Take.shows : 0:self 1:setting -/
abbrev s_Take_shows : Stmt := inClass (topS 28) 1
abbrev n_Take_shows : List Str := ["self", "setting"]
theorem sc_Take_shows : FnScope n_Take_shows ["self", "setting"] (defScope s_Take_shows) := ⟨rfl, rfl, rfl, by decide +kernel, rfl, by decide +kernel, by decide +kernel⟩
/-! JoinedTake.__init__ : 0:self 1:one 2:other -/
abbrev s_JoinedTake___init__ : Stmt := inClass (topS 29) 0
abbrev n_JoinedTake___init__ : List Str := ["self", "one", "other"]
theorem sc_JoinedTake___init__ : FnScope n_JoinedTake___init__ ["self", "one", "other"] (defScope s_JoinedTake___init__) := ⟨rfl, rfl, rfl, by decide +kernel, rfl, by decide +kernel, by decide +kernel⟩
/-! JoinedTake.shows : 0:self 1:setting -/
abbrev s_JoinedTake_shows : Stmt := inClass (topS 29) 1
abbrev n_JoinedTake_shows : List Str := ["self", "setting"]
theorem sc_JoinedTake_shows : FnScope n_JoinedTake_shows ["self", "setting"] (defScope s_JoinedTake_shows) := ⟨rfl, rfl, rfl, by decide +kernel, rfl, by decide +kernel, by decide +kernel⟩
/-! Step.__init__ : 0:self 1:step -/
abbrev s_Step___init__ : Stmt := inClass (topS 30) 0
abbrev n_Step___init__ : List Str := ["self", "step"]
theorem sc_Step___init__ : FnScope n_Step___init__ ["self", "step"] (defScope s_Step___init__) := ⟨rfl, rfl, rfl, by decide +kernel, rfl, by decide +kernel, by decide +kernel⟩
/-! Step.shows : 0:self 1:size -/
abbrev s_Step_shows : Stmt := inClass (topS 30) 1
abbrev n_Step_shows : List Str := ["self", "size"]
theorem sc_Step_shows : FnScope n_Step_shows ["self", "size"] (defScope s_Step_shows) := ⟨rfl, rfl, rfl, by decide +kernel, rfl, by decide +kernel, by decide +kernel⟩
/-! Barred.__init__ : 0:self 1:by -/
abbrev s_Barred___init__ : Stmt := inClass (topS 31) 0
abbrev n_Barred___init__ : List Str := ["self", "by"]
theorem sc_Barred___init__ : FnScope n_Barred___init__ ["self", "by"] (defScope s_Barred___init__) := ⟨rfl, rfl, rfl, by decide +kernel, rfl, by decide +kernel, by decide +kernel⟩
/-! Barred.shows : 0:self 1:size -/
abbrev s_Barred_shows : Stmt := inClass (topS 31) 1
abbrev n_Barred_shows : List Str := ["self", "size"]
theorem sc_Barred_shows : FnScope n_Barred_shows ["self", "size"] (defScope s_Barred_shows) := ⟨rfl, rfl, rfl, by decide +kernel, rfl, by decide +kernel, by decide +kernel⟩
/-! told : 0:setting 1:found -/
abbrev s_told : Stmt := topS 33
abbrev n_told : List Str := ["setting", "found"]
theorem sc_told : FnScope n_told ["setting"] (defScope s_told) := ⟨rfl, rfl, rfl, by decide +kernel, rfl, by decide +kernel, by decide +kernel⟩
/-! told_joined : 0:setting 1:found -/
abbrev s_told_joined : Stmt := topS 34
abbrev n_told_joined : List Str := ["setting", "found"]
theorem sc_told_joined : FnScope n_told_joined ["setting"] (defScope s_told_joined) := ⟨rfl, rfl, rfl, by decide +kernel, rfl, by decide +kernel, by decide +kernel⟩
/-! step : 0:size 1:by -/
abbrev s_step : Stmt := topS 35
abbrev n_step : List Str := ["size", "by"]
theorem sc_step : FnScope n_step ["size"] (defScope s_step) := ⟨rfl, rfl, rfl, by decide +kernel, rfl, by decide +kernel, by decide +kernel⟩
/-! mirrored : 0:setting 1:column -/
abbrev s_mirrored : Stmt := topS 37
abbrev n_mirrored : List Str := ["setting", "column"]
theorem sc_mirrored : FnScope n_mirrored ["setting"] (defScope s_mirrored) := ⟨rfl, rfl, rfl, by decide +kernel, rfl, by decide +kernel, by decide +kernel⟩
/-! upended : 0:setting -/
abbrev s_upended : Stmt := topS 38
abbrev n_upended : List Str := ["setting"]
theorem sc_upended : FnScope n_upended ["setting"] (defScope s_upended) := ⟨rfl, rfl, rfl, by decide +kernel, rfl, by decide +kernel, by decide +kernel⟩
/-! exchanged : 0:setting 1:row -/
abbrev s_exchanged : Stmt := topS 39
abbrev n_exchanged : List Str := ["setting", "row"]
theorem sc_exchanged : FnScope n_exchanged ["setting"] (defScope s_exchanged) := ⟨rfl, rfl, rfl, by decide +kernel, rfl, by decide +kernel, by decide +kernel⟩
/-! product : 0:outer 1:inner 2:found 3:high 4:low -/
abbrev s_product : Stmt := topS 40
abbrev n_product : List Str := ["outer", "inner", "found", "high", "low"]
theorem sc_product : FnScope n_product ["outer", "inner"] (defScope s_product) := ⟨rfl, rfl, rfl, by decide +kernel, rfl, by decide +kernel, by decide +kernel⟩
/-! _law_with_size : 0:_law_door 1:_law_thing -/
abbrev s_law_with_size : Stmt := topS 42
abbrev n_law_with_size : List Str := ["_law_door", "_law_thing"]
theorem sc_law_with_size : FnScope n_law_with_size ["_law_door", "_law_thing"] (defScope s_law_with_size) := ⟨rfl, rfl, rfl, by decide +kernel, rfl, by decide +kernel, by decide +kernel⟩
/-! _law_with_none : 0:_law_door 1:_law_thing -/
abbrev s_law_with_none : Stmt := topS 43
abbrev n_law_with_none : List Str := ["_law_door", "_law_thing"]
theorem sc_law_with_none : FnScope n_law_with_none ["_law_door", "_law_thing"] (defScope s_law_with_none) := ⟨rfl, rfl, rfl, by decide +kernel, rfl, by decide +kernel, by decide +kernel⟩
/-! _law_with_place : 0:_law_door 1:_law_thing -/
abbrev s_law_with_place : Stmt := topS 44
abbrev n_law_with_place : List Str := ["_law_door", "_law_thing"]
theorem sc_law_with_place : FnScope n_law_with_place ["_law_door", "_law_thing"] (defScope s_law_with_place) := ⟨rfl, rfl, rfl, by decide +kernel, rfl, by decide +kernel, by decide +kernel⟩
/-! _law_with_setting : 0:_law_door 1:_law_thing -/
abbrev s_law_with_setting : Stmt := topS 45
abbrev n_law_with_setting : List Str := ["_law_door", "_law_thing"]
theorem sc_law_with_setting : FnScope n_law_with_setting ["_law_door", "_law_thing"] (defScope s_law_with_setting) := ⟨rfl, rfl, rfl, by decide +kernel, rfl, by decide +kernel, by decide +kernel⟩
/-! _law_with_product : 0:_law_door 1:_law_thing -/
abbrev s_law_with_product : Stmt := topS 46
abbrev n_law_with_product : List Str := ["_law_door", "_law_thing"]
theorem sc_law_with_product : FnScope n_law_with_product ["_law_door", "_law_thing"] (defScope s_law_with_product) := ⟨rfl, rfl, rfl, by decide +kernel, rfl, by decide +kernel, by decide +kernel⟩
/-! _law_with_taking : 0:_law_door 1:_law_thing -/
abbrev s_law_with_taking : Stmt := topS 47
abbrev n_law_with_taking : List Str := ["_law_door", "_law_thing"]
theorem sc_law_with_taking : FnScope n_law_with_taking ["_law_door", "_law_thing"] (defScope s_law_with_taking) := ⟨rfl, rfl, rfl, by decide +kernel, rfl, by decide +kernel, by decide +kernel⟩
/-! _law_due : 0:_law_ask 1:_law_door 2:_law_thing 3:_law_due_here 4:error 5:_law_found 6:_law_k -/
abbrev s_law_due : Stmt := topS 48
abbrev n_law_due : List Str := ["_law_ask", "_law_door", "_law_thing", "_law_due_here", "error", "_law_found", "_law_k"]
theorem sc_law_due : FnScope n_law_due ["_law_ask", "_law_door", "_law_thing", "_law_due_here"] (defScope s_law_due) := ⟨rfl, rfl, rfl, by decide +kernel, rfl, by decide +kernel, by decide +kernel⟩
/-! _law_bad_sizes : 0:_law_cell -/
abbrev s_law_bad_sizes : Stmt := topS 49
abbrev n_law_bad_sizes : List Str := ["_law_cell"]
theorem sc_law_bad_sizes : FnScope n_law_bad_sizes ["_law_cell"] (defScope s_law_bad_sizes) := ⟨rfl, rfl, rfl, by decide +kernel, rfl, by decide +kernel, by decide +kernel⟩
/-! _law_none : 0:_law_cell -/
abbrev s_law_none : Stmt := topS 50
abbrev n_law_none : List Str := ["_law_cell"]
theorem sc_law_none : FnScope n_law_none ["_law_cell"] (defScope s_law_none) := ⟨rfl, rfl, rfl, by decide +kernel, rfl, by decide +kernel, by decide +kernel⟩
/-! _law_bad_places : 0:_law_cell -/
abbrev s_law_bad_places : Stmt := topS 51
abbrev n_law_bad_places : List Str := ["_law_cell"]
theorem sc_law_bad_places : FnScope n_law_bad_places ["_law_cell"] (defScope s_law_bad_places) := ⟨rfl, rfl, rfl, by decide +kernel, rfl, by decide +kernel, by decide +kernel⟩
/-! _law_bad_settings : 0:_law_cell 1:_law_many 2:_law_row 3:_law_some -/
abbrev s_law_bad_settings : Stmt := topS 52
abbrev n_law_bad_settings : List Str := ["_law_cell", "_law_many", "_law_row", "_law_some"]
theorem sc_law_bad_settings : FnScope n_law_bad_settings ["_law_cell"] (defScope s_law_bad_settings) := ⟨rfl, rfl, rfl, by decide +kernel, rfl, by decide +kernel, by decide +kernel⟩
/-! _law_products : 0:_law_cell 1:_law_wide -/
abbrev s_law_products : Stmt := topS 53
abbrev n_law_products : List Str := ["_law_cell", "_law_wide"]
theorem sc_law_products : FnScope n_law_products ["_law_cell"] (defScope s_law_products) := ⟨rfl, rfl, rfl, by decide +kernel, rfl, by decide +kernel, by decide +kernel⟩
/-! _law_takings : 0:_law_cell 1:_law_far -/
abbrev s_law_takings : Stmt := topS 54
abbrev n_law_takings : List Str := ["_law_cell", "_law_far"]
theorem sc_law_takings : FnScope n_law_takings ["_law_cell"] (defScope s_law_takings) := ⟨rfl, rfl, rfl, by decide +kernel, rfl, by decide +kernel, by decide +kernel⟩
/-! law : 0:_law_script 1:_law_kinds 2:_law_ask 3:_law_doors 4:_law_things 5:_law_due_here 6:_law_door 7:_law_thing 8:_law_cell 9:_law_some -/
abbrev s_law : Stmt := topS 55
abbrev n_law : List Str := ["_law_script", "_law_kinds", "_law_ask", "_law_doors", "_law_things", "_law_due_here", "_law_door", "_law_thing", "_law_cell", "_law_some"]
theorem sc_law : FnScope n_law ["_law_script"] (defScope s_law) := ⟨rfl, rfl, rfl, by decide +kernel, rfl, by decide +kernel, by decide +kernel⟩
end QR

namespace QR
open PySem PySem.Spec PyProof.Rows L2 Evl
/-- the built-ins' names are the built-ins' -/
structure Bl (mg : Str → Option Value) : Prop where
  isinstance : mg "isinstance" = none
  int : mg "int" = none
  bool : mg "bool" = none
  list : mg "list" = none
  len : mg "len" = none
  all : mg "all" = none
  any : mg "any" = none
  abs : mg "abs" = none
  range : mg "range" = none
  sum : mg "sum" = none
  min : mg "min" = none
  max : mg "max" = none
  set : mg "set" = none
  enumerate : mg "enumerate" = none
  sorted : mg "sorted" = none
  tuple : mg "tuple" = none
  str : mg "str" = none
  valueError : mg "ValueError" = none
def numB : V → Int → Bool
  | .int i, l => decide (l ≤ i)
  | _, _ => false
def kinds : List String := ["NoneType", "bool", "int", "str", "list", "tuple", "dict"]
theorem num_kit {K : PySem.W.Frag} {H : Hp} {x : V} {n : String} (ty : TyX K H x (.type n)) (hn : n ∈ kinds) :
    (∃ i, x = .int i ∧ n = "int") ∨ (∃ b, x = .bl b ∧ n = "bool") ∨ ((∀ l, numB x l = false) ∧ kitB n "int" = some false) := by
  cases ty with
  | base b =>
    cases b with
    | non => exact .inr (.inr ⟨fun _ => rfl, by decide +kernel⟩)
    | bl b => exact .inr (.inl ⟨b, rfl, rfl⟩)
    | int i => exact .inl ⟨i, rfl, rfl⟩
    | str x => exact .inr (.inr ⟨fun _ => rfl, by decide +kernel⟩)
    | flt x => exact absurd hn (by decide)
    | lst h => exact .inr (.inr ⟨fun _ => rfl, by decide +kernel⟩)
    | frz h => exact .inr (.inr ⟨fun _ => rfl, by decide +kernel⟩)
    | tup h => exact .inr (.inr ⟨fun _ => rfl, by decide +kernel⟩)
    | dK h => exact .inr (.inr ⟨fun _ => rfl, by decide +kernel⟩)
    | dT h => exact .inr (.inr ⟨fun _ => rfl, by decide +kernel⟩)
  | byt b => exact absurd hn (by decide)
  | set h => exact absurd hn (by decide)
  | kList h c => exact .inr (.inr ⟨fun _ => rfl, by decide +kernel⟩)
  | kTuple h c => exact .inr (.inr ⟨fun _ => rfl, by decide +kernel⟩)
  | kDict h c => exact .inr (.inr ⟨fun _ => rfl, by decide +kernel⟩)
  | fTuple h => exact .inr (.inr ⟨fun _ => rfl, by decide +kernel⟩)
  | fDict h => exact .inr (.inr ⟨fun _ => rfl, by decide +kernel⟩)
theorem boot_int' : bootBuiltins "int" = some (.type "int") := by decide +kernel
theorem boot_bool' : bootBuiltins "bool" = some (.type "bool") := by decide +kernel
theorem boot_list' : bootBuiltins "list" = some (.type "list") := by decide +kernel
section
variable {P : Program} {w : World} {K : PySem.W.Frag} {mg : Str → Option Value} {base : Heap}
/-! ### is_number -/
def spIsNum (K : PySem.W.Frag) : Sp := fun vs H Q _ => ∃ (x : V) (l : Int) (n : String), vs = [x, .int l] ∧ TyX K H x (.type n) ∧ n ∈ kinds ∧ RetV (.bl (numB x l)) H Q
theorem ok_is_number {f : Addr} {fd : FuncData} (F : Fun K "is_number" "is_number" s_is_number f fd) (B : Bl mg) : FnOk P w K mg base (L2N.CX P w) 1 f fd ["thing", "least"] (spIsNum K) := by
  refine okB F sc_is_number (fun vs H Q E h => ?_) (fun cdv A outer s H vs Q E hr h => ?_)
  · obtain ⟨x, l, n, rfl, _⟩ := h
    rfl
  · obtain ⟨x, l, n, rfl, ty, hn, q⟩ := h
    rcases num_kit ty hn with ⟨i, rfl, rfl⟩ | ⟨b, rfl, rfl⟩ | ⟨hf, hk⟩
    · exact BW.ret (EV.isB (EV.and3 (EV.isT B.isinstance B.int boot_int' (EV.var 0 rfl) ty (k := true) (by decide +kernel)) (fun _ => EV.not (EV.isT B.isinstance B.bool boot_bool' (EV.var 0 rfl) ty (k := false) (by decide +kernel))) (fun _ _ => EV.ge (EV.var 0 rfl) (EV.var 1 rfl))) (by simp [numB])) q
    · exact BW.ret (EV.isB (EV.and3 (k3 := false) (EV.isT B.isinstance B.int boot_int' (EV.var 0 rfl) ty (k := true) (by decide +kernel)) (fun _ => EV.not (EV.isT B.isinstance B.bool boot_bool' (EV.var 0 rfl) ty (k := true) (by decide +kernel))) (fun _ z => nomatch z)) (by simp [numB])) q
    · exact BW.ret (EV.isB (EV.and3 (k2 := false) (k3 := false) (EV.isT B.isinstance B.int boot_int' (EV.var 0 rfl) ty hk) (fun z => nomatch z) (fun z => nomatch z)) (by simp [hf])) q
theorem sv_isnum {H : Hp} {x : V} {l : Int} {n : String} (ty : TyX K H x (.type n)) (hn : n ∈ kinds := by decide) : SpV (spIsNum K) [x, .int l] H (.bl (numB x l)) := fun H1 e1 Q q _ => ⟨x, l, n, rfl, TyX.ex ty e1, hn, q⟩
end
end QR

namespace QR
open PySem PySem.Spec PyProof.Rows L2 Evl
/-! ### the refusals -/
inductive Ek where
  | size | place | setting | none | peace
  deriving DecidableEq
def Ek.name : Ek → Str
  | .size => "BadSize"
  | .place => "BadPlace"
  | .setting => "BadSetting"
  | .none => "NoSetting"
  | .peace => "NoPeace"
structure Xc (K : PySem.W.Frag) (mg : Str → Option Value) (x : Str) (C : Addr) : Prop where
  xP : PySem.W.excIn K C He.veBase "ValueError.__new__" = true
  gP : mg x = some (.ref C)
  kP : PySem.W.keepIn K (.ref C) = true
  bP : PySem.W.subIn K (.ref C) (.type "BaseException") = some true
  tP : PySem.W.typeIn K (.ref C) = some (.type "type")
section
variable {X : Cx} {e a b c : Expr} {es : List Expr} {σ : L2.St} {H : Hp} {D : Ends} {rest : List Stmt} {pos p p2 pos' : Pos} {vs : List V} {x : Str} {W : WX} {C : Addr}
theorem BW.raise {m : Str} {j : Nat} (ec : Xc X.K X.mg x C) (tk : L2N.Takes X W) (h : W (.ref C) none σ H) (hc : X.calm = true := by rfl) (hg : Gl X x := by rfl) (hdb : (x == ("__debug__" : Str)) = false := by decide) :
    BW X (.Raise (some (.Call (.Name x p) [.Constant (.str m) j p2] [] pos)) none pos' :: rest) D σ H :=
  BW.cons (L2N.ps_raise hc tk (L2N.pmk_own PySem.F.excBase_ValueError ec.xP ec.gP ec.kP (raises_own ec.bP ec.tP) hg hdb)) h
/-- f(e, ..) as a statement, f may refuse -/
theorem BW.exprX {sp : Sp} {k j : Nat} {E : XK} (C : Fc X.prog X.w X.K X.mg X.base k x sp) (hr : Room j X.A) (tk : L2N.Takes X (fun cls d _ H => E cls d H)) (ha : AV X (e :: es) σ H vs) (hv : ∀ H1, Ex H H1 → sp vs H1 (fun _ H2 => BW X rest D σ H2) E)
    (hk : k ≤ j := by decide) (hg : Gl X x := by rfl) (hs : (e :: es).all noStar = true := by rfl) (hdb : (x == ("__debug__" : Str)) = false := by decide) (hw : swapsWith (.Call (.Name x p) (e :: es) [] pos) none pos'.line X.env = pure false := by rfl) :
    BW X (.Expr (.Call (.Name x p) (e :: es) [] pos) pos' :: rest) D σ H :=
  BW.exprW (EW.callX C hr tk (ha.ev H (Ex.refl H) _ fun H1 e1 => hv H1 e1) hk hg hs hdb) hw
end
/-- what a looking def does: nothing, or a refusal -/
def Res (xa : Ek → Addr) (o : Option Ek) (v : V) (H : Hp) (Q : VK) (E : XK) : Prop := match o with
  | none => RetV v H Q
  | some k => ∀ H2, Ex H H2 → E (.ref (xa k)) none H2
theorem Res.good {xa : Ek → Addr} {o : Option Ek} {v : V} {H : Hp} {Q : VK} {E : XK} (h : Res xa o v H Q E) (ho : o = none) : RetV v H Q := by subst ho; exact h
theorem Res.bad {xa : Ek → Addr} {o : Option Ek} {v : V} {H : Hp} {Q : VK} {E : XK} {k : Ek} (h : Res xa o v H Q E) (ho : o = some k) : ∀ H2, Ex H H2 → E (.ref (xa k)) none H2 := by subst ho; exact h
/-- a def that refuses or gives v -/
def SpX (sp : Sp) (xa : Ek → Addr) (vs : List V) (H : Hp) (o : Option Ek) (v : V) : Prop := ∀ H1, Ex H H1 → ∀ (Q : VK) (E : XK), Res xa o v H1 Q E → sp vs H1 Q E
theorem SpX.v {sp : Sp} {xa : Ek → Addr} {vs : List V} {H : Hp} {v : V} (h : SpX sp xa vs H none v) : SpV sp vs H v := fun H1 e1 Q q E => h H1 e1 Q E q
section
variable {P : Program} {w : World} {K : PySem.W.Frag} {mg : Str → Option Value} {base : Heap} {xa : Ek → Addr}
/-- a value of the kinds that are handed in -/
def Kd? (K : PySem.W.Frag) (H : Hp) (x : V) : Prop := ∃ n : String, TyX K H x (.type n) ∧ n ∈ kinds
theorem Kd?.ex {H H' : Hp} {x : V} (h : Kd? K H x) (e : Ex H H') : Kd? K H' x := let ⟨n, h1, h2⟩ := h; ⟨n, TyX.ex h1 e, h2⟩
theorem Kd?.int {H : Hp} {i : Int} : Kd? K H (.int i) := ⟨"int", .base (.int i), by decide⟩
theorem Kd?.bl {H : Hp} {i : Bool} : Kd? K H (.bl i) := ⟨"bool", .base (.bl i), by decide⟩
theorem Kd?.non {H : Hp} : Kd? K H .non := ⟨"NoneType", .base .non, by decide⟩
theorem Kd?.str {H : Hp} {z : Str} : Kd? K H (.str z) := ⟨"str", .base (.str z), by decide⟩
theorem Kd?.lst {H : Hp} {p : Addr} {xs : List V} (h : SqL K H p xs) : Kd? K H (.ref p) := ⟨"list", ty_list h, by decide⟩
theorem Kd?.tup {H : Hp} {p : Addr} {xs : List V} (h : SqT K H p xs) : Kd? K H (.ref p) := ⟨"tuple", ty_tup h, by decide⟩
theorem sv_isnum' {H : Hp} {x : V} {l : Int} (h : Kd? K H x) : SpV (spIsNum K) [x, .int l] H (.bl (numB x l)) := by
  obtain ⟨n, ty, hn⟩ := h
  exact sv_isnum ty hn
theorem numB_int {x : V} {l : Int} (h : numB x l = true) : ∃ i, x = .int i ∧ l ≤ i := by
  cases x with
  | int i => exact ⟨i, rfl, of_decide_eq_true h⟩
  | _ => exact nomatch h
end
end QR

namespace QR
open PySem PySem.Spec PyProof.Rows L2 Evl
section
variable {P : Program} {w : World} {K : PySem.W.Frag} {mg : Str → Option Value} {base : Heap} {xa : Ek → Addr}
/-! ### check_size -/
def ckSize (x : V) : Option Ek := if numB x 1 = true then none else some .size
def spCkSize (K : PySem.W.Frag) (xa : Ek → Addr) : Sp := fun vs H Q E => ∃ x, vs = [x] ∧ Kd? K H x ∧ Res xa (ckSize x) .non H Q E
theorem ok_check_sizeX {f : Addr} {fd : FuncData} (F : Fun K "check_size" "check_size" s_check_size f fd) (Cn : Fc P w K mg base 1 "is_number" (spIsNum K)) (xS : Xc K mg "BadSize" (xa .size)) : FnOk P w K mg base (L2N.CX P w) 2 f fd ["size"] (spCkSize K xa) := by
  refine okR F sc_check_size (fun vs H Q E h => ?_) (fun cdv A outer s H vs Q E hr h => ?_)
  · obtain ⟨n, rfl, _⟩ := h
    rfl
  · obtain ⟨x, rfl, kd, q⟩ := h
    refine BW.when (TV.not (TV.val (EV.call Cn hr (AV.two (EV.var 0 rfl) EV.int) (sv_isnum' kd)))) (fun hk H1 e1 => ?_) (fun hk H1 e1 => ?_)
    · exact BW.raise xS (L2N.takes_of rfl rfl rfl rfl) (q.bad (by unfold ckSize; rw [if_neg (by simpa using hk)]) H1 e1)
    · exact BW.nil (q.good (by unfold ckSize; rw [if_pos (by simpa using hk)]) H1 e1)
theorem sx_size {H : Hp} {x : V} (h : Kd? K H x) : SpX (spCkSize K xa) xa [x] H (ckSize x) .non := fun H1 e1 Q E r => ⟨x, rfl, h.ex e1, r⟩
end
end QR

namespace QR
open PySem PySem.Spec PyProof.Rows L2 Evl
/-- the refusals' classes as the head tells them -/
theorem xc_of {K : PySem.W.Frag} {h : Heap} {mg : Str → Option Value} (X : K.In h) (G : h.Ns mainGlobals mg) {x : Str} (g : (He.Fa.glo x).ok K = true) (e : (He.Fa.exc x).ok K = true) : Xc K mg x (ga K x) := by
  obtain ⟨h1, h2, h3, h4⟩ := He.exc_ok e
  exact ⟨h1, He.glo_ok X G g, h2, h3, h4⟩
def excB (ks : List Ek) (K : PySem.W.Frag) : Bool := ks.all fun k => (He.Fa.glo k.name).ok K && (He.Fa.exc k.name).ok K
theorem exc_of {K : PySem.W.Frag} {h : Heap} {mg : Str → Option Value} {ks : List Ek} (X : K.In h) (G : h.Ns mainGlobals mg) (hb : excB ks K = true) (k : Ek) (hk : k ∈ ks) : Xc K mg k.name (ga K k.name) := by
  obtain ⟨h1, h2⟩ := He.ba (List.all_eq_true.mp hb k hk)
  exact xc_of X G h1 h2
abbrev xaOf (K : PySem.W.Frag) : Ek → Addr := fun k => ga K k.name
end QR

namespace QR
open PySem PySem.Spec PyProof.Rows L2 Evl LamX
/-! ### caught refusals -/
structure Xi (K : PySem.W.Frag) (mg : Str → Option Value) (xa : Ek → Addr) (QE : Addr) : Prop where
  exc : ∀ k, ExcC K (xa k)
  kit : ∀ k j, PySem.W.kitOne K (.ref (xa k)) (.ref (xa j)) = some (decide (k = j))
  exm : ∀ k, PySem.W.exmOne K (.ref (xa k)) (.ref QE) = some true
  gQ : mg "QueenError" = some (.ref QE)
  xs : ∀ k, Xc K mg k.name (xa k)
def allEk : List Ek := [.size, .place, .setting, .none, .peace]
theorem mem_allEk (k : Ek) : k ∈ allEk := by cases k <;> decide
def excCB (K : PySem.W.Frag) (D : Addr) : Bool :=
  He.eqO (PySem.W.findIn K (.ref D) "__getattribute__") (some (some (.builtin "BaseException.__getattribute__"))) && (He.eqO (PySem.W.findIn K (.ref D) "__getattr__") (some none) && (decide (PySem.W.subIn K (.ref D) (.type "BaseException") = some true) && (PySem.W.hasDictIn K D &&
    (He.eqO (PySem.W.findIn K (.ref D) "__class__") (some (some (.builtin "object.__class__"))) && (He.eqO (PySem.W.specialIn K (.builtin "object.__class__") "__get__") (some (some (.builtin "getset_descriptor.__get__"))) && (decide (PySem.W.takesIn K (.builtin "object.__class__") = some true) && decide (PySem.W.mroIn K D (.type "object") = some true)))))))
theorem excC_of {K : PySem.W.Frag} {D : Addr} (h : excCB K D = true) : ExcC K D := by
  obtain ⟨h1, h⟩ := He.ba h
  obtain ⟨h2, h⟩ := He.ba h
  obtain ⟨h3, h⟩ := He.ba h
  obtain ⟨h4, h⟩ := He.ba h
  obtain ⟨h5, h⟩ := He.ba h
  obtain ⟨h6, h⟩ := He.ba h
  obtain ⟨h7, h8⟩ := He.ba h
  exact ⟨He.eqO_ok h1, He.eqO_ok h2, of_decide_eq_true h3, h4, He.eqO_ok h5, He.eqO_ok h6, of_decide_eq_true h7, of_decide_eq_true h8⟩
def xiB (K : PySem.W.Frag) : Bool := excB allEk K && ((He.Fa.glo "QueenError").ok K && allEk.all fun k => excCB K (xaOf K k) && (decide (PySem.W.exmOne K (.ref (xaOf K k)) (.ref (ga K "QueenError")) = some true) && allEk.all fun j => decide (PySem.W.kitOne K (.ref (xaOf K k)) (.ref (xaOf K j)) = some (decide (k = j)))))
theorem xi_of {K : PySem.W.Frag} {h : Heap} {mg : Str → Option Value} (X : K.In h) (G : h.Ns mainGlobals mg) (hb : xiB K = true) : Xi K mg (xaOf K) (ga K "QueenError") := by
  obtain ⟨h1, h2⟩ := He.ba hb
  obtain ⟨h3, h4⟩ := He.ba h2
  have key : ∀ k, (excCB K (xaOf K k) && (decide (PySem.W.exmOne K (.ref (xaOf K k)) (.ref (ga K "QueenError")) = some true) && allEk.all fun j => decide (PySem.W.kitOne K (.ref (xaOf K k)) (.ref (xaOf K j)) = some (decide (k = j))))) = true := fun k => List.all_eq_true.mp h4 k (mem_allEk k)
  exact ⟨fun k => excC_of (He.ba (key k)).1, fun k j => of_decide_eq_true (List.all_eq_true.mp (He.ba (He.ba (key k)).2).2 j (mem_allEk j)), fun k => of_decide_eq_true (He.ba (He.ba (key k)).2).1, He.glo_ok X G h3, fun k => exc_of X G h1 k (mem_allEk k)⟩
/-- isinstance(error, class), in the suite -/
theorem EV.isE {X : Cx} {e : Expr} {σ : L2.St} {H : Hp} {a : Addr} {oe : Obj} {pn : List (Addr × Obj)} {xa : Ek → Addr} {QE : Addr} {k : Ek} {x : Str} {p p2 pos : Pos} (j : Ek) (hx : Xi X.K X.mg xa QE) (hz : Zc (.ref (xa k)) none oe) (hf : ∃ vs, oe.data = .fields vs) (m : X.mg "isinstance" = none)
    (he : EV (X.suite a ((a, oe) :: pn)) e σ H (.ref a)) (hn : j.name = x := by rfl) (hg : Gl (X.suite a ((a, oe) :: pn)) "isinstance" := by rfl) (hg2 : Gl (X.suite a ((a, oe) :: pn)) x := by rfl) (hs : noStar e = true := by rfl) (hdb : (x == ("__debug__" : Str)) = false := by decide) :
    EV (X.suite a ((a, oe) :: pn)) (.Call (.Name "isinstance" p) [e, .Name x p2] [] pos) σ H (.bl (decide (k = j))) := by
  subst hn
  refine EV.callB (call_isE (hx.exc k) hz hf) m (by decide +kernel) (AV.two he (EV.glob (hx.xs j).gP hg2 hdb)) (fun H1 e1 Q q => ⟨_, _, _, rfl, (fun u h => h), hx.kit k j, q H1 (Ex.refl H1)⟩) hg (hs := by rw [List.all_cons, hs]; rfl)
theorem bls_range {n : Nat} {i : Nat} {f : Nat → Bool} (h : ∀ r < n, f r = decide (r = i)) : (List.range n).map f = (List.range n).map fun r => decide (r = i) := List.map_congr_left fun r hr => h r (List.mem_range.mp hr)
end QR

namespace QR
open PySem PySem.Spec PyProof.Rows L2 Evl
/-- a class of the program, its fields -/
structure Cs (K : PySem.W.Frag) (mg : Str → Option Value) (x : Str) (C : Addr) (flds : List Str) : Prop extends Ci K mg x C where
  na : ∀ f ∈ flds, NoAttr K C f
end QR

namespace QR
open PySem PySem.Spec PyProof.Rows L2 Evl
/-! ### the classes of the answers -/
inductive Kd where
  | S | B | P | JP | T | JT
  deriving DecidableEq
def Kd.name : Kd → Str
  | .S => "Step"
  | .B => "Barred"
  | .P => "Peace"
  | .JP => "JoinedPeace"
  | .T => "Take"
  | .JT => "JoinedTake"
def Kd.flds : Kd → List Str
  | .S => ["step"]
  | .B => ["by"]
  | .T => ["one", "other"]
  | .JT => ["one", "other"]
  | _ => []
structure Ans (K : PySem.W.Frag) (mg : Str → Option Value) (ad : Kd → Addr) (CA : Addr) : Prop where
  cs : ∀ k, Cs K mg k.name (ad k) k.flds
  kit : ∀ a b, PySem.W.kitOne K (.ref (ad a)) (.ref (ad b)) = some (decide (a = b))
  kitA : ∀ a, PySem.W.kitOne K (.ref (ad a)) (.ref CA) = some true
  gA : mg "Answer" = some (.ref CA)
section
variable {X : Cx} {e a b c o : Expr} {σ : L2.St} {H : Hp} {pos p pf : Pos} {ad : Kd → Addr} {CA : Addr}
/-- isinstance(e, C) of an answer -/
theorem EV.isK (A : Ans X.K X.mg ad CA) (mI : X.mg "isinstance" = none) {k : Kd} (d : Kd) {x : Str} {q dx : Addr} {fs : List (Str × V)} (ha : EV X a σ H (.ref q)) (hq : H q = some (.ins (ad k) dx fs)) (hx : x = d.name := by rfl) (hg : Gl X "isinstance" := by rfl) (hgD : Gl X x := by rfl) (hs : [a, .Name x pf].all noStar = true := by rfl) (hd : (x == ("__debug__" : Str)) = false := by decide) :
    EV X (.Call (.Name "isinstance" p) [a, .Name x pf] [] pos) σ H (.bl (decide (k = d))) :=
  EV.isC mI (A.cs k).toCi (by rw [hx]; exact (A.cs d).mg) ha hq (A.kit k d) hg hgD hs hd
theorem EV.isA (A : Ans X.K X.mg ad CA) (mI : X.mg "isinstance" = none) {k : Kd} {q dx : Addr} {fs : List (Str × V)} (ha : EV X a σ H (.ref q)) (hq : H q = some (.ins (ad k) dx fs)) (hg : Gl X "isinstance" := by rfl) (hgD : Gl X "Answer" := by rfl) (hs : [a, .Name "Answer" pf].all noStar = true := by rfl) :
    EV X (.Call (.Name "isinstance" p) [a, .Name "Answer" pf] [] pos) σ H (.bl true) :=
  EV.isC mI (A.cs k).toCi A.gA ha hq (A.kitA k) hg hgD hs
/-- a field of an answer -/
theorem EV.fldK (A : Ans X.K X.mg ad CA) {k : Kd} {f : Str} {v : V} {q dx : Addr} {fs : List (Str × V)} (h : EV X e σ H (.ref q)) (hq : H q = some (.ins (ad k) dx fs)) (hl : fs.lookup f = some v) (hf : f ∈ k.flds := by decide) (hb : attributeBase e f X.env (eval e X.env) = eval e X.env := by rfl) : EV X (.Attribute e f pos) σ H v :=
  EV.fld h hq (A.cs k).cl ((A.cs k).na f hf) hl hb
/-- isinstance of an answer told by its shape -/
theorem EV.isKX (A : Ans X.K X.mg ad CA) (mI : X.mg "isinstance" = none) {k : Kd} (d : Kd) {x : Str} {fs : List (Str × V)} (ha : EX X a σ H (.ins (ad k) fs)) (hx : x = d.name := by rfl) (hg : Gl X "isinstance" := by rfl) (hgD : Gl X x := by rfl) (hs : [a, .Name x pf].all noStar = true := by rfl) (hd : (x == ("__debug__" : Str)) = false := by decide) :
    EV X (.Call (.Name "isinstance" p) [a, .Name x pf] [] pos) σ H (.bl (decide (k = d))) := by
  have hb : EX X (.Name x pf) σ H (.v (.ref (ad d))) := EX.vv (EV.glob (by rw [hx]; exact (A.cs d).mg) hgD hd)
  refine EV.of (pe_callB call_isi hg mI (by decide +kernel) (pa_all hs) (by decide) (by decide) (star_of (List.all_eq_true.mp hs a List.mem_cons_self) _) (back_any _ (List.all_eq_true.mpr fun e' he => List.all_eq_true.mp hs e' (List.mem_cons_of_mem _ he)))) fun H1 e1 Q q => (AX.two ha hb).ev H1 e1 _ fun vs H2 e2 hvs => ?_
  obtain ⟨u, v, rfl, hu, hv⟩ := hvs.two
  obtain ⟨r, dx, rfl, hr⟩ := hu.ofI
  cases hv.vv
  exact ⟨.ref r, .ref (ad d), .ref (ad k), .ref (ad d), _, rfl, .own _, (A.cs k).toCi.ty hr, A.kit k d, q H2 e2⟩
end
end QR

namespace QR
open PySem PySem.Spec PyProof.Rows L2 Evl
def allKd : List Kd := [.S, .B, .P, .JP, .T, .JT]
theorem allKd_mem (k : Kd) : k ∈ allKd := by cases k <;> decide
def ansB (K : PySem.W.Frag) : Bool := (He.Fa.glo "Answer").ok K && allKd.all fun a => (He.Fa.glo a.name).ok K && ((He.Fa.cls a.name).ok K && (ciB K a.name && ((a.flds.all fun f => (He.Fa.noat a.name f).ok K) && (kitBB K a.name "Answer" true && allKd.all fun b => kitBB K a.name b.name (decide (a = b))))))
theorem ans_of {K : PySem.W.Frag} {h : Heap} {mg : Str → Option Value} (X : K.In h) (G : h.Ns mainGlobals mg) (hb : ansB K = true) : Ans K mg (fun k => ga K k.name) (ga K "Answer") := by
  obtain ⟨h1, h2⟩ := He.ba hb
  have key : ∀ k : Kd, _ := fun k => List.all_eq_true.mp h2 k (allKd_mem k)
  refine ⟨fun k => ?_, fun a b => ?_, fun a => ?_, He.glo_ok X G h1⟩
  · obtain ⟨g, z⟩ := He.ba (key k)
    obtain ⟨c, z⟩ := He.ba z
    obtain ⟨i, z⟩ := He.ba z
    obtain ⟨n, z⟩ := He.ba z
    exact ⟨ci_ok (He.glo_ok X G g) c i, fun f hf => He.noat_ok (List.all_eq_true.mp n f hf)⟩
  · obtain ⟨_, z⟩ := He.ba (key a)
    obtain ⟨_, z⟩ := He.ba z
    obtain ⟨_, z⟩ := He.ba z
    obtain ⟨_, z⟩ := He.ba z
    obtain ⟨_, z⟩ := He.ba z
    exact kit_ok (List.all_eq_true.mp z b (allKd_mem b))
  · obtain ⟨_, z⟩ := He.ba (key a)
    obtain ⟨_, z⟩ := He.ba z
    obtain ⟨_, z⟩ := He.ba z
    obtain ⟨_, z⟩ := He.ba z
    obtain ⟨z, _⟩ := He.ba z
    exact kit_ok z
end QR

namespace QR
open PySem PySem.Spec PyProof.Rows L2 Evl
theorem at_map {ns : List Int} {i : Nat} {y : V} (h : (ns.map V.int)[i]? = some y) : y = .int (ns.getD i 0) ∧ i < ns.length := by
  rw [List.getElem?_map] at h
  have hi : i < ns.length := by
    rcases Nat.lt_or_ge i ns.length with g | g
    · exact g
    · rw [List.getElem?_eq_none g] at h
      cases h
  rw [List.getElem?_eq_getElem hi] at h
  refine ⟨?_, hi⟩
  rw [List.getD_eq_getElem?_getD, List.getElem?_eq_getElem hi]
  exact (Option.some.inj h).symm
/-! ### _law_peace -/
def byOf (n : Int) (j : Bool) : Int := if j = true then n else 5 * n
def upsOf (ns : List Int) (m : Int) : List Int := (List.range ns.length).map fun i : Nat => (ns.getD i 0 + (i : Int)) % m
def downsOf (ns : List Int) (m : Int) : List Int := (List.range ns.length).map fun i : Nat => (ns.getD i 0 - (i : Int)) % m
def peaceB (ns : List Int) (j : Bool) : Bool :=
  decide (((distinct ns : Nat) : Int) = (ns.length : Int)) && (decide (((distinct (upsOf ns (byOf ns.length j)) : Nat) : Int) = (ns.length : Int)) && decide (((distinct (downsOf ns (byOf ns.length j)) : Nat) : Int) = (ns.length : Int)))
theorem ups_len (ns : List Int) (m : Int) : (upsOf ns m).length = ns.length := by simp [upsOf]
theorem downs_len (ns : List Int) (m : Int) : (downsOf ns m).length = ns.length := by simp [downsOf]
end QR

namespace QR
/-! ### peace by columns and slopes, and by two and two -/
def takeB (ns : List Int) (i k : Nat) : Bool := decide ((((ns.getD i 0 - ns.getD k 0).natAbs : Nat) : Int) = 0) || decide ((((ns.getD i 0 - ns.getD k 0).natAbs : Nat) : Int) = ((((i : Int) - (k : Int)).natAbs : Nat) : Int))
def takeJB (ns : List Int) (i k : Nat) : Bool := decide (ns.getD i 0 - ns.getD k 0 = 0) || (decide ((ns.getD i 0 - ns.getD k 0 - (i : Int) + (k : Int)) % (ns.length : Int) = 0) || decide ((ns.getD i 0 - ns.getD k 0 + (i : Int) - (k : Int)) % (ns.length : Int) = 0))
def takes (j : Bool) (ns : List Int) (i k : Nat) : Bool := if j = true then takeJB ns i k else takeB ns i k
theorem nodup_getD (xs : List Int) : xs.Nodup ↔ ∀ i k, i < k → k < xs.length → xs.getD i 0 ≠ xs.getD k 0 := by
  rw [List.Nodup, List.pairwise_iff_getElem]
  constructor
  · intro h i k hik hk
    have := h i k (by omega) hk hik
    simpa [List.getD_eq_getElem?_getD, List.getElem?_eq_getElem hk, List.getElem?_eq_getElem (show i < xs.length by omega)] using this
  · intro h i k hi hk hik
    have := h i k hik hk
    simpa [List.getD_eq_getElem?_getD, List.getElem?_eq_getElem hk, List.getElem?_eq_getElem hi] using this
theorem ups_getD {ns : List Int} {m : Int} {i : Nat} (h : i < ns.length) : (upsOf ns m).getD i 0 = (ns.getD i 0 + (i : Int)) % m := by
  unfold upsOf
  simp [List.getD_eq_getElem?_getD, h]
theorem downs_getD {ns : List Int} {m : Int} {i : Nat} (h : i < ns.length) : (downsOf ns m).getD i 0 = (ns.getD i 0 - (i : Int)) % m := by
  unfold downsOf
  simp [List.getD_eq_getElem?_getD, h]
theorem mod_zero_small {x m : Int} (h1 : -m < x) (h2 : x < m) : x % m = 0 ↔ x = 0 := by
  constructor
  · intro h
    by_cases hx : 0 ≤ x
    · rw [Int.emod_eq_of_lt hx h2] at h
      exact h
    · have : x % m = x + m := by
        have e : x % m = (x + m) % m := by rw [Int.add_emod_right]
        rw [e]
        exact Int.emod_eq_of_lt (by omega) (by omega)
      omega
  · intro h
    subst h
    exact Int.zero_emod m
theorem mod_eq_iff {a b m : Int} : a % m = b % m ↔ (a - b) % m = 0 := Int.emod_eq_emod_iff_emod_sub_eq_zero
theorem peaceB_iff (ns : List Int) (j : Bool) : peaceB ns j = true ↔ ∀ i k : Nat, i < k → k < ns.length → ns.getD i 0 ≠ ns.getD k 0 ∧ (ns.getD i 0 + (i : Int) - (ns.getD k 0 + (k : Int))) % byOf ns.length j ≠ 0 ∧ (ns.getD i 0 - (i : Int) - (ns.getD k 0 - (k : Int))) % byOf ns.length j ≠ 0 := by
  unfold peaceB
  simp only [Bool.and_eq_true, decide_eq_true_eq]
  have c : ∀ xs : List Int, xs.length = ns.length → ((((distinct xs : Nat) : Int) = (ns.length : Int)) ↔ xs.Nodup) := fun xs hl => by
    rw [← distinct_iff, hl]
    omega
  rw [c ns rfl, c _ (ups_len _ _), c _ (downs_len _ _), nodup_getD, nodup_getD, nodup_getD, ups_len, downs_len]
  constructor
  · rintro ⟨h1, h2, h3⟩ i k hik hk
    have a := h2 i k hik hk
    have b := h3 i k hik hk
    rw [ups_getD (by omega), ups_getD hk] at a
    rw [downs_getD (by omega), downs_getD hk] at b
    exact ⟨h1 i k hik hk, fun z => a (mod_eq_iff.mpr z), fun z => b (mod_eq_iff.mpr z)⟩
  · intro h
    refine ⟨fun i k hik hk => (h i k hik hk).1, fun i k hik hk => ?_, fun i k hik hk => ?_⟩
    · rw [ups_getD (by omega), ups_getD hk]
      exact fun z => (h i k hik hk).2.1 (mod_eq_iff.mp z)
    · rw [downs_getD (by omega), downs_getD hk]
      exact fun z => (h i k hik hk).2.2 (mod_eq_iff.mp z)
theorem getD_mem {ns : List Int} {i : Nat} (h : i < ns.length) : ns.getD i 0 ∈ ns := by
  rw [List.getD_eq_getElem?_getD, List.getElem?_eq_getElem h]
  exact List.getElem_mem h
/-- at peace on the board: no two take one another -/
theorem peaceB_false {ns : List Int} (hb : ∀ c ∈ ns, 0 ≤ c ∧ c < (ns.length : Int)) : peaceB ns false = true ↔ ∀ i k : Nat, i < k → k < ns.length → takeB ns i k = false := by
  rw [peaceB_iff]
  refine forall_congr' fun i => forall_congr' fun k => forall_congr' fun hik => forall_congr' fun hk => ?_
  have b1 := hb _ (getD_mem (show i < ns.length by omega))
  have b2 := hb _ (getD_mem hk)
  have m : byOf ns.length false = 5 * (ns.length : Int) := rfl
  unfold takeB
  rw [m, Ne, Ne, Ne, mod_zero_small (by omega) (by omega), mod_zero_small (by omega) (by omega)]
  simp only [Bool.or_eq_false_iff, decide_eq_false_iff_not]
  omega
theorem neg_mod_zero {x m : Int} : (-x) % m = 0 ↔ x % m = 0 := by
  constructor
  · intro h
    exact Int.emod_eq_zero_of_dvd (Int.dvd_neg.mp (Int.dvd_of_emod_eq_zero h))
  · intro h
    exact Int.emod_eq_zero_of_dvd (Int.dvd_neg.mpr (Int.dvd_of_emod_eq_zero h))
theorem peaceB_true {ns : List Int} : peaceB ns true = true ↔ ∀ i k : Nat, i < k → k < ns.length → takeJB ns i k = false := by
  rw [peaceB_iff]
  refine forall_congr' fun i => forall_congr' fun k => forall_congr' fun hik => forall_congr' fun hk => ?_
  have m : byOf ns.length true = (ns.length : Int) := rfl
  unfold takeJB
  rw [m]
  simp only [Bool.or_eq_false_iff, decide_eq_false_iff_not]
  have e1 : ns.getD i 0 + (i : Int) - (ns.getD k 0 + (k : Int)) = ns.getD i 0 - ns.getD k 0 + (i : Int) - (k : Int) := by omega
  have e2 : ns.getD i 0 - (i : Int) - (ns.getD k 0 - (k : Int)) = ns.getD i 0 - ns.getD k 0 - (i : Int) + (k : Int) := by omega
  rw [e1, e2]
  constructor
  · rintro ⟨h1, h2, h3⟩
    exact ⟨by omega, h3, h2⟩
  · rintro ⟨h1, h2, h3⟩
    exact ⟨by omega, h3, h2⟩
theorem peaceB_takes {ns : List Int} (hb : ∀ c ∈ ns, 0 ≤ c ∧ c < (ns.length : Int)) (j : Bool) : peaceB ns j = true ↔ ∀ i k : Nat, i < k → k < ns.length → takes j ns i k = false := by
  cases j with
  | true => exact peaceB_true
  | false => exact peaceB_false hb
end QR

namespace QR
/-! ### the first two that take one another -/
def NoTake (j : Bool) (ns : List Int) : Prop := ∀ b, b < ns.length → ∀ a, a < b → takes j ns a b = false
def IsFirst (j : Bool) (ns : List Int) (a b : Nat) : Prop := (a < b ∧ b < ns.length) ∧ takes j ns a b = true ∧ (∀ b', b' < b → ∀ a', a' < b' → takes j ns a' b' = false) ∧ ∀ a', a' < a → takes j ns a' b = false
def FirstIs (j : Bool) (ns : List Int) : Option (Nat × Nat) → Prop
  | none => NoTake j ns
  | some (a, b) => IsFirst j ns a b
theorem first_in (t : Nat → Bool) : ∀ n, (∀ a, a < n → t a = false) ∨ ∃ a, a < n ∧ t a = true ∧ ∀ a', a' < a → t a' = false
  | 0 => .inl fun a h => by omega
  | n + 1 => by
    rcases first_in t n with h | ⟨a, h1, h2, h3⟩
    · cases ht : t n with
      | true => exact .inr ⟨n, by omega, ht, fun a' ha => h a' ha⟩
      | false =>
        refine .inl fun a ha => ?_
        by_cases han : a < n
        · exact h a han
        · have : a = n := by omega
          subst this
          exact ht
    · exact .inr ⟨a, by omega, h2, h3⟩
theorem first_to (t : Nat → Nat → Bool) : ∀ n, (∀ b, b < n → ∀ a, a < b → t a b = false) ∨ ∃ a b, (a < b ∧ b < n) ∧ t a b = true ∧ (∀ b', b' < b → ∀ a', a' < b' → t a' b' = false) ∧ ∀ a', a' < a → t a' b = false
  | 0 => .inl fun a h => by omega
  | n + 1 => by
    rcases first_to t n with h | ⟨a, b, h1, h2, h3, h4⟩
    · rcases first_in (fun a => t a n) n with g | ⟨a, g1, g2, g3⟩
      · refine .inl fun b hb a ha => ?_
        by_cases hbn : b < n
        · exact h b hbn a ha
        · have : b = n := by omega
          subst this
          exact g a ha
      · exact .inr ⟨a, n, ⟨g1, by omega⟩, g2, h, g3⟩
    · exact .inr ⟨a, b, ⟨h1.1, by omega⟩, h2, h3, h4⟩
theorem first_ex (j : Bool) (ns : List Int) : ∃ o, FirstIs j ns o := by
  rcases first_to (takes j ns) ns.length with h | ⟨a, b, h1, h2, h3, h4⟩
  · exact ⟨none, h⟩
  · exact ⟨some (a, b), h1, h2, h3, h4⟩
theorem first_one {j : Bool} {ns : List Int} {a b a' b' : Nat} (h : IsFirst j ns a b) (g : IsFirst j ns a' b') : a = a' ∧ b = b' := by
  obtain ⟨h1, h2, h3, h4⟩ := h
  obtain ⟨g1, g2, g3, g4⟩ := g
  have hb : b = b' := by
    rcases Nat.lt_trichotomy b b' with z | z | z
    · have := g3 b z a h1.1
      rw [h2] at this
      cases this
    · exact z
    · have := h3 b' z a' g1.1
      rw [g2] at this
      cases this
  subst hb
  refine ⟨?_, rfl⟩
  rcases Nat.lt_trichotomy a a' with z | z | z
  · have := g4 a z
    rw [h2] at this
    cases this
  · exact z
  · have := h4 a' z
    rw [g2] at this
    cases this
theorem first_none {j : Bool} {ns : List Int} {o : Option (Nat × Nat)} (h : FirstIs j ns o) (g : NoTake j ns) : o = none := by
  cases o with
  | none => rfl
  | some p =>
    obtain ⟨h1, h2, _, _⟩ := (h : IsFirst j ns p.1 p.2)
    have := g p.2 h1.2 p.1 h1.1
    rw [h2] at this
    cases this
theorem first_some {j : Bool} {ns : List Int} {o : Option (Nat × Nat)} {a b : Nat} (h : FirstIs j ns o) (g : IsFirst j ns a b) : o = some (a, b) := by
  cases o with
  | none =>
    obtain ⟨g1, g2, _, _⟩ := g
    have := (h : NoTake j ns) b g1.2 a g1.1
    rw [g2] at this
    cases this
  | some p =>
    obtain ⟨e1, e2⟩ := first_one (h : IsFirst j ns p.1 p.2) g
    obtain ⟨p1, p2⟩ := p
    simp only at e1 e2
    rw [e1, e2]
theorem first_peace {j : Bool} {ns : List Int} {o : Option (Nat × Nat)} (hb : ∀ c ∈ ns, 0 ≤ c ∧ c < (ns.length : Int)) (h : FirstIs j ns o) : o.isNone = peaceB ns j := by
  cases o with
  | none =>
    have : peaceB ns j = true := (peaceB_takes hb j).mpr fun i k hik hk => (h : NoTake j ns) k hk i hik
    rw [this]
    rfl
  | some p =>
    obtain ⟨h1, h2, _, _⟩ := (h : IsFirst j ns p.1 p.2)
    cases hp : peaceB ns j with
    | false => rfl
    | true =>
      have := (peaceB_takes hb j).mp hp p.1 p.2 h1.1 h1.2
      rw [h2] at this
      cases this
/-- the search as a function, to be run -/
def firstF (j : Bool) (ns : List Int) : Option (Nat × Nat) := (List.range ns.length).findSome? fun b => ((List.range b).find? fun a => takes j ns a b).map fun a => (a, b)
end QR

namespace QR
/-! ### settings made of others -/
def Bd (ns : List Int) : Prop := ∀ c ∈ ns, 0 ≤ c ∧ c < (ns.length : Int)
def mirL (ns : List Int) : List Int := ns.map fun c => (ns.length : Int) - 1 - c
def exL (ns : List Int) : List Int := (List.range ns.length).map fun r : Nat => ((ns.idxOf (r : Int) : Nat) : Int)
def prodL (o i : List Int) : List Int := (List.range (o.length * i.length)).map fun r : Nat => o.getD (r / i.length) 0 * (i.length : Int) + i.getD (r % i.length) 0
theorem mirL_len (ns : List Int) : (mirL ns).length = ns.length := by simp [mirL]
theorem mirL_bd {ns : List Int} (h : Bd ns) : Bd (mirL ns) := by
  intro c hc
  rw [mirL_len]
  obtain ⟨d, hd, rfl⟩ := List.mem_map.mp hc
  have := h d hd
  omega
theorem rev_bd {ns : List Int} (h : Bd ns) : Bd ns.reverse := fun c hc => by
  rw [List.length_reverse]
  exact h c (List.mem_reverse.mp hc)
theorem prodL_len (o i : List Int) : (prodL o i).length = o.length * i.length := by simp [prodL]
theorem prodL_getD {o i : List Int} {r : Nat} (h : r < o.length * i.length) : (prodL o i).getD r 0 = o.getD (r / i.length) 0 * (i.length : Int) + i.getD (r % i.length) 0 := by
  unfold prodL
  simp [List.getD_eq_getElem?_getD, h]
theorem bd_getD {ns : List Int} (h : Bd ns) {i : Nat} (hi : i < ns.length) : 0 ≤ ns.getD i 0 ∧ ns.getD i 0 < (ns.length : Int) := h _ (getD_mem hi)
theorem prodL_bd {o i : List Int} (ho : Bd o) (hi : Bd i) (h1 : 0 < i.length) : Bd (prodL o i) := by
  intro c hc
  rw [prodL_len]
  unfold prodL at hc
  obtain ⟨r, hr, rfl⟩ := List.mem_map.mp hc
  have hr := List.mem_range.mp hr
  have a := bd_getD ho (i := r / i.length) (Nat.div_lt_of_lt_mul (by rw [Nat.mul_comm]; exact hr))
  have b := bd_getD hi (i := r % i.length) (Nat.mod_lt _ h1)
  generalize o.getD (r / i.length) 0 = x at a
  generalize i.getD (r % i.length) 0 = y at b
  rw [Int.natCast_mul]
  constructor
  · have := Int.mul_nonneg a.1 (show (0 : Int) ≤ (i.length : Int) by omega)
    omega
  · have h2 : (x + 1) * (i.length : Int) ≤ (o.length : Int) * (i.length : Int) := Int.mul_le_mul_of_nonneg_right (by omega) (by omega)
    rw [Int.add_mul, Int.one_mul] at h2
    omega
/-- taking one another, by places -/
theorem takeB_iff (ns : List Int) (a b : Nat) : takeB ns a b = true ↔ ns.getD a 0 = ns.getD b 0 ∨ ns.getD a 0 - ns.getD b 0 = (a : Int) - (b : Int) ∨ ns.getD a 0 - ns.getD b 0 = (b : Int) - (a : Int) := by
  unfold takeB
  rw [Bool.or_eq_true, decide_eq_true_eq, decide_eq_true_eq]
  omega
theorem takeJB_iff (ns : List Int) (a b : Nat) : takeJB ns a b = true ↔ ns.getD a 0 = ns.getD b 0 ∨ (ns.getD a 0 - ns.getD b 0 - ((a : Int) - (b : Int))) % (ns.length : Int) = 0 ∨ (ns.getD a 0 - ns.getD b 0 + ((a : Int) - (b : Int))) % (ns.length : Int) = 0 := by
  unfold takeJB
  rw [Bool.or_eq_true, Bool.or_eq_true, decide_eq_true_eq, decide_eq_true_eq, decide_eq_true_eq]
  rw [show ns.getD a 0 - ns.getD b 0 - (a : Int) + (b : Int) = ns.getD a 0 - ns.getD b 0 - ((a : Int) - (b : Int)) by omega, show ns.getD a 0 - ns.getD b 0 + (a : Int) - (b : Int) = ns.getD a 0 - ns.getD b 0 + ((a : Int) - (b : Int)) by omega]
  constructor
  · rintro (h | h | h)
    · exact .inl (by omega)
    · exact .inr (.inl h)
    · exact .inr (.inr h)
  · rintro (h | h | h)
    · exact .inl (by omega)
    · exact .inr (.inl h)
    · exact .inr (.inr h)
theorem takeJB_symm {ns : List Int} {a b : Nat} (h : takeJB ns a b = true) : takeJB ns b a = true := by
  rw [takeJB_iff] at h ⊢
  rcases h with h | h | h
  · exact .inl h.symm
  · refine .inr (.inl ?_)
    rw [← neg_mod_zero, show -(ns.getD b 0 - ns.getD a 0 - ((b : Int) - (a : Int))) = ns.getD a 0 - ns.getD b 0 - ((a : Int) - (b : Int)) by omega]
    exact h
  · refine .inr (.inr ?_)
    rw [← neg_mod_zero, show -(ns.getD b 0 - ns.getD a 0 + ((b : Int) - (a : Int))) = ns.getD a 0 - ns.getD b 0 + ((a : Int) - (b : Int)) by omega]
    exact h
theorem takeB_symm {ns : List Int} {a b : Nat} (h : takeB ns a b = true) : takeB ns b a = true := by
  rw [takeB_iff] at h ⊢
  omega
theorem noTake_ne {j : Bool} {ns : List Int} (h : NoTake j ns) {a b : Nat} (ha : a < ns.length) (hb : b < ns.length) (ht : takes j ns a b = true) : a = b := by
  rcases Nat.lt_trichotomy a b with z | z | z
  · rw [h b hb a z] at ht
    cases ht
  · exact z
  · have : takes j ns b a = true := by
      cases j with
      | true => exact takeJB_symm ht
      | false => exact takeB_symm ht
    rw [h a ha b z] at this
    cases this
theorem mul_add_mod {x y w : Int} : (x * w + y) % w = y % w := by
  rw [Int.add_comm, Int.add_mul_emod_self_right]
theorem mul_mod_zero {x n w : Int} (hw : 0 < w) : (x * w) % (n * w) = 0 ↔ x % n = 0 := by
  rw [Int.mul_comm x w, Int.mul_comm n w, Int.mul_emod_mul_of_pos _ _ hw]
  constructor
  · intro h
    rcases Int.mul_eq_zero.mp h with z | z
    · omega
    · exact z
  · intro h
    rw [h, Int.mul_zero]
/-- two places of the product: the inner ones are one -/
theorem prod_inner {i : List Int} (hi : NoTake true i) {b b' : Nat} (hb : b < i.length) (hb' : b' < i.length) {z : Int} (h : (i.getD b 0 - i.getD b' 0 - ((b : Int) - (b' : Int))) % (i.length : Int) = 0 ∨ (i.getD b 0 - i.getD b' 0 + ((b : Int) - (b' : Int))) % (i.length : Int) = 0) : b = b' :=
  noTake_ne hi hb hb' ((takeJB_iff i b b').mpr (.inr h))
theorem div_split {r n w : Nat} (hw : 0 < w) (h : r < n * w) : r / w < n ∧ r % w < w ∧ (r : Int) = ((r / w : Nat) : Int) * (w : Int) + ((r % w : Nat) : Int) := by
  refine ⟨Nat.div_lt_of_lt_mul (by rw [Nat.mul_comm]; exact h), Nat.mod_lt _ hw, ?_⟩
  have := Nat.div_add_mod r w
  rw [← Int.natCast_mul, ← Int.natCast_add]
  rw [Nat.mul_comm] at this
  omega
theorem prod_peace {o i : List Int} (ho : NoTake false o) (hi : NoTake true i) (bo : Bd o) (bi : Bd i) (h1 : 0 < i.length) : NoTake false (prodL o i) := by
  intro s hs r hrs
  rw [prodL_len] at hs
  cases ht : takes false (prodL o i) r s with
  | false => rfl
  | true =>
    exfalso
    have hr : r < o.length * i.length := by omega
    have ht' := (takeB_iff _ _ _).mp ht
    rw [prodL_getD hr, prodL_getD hs] at ht'
    obtain ⟨a1, b1, e1⟩ := div_split h1 hr
    obtain ⟨a2, b2, e2⟩ := div_split h1 hs
    have ba := bd_getD bi b1
    have bb := bd_getD bi b2
    have hw : (0 : Int) < (i.length : Int) := by omega
    -- the inner places
    have hin : r % i.length = s % i.length := by
      generalize hq1 : r / i.length = a at *
      generalize hq2 : s / i.length = a' at *
      generalize hq3 : r % i.length = b at *
      generalize hq4 : s % i.length = b' at *
      rw [e1, e2] at ht'
      generalize o.getD a 0 = x at *
      generalize o.getD a' 0 = x' at *
      rcases ht' with h | h | h
      · have := congrArg (· % (i.length : Int)) h
        simp only [mul_add_mod] at this
        rw [Int.emod_eq_of_lt ba.1 ba.2, Int.emod_eq_of_lt bb.1 bb.2] at this
        exact noTake_ne hi b1 b2 ((takeJB_iff i b b').mpr (.inl this))
      · refine prod_inner (z := 0) hi b1 b2 (.inl ?_)
        have e : i.getD b 0 - i.getD b' 0 - ((b : Int) - (b' : Int)) = (-(x - x' - ((a : Int) - (a' : Int)))) * (i.length : Int) + 0 := by
          rw [Int.neg_mul, Int.sub_mul, Int.sub_mul, Int.sub_mul]
          omega
        rw [e, mul_add_mod]
        rfl
      · refine prod_inner (z := 0) hi b1 b2 (.inr ?_)
        have e : i.getD b 0 - i.getD b' 0 + ((b : Int) - (b' : Int)) = (-(x - x' + ((a : Int) - (a' : Int)))) * (i.length : Int) + 0 := by
          rw [Int.neg_mul, Int.add_mul, Int.sub_mul, Int.sub_mul]
          omega
        rw [e, mul_add_mod]
        rfl
    have hout : r / i.length = s / i.length := by
      rw [hin] at ht' e1
      generalize hq1 : r / i.length = a at *
      generalize hq2 : s / i.length = a' at *
      generalize s % i.length = b' at *
      refine noTake_ne ho a1 a2 ((takeB_iff o a a').mpr ?_)
      rw [e1, e2] at ht'
      generalize o.getD a 0 = x at *
      generalize o.getD a' 0 = x' at *
      rcases ht' with h | h | h
      · refine .inl (Int.eq_of_mul_eq_mul_right (show (i.length : Int) ≠ 0 by omega) (by omega))
      · refine .inr (.inl (Int.eq_of_mul_eq_mul_right (show (i.length : Int) ≠ 0 by omega) ?_))
        rw [Int.sub_mul, Int.sub_mul]
        omega
      · refine .inr (.inr (Int.eq_of_mul_eq_mul_right (show (i.length : Int) ≠ 0 by omega) ?_))
        rw [Int.sub_mul, Int.sub_mul]
        omega
    have : r = s := by
      have := Nat.div_add_mod r i.length
      have := Nat.div_add_mod s i.length
      rw [hin, hout] at *
      omega
    omega
theorem prod_joined {o i : List Int} (hi : NoTake true i) (bi : Bd i) (h1 : 0 < i.length) (ho1 : 0 < o.length) : NoTake true (prodL o i) ↔ NoTake true o := by
  have hw : (0 : Int) < (i.length : Int) := by omega
  constructor
  · intro h
    intro b hb a hab
    cases ht : takes true o a b with
    | false => rfl
    | true =>
      exfalso
      have hb' : b * i.length < o.length * i.length := Nat.mul_lt_mul_of_pos_right hb h1
      have ha' : a * i.length < o.length * i.length := Nat.mul_lt_mul_of_pos_right (by omega) h1
      have hlt : a * i.length < b * i.length := Nat.mul_lt_mul_of_pos_right hab h1
      have key : takes true (prodL o i) (a * i.length) (b * i.length) = true := by
        refine (takeJB_iff _ _ _).mpr ?_
        rw [prodL_getD ha', prodL_getD hb', prodL_len, Nat.mul_div_cancel _ h1, Nat.mul_div_cancel _ h1, Nat.mul_mod_left, Nat.mul_mod_left, Int.natCast_mul, Int.natCast_mul, Int.natCast_mul]
        have ht' := (takeJB_iff _ _ _).mp ht
        generalize o.getD a 0 = x at *
        generalize o.getD b 0 = y at *
        rcases ht' with h | h | h
        · exact .inl (by rw [h])
        · refine .inr (.inl ?_)
          rw [show x * (i.length : Int) + i.getD 0 0 - (y * (i.length : Int) + i.getD 0 0) - ((a : Int) * (i.length : Int) - (b : Int) * (i.length : Int)) = (x - y - ((a : Int) - (b : Int))) * (i.length : Int) by rw [Int.sub_mul, Int.sub_mul, Int.sub_mul]; omega, mul_mod_zero hw]
          exact h
        · refine .inr (.inr ?_)
          rw [show x * (i.length : Int) + i.getD 0 0 - (y * (i.length : Int) + i.getD 0 0) + ((a : Int) * (i.length : Int) - (b : Int) * (i.length : Int)) = (x - y + ((a : Int) - (b : Int))) * (i.length : Int) by rw [Int.add_mul, Int.sub_mul, Int.sub_mul]; omega, mul_mod_zero hw]
          exact h
      have := h (b * i.length) (by rw [prodL_len]; exact hb') (a * i.length) hlt
      rw [key] at this
      cases this
  · intro ho
    intro s hs r hrs
    rw [prodL_len] at hs
    cases ht : takes true (prodL o i) r s with
    | false => rfl
    | true =>
      exfalso
      have hr : r < o.length * i.length := by omega
      have ht' := (takeJB_iff _ _ _).mp ht
      rw [prodL_getD hr, prodL_getD hs, prodL_len, Int.natCast_mul] at ht'
      obtain ⟨a1, b1, e1⟩ := div_split h1 hr
      obtain ⟨a2, b2, e2⟩ := div_split h1 hs
      have ba := bd_getD bi b1
      have bb := bd_getD bi b2
      have red : ∀ x : Int, x % ((o.length : Int) * (i.length : Int)) = 0 → x % (i.length : Int) = 0 := fun x hx => Int.emod_eq_zero_of_dvd (Int.dvd_trans (Int.dvd_mul_left _ _) (Int.dvd_of_emod_eq_zero hx))
      have hin : r % i.length = s % i.length := by
        generalize hq1 : r / i.length = a at *
        generalize hq2 : s / i.length = a' at *
        generalize hq3 : r % i.length = b at *
        generalize hq4 : s % i.length = b' at *
        rw [e1, e2] at ht'
        generalize o.getD a 0 = x at *
        generalize o.getD a' 0 = x' at *
        rcases ht' with h | h | h
        · have := congrArg (· % (i.length : Int)) h
          simp only [mul_add_mod] at this
          rw [Int.emod_eq_of_lt ba.1 ba.2, Int.emod_eq_of_lt bb.1 bb.2] at this
          exact noTake_ne hi b1 b2 ((takeJB_iff i b b').mpr (.inl this))
        · refine prod_inner (z := 0) hi b1 b2 (.inl ?_)
          have h := red _ h
          rw [show x * (i.length : Int) + i.getD b 0 - (x' * (i.length : Int) + i.getD b' 0) - ((a : Int) * (i.length : Int) + (b : Int) - ((a' : Int) * (i.length : Int) + (b' : Int))) = (x - x' - ((a : Int) - (a' : Int))) * (i.length : Int) + (i.getD b 0 - i.getD b' 0 - ((b : Int) - (b' : Int))) by rw [Int.sub_mul, Int.sub_mul, Int.sub_mul]; omega, mul_add_mod] at h
          exact h
        · refine prod_inner (z := 0) hi b1 b2 (.inr ?_)
          have h := red _ h
          rw [show x * (i.length : Int) + i.getD b 0 - (x' * (i.length : Int) + i.getD b' 0) + ((a : Int) * (i.length : Int) + (b : Int) - ((a' : Int) * (i.length : Int) + (b' : Int))) = (x - x' + ((a : Int) - (a' : Int))) * (i.length : Int) + (i.getD b 0 - i.getD b' 0 + ((b : Int) - (b' : Int))) by rw [Int.add_mul, Int.sub_mul, Int.sub_mul]; omega, mul_add_mod] at h
          exact h
      have hout : r / i.length = s / i.length := by
        rw [hin] at ht' e1
        generalize hq1 : r / i.length = a at *
        generalize hq2 : s / i.length = a' at *
        generalize s % i.length = b' at *
        refine noTake_ne ho a1 a2 ((takeJB_iff o a a').mpr ?_)
        rw [e1, e2] at ht'
        generalize o.getD a 0 = x at *
        generalize o.getD a' 0 = x' at *
        rcases ht' with h | h | h
        · exact .inl (Int.eq_of_mul_eq_mul_right (show (i.length : Int) ≠ 0 by omega) (by omega))
        · refine .inr (.inl ?_)
          rw [show x * (i.length : Int) + i.getD b' 0 - (x' * (i.length : Int) + i.getD b' 0) - ((a : Int) * (i.length : Int) + (b' : Int) - ((a' : Int) * (i.length : Int) + (b' : Int))) = (x - x' - ((a : Int) - (a' : Int))) * (i.length : Int) by rw [Int.sub_mul, Int.sub_mul, Int.sub_mul]; omega, mul_mod_zero hw] at h
          exact h
        · refine .inr (.inr ?_)
          rw [show x * (i.length : Int) + i.getD b' 0 - (x' * (i.length : Int) + i.getD b' 0) + ((a : Int) * (i.length : Int) + (b' : Int) - ((a' : Int) * (i.length : Int) + (b' : Int))) = (x - x' + ((a : Int) - (a' : Int))) * (i.length : Int) by rw [Int.add_mul, Int.sub_mul, Int.sub_mul]; omega, mul_mod_zero hw] at h
          exact h
      have : r = s := by
        have := Nat.div_add_mod r i.length
        have := Nat.div_add_mod s i.length
        rw [hin, hout] at *
        omega
      omega
/-! ### every row is some column -/
theorem nodup_sub : ∀ (l m : List Int), l.Nodup → (∀ x ∈ l, x ∈ m) → l.length ≤ m.length
  | [], _, _, _ => Nat.zero_le _
  | x :: l, m, hn, hs => by
    have hx : x ∈ m := hs x List.mem_cons_self
    rw [List.nodup_cons] at hn
    have := nodup_sub l (m.erase x) hn.2 fun y hy => (List.mem_erase_of_ne (fun e : y = x => hn.1 (by rw [← e]; exact hy))).mpr (hs y (List.mem_cons_of_mem _ hy))
    rw [List.length_erase_of_mem hx] at this
    have : 0 < m.length := List.length_pos_of_mem hx
    rw [List.length_cons]
    omega
theorem all_cols {ns : List Int} (hp : NoTake false ns) (hb : Bd ns) {r : Nat} (hr : r < ns.length) : (r : Int) ∈ ns := by
  have hn : ns.Nodup := by
    rw [nodup_getD]
    intro i k hik hk e
    have := hp k hk i hik
    have ht : takes false ns i k = true := (takeB_iff ns i k).mpr (.inl e)
    rw [ht] at this
    cases this
  apply Classical.byContradiction
  intro hm
  have h := nodup_sub ns (((List.range ns.length).map fun i : Nat => (i : Int)).erase (r : Int)) hn fun x hx => by
    refine (List.mem_erase_of_ne (fun e : x = (r : Int) => hm (by rw [← e]; exact hx))).mpr ?_
    have := hb x hx
    exact List.mem_map.mpr ⟨x.toNat, List.mem_range.mpr (by omega), by omega⟩
  rw [List.length_erase_of_mem (List.mem_map.mpr ⟨r, List.mem_range.mpr hr, rfl⟩)] at h
  simp at h
  omega
theorem exL_len (ns : List Int) : (exL ns).length = ns.length := by simp [exL]
theorem exL_bd {ns : List Int} (hp : NoTake false ns) (hb : Bd ns) : Bd (exL ns) := by
  intro c hc
  rw [exL_len]
  unfold exL at hc
  obtain ⟨r, hr, rfl⟩ := List.mem_map.mp hc
  have := List.idxOf_lt_length_of_mem (all_cols hp hb (List.mem_range.mp hr))
  omega
end QR

namespace QR
open PySem PySem.Spec PyProof.Rows L2 Evl
section
variable {P : Program} {w : World} {K : PySem.W.Frag} {mg : Str → Option Value} {base : Heap} {xa : Ek → Addr}
/-! ### take, take_joined -/
def spTk (K : PySem.W.Frag) (j : Bool) : Sp := fun vs H Q _ => ∃ (q : Addr) (ns : List Int) (a b : Nat), vs = [.ref q, .int (a : Int), .int (b : Int)] ∧ SqL K H q (ns.map V.int) ∧ a < ns.length ∧ b < ns.length ∧ RetV (.bl (takes j ns a b)) H Q
theorem ok_take {f : Addr} {fd : FuncData} (F : Fun K "take" "take" s_take f fd) (B : Bl mg) : FnOk P w K mg base (L2N.CX P w) 1 f fd ["setting", "one", "other"] (spTk K false) := by
  refine okB F sc_take (fun vs H Q E h => ?_) (fun cdv A outer s H vs Q E hr h => ?_)
  · obtain ⟨q, ns, a, b, rfl, _⟩ := h
    rfl
  · obtain ⟨q, ns, a, b, rfl, hq, ha, hb, k⟩ := h
    have nd := sc_take.nd
    refine BW.asg 3 nd (EV.abs B.abs (EV.sub (EV.ixL (EV.var 0 rfl) (EV.var 1 rfl) hq (at_ints ha)) (EV.ixL (EV.var 0 rfl) (EV.var 2 rfl) hq (at_ints hb)))) fun H1 e1 => ?_
    exact BW.ret (EV.or2 (EV.eq (EV.var 3 rfl) EV.int) (fun _ => EV.eq (EV.var 3 rfl) (EV.abs B.abs (EV.sub (EV.var 1 rfl) (EV.var 2 rfl))))) fun H2 e2 => k H2 (e1.trans e2)
theorem ok_take_joined {f : Addr} {fd : FuncData} (F : Fun K "take_joined" "take_joined" s_take_joined f fd) (B : Bl mg) : FnOk P w K mg base (L2N.CX P w) 1 f fd ["setting", "one", "other"] (spTk K true) := by
  refine okB F sc_take_joined (fun vs H Q E h => ?_) (fun cdv A outer s H vs Q E hr h => ?_)
  · obtain ⟨q, ns, a, b, rfl, _⟩ := h
    rfl
  · obtain ⟨q, ns, a, b, rfl, hq, ha, hb, k⟩ := h
    have nd := sc_take_joined.nd
    have hlen : ((ns.map V.int).length : Int) = (ns.length : Int) := by simp
    refine BW.asg 3 nd (EV.isI (EV.len B.len (EV.var 0 rfl) hq) hlen) fun H1 e1 => ?_
    refine BW.asg 4 nd (EV.sub (EV.ixL (EV.var 0 rfl) (EV.var 1 rfl) (ex_l e1 hq) (at_ints ha)) (EV.ixL (EV.var 0 rfl) (EV.var 2 rfl) (ex_l e1 hq) (at_ints hb))) fun H2 e2 => ?_
    exact BW.ret (EV.or3 (EV.eq (EV.var 4 rfl) EV.int) (fun _ => EV.eq (EV.mod (EV.add (EV.sub (EV.var 4 rfl) (EV.var 1 rfl)) (EV.var 2 rfl)) (EV.var 3 rfl) (by omega)) EV.int) (fun _ _ => EV.eq (EV.mod (EV.sub (EV.add (EV.var 4 rfl) (EV.var 1 rfl)) (EV.var 2 rfl)) (EV.var 3 rfl) (by omega)) EV.int)) fun H3 e3 => k H3 ((e1.trans e2).trans e3)
theorem sv_tk {H : Hp} {j : Bool} {q : Addr} {ns : List Int} {a b : Nat} (hq : SqL K H q (ns.map V.int)) (ha : a < ns.length) (hb : b < ns.length) : SpV (spTk K j) [.ref q, .int (a : Int), .int (b : Int)] H (.bl (takes j ns a b)) := fun H1 e1 Q k _ => ⟨q, ns, a, b, rfl, ex_l e1 hq, ha, hb, k⟩
/-! ### first_taking -/
def RetF (o : Option (Nat × Nat)) (H : Hp) (Q : VK) : Prop := (o = none → RetV .non H Q) ∧ ∀ a b, o = some (a, b) → ∀ p H2, H p = none → Ex H H2 → H2 p = some (.tup [.int (a : Int), .int (b : Int)]) → Q (.ref p) H2
def spFirst (P : Program) (w : World) (K : PySem.W.Frag) (mg : Str → Option Value) (base : Heap) : Sp := fun vs H Q _ => ∃ (q f : Addr) (ns : List Int) (j : Bool) (o : Option (Nat × Nat)), vs = [.ref q, .ref f] ∧ SqL K H q (ns.map V.int) ∧ ns.length ≤ 1000 ∧ Hc P w K mg base 1 f (spTk K j) ∧ FirstIs j ns o ∧ RetF o H Q
theorem ok_first_taking {f : Addr} {fd : FuncData} (F : Fun K "first_taking" "first_taking" s_first_taking f fd) (B : Bl mg) : FnOk P w K mg base (L2N.CX P w) 2 f fd ["setting", "taking"] (spFirst P w K mg base) := by
  refine okB F sc_first_taking (fun vs H Q E h => ?_) (fun cdv A outer s H vs Q E hr h => ?_)
  · obtain ⟨q, g, ns, j, o, rfl, _⟩ := h
    rfl
  · obtain ⟨q, g, ns, j, o, rfl, hq, hl, hc, ho, k⟩ := h
    have nd := sc_first_taking.nd
    have hlen : ((ns.map V.int).length : Int) = (ns.length : Int) := by simp
    refine BW.forR 2 B.range nd (EV.isI (EV.len B.len (EV.var 0 rfl) hq) hlen) ⟨by omega, by omega⟩ (fun i σ' H' => Ex H H' ∧ (∀ b, b < i → ∀ a, a < b → takes j ns a b = false) ∧ ∃ y2 y3, σ' = [some (.ref q), some (.ref g), y2, y3]) (fun H1 e1 => ⟨e1, fun b hb => by omega, _, _, rfl⟩) ?_ ?_
    · rintro i σ' H' hi ⟨ex, hf, y2, y3, rfl⟩
      refine BW.forR 3 B.range nd (EV.var 2 rfl) ⟨by omega, by omega⟩ (fun i2 σ' H' => Ex H H' ∧ (∀ a, a < i2 → takes j ns a i = false) ∧ ∃ y3, σ' = [some (.ref q), some (.ref g), some (.int (i : Int)), y3]) (fun H1 e1 => ⟨ex.trans e1, fun b hb => by omega, _, rfl⟩) ?_ ?_
      · rintro i2 σ2 H2 hi2 ⟨ex2, hf2, y3, rfl⟩
        refine BW.when (TV.val (EV.callL 1 hc hr rfl (AV.three (EV.var 0 rfl) (EV.var 3 rfl) (EV.var 2 rfl)) (sv_tk (ex_l ex2 hq) (by omega) (by omega)))) (fun hk H3 e3 => ?_) (fun hk H3 e3 => ?_)
        · have hfi : IsFirst j ns i2 i := ⟨⟨by omega, by omega⟩, hk, hf, hf2⟩
          have e : o = some (i2, i) := first_some ho hfi
          refine BW.retU (EU.tup (AV.two (EV.var 3 rfl) (EV.var 2 rfl))) fun p H4 np e4 hp => k.2 i2 i e p H4 (fresh_back (ex2.trans e3) np) ((ex2.trans e3).trans e4) hp
        · refine BW.nil ⟨ex2.trans e3, fun a ha => ?_, _, rfl⟩
          by_cases h : a < i2
          · exact hf2 a h
          · have : a = i2 := by omega
            subst this
            exact hk
      · rintro σ2 H2 ⟨ex2, hf2, y3, rfl⟩
        refine BW.nil ⟨ex2, fun b hb a ha => ?_, _, _, rfl⟩
        by_cases h : b < i
        · exact hf b h a ha
        · have : b = i := by omega
          subst this
          exact hf2 a (by omega)
    · rintro σ' H' ⟨ex, hf, y2, y3, rfl⟩
      have e : o = none := first_none ho fun b hb a ha => hf b (by omega) a ha
      exact BW.ret EV.non fun H2 e2 => k.1 e H2 (ex.trans e2)
end
section
variable {P : Program} {w : World} {K : PySem.W.Frag} {mg : Str → Option Value} {base : Heap} {xa : Ek → Addr}
/-- o is None of what first_taking tells -/
theorem EV.firstN {X : Cx} {e a b : Expr} {σ : L2.St} {H : Hp} {p pos pos2 : Pos} {k : Nat} {o : Option (Nat × Nat)} {ns : List Int} {j : Bool} {q g : Addr} (C : Fc X.prog X.w X.K X.mg X.base 2 "first_taking" (spFirst X.prog X.w X.K X.mg X.base)) (hr : Room k X.A)
    (ha : EV X a σ H (.ref q)) (hb : EV X b σ H (.ref g)) (hc : Hc X.prog X.w X.K X.mg X.base 1 g (spTk X.K j)) (hq : SqL X.K H q (ns.map V.int)) (hl : ns.length ≤ 1000) (ho : FirstIs j ns o) (hn : EV X e σ H .non) (hk : 2 ≤ k := by decide) (hg : Gl X "first_taking" := by rfl) (hs : [a, b].all noStar = true := by rfl) :
    EV X (.Compare (.Call (.Name "first_taking" p) [a, b] [] pos2) [.Is] [e] pos) σ H (.bl o.isNone) := by
  refine EV.of (pe_cmpR op_isN pe_self pe_self (nomark _)) fun H1 e1 Q kq => ?_
  refine EW.call C hr (AV.ev (AV.two ha hb) H1 e1 _ fun H2 e2 => ⟨q, g, ns, j, o, rfl, ex_l (e1.trans e2) hq, hl, hc, ho, ?_, ?_⟩) hk hg hs
  · intro h H3 e3
    refine hn.ev H3 ((e1.trans e2).trans e3) _ fun H4 e4 => ⟨rfl, ?_⟩
    subst h
    exact kq H4 ((e2.trans e3).trans e4)
  · intro x y h r H3 nr e3 hr3
    refine hn.ev H3 ((e1.trans e2).trans e3) _ fun H4 e4 => ⟨rfl, ?_⟩
    subst h
    exact kq H4 ((e2.trans e3).trans e4)
end
end QR

namespace QR
open PySem PySem.Spec PyProof.Rows L2 Evl
/-! ### check_setting -/
def colB (n : Nat) : V → Bool
  | .int i => decide (0 ≤ i) && decide (i < (n : Int))
  | _ => false
def ckList (xs : List V) : Option Ek := if (1 ≤ xs.length ∧ xs.length ≤ 200) ∧ xs.all (colB xs.length) = true then none else some .setting
inductive SetIs (K : PySem.W.Frag) (H : Hp) : V → Option Ek → Prop
  | lst {p : Addr} {xs : List V} : SqL K H p xs → (∀ y ∈ xs, Kd? K H y) → SetIs K H (.ref p) (ckList xs)
  | oth {x : V} {n : String} : TyX K H x (.type n) → n ∈ kinds → n ≠ "list" → SetIs K H x (some .setting)
theorem SetIs.ex {K : PySem.W.Frag} {H H' : Hp} {x : V} {o : Option Ek} (h : SetIs K H x o) (e : Ex H H') : SetIs K H' x o := by
  cases h with
  | lst a b => exact .lst (ex_l e a) fun y hy => (b y hy).ex e
  | oth a b c => exact .oth (TyX.ex a e) b c
theorem SetIs.no {K : PySem.W.Frag} {H : Hp} {x : V} {o : Option Ek} (h : SetIs K H x o) : o = none ∨ o = some .setting := by
  cases h with
  | lst a b =>
    unfold ckList
    split
    · exact .inl rfl
    · exact .inr rfl
  | oth a b c => exact .inr rfl
theorem nolist : ∀ n ∈ kinds, n ≠ "list" → kitB n "list" = some false := by decide +kernel
theorem ckList_ints {ns : List Int} (h1 : 1 ≤ ns.length) (h2 : ns.length ≤ 200) (hb : ∀ c ∈ ns, 0 ≤ c ∧ c < (ns.length : Int)) : ckList (ns.map V.int) = none := by
  unfold ckList
  rw [if_pos]
  refine ⟨by rw [List.length_map]; exact ⟨h1, h2⟩, List.all_eq_true.mpr fun x hx => ?_⟩
  obtain ⟨c, hc, rfl⟩ := List.mem_map.mp hx
  have := hb c hc
  simp [colB, this]
theorem SetIs.ints {K : PySem.W.Frag} {H : Hp} {p : Addr} {ns : List Int} (h : SqL K H p (ns.map V.int)) (h1 : 1 ≤ ns.length) (h2 : ns.length ≤ 200) (hb : ∀ c ∈ ns, 0 ≤ c ∧ c < (ns.length : Int)) : SetIs K H (.ref p) none := by
  rw [← ckList_ints h1 h2 hb]
  exact .lst h fun y hy => by
    obtain ⟨c, hc, rfl⟩ := List.mem_map.mp hy
    exact Kd?.int
def spCkSetting (K : PySem.W.Frag) (xa : Ek → Addr) : Sp := fun vs H Q E => ∃ x o, vs = [x] ∧ SetIs K H x o ∧ Res xa o .non H Q E
section
variable {P : Program} {w : World} {K : PySem.W.Frag} {mg : Str → Option Value} {base : Heap} {xa : Ek → Addr}
theorem ok_check_setting {f : Addr} {fd : FuncData} (F : Fun K "check_setting" "check_setting" s_check_setting f fd) (B : Bl mg) (Cn : Fc P w K mg base 1 "is_number" (spIsNum K)) (xS : Xc K mg "BadSetting" (xa .setting)) (gM : ∃ t, mg "MOST" = some (.int 200 t)) : FnOk P w K mg base (L2N.CX P w) 2 f fd ["setting"] (spCkSetting K xa) := by
  obtain ⟨tM, gM⟩ := gM
  refine okR F sc_check_setting (fun vs H Q E h => ?_) (fun cdv A outer s H vs Q E hr h => ?_)
  · obtain ⟨x, o, rfl, _⟩ := h
    rfl
  · obtain ⟨x, o, rfl, hx, q⟩ := h
    have nd := sc_check_setting.nd
    cases hx with
    | oth ty hk hn =>
      refine BW.take (TV.is (TV.or2 (k2 := false) (TV.not (TV.val (EV.isT B.isinstance B.list boot_list' (EV.var 0 rfl) ty (k := false) (nolist _ hk hn)))) (fun z => nomatch z)) rfl) fun H1 e1 => ?_
      exact BW.raise xS (L2N.takes_of rfl rfl rfl rfl) (q H1 e1)
    | @lst p xs hp hk =>
      refine BW.when (TV.or2 (TV.not (TV.val (EV.isT B.isinstance B.list boot_list' (EV.var 0 rfl) (ty_list hp) (k := true) (by decide +kernel)))) (fun _ => TV.not (TV.leLe EV.int (EV.len B.len (EV.var 0 rfl) hp) (EV.globI gM)))) (fun hk1 H1 e1 => ?_) (fun hk1 H1 e1 => ?_)
      · refine BW.raise xS (L2N.takes_of rfl rfl rfl rfl) (q.bad ?_ H1 e1)
        unfold ckList
        rw [if_neg]
        rintro ⟨⟨z1, z2⟩, _⟩
        simp only [Bool.not_true, Bool.false_or, Bool.not_eq_true', Bool.and_eq_false_iff, decide_eq_false_iff_not] at hk1
        omega
      · have hl : 1 ≤ (xs.length : Int) ∧ (xs.length : Int) ≤ 200 := by
          have hk2 := hk1
          simp only [Bool.not_true, Bool.false_or, Bool.not_eq_false', Bool.and_eq_true, decide_eq_true_eq] at hk2
          exact hk2
        refine BW.when (TV.not (TV.val (EV.allN (bs := xs.map (colB xs.length)) B.all (EL.is (LC.list (j := 1) (fun i => .bl (colB xs.length (xs.getD i .non))) nd (blkOk_by (N := n_check_setting) (sc := defScope s_check_setting) (by decide +kernel)) (EV.var 0 rfl) (ex_l e1 hp) (by omega) (fun i y H2 e2 hi s0 H0 C0 cl fp => ?_)).el ?_)))) (fun hk2 H2 e2 => ?_) (fun hk2 H2 e2 => ?_)
        · have hm : y ∈ xs := List.mem_of_getElem? hi
          have hg : xs.getD i .non = y := by rw [List.getD_eq_getElem?_getD, hi]; rfl
          rw [hg]
          have e12 := e1.trans e2
          have kd := (hk y hm).ex e12
          by_cases hb : numB y 0 = true
          · obtain ⟨c, rfl, hc⟩ := numB_int hb
            refine EV.isB (EV.and2 (EV.call Cn hr (AV.two (EV.var 1 rfl) EV.int) (sv_isnum' kd)) (fun _ => EV.lt (EV.var 1 rfl) (EV.len B.len (EV.var 0 rfl) (ex_l e12 hp)))) ?_
            simp [numB, colB]
          · refine EV.isB (EV.and2 (k2 := false) (EV.call Cn hr (AV.two (EV.var 1 rfl) EV.int) (sv_isnum' kd)) (fun z => absurd z hb)) ?_
            have h0 : numB y 0 = false := by simpa using hb
            rw [h0]
            cases y with
            | int c =>
              have : ¬ 0 ≤ c := of_decide_eq_false h0
              simp [colB, this]
            | _ => rfl
        · apply List.ext_getElem
          · simp
          · intro i h1 h2
            simp at h1 h2 ⊢
            rw [List.getElem?_eq_getElem h1]
            rfl
        · refine BW.raise xS (L2N.takes_of rfl rfl rfl rfl) (q.bad ?_ H2 (e1.trans e2))
          unfold ckList
          rw [if_neg]
          rintro ⟨_, z⟩
          have : ¬ xs.all (colB xs.length) = true := by
            intro z2
            rw [List.all_map] at hk2
            have : (xs.all (id ∘ colB xs.length)) = true := z2
            rw [this] at hk2
            cases hk2
          exact this z
        · refine BW.nil (q.good ?_ H2 (e1.trans e2))
          unfold ckList
          rw [if_pos]
          refine ⟨by omega, ?_⟩
          rw [List.all_map] at hk2
          have : (xs.all (id ∘ colB xs.length)) = true := by simpa using hk2
          exact this
theorem sx_setg {H : Hp} {x : V} {o : Option Ek} (h : SetIs K H x o) : SpX (spCkSetting K xa) xa [x] H o .non := fun H1 e1 Q E r => ⟨x, o, rfl, h.ex e1, r⟩
end
end QR

namespace QR
open PySem PySem.Spec PyProof.Rows L2 Evl
section
variable {P : Program} {w : World} {K : PySem.W.Frag} {mg : Str → Option Value} {base : Heap} {xa : Ek → Addr}
/-! ### column_of, row_at -/
def spColOf : Sp := fun vs H Q _ => ∃ n r : Int, vs = [.int n, .int r] ∧ 0 ≤ r ∧ r < n ∧ RetV (.int (colF n r)) H Q
theorem ok_column_of {f : Addr} {fd : FuncData} (F : Fun K "column_of" "column_of" s_column_of f fd) : FnOk P w K mg base (L2N.CX P w) 1 f fd ["size", "row"] spColOf := by
  refine okB F sc_column_of (fun vs H Q E h => ?_) (fun cdv A outer s H vs Q E hr h => ?_)
  · obtain ⟨n, r, rfl, _⟩ := h
    rfl
  · obtain ⟨n, r, rfl, h0, h1, k⟩ := h
    have nd := sc_column_of.nd
    refine BW.whenC (fun σ' H' => Ex H H' ∧ ∃ m : Int, σ' = [some (.int m), some (.int r), none] ∧ r < m ∧ colF n r = colE m r) (TV.eq (EV.mod (EV.var 0 rfl) EV.int (by decide)) EV.int) (fun hk H1 e1 => ?_) (fun hk H1 e1 => ?_) ?_
    · have hk' : n % 2 = 1 := of_decide_eq_true hk
      refine BW.when (TV.eq (EV.var 1 rfl) (EV.sub (EV.var 0 rfl) EV.int)) (fun hj H2 e2 => ?_) (fun hj H2 e2 => ?_)
      · have hj' : r = n - 1 := of_decide_eq_true hj
        refine BW.ret (EV.var 1 rfl) fun H3 e3 => ?_
        have q := k H3 ((e1.trans e2).trans e3)
        unfold colF at q
        rw [if_pos hk', if_pos hj'] at q
        exact q
      · have hj' : r ≠ n - 1 := of_decide_eq_false hj
        refine BW.augS 0 nd rfl EV.int fun H3 e3 => BW.nil ⟨(e1.trans e2).trans e3, n - 1, rfl, by omega, ?_⟩
        unfold colF
        rw [if_pos hk', if_neg hj']
    · have hk' : n % 2 ≠ 1 := of_decide_eq_false hk
      refine ⟨e1, n, rfl, h1, ?_⟩
      unfold colF
      rw [if_neg hk']
    · rintro σ' H' ⟨ex, m, rfl, hm, hc⟩
      refine BW.asg 2 nd (EV.fdiv (EV.var 0 rfl) EV.int (by decide)) fun H2 e2 => ?_
      refine BW.when (TV.ne (EV.mod (EV.var 0 rfl) EV.int (by decide)) EV.int) (fun hk H3 e3 => ?_) (fun hk H3 e3 => ?_)
      · refine BW.ret (EV.isI (j := colF n r) (EV.iteI (TV.lt (EV.var 1 rfl) (EV.var 2 rfl)) (fun h1 => (EV.add (EV.mul EV.int (EV.var 1 rfl) (mul_small (.inl ⟨by decide, by decide⟩))) EV.int)) (fun h1 => (EV.mul EV.int (EV.sub (EV.var 1 rfl) (EV.var 2 rfl)) (mul_small (.inl ⟨by decide, by decide⟩))))) ?_) fun H4 e4 => k H4 (((ex.trans e2).trans e3).trans e4)
        rw [hc]
        unfold colE
        rw [if_pos (show m % 6 ≠ 2 from of_decide_eq_true hk)]
        simp only [decide_eq_true_eq]
      · refine BW.when (TV.lt (EV.var 1 rfl) (EV.var 2 rfl)) (fun hj H4 e4 => ?_) (fun hj H4 e4 => ?_)
        · refine BW.ret (EV.isI (j := colF n r) (EV.mod (EV.sub (EV.add (EV.mul EV.int (EV.var 1 rfl) (mul_small (.inl ⟨by decide, by decide⟩))) (EV.var 2 rfl)) EV.int) (EV.var 0 rfl) (by omega)) ?_) fun H5 e5 => k H5 ((((ex.trans e2).trans e3).trans e4).trans e5)
          rw [hc]
          unfold colE
          rw [if_neg (show ¬ m % 6 ≠ 2 from of_decide_eq_false hk), if_pos (show r < m / 2 from of_decide_eq_true hj)]
        · refine BW.ret (EV.isI (j := colF n r) (EV.sub (EV.sub (EV.var 0 rfl) EV.int) (EV.mod (EV.sub (EV.add (EV.mul EV.int (EV.sub (EV.sub (EV.var 0 rfl) EV.int) (EV.var 1 rfl)) (mul_small (.inl ⟨by decide, by decide⟩))) (EV.var 2 rfl)) EV.int) (EV.var 0 rfl) (by omega))) ?_) fun H5 e5 => k H5 ((((ex.trans e2).trans e3).trans e4).trans e5)
          rw [hc]
          unfold colE
          rw [if_neg (show ¬ m % 6 ≠ 2 from of_decide_eq_false hk), if_neg (show ¬ r < m / 2 from of_decide_eq_false hj)]
theorem sv_colOf {H : Hp} {n r : Int} (h0 : 0 ≤ r) (h1 : r < n) : SpV spColOf [.int n, .int r] H (.int (colF n r)) := fun H1 e1 Q q _ => ⟨n, r, rfl, h0, h1, q⟩
/-! ### check_peaceful -/
def ckPeace (x : V) : Option Ek := if numB x 1 = true then (if x = .int 2 ∨ x = .int 3 then some .none else none) else some .size
def spCkPeace (K : PySem.W.Frag) (xa : Ek → Addr) : Sp := fun vs H Q E => ∃ x, vs = [x] ∧ Kd? K H x ∧ Res xa (ckPeace x) .non H Q E
theorem in23v (b : Int) : inV (.int b) [.int 2, .int 3] = decide (b = 2 ∨ b = 3) := by
  have : (∀ x : Int, eqV (.int x) (.int b) = decide (b = x)) := fun x => by simp [eqV, Bool.beq_eq_decide_eq, eq_comm]
  simp only [inV, List.any_cons, List.any_nil, Bool.or_false, this, Bool.decide_or]
theorem ok_check_peacefulX {f : Addr} {fd : FuncData} (F : Fun K "check_peaceful" "check_peaceful" s_check_peaceful f fd) (Cs : Fc P w K mg base 2 "check_size" (spCkSize K xa)) (xN : Xc K mg "NoSetting" (xa .none)) : FnOk P w K mg base (L2N.CX P w) 3 f fd ["size"] (spCkPeace K xa) := by
  refine okR F sc_check_peaceful (fun vs H Q E h => ?_) (fun cdv A outer s H vs Q E hr h => ?_)
  · obtain ⟨n, rfl, _⟩ := h
    rfl
  · obtain ⟨x, rfl, kd, q⟩ := h
    refine BW.exprX Cs hr (L2N.takes_of (E := E) rfl rfl rfl rfl) (AV.one (EV.var 0 rfl)) fun H1 e1 => sx_size kd H1 e1 _ E ?_
    by_cases hx : numB x 1 = true
    · have ho : ckSize x = none := by unfold ckSize; rw [if_pos hx]
      rw [ho]
      intro H2 e2
      obtain ⟨i, rfl, hi⟩ := numB_int hx
      refine BW.when (TV.inU (EV.var 0 rfl) (EU.tup (AV.cons EV.int (AV.cons EV.int AV.nil)))) (fun hk H3 e3 => ?_) (fun hk H3 e3 => ?_)
      · rw [in23v] at hk
        refine BW.raise xN (L2N.takes_of (E := E) rfl rfl rfl rfl) (q.bad ?_ H3 ((e1.trans e2).trans e3))
        unfold ckPeace
        rw [if_pos hx, if_pos (by simpa using of_decide_eq_true hk)]
      · rw [in23v] at hk
        refine BW.nil (q.good ?_ H3 ((e1.trans e2).trans e3))
        unfold ckPeace
        rw [if_pos hx, if_neg (by simpa using of_decide_eq_false hk)]
    · have ho : ckSize x = some .size := by unfold ckSize; rw [if_neg hx]
      rw [ho]
      exact fun H2 e2 => q.bad (by unfold ckPeace; rw [if_neg hx]) H2 (e1.trans e2)
theorem sx_peace {H : Hp} {x : V} (h : Kd? K H x) : SpX (spCkPeace K xa) xa [x] H (ckPeace x) .non := fun H1 e1 Q E r => ⟨x, rfl, h.ex e1, r⟩
def intV : V → Int
  | .int i => i
  | _ => 0
theorem ckPeace_none {x : V} (h : ckPeace x = none) : ∃ n, x = .int n ∧ 1 ≤ n ∧ n ≠ 2 ∧ n ≠ 3 := by
  unfold ckPeace at h
  by_cases hx : numB x 1 = true
  · obtain ⟨i, rfl, hi⟩ := numB_int hx
    rw [if_pos hx] at h
    by_cases h2 : V.int i = .int 2 ∨ V.int i = .int 3
    · rw [if_pos h2] at h
      cases h
    · refine ⟨i, rfl, hi, fun z => h2 (.inl (by rw [z])), fun z => h2 (.inr (by rw [z]))⟩
  · rw [if_neg hx] at h
    cases h
theorem ckPeace_ok {n : Int} (h1 : 1 ≤ n) (h2 : n ≠ 2) (h3 : n ≠ 3) : ckPeace (.int n) = none := by
  unfold ckPeace
  rw [if_pos (by simp [numB, h1]), if_neg (by simp [h2, h3])]
end
end QR

namespace QR
open PySem PySem.Spec PyProof.Rows L2 Evl
section
variable {P : Program} {w : World} {K : PySem.W.Frag} {mg : Str → Option Value} {base : Heap} {xa : Ek → Addr}
/-! ### check_place -/
def ltV : V → V → Bool
  | .int a, .int b => decide (a < b)
  | _, _ => false
def ckPlace (x y : V) : Option Ek := match ckPeace x with
  | some k => some k
  | none => if numB y 0 = true ∧ ltV y x = true then none else some .place
def spCkPlace (K : PySem.W.Frag) (xa : Ek → Addr) : Sp := fun vs H Q E => ∃ x y, vs = [x, y] ∧ Kd? K H x ∧ Kd? K H y ∧ Res xa (ckPlace x y) .non H Q E
theorem ok_check_placeX {f : Addr} {fd : FuncData} (F : Fun K "check_place" "check_place" s_check_place f fd) (Cn : Fc P w K mg base 1 "is_number" (spIsNum K)) (Cs : Fc P w K mg base 3 "check_peaceful" (spCkPeace K xa)) (xP : Xc K mg "BadPlace" (xa .place)) : FnOk P w K mg base (L2N.CX P w) 4 f fd ["size", "place"] (spCkPlace K xa) := by
  refine okR F sc_check_place (fun vs H Q E h => ?_) (fun cdv A outer s H vs Q E hr h => ?_)
  · obtain ⟨n, r, rfl, _⟩ := h
    rfl
  · obtain ⟨x, y, rfl, kd, kd2, q⟩ := h
    refine BW.exprX Cs hr (L2N.takes_of (E := E) rfl rfl rfl rfl) (AV.one (EV.var 0 rfl)) fun H1 e1 => sx_peace kd H1 e1 _ E ?_
    cases ho : ckPeace x with
    | some k0 => exact fun H2 e2 => q.bad (by unfold ckPlace; rw [ho]) H2 (e1.trans e2)
    | none =>
      intro H2 e2
      obtain ⟨n, rfl, hn, _, _⟩ := ckPeace_none ho
      have e12 := e1.trans e2
      by_cases hy : numB y 0 = true
      · obtain ⟨i, rfl, hi⟩ := numB_int hy
        refine BW.when (TV.or2 (TV.not (TV.val (EV.call Cn hr (AV.two (EV.var 1 rfl) EV.int) (sv_isnum' (kd2.ex e12))))) (fun _ => TV.ge (EV.var 1 rfl) (EV.var 0 rfl))) (fun hk H3 e3 => ?_) (fun hk H3 e3 => ?_)
        · refine BW.raise xP (L2N.takes_of (E := E) rfl rfl rfl rfl) (q.bad ?_ H3 (e12.trans e3))
          rw [hy] at hk
          have : n ≤ i := by simpa using hk
          unfold ckPlace
          rw [ho]
          show (if numB (.int i) 0 = true ∧ ltV (.int i) (.int n) = true then none else some Ek.place) = _
          rw [if_neg (by intro z; have := of_decide_eq_true z.2; omega)]
        · refine BW.nil (q.good ?_ H3 (e12.trans e3))
          rw [hy] at hk
          have : i < n := by simpa using hk
          unfold ckPlace
          rw [ho]
          show (if numB (.int i) 0 = true ∧ ltV (.int i) (.int n) = true then none else some Ek.place) = _
          rw [if_pos ⟨hy, decide_eq_true this⟩]
      · refine BW.take (TV.is (TV.or2 (k2 := false) (TV.not (TV.val (EV.call Cn hr (AV.two (EV.var 1 rfl) EV.int) (sv_isnum' (kd2.ex e12))))) (fun z => absurd z (by simp [hy]))) (by simp [hy])) fun H3 e3 => ?_
        refine BW.raise xP (L2N.takes_of (E := E) rfl rfl rfl rfl) (q.bad ?_ H3 (e12.trans e3))
        unfold ckPlace
        rw [ho]
        show (if numB y 0 = true ∧ ltV y (.int n) = true then none else some Ek.place) = _
        rw [if_neg (fun z => hy z.1)]
theorem sx_place {H : Hp} {x y : V} (h : Kd? K H x) (h2 : Kd? K H y) : SpX (spCkPlace K xa) xa [x, y] H (ckPlace x y) .non := fun H1 e1 Q E r => ⟨x, y, rfl, h.ex e1, h2.ex e1, r⟩
theorem ckPlace_none {x y : V} (h : ckPlace x y = none) : ∃ n r, x = .int n ∧ y = .int r ∧ 1 ≤ n ∧ n ≠ 2 ∧ n ≠ 3 ∧ 0 ≤ r ∧ r < n := by
  unfold ckPlace at h
  cases ho : ckPeace x with
  | some k => rw [ho] at h; cases h
  | none =>
    obtain ⟨n, rfl, h1, h2, h3⟩ := ckPeace_none ho
    rw [ho] at h
    have h' : (if numB y 0 = true ∧ ltV y (.int n) = true then none else some Ek.place) = none := h
    by_cases hy : numB y 0 = true ∧ ltV y (.int n) = true
    · obtain ⟨i, rfl, hi⟩ := numB_int hy.1
      exact ⟨n, i, rfl, rfl, h1, h2, h3, hi, of_decide_eq_true hy.2⟩
    · rw [if_neg hy] at h'
      cases h'
theorem ckPlace_ok {n r : Int} (h1 : 1 ≤ n) (h2 : n ≠ 2) (h3 : n ≠ 3) (h0 : 0 ≤ r) (hr : r < n) : ckPlace (.int n) (.int r) = none := by
  unfold ckPlace
  rw [ckPeace_ok h1 h2 h3]
  show (if numB (.int r) 0 = true ∧ ltV (.int r) (.int n) = true then none else some Ek.place) = _
  rw [if_pos ⟨decide_eq_true h0, decide_eq_true hr⟩]
/-! ### column, row_of -/
def spCol (K : PySem.W.Frag) (xa : Ek → Addr) : Sp := fun vs H Q E => ∃ x y, vs = [x, y] ∧ Kd? K H x ∧ Kd? K H y ∧ Res xa (ckPlace x y) (.int (colF (intV x) (intV y))) H Q E
theorem ok_columnX {f : Addr} {fd : FuncData} (F : Fun K "column" "column" s_column f fd) (Cp : Fc P w K mg base 4 "check_place" (spCkPlace K xa)) (Cc : Fc P w K mg base 1 "column_of" spColOf) : FnOk P w K mg base (L2N.CX P w) 5 f fd ["size", "row"] (spCol K xa) := by
  refine okR F sc_column (fun vs H Q E h => ?_) (fun cdv A outer s H vs Q E hr h => ?_)
  · obtain ⟨n, r, rfl, _⟩ := h
    rfl
  · obtain ⟨x, y, rfl, kd, kd2, q⟩ := h
    refine BW.exprX Cp hr (L2N.takes_of (E := E) rfl rfl rfl rfl) (AV.two (EV.var 0 rfl) (EV.var 1 rfl)) fun H1 e1 => sx_place kd kd2 H1 e1 _ E ?_
    cases ho : ckPlace x y with
    | some k0 => exact fun H2 e2 => q.bad ho H2 (e1.trans e2)
    | none =>
      obtain ⟨n, r, rfl, rfl, h1, h2, h3, h0, hr'⟩ := ckPlace_none ho
      intro H2 e2
      exact BW.ret (EV.call Cc hr (AV.two (EV.var 0 rfl) (EV.var 1 rfl)) (sv_colOf h0 hr')) fun H3 e3 => q.good ho H3 ((e1.trans e2).trans e3)
theorem sx_col {H : Hp} {x y : V} (h : Kd? K H x) (h2 : Kd? K H y) : SpX (spCol K xa) xa [x, y] H (ckPlace x y) (.int (colF (intV x) (intV y))) := fun H1 e1 Q E r => ⟨x, y, rfl, h.ex e1, h2.ex e1, r⟩
theorem sv_col {H : Hp} {n r : Int} (h1 : 1 ≤ n) (h2 : n ≠ 2) (h3 : n ≠ 3) (h0 : 0 ≤ r) (hr : r < n) : SpV (spCol K xa) [.int n, .int r] H (.int (colF n r)) := by
  have := sx_col (K := K) (xa := xa) (H := H) (x := .int n) (y := .int r) Kd?.int Kd?.int
  rw [ckPlace_ok h1 h2 h3 h0 hr] at this
  exact this.v
end
end QR

namespace QR
open PySem PySem.Spec PyProof.Rows L2 Evl
section
variable {P : Program} {w : World} {K : PySem.W.Frag} {mg : Str → Option Value} {base : Heap} {xa : Ek → Addr}
def spRowAt : Sp := fun vs H Q _ => ∃ n r : Int, vs = [.int n, .int r] ∧ 0 ≤ r ∧ r < n ∧ RetV (.int (rowF n r)) H Q
theorem ok_row_at {f : Addr} {fd : FuncData} (F : Fun K "row_at" "row_at" s_row_at f fd) : FnOk P w K mg base (L2N.CX P w) 1 f fd ["size", "column"] spRowAt := by
  refine okB F sc_row_at (fun vs H Q E h => ?_) (fun cdv A outer s H vs Q E hr h => ?_)
  · obtain ⟨n, r, rfl, _⟩ := h
    rfl
  · obtain ⟨n, r, rfl, h0, h1, k⟩ := h
    have nd := sc_row_at.nd
    refine BW.whenC (fun σ' H' => Ex H H' ∧ ∃ m : Int, σ' = [some (.int m), some (.int r), none, none] ∧ r < m ∧ rowF n r = rowE m r) (TV.eq (EV.mod (EV.var 0 rfl) EV.int (by decide)) EV.int) (fun hk H1 e1 => ?_) (fun hk H1 e1 => ?_) ?_
    · have hk' : n % 2 = 1 := of_decide_eq_true hk
      refine BW.when (TV.eq (EV.var 1 rfl) (EV.sub (EV.var 0 rfl) EV.int)) (fun hj H2 e2 => ?_) (fun hj H2 e2 => ?_)
      · have hj' : r = n - 1 := of_decide_eq_true hj
        refine BW.ret (EV.var 1 rfl) fun H3 e3 => ?_
        have q := k H3 ((e1.trans e2).trans e3)
        unfold rowF at q
        rw [if_pos hk', if_pos hj'] at q
        exact q
      · have hj' : r ≠ n - 1 := of_decide_eq_false hj
        refine BW.augS 0 nd rfl EV.int fun H3 e3 => BW.nil ⟨(e1.trans e2).trans e3, n - 1, rfl, by omega, ?_⟩
        unfold rowF
        rw [if_pos hk', if_neg hj']
    · have hk' : n % 2 ≠ 1 := of_decide_eq_false hk
      refine ⟨e1, n, rfl, h1, ?_⟩
      unfold rowF
      rw [if_neg hk']
    · rintro σ' H' ⟨ex, m, rfl, hm, hc⟩
      refine BW.asg 2 nd (EV.fdiv (EV.var 0 rfl) EV.int (by decide)) fun H2 e2 => ?_
      refine BW.when (TV.ne (EV.mod (EV.var 0 rfl) EV.int (by decide)) EV.int) (fun hk H3 e3 => ?_) (fun hk H3 e3 => ?_)
      · refine BW.ret (EV.isI (j := rowF n r) (EV.iteI (TV.eq (EV.mod (EV.var 1 rfl) EV.int (by decide)) EV.int) (fun h1 => (EV.fdiv (EV.var 1 rfl) EV.int (by decide))) (fun h1 => (EV.add (EV.var 2 rfl) (EV.fdiv (EV.var 1 rfl) EV.int (by decide))))) ?_) fun H4 e4 => k H4 (((ex.trans e2).trans e3).trans e4)
        rw [hc]
        unfold rowE
        rw [if_pos (show m % 6 ≠ 2 from of_decide_eq_true hk)]
        simp only [decide_eq_true_eq]
      · refine BW.asg 3 nd (EV.mod (EV.add (EV.sub (EV.var 1 rfl) (EV.var 2 rfl)) EV.int) (EV.var 0 rfl) (by omega)) fun H4 e4 => ?_
        refine BW.when (TV.eq (EV.mod (EV.var 3 rfl) EV.int (by decide)) EV.int) (fun hj H5 e5 => ?_) (fun hj H5 e5 => ?_)
        · refine BW.ret (EV.isI (j := rowF n r) (EV.fdiv (EV.var 3 rfl) EV.int (by decide)) ?_) fun H6 e6 => k H6 (((((ex.trans e2).trans e3).trans e4).trans e5).trans e6)
          rw [hc]
          unfold rowE
          rw [if_neg (show ¬ m % 6 ≠ 2 from of_decide_eq_false hk), if_pos (show (r - m / 2 + 1) % m % 2 = 0 from of_decide_eq_true hj)]
        · refine BW.ret (EV.isI (j := rowF n r) (EV.sub (EV.sub (EV.var 0 rfl) EV.int) (EV.fdiv (EV.mod (EV.sub (EV.sub (EV.var 0 rfl) (EV.var 1 rfl)) (EV.var 2 rfl)) (EV.var 0 rfl) (by omega)) EV.int (by decide))) ?_) fun H6 e6 => k H6 (((((ex.trans e2).trans e3).trans e4).trans e5).trans e6)
          rw [hc]
          unfold rowE
          rw [if_neg (show ¬ m % 6 ≠ 2 from of_decide_eq_false hk), if_neg (show ¬ (r - m / 2 + 1) % m % 2 = 0 from of_decide_eq_false hj)]
theorem sv_rowAt {H : Hp} {n r : Int} (h0 : 0 ≤ r) (h1 : r < n) : SpV spRowAt [.int n, .int r] H (.int (rowF n r)) := fun H1 e1 Q q _ => ⟨n, r, rfl, h0, h1, q⟩
def spRow (K : PySem.W.Frag) (xa : Ek → Addr) : Sp := fun vs H Q E => ∃ x y, vs = [x, y] ∧ Kd? K H x ∧ Kd? K H y ∧ Res xa (ckPlace x y) (.int (rowF (intV x) (intV y))) H Q E
theorem ok_row_ofX {f : Addr} {fd : FuncData} (F : Fun K "row_of" "row_of" s_row_of f fd) (Cp : Fc P w K mg base 4 "check_place" (spCkPlace K xa)) (Cc : Fc P w K mg base 1 "row_at" spRowAt) : FnOk P w K mg base (L2N.CX P w) 5 f fd ["size", "column"] (spRow K xa) := by
  refine okR F sc_row_of (fun vs H Q E h => ?_) (fun cdv A outer s H vs Q E hr h => ?_)
  · obtain ⟨n, r, rfl, _⟩ := h
    rfl
  · obtain ⟨x, y, rfl, kd, kd2, q⟩ := h
    refine BW.exprX Cp hr (L2N.takes_of (E := E) rfl rfl rfl rfl) (AV.two (EV.var 0 rfl) (EV.var 1 rfl)) fun H1 e1 => sx_place kd kd2 H1 e1 _ E ?_
    cases ho : ckPlace x y with
    | some k0 => exact fun H2 e2 => q.bad ho H2 (e1.trans e2)
    | none =>
      obtain ⟨n, r, rfl, rfl, h1, h2, h3, h0, hr'⟩ := ckPlace_none ho
      intro H2 e2
      exact BW.ret (EV.call Cc hr (AV.two (EV.var 0 rfl) (EV.var 1 rfl)) (sv_rowAt h0 hr')) fun H3 e3 => q.good ho H3 ((e1.trans e2).trans e3)
theorem sx_row {H : Hp} {x y : V} (h : Kd? K H x) (h2 : Kd? K H y) : SpX (spRow K xa) xa [x, y] H (ckPlace x y) (.int (rowF (intV x) (intV y))) := fun H1 e1 Q E r => ⟨x, y, rfl, h.ex e1, h2.ex e1, r⟩
theorem sv_row {H : Hp} {n r : Int} (h1 : 1 ≤ n) (h2 : n ≠ 2) (h3 : n ≠ 3) (h0 : 0 ≤ r) (hr : r < n) : SpV (spRow K xa) [.int n, .int r] H (.int (rowF n r)) := by
  have := sx_row (K := K) (xa := xa) (H := H) (x := .int n) (y := .int r) Kd?.int Kd?.int
  rw [ckPlace_ok h1 h2 h3 h0 hr] at this
  exact this.v
end
end QR

namespace QR
open PySem PySem.Spec PyProof.Rows L2 Evl
section
variable {P : Program} {w : World} {K : PySem.W.Frag} {mg : Str → Option Value} {base : Heap} {xa : Ek → Addr}
/-! ### setting -/
def ckSet (x : V) : Option Ek := if numB x 1 = true then (if 200 < intV x then some .size else if x = .int 2 ∨ x = .int 3 then some .none else none) else some .size
def setL (n : Nat) : List Int := (List.range n).map fun i : Nat => colF n i
/-- refuses, or gives a new list -/
def ResL (xa : Ek → Addr) (o : Option Ek) (xs : List V) (H : Hp) (Q : VK) (E : XK) : Prop := match o with
  | none => RetL xs H Q
  | some k => ∀ H2, Ex H H2 → E (.ref (xa k)) none H2
theorem ResL.good {o : Option Ek} {xs : List V} {H : Hp} {Q : VK} {E : XK} (h : ResL xa o xs H Q E) (ho : o = none) : RetL xs H Q := by subst ho; exact h
theorem ResL.bad {o : Option Ek} {xs : List V} {H : Hp} {Q : VK} {E : XK} {k : Ek} (h : ResL xa o xs H Q E) (ho : o = some k) : ∀ H2, Ex H H2 → E (.ref (xa k)) none H2 := by subst ho; exact h
def SpLX (sp : Sp) (xa : Ek → Addr) (vs : List V) (H : Hp) (o : Option Ek) (xs : List V) : Prop := ∀ H1, Ex H H1 → ∀ (Q : VK) (E : XK), ResL xa o xs H1 Q E → sp vs H1 Q E
theorem SpLX.l {sp : Sp} {vs : List V} {H : Hp} {xs : List V} (h : SpLX sp xa vs H none xs) : SpL sp vs H xs := fun H1 e1 Q q E => h H1 e1 Q E q
def spSetting (K : PySem.W.Frag) (xa : Ek → Addr) : Sp := fun vs H Q E => ∃ x, vs = [x] ∧ Kd? K H x ∧ ResL xa (ckSet x) ((setL (intV x).toNat).map V.int) H Q E
theorem ckSet_size {x : V} (h : ckSize x = some .size) : ckSet x = some .size := by
  unfold ckSize at h
  unfold ckSet
  by_cases hx : numB x 1 = true
  · rw [if_pos hx] at h
    cases h
  · rw [if_neg hx]
theorem ok_settingX {f : Addr} {fd : FuncData} (F : Fun K "setting" "setting" s_setting f fd) (B : Bl mg) (Cs : Fc P w K mg base 2 "check_size" (spCkSize K xa)) (Cp : Fc P w K mg base 3 "check_peaceful" (spCkPeace K xa)) (Cc : Fc P w K mg base 1 "column_of" spColOf) (xS : Xc K mg "BadSize" (xa .size)) (gM : ∃ t, mg "MOST" = some (.int 200 t)) : FnOk P w K mg base (L2N.CX P w) 4 f fd ["size"] (spSetting K xa) := by
  obtain ⟨tM, gM⟩ := gM
  refine okR F sc_setting (fun vs H Q E h => ?_) (fun cdv A outer s H vs Q E hr h => ?_)
  · obtain ⟨n, rfl, _⟩ := h
    rfl
  · obtain ⟨x, rfl, kd, q⟩ := h
    have nd := sc_setting.nd
    refine BW.exprX Cs hr (L2N.takes_of (E := E) rfl rfl rfl rfl) (AV.one (EV.var 0 rfl)) fun H1 e1 => sx_size kd H1 e1 _ E ?_
    by_cases hx : numB x 1 = true
    · have ho : ckSize x = none := by unfold ckSize; rw [if_pos hx]
      rw [ho]
      intro H2 e2
      obtain ⟨i, rfl, hi⟩ := numB_int hx
      have e12 := e1.trans e2
      refine BW.when (TV.gt (EV.var 0 rfl) (EV.globI gM)) (fun hk H3 e3 => ?_) (fun hk H3 e3 => ?_)
      · refine BW.raise xS (L2N.takes_of (E := E) rfl rfl rfl rfl) (q.bad ?_ H3 (e12.trans e3))
        unfold ckSet
        rw [if_pos hx, if_pos (show 200 < intV (.int i) from of_decide_eq_true hk)]
      · have hk' : ¬ 200 < i := of_decide_eq_false hk
        refine BW.exprX Cp hr (L2N.takes_of (E := E) rfl rfl rfl rfl) (AV.one (EV.var 0 rfl)) fun H4 e4 => sx_peace (Kd?.int) H4 e4 _ E ?_
        have e14 := (e12.trans e3).trans e4
        by_cases h2 : V.int i = .int 2 ∨ V.int i = .int 3
        · have ho2 : ckPeace (.int i) = some .none := by unfold ckPeace; rw [if_pos hx, if_pos h2]
          rw [ho2]
          refine fun H5 e5 => q.bad ?_ H5 (e14.trans e5)
          unfold ckSet
          rw [if_pos hx, if_neg (show ¬ 200 < intV (.int i) from hk'), if_pos h2]
        · have ho2 : ckPeace (.int i) = none := by unfold ckPeace; rw [if_pos hx, if_neg h2]
          rw [ho2]
          intro H5 e5
          refine BW.retL (EL.is (ys := (setL i.toNat).map V.int) (LC.range (j := 1) (fun j => .int (colF i j)) B.range nd (blkOk_by (N := n_setting) (sc := defScope s_setting) (by decide +kernel)) (EV.var 0 rfl) ⟨by omega, by omega⟩ (fun j H6 e6 hj s0 H0 C0 cl fp => EV.call Cc hr (AV.two (EV.var 0 rfl) (EV.var 1 rfl)) (sv_colOf (by omega) hj))).el ?_) fun r H6 nr e6 h6 => ?_
          · unfold setL
            rw [List.map_map]
            have : ((i.toNat : Nat) : Int) = i := by omega
            rw [this]
            rfl
          · refine RetL.go (q.good ?_) (e14.trans e5) nr e6 h6
            unfold ckSet
            rw [if_pos hx, if_neg (show ¬ 200 < intV (.int i) from hk'), if_neg h2]
    · have ho : ckSize x = some .size := by unfold ckSize; rw [if_neg hx]
      rw [ho]
      exact fun H2 e2 => q.bad (ckSet_size ho) H2 (e1.trans e2)
theorem sx_setting {H : Hp} {x : V} (h : Kd? K H x) : SpLX (spSetting K xa) xa [x] H (ckSet x) ((setL (intV x).toNat).map V.int) := fun H1 e1 Q E r => ⟨x, rfl, h.ex e1, r⟩
theorem ckSet_ok {n : Int} (h1 : 1 ≤ n) (h2 : n ≠ 2) (h3 : n ≠ 3) (h4 : n ≤ 200) : ckSet (.int n) = none := by
  unfold ckSet
  rw [if_pos (by simp [numB, h1]), if_neg (by show ¬ 200 < n; omega), if_neg (by simp [h2, h3])]
theorem sl_setting {H : Hp} {n : Int} (h1 : 1 ≤ n) (h2 : n ≠ 2) (h3 : n ≠ 3) (h4 : n ≤ 200) : SpL (spSetting K xa) [.int n] H ((setL n.toNat).map V.int) := by
  have := sx_setting (K := K) (xa := xa) (H := H) (x := .int n) Kd?.int
  rw [ckSet_ok h1 h2 h3 h4] at this
  exact this.l
end
end QR

namespace QR
open PySem PySem.Spec PyProof.Rows L2 Evl
/-! ### mirrored, upended, exchanged -/
/-- a def over one setting: refused, or by o the list out -/
def spOne (K : PySem.W.Frag) (xa : Ek → Addr) (out : List Int → List Int) : Sp := fun vs H Q E => ∃ x o, vs = [x] ∧ SetIs K H x o ∧ (∀ k, o = some k → ∀ H2, Ex H H2 → E (.ref (xa k)) none H2) ∧
  (o = none → ∃ p ns, x = .ref p ∧ SqL K H p (ns.map V.int) ∧ ns.length ≤ 200 ∧ RetL ((out ns).map V.int) H Q)
def spExch (K : PySem.W.Frag) (xa : Ek → Addr) : Sp := fun vs H Q E => ∃ x o, vs = [x] ∧ SetIs K H x o ∧ (∀ k, o = some k → ∀ H2, Ex H H2 → E (.ref (xa k)) none H2) ∧
  (o = none → ∃ p ns fo, x = .ref p ∧ SqL K H p (ns.map V.int) ∧ ns.length ≤ 200 ∧ Bd ns ∧ FirstIs false ns fo ∧ (fo ≠ none → ∀ H2, Ex H H2 → E (.ref (xa .peace)) none H2) ∧ (fo = none → RetL ((exL ns).map V.int) H Q))
section
variable {P : Program} {w : World} {K : PySem.W.Frag} {mg : Str → Option Value} {base : Heap} {xa : Ek → Addr}
theorem ok_mirrored {f : Addr} {fd : FuncData} (F : Fun K "mirrored" "mirrored" s_mirrored f fd) (B : Bl mg) (Cs : Fc P w K mg base 2 "check_setting" (spCkSetting K xa)) : FnOk P w K mg base (L2N.CX P w) 3 f fd ["setting"] (spOne K xa mirL) := by
  refine okR F sc_mirrored (fun vs H Q E h => ?_) (fun cdv Ar outer s H vs Q E hr h => ?_)
  · obtain ⟨x, o, rfl, _⟩ := h
    rfl
  · obtain ⟨x, o, rfl, hx, hE, hG⟩ := h
    have nd := sc_mirrored.nd
    refine BW.exprX Cs hr (L2N.takes_of (E := E) rfl rfl rfl rfl) (AV.one (EV.var 0 rfl)) fun H1 e1 => sx_setg hx H1 e1 _ E ?_
    cases o with
    | some k0 => exact fun H2 e2 => hE k0 rfl H2 (e1.trans e2)
    | none =>
      obtain ⟨p, ns, rfl, hp, hl, hQ⟩ := hG rfl
      intro H2 e2
      have e12 := e1.trans e2
      have hlen : ((ns.map V.int).length : Int) = (ns.length : Int) := by simp
      refine BW.retL (EL.is (ys := (mirL ns).map V.int) (LC.list (j := 1) (fun i => .int ((ns.length : Int) - 1 - ns.getD i 0)) nd (blkOk_by (N := n_mirrored) (sc := defScope s_mirrored) (by decide +kernel)) (EV.var 0 rfl) (ex_l e12 hp) (by simp; omega) (fun i y H3 e3 hi s0 H0 C0 cl fp => ?_)).el ?_) fun r H3 nr e3 hr3 => RetL.go hQ e12 nr e3 hr3
      · obtain ⟨rfl, _⟩ := at_map hi
        exact EV.sub (EV.sub (EV.isI (EV.len B.len (EV.var 0 rfl) (ex_l (e12.trans e3) hp)) hlen) EV.int) (EV.var 1 rfl)
      · unfold mirL
        rw [List.map_map]
        apply List.ext_getElem
        · simp
        · intro i h1 h2
          simp at h1 h2 ⊢
          rw [List.getElem?_eq_getElem h1]
          rfl
theorem ok_upended {f : Addr} {fd : FuncData} (F : Fun K "upended" "upended" s_upended f fd) (Cs : Fc P w K mg base 2 "check_setting" (spCkSetting K xa)) : FnOk P w K mg base (L2N.CX P w) 3 f fd ["setting"] (spOne K xa List.reverse) := by
  refine okR F sc_upended (fun vs H Q E h => ?_) (fun cdv Ar outer s H vs Q E hr h => ?_)
  · obtain ⟨x, o, rfl, _⟩ := h
    rfl
  · obtain ⟨x, o, rfl, hx, hE, hG⟩ := h
    have nd := sc_upended.nd
    refine BW.exprX Cs hr (L2N.takes_of (E := E) rfl rfl rfl rfl) (AV.one (EV.var 0 rfl)) fun H1 e1 => sx_setg hx H1 e1 _ E ?_
    cases o with
    | some k0 => exact fun H2 e2 => hE k0 rfl H2 (e1.trans e2)
    | none =>
      obtain ⟨p, ns, rfl, hp, hl, hQ⟩ := hG rfl
      intro H2 e2
      have e12 := e1.trans e2
      exact BW.retL (EL.is (EL.rev (ES.old (EV.var 0 rfl) (ex_l e12 hp))) (by rw [List.map_reverse])) fun r H3 nr e3 hr3 => RetL.go hQ e12 nr e3 hr3
/-- first_taking(..) is not None, as a test -/
theorem TV.firstS {X : Cx} {e a b : Expr} {σ : L2.St} {H : Hp} {p pos pos2 : Pos} {k : Nat} {o : Option (Nat × Nat)} {ns : List Int} {j : Bool} {q g : Addr} (C : Fc X.prog X.w X.K X.mg X.base 2 "first_taking" (spFirst X.prog X.w X.K X.mg X.base)) (hr : Room k X.A)
    (ha : EV X a σ H (.ref q)) (hb : EV X b σ H (.ref g)) (hc : Hc X.prog X.w X.K X.mg X.base 1 g (spTk X.K j)) (hq : SqL X.K H q (ns.map V.int)) (hl : ns.length ≤ 1000) (ho : FirstIs j ns o) (hn : EV X e σ H .non) (hk : 2 ≤ k := by decide) (hg : Gl X "first_taking" := by rfl) (hs : [a, b].all noStar = true := by rfl) :
    TV X (.Compare (.Call (.Name "first_taking" p) [a, b] [] pos2) [.IsNot] [e] pos) σ H (!o.isNone) := by
  refine TV.of (pt_cmpR op_notN pe_self pe_self (nomark _)) fun H1 e1 Q kq => ?_
  refine EW.call C hr (AV.ev (AV.two ha hb) H1 e1 _ fun H2 e2 => ⟨q, g, ns, j, o, rfl, ex_l (e1.trans e2) hq, hl, hc, ho, ?_, ?_⟩) hk hg hs
  · intro h H3 e3
    refine hn.ev H3 ((e1.trans e2).trans e3) _ fun H4 e4 => ⟨rfl, _, rfl, ?_⟩
    subst h
    exact kq H4 ((e2.trans e3).trans e4)
  · intro x y h r H3 nr e3 hr3
    refine hn.ev H3 ((e1.trans e2).trans e3) _ fun H4 e4 => ⟨rfl, _, rfl, ?_⟩
    subst h
    exact kq H4 ((e2.trans e3).trans e4)
theorem ok_exchanged {f : Addr} {fd : FuncData} (F : Fun K "exchanged" "exchanged" s_exchanged f fd) (B : Bl mg) (Cs : Fc P w K mg base 2 "check_setting" (spCkSetting K xa)) (Cf : Fc P w K mg base 2 "first_taking" (spFirst P w K mg base)) (Ct : Fc P w K mg base 1 "take" (spTk K false)) (xN : Xc K mg "NoPeace" (xa .peace)) : FnOk P w K mg base (L2N.CX P w) 3 f fd ["setting"] (spExch K xa) := by
  obtain ⟨g, gm, hc⟩ := Hc.of Ct
  refine okR F sc_exchanged (fun vs H Q E h => ?_) (fun cdv Ar outer s H vs Q E hr h => ?_)
  · obtain ⟨x, o, rfl, _⟩ := h
    rfl
  · obtain ⟨x, o, rfl, hx, hE, hG⟩ := h
    have nd := sc_exchanged.nd
    refine BW.exprX Cs hr (L2N.takes_of (E := E) rfl rfl rfl rfl) (AV.one (EV.var 0 rfl)) fun H1 e1 => sx_setg hx H1 e1 _ E ?_
    cases o with
    | some k0 => exact fun H2 e2 => hE k0 rfl H2 (e1.trans e2)
    | none =>
      obtain ⟨p, ns, fo, rfl, hp, hl, hb, ho, hN, hQ⟩ := hG rfl
      intro H2 e2
      have e12 := e1.trans e2
      have hlen : ((ns.map V.int).length : Int) = (ns.length : Int) := by simp
      refine BW.when (TV.firstS Cf hr (EV.var 0 rfl) (EV.glob gm) hc (ex_l e12 hp) (by omega) ho EV.non) (fun hk H3 e3 => ?_) (fun hk H3 e3 => ?_)
      · refine BW.raise xN (L2N.takes_of (E := E) rfl rfl rfl rfl) (hN ?_ H3 (e12.trans e3))
        intro z
        rw [z] at hk
        cases hk
      · have hfo : fo = none := by
          cases fo with
          | none => rfl
          | some z => cases hk
        have hno : NoTake false ns := by
          rw [hfo] at ho
          exact ho
        refine BW.retL (EL.is (ys := (exL ns).map V.int) (LC.range (j := 1) (fun i => .int ((ns.idxOf (i : Int) : Nat) : Int)) B.range nd (blkOk_by (N := n_exchanged) (sc := defScope s_exchanged) (by decide +kernel)) (EV.isI (EV.len B.len (EV.var 0 rfl) (ex_l (e12.trans e3) hp)) hlen) ⟨by omega, by omega⟩ (fun i H4 e4 hi s0 H0 C0 cl fp => EV.index (EV.var 0 rfl) (ex_l ((e12.trans e3).trans e4) hp) (EV.var 1 rfl) (all_cols hno hb (by omega)))).el ?_) fun r H4 nr e4 hr4 => RetL.go (hQ hfo) (e12.trans e3) nr e4 hr4
        unfold exL
        rw [List.map_map, Int.toNat_natCast]
        rfl
/-! ### product -/
def spProd (K : PySem.W.Frag) (xa : Ek → Addr) : Sp := fun vs H Q E => ∃ x y o o', vs = [x, y] ∧ SetIs K H x o ∧ SetIs K H y o' ∧ (∀ k, o = some k → ∀ H2, Ex H H2 → E (.ref (xa k)) none H2) ∧ (∀ k, o = none → o' = some k → ∀ H2, Ex H H2 → E (.ref (xa k)) none H2) ∧
  (o = none → o' = none → ∃ p q ns ms fo fi, x = .ref p ∧ y = .ref q ∧ SqL K H p (ns.map V.int) ∧ SqL K H q (ms.map V.int) ∧ ns.length ≤ 200 ∧ (1 ≤ ms.length ∧ ms.length ≤ 200) ∧ Bd ns ∧ Bd ms ∧ FirstIs false ns fo ∧ FirstIs true ms fi ∧
    (200 < ns.length * ms.length → ∀ H2, Ex H H2 → E (.ref (xa .setting)) none H2) ∧ (ns.length * ms.length ≤ 200 → (fo ≠ none ∨ fi ≠ none) → ∀ H2, Ex H H2 → E (.ref (xa .peace)) none H2) ∧ (ns.length * ms.length ≤ 200 → fo = none → fi = none → RetL ((prodL ns ms).map V.int) H Q))
theorem prod_step {ns ms : List Int} (h1 : 0 < ms.length) {i : Nat} (hi : i < ns.length) : (prodL ns ms).take ((i + 1) * ms.length) = (prodL ns ms).take (i * ms.length) ++ ms.map fun l => ns.getD i 0 * (ms.length : Int) + l := by
  apply List.ext_getElem
  · have : (i + 1) * ms.length ≤ ns.length * ms.length := Nat.mul_le_mul_right _ hi
    have h2 : i * ms.length ≤ ns.length * ms.length := Nat.mul_le_mul_right _ (by omega)
    simp only [List.length_take, prodL_len, List.length_append, List.length_map]
    rw [Nat.min_eq_left this, Nat.min_eq_left h2, Nat.add_mul]
    omega
  · intro r hr1 hr2
    have h3 : (i + 1) * ms.length ≤ ns.length * ms.length := Nat.mul_le_mul_right _ hi
    have h2 : i * ms.length ≤ ns.length * ms.length := Nat.mul_le_mul_right _ (by omega)
    have hlt : r < (i + 1) * ms.length := by
      simp only [List.length_take, prodL_len] at hr1
      omega
    rw [List.getElem_take, List.getElem_append]
    split
    · rw [List.getElem_take]
    · rename_i hge
      simp only [List.length_take, prodL_len] at hge
      rw [Nat.min_eq_left h2] at hge
      have e : (prodL ns ms)[r]'(by rw [prodL_len]; omega) = (prodL ns ms).getD r 0 := by
        rw [List.getD_eq_getElem?_getD, List.getElem?_eq_getElem (by rw [prodL_len]; omega)]
        rfl
      rw [e, prodL_getD (by omega)]
      have hlt' : r < i * ms.length + ms.length := by rw [Nat.add_mul] at hlt; omega
      have hd : r / ms.length = i := by
        rw [Nat.div_eq_of_lt_le]
        · omega
        · rw [Nat.add_mul]
          omega
      have hm : r % ms.length = r - i * ms.length := by
        have := Nat.div_add_mod r ms.length
        rw [hd, Nat.mul_comm] at this
        omega
      rw [hd, hm]
      simp only [List.getElem_map, List.length_take, prodL_len]
      congr 1
      rw [List.getD_eq_getElem?_getD, List.getElem?_eq_getElem (by omega)]
      simp only [Nat.min_eq_left h2]
      rfl
theorem ok_product {f : Addr} {fd : FuncData} (F : Fun K "product" "product" s_product f fd) (B : Bl mg) (Cs : Fc P w K mg base 2 "check_setting" (spCkSetting K xa)) (Cf : Fc P w K mg base 2 "first_taking" (spFirst P w K mg base)) (Ct : Fc P w K mg base 1 "take" (spTk K false)) (Cj : Fc P w K mg base 1 "take_joined" (spTk K true)) (xN : Xc K mg "NoPeace" (xa .peace)) (xS : Xc K mg "BadSetting" (xa .setting)) (gM : ∃ t, mg "MOST" = some (.int 200 t)) : FnOk P w K mg base (L2N.CX P w) 3 f fd ["outer", "inner"] (spProd K xa) := by
  obtain ⟨tM, gM⟩ := gM
  obtain ⟨g, gm, hc⟩ := Hc.of Ct
  obtain ⟨g', gm', hc'⟩ := Hc.of Cj
  refine okR F sc_product (fun vs H Q E h => ?_) (fun cdv Ar outer s H vs Q E hr h => ?_)
  · obtain ⟨x, y, o, o', rfl, _⟩ := h
    rfl
  · obtain ⟨x, y, o, o', rfl, hx, hy, hE, hE', hG⟩ := h
    have nd := sc_product.nd
    refine BW.exprX Cs hr (L2N.takes_of (E := E) rfl rfl rfl rfl) (AV.one (EV.var 0 rfl)) fun H1 e1 => sx_setg hx H1 e1 _ E ?_
    cases o with
    | some k0 => exact fun H2 e2 => hE k0 rfl H2 (e1.trans e2)
    | none =>
    intro H2 e2
    have e12 := e1.trans e2
    refine BW.exprX Cs hr (L2N.takes_of (E := E) rfl rfl rfl rfl) (AV.one (EV.var 1 rfl)) fun H3 e3 => sx_setg (hy.ex e12) H3 e3 _ E ?_
    cases o' with
    | some k0 => exact fun H4 e4 => hE' k0 rfl rfl H4 ((e12.trans e3).trans e4)
    | none =>
    obtain ⟨p, q, ns, ms, fo, fi, rfl, rfl, hp, hq, hl, ⟨hm1, hm⟩, bn, bm, ho, hi, hS, hN, hQ⟩ := hG rfl rfl
    intro H4 e4
    have e14 := (e12.trans e3).trans e4
    have hp4 := ex_l e14 hp
    have hq4 := ex_l e14 hq
    have hlen : ((ns.map V.int).length : Int) = (ns.length : Int) := by simp
    have hlen' : ((ms.map V.int).length : Int) = (ms.length : Int) := by simp
    refine BW.when (TV.gt (EV.mul (EV.isI (EV.len B.len (EV.var 0 rfl) hp4) hlen) (EV.isI (EV.len B.len (EV.var 1 rfl) hq4) hlen') (mul_small (.inl ⟨by omega, by omega⟩))) (EV.globI gM)) (fun hk H5 e5 => ?_) (fun hk H5 e5 => ?_)
    · have hk' : (200 : Int) < (ns.length : Int) * (ms.length : Int) := of_decide_eq_true hk
      rw [← Int.natCast_mul] at hk'
      exact BW.raise xS (L2N.takes_of (E := E) rfl rfl rfl rfl) (hS (by omega) H5 (e14.trans e5))
    · have hk' : ¬ (200 : Int) < (ns.length : Int) * (ms.length : Int) := of_decide_eq_false hk
      rw [← Int.natCast_mul] at hk'
      have h200 : ns.length * ms.length ≤ 200 := by omega
      have e15 := e14.trans e5
      have hp5 := ex_l e5 hp4
      have hq5 := ex_l e5 hq4
      refine BW.when (TV.or2 (TV.firstS Cf hr (EV.var 0 rfl) (EV.glob gm) hc hp5 (by omega) ho EV.non) (fun _ => TV.firstS Cf hr (EV.var 1 rfl) (EV.glob gm') hc' hq5 (by omega) hi EV.non)) (fun hk H6 e6 => ?_) (fun hk H6 e6 => ?_)
      · refine BW.raise xN (L2N.takes_of (E := E) rfl rfl rfl rfl) (hN h200 ?_ H6 (e15.trans e6))
        cases fo with
        | some z => exact .inl (fun e => nomatch e)
        | none =>
          cases fi with
          | some z => exact .inr (fun e => nomatch e)
          | none => cases hk
      · obtain ⟨rfl, rfl⟩ : fo = none ∧ fi = none := by
          cases fo with
          | some z => cases hk
          | none =>
            cases fi with
            | some z => cases hk
            | none => exact ⟨rfl, rfl⟩
        have e16 := e15.trans e6
        refine BW.asgL 2 nd (EL.lst AV.nil) fun l H7 nl e7 hl7 => ?_
        have nl0 : H l = none := fresh_back e16 nl
        refine BW.forL (xs := ns.map V.int) (EV.var 0 rfl) (ex_l (e16.trans e7) hp) (pg_name (i := 3) nd rfl (Or.inr rfl)) (fun i σ' H' => Ex H (hide H' l) ∧ H' l = some (.lst (((prodL ns ms).take (i * ms.length)).map V.int)) ∧ ∃ y3, σ' = [some (.ref p), some (.ref q), some (.ref l), y3, none])
          (fun H8 e8 => ⟨ex_hide ((e16.trans e7).trans e8) nl0, by rw [Nat.zero_mul]; exact e8 _ _ hl7, _, rfl⟩) (fun i σ' H' _ pv => ex_l (pv.1.trans hide_ex) hp) ?_ ?_
        · rintro i x σ' H' hi' ⟨ex, hl', y3, rfl⟩
          obtain ⟨rfl, hil⟩ := at_map hi'
          show BW _ _ _ [some (.ref p), some (.ref q), some (.ref l), some (.int (ns.getD i 0)), none] H'
          have hqi := ex_l (ex.trans hide_ex) hq
          have hb := bd_getD bn hil
          refine BW.extend (q := l) (ys := (ms.map fun l => ns.getD i 0 * (ms.length : Int) + l).map V.int) hl' (EV.var 2 rfl) (EL.is (LC.list (j := 4) (fun j => .int (ns.getD i 0 * (ms.length : Int) + ms.getD j 0)) nd (blkOk_by (N := n_product) (sc := defScope s_product) (by decide +kernel)) (EV.var 1 rfl) hqi (by simp; omega) (fun j y Ha ea hj s0 H0 C0 cl fp => ?_)).el ?_) ?_ fun Ha ea => BW.nil ⟨?_, ?_, _, rfl⟩
          · obtain ⟨rfl, _⟩ := at_map hj
            exact EV.add (EV.mul (EV.var 3 rfl) (EV.isI (EV.len B.len (EV.var 1 rfl) (ex_l ea hqi)) hlen') (mul_small (.inl ⟨by omega, by omega⟩))) (EV.var 4 rfl)
          · rw [List.map_map]
            apply List.ext_getElem
            · simp
            · intro j h1 h2
              simp at h1 h2 ⊢
              rw [List.getElem?_eq_getElem h1]
              rfl
          · have : i * ms.length ≤ ns.length * ms.length := Nat.mul_le_mul_right _ (by omega)
            simp only [List.length_map, List.length_take, prodL_len]
            omega
          · rw [hide_upd]
            exact ex.trans (hide_mono ea)
          · rw [upd_same, prod_step (by omega) hil, List.map_append]
        · rintro σ' H' ⟨ex, hl', y3, rfl⟩
          rw [List.length_map, List.take_of_length_le (by rw [prodL_len]; exact Nat.le_refl _)] at hl'
          exact BW.ret (EV.var 2 rfl) fun H8 e8 => hQ h200 rfl rfl l H8 nl0 ((ex.trans hide_ex).trans e8) (e8 _ _ hl')
/-! ### good ones -/
theorem sl_one {H : Hp} {out : List Int → List Int} {p : Addr} {ns : List Int} (hp : SqL K H p (ns.map V.int)) (h1 : 1 ≤ ns.length) (h2 : ns.length ≤ 200) (hb : Bd ns) : SpL (spOne K xa out) [.ref p] H ((out ns).map V.int) := fun H1 e1 Q q E =>
  ⟨.ref p, none, rfl, SetIs.ints (ex_l e1 hp) h1 h2 hb, (fun k z => nomatch z), fun _ => ⟨p, ns, rfl, ex_l e1 hp, h2, q⟩⟩
theorem sl_exch {H : Hp} {p : Addr} {ns : List Int} (hp : SqL K H p (ns.map V.int)) (h1 : 1 ≤ ns.length) (h2 : ns.length ≤ 200) (hb : Bd ns) (ho : NoTake false ns) : SpL (spExch K xa) [.ref p] H ((exL ns).map V.int) := fun H1 e1 Q q E =>
  ⟨.ref p, none, rfl, SetIs.ints (ex_l e1 hp) h1 h2 hb, (fun k z => nomatch z), fun _ => ⟨p, ns, none, rfl, ex_l e1 hp, h2, hb, ho, (fun z => absurd rfl z), fun _ => q⟩⟩
theorem sl_prod {H : Hp} {p q : Addr} {ns ms : List Int} (hp : SqL K H p (ns.map V.int)) (hq : SqL K H q (ms.map V.int)) (h1 : 1 ≤ ns.length) (h2 : 1 ≤ ms.length) (h3 : ns.length * ms.length ≤ 200) (hb : Bd ns) (hb' : Bd ms) (ho : NoTake false ns) (hi : NoTake true ms) : SpL (spProd K xa) [.ref p, .ref q] H ((prodL ns ms).map V.int) := fun H1 e1 Q k E => by
  have l1 : ns.length ≤ 200 := Nat.le_trans (Nat.le_mul_of_pos_right _ (by omega)) h3
  have l2 : ms.length ≤ 200 := Nat.le_trans (Nat.le_mul_of_pos_left _ (by omega)) h3
  exact ⟨.ref p, .ref q, none, none, rfl, SetIs.ints (ex_l e1 hp) h1 l1 hb, SetIs.ints (ex_l e1 hq) h2 l2 hb', (fun k z => nomatch z), (fun k _ z => nomatch z), fun _ _ => ⟨p, q, ns, ms, none, none, rfl, rfl, ex_l e1 hp, ex_l e1 hq, l1, ⟨h2, l2⟩, hb, hb', ho, hi, (fun z => absurd h3 (by omega)), (fun _ z => by rcases z with z | z <;> exact absurd rfl z), fun _ _ _ => k⟩⟩
end
end QR

namespace QR
open PySem PySem.Spec PyProof.Rows L2 Evl
theorem modw_b {x : Int} {m : Nat} (h : 0 < m) : 0 ≤ x % (m : Int) ∧ x % (m : Int) < (m : Int) := ⟨Int.emod_nonneg _ (by omega), Int.emod_lt_of_pos _ (by omega)⟩
theorem board_of_joined {ns : List Int} (h : NoTake true ns) : NoTake false ns := by
  intro b hb a hab
  cases ht : takes false ns a b with
  | false => rfl
  | true =>
    have h1 := (takeB_iff ns a b).mp ht
    have : takes true ns a b = true := by
      refine (takeJB_iff ns a b).mpr ?_
      rcases h1 with z | z | z
      · exact .inl z
      · exact .inr (.inl (by rw [z, Int.sub_self]; exact Int.zero_emod _))
      · exact .inr (.inr (by rw [z, show (b : Int) - (a : Int) + ((a : Int) - (b : Int)) = 0 by omega]; exact Int.zero_emod _))
    rw [h b hb a hab] at this
    cases this
theorem setL_len' (n : Nat) : (setL n).length = n := by simp [setL]
theorem setL_bd (n : Nat) : Bd (setL n) := by
  intro c h
  rw [setL_len']
  unfold setL at h
  obtain ⟨i, hi, rfl⟩ := List.mem_map.mp h
  have := List.mem_range.mp hi
  exact colF_bounds (by omega) (by omega)
theorem setL_no {n : Nat} (h2 : n ≠ 2) (h3 : n ≠ 3) : NoTake false (setL n) := by
  intro b hb a hab
  rw [setL_len'] at hb
  cases ht : takes false (setL n) a b with
  | false => rfl
  | true =>
    have h1 := (takeB_iff _ a b).mp ht
    have g : ∀ i, i < n → (setL n).getD i 0 = colF n i := fun i hi => by
      unfold setL
      simp [List.getD_eq_getElem?_getD, hi]
    rw [g a (by omega), g b hb] at h1
    have := colF_peace (n := (n : Int)) (r := (a : Int)) (s := (b : Int)) (by omega) (by omega) (by omega) (by omega) (by omega) (by omega) (by omega)
    omega
theorem EL.prod {X : Cx} {a b : Expr} {σ : L2.St} {H : Hp} {p pos : Pos} {j : Nat} {o i : List Int} {xa : Ek → Addr} (C : Fc X.prog X.w X.K X.mg X.base 3 "product" (spProd X.K xa)) (hr : Room j X.A) (ha : EX X a σ H (Sh.ints o)) (hb : EX X b σ H (Sh.ints i)) (o1 : 1 ≤ o.length) (i1 : 1 ≤ i.length) (l2 : o.length * i.length ≤ 200) (bo : Bd o) (bi : Bd i) (no : NoTake false o) (ni : NoTake true i) (hk : 3 ≤ j := by decide) (hg : Gl X "product" := by rfl) (hs : [a, b].all noStar = true := by rfl) :
    EL X (.Call (.Name "product" p) [a, b] [] pos) σ H ((prodL o i).map V.int) :=
  EL.callA C hr (AX.two ha hb) (fun vs H1 e1 hvs => by
    obtain ⟨u, v, rfl, hu, hv⟩ := hvs.two
    obtain ⟨r, rfl, hr⟩ := hu.ofInts
    obtain ⟨t, rfl, ht⟩ := hv.ofInts
    exact sl_prod hr ht o1 i1 l2 bo bi no ni) hk hg hs
theorem EL.exch {X : Cx} {a : Expr} {σ : L2.St} {H : Hp} {p pos : Pos} {j : Nat} {o : List Int} {xa : Ek → Addr} (C : Fc X.prog X.w X.K X.mg X.base 3 "exchanged" (spExch X.K xa)) (hr : Room j X.A) (ha : EX X a σ H (Sh.ints o)) (o1 : 1 ≤ o.length) (l2 : o.length ≤ 200) (bo : Bd o) (no : NoTake false o) (hk : 3 ≤ j := by decide) (hg : Gl X "exchanged" := by rfl) (hs : [a].all noStar = true := by rfl) :
    EL X (.Call (.Name "exchanged" p) [a] [] pos) σ H ((exL o).map V.int) :=
  EL.callA C hr (AX.one ha) (fun vs H1 e1 hvs => by
    obtain ⟨u, rfl, hu⟩ := hvs.one
    obtain ⟨r, rfl, hr⟩ := hu.ofInts
    exact sl_exch hr o1 l2 bo no) hk hg hs
/-- a setting's first takers, by a look at it -/
theorem first_of_no {j : Bool} {ns : List Int} (h : NoTake j ns) : FirstIs j ns none := h
/-! ### refusals of the making defs -/
section
variable {X : Cx} {a b : Expr} {σ : L2.St} {H : Hp} {p pos : Pos} {j : Nat} {o i : List Int} {xa : Ek → Addr} {E : XK} {Q : VK}
/-- exchanged(o), o not at peace -/
theorem EW.exchNo (C : Fc X.prog X.w X.K X.mg X.base 3 "exchanged" (spExch X.K xa)) (hr : Room j X.A) (tk : L2N.Takes X (fun cls d _ H => E cls d H)) (ha : EX X a σ H (Sh.ints o)) (o1 : 1 ≤ o.length) (l2 : o.length ≤ 200) (bo : Bd o) (no : ¬ NoTake false o) (hE : ∀ H2, Ex H H2 → E (.ref (xa .peace)) none H2) (hk : 3 ≤ j := by decide) (hg : Gl X "exchanged" := by rfl) (hs : [a].all noStar = true := by rfl) :
    EW X (.Call (.Name "exchanged" p) [a] [] pos) σ H Q := by
  refine EW.callX C hr tk ((AX.one ha).ev H (Ex.refl H) _ fun vs H1 e1 hvs => ?_) hk hg hs
  obtain ⟨u, rfl, hu⟩ := hvs.one
  obtain ⟨r, rfl, hr⟩ := hu.ofInts
  obtain ⟨fo, ho⟩ := first_ex false o
  refine ⟨.ref r, none, rfl, SetIs.ints hr o1 l2 bo, (fun k z => nomatch z), fun _ => ⟨r, o, fo, rfl, hr, l2, bo, ho, fun _ H2 e2 => hE H2 (e1.trans e2), fun hn => ?_⟩⟩
  subst hn
  exact absurd ho no
/-- product(o, i), one of them not at peace -/
theorem EW.prodNo (C : Fc X.prog X.w X.K X.mg X.base 3 "product" (spProd X.K xa)) (hr : Room j X.A) (tk : L2N.Takes X (fun cls d _ H => E cls d H)) (ha : EX X a σ H (Sh.ints o)) (hb : EX X b σ H (Sh.ints i)) (o1 : 1 ≤ o.length) (i1 : 1 ≤ i.length) (l2 : o.length * i.length ≤ 200) (bo : Bd o) (bi : Bd i) (no : ¬ (NoTake false o ∧ NoTake true i)) (hE : ∀ H2, Ex H H2 → E (.ref (xa .peace)) none H2) (hk : 3 ≤ j := by decide) (hg : Gl X "product" := by rfl) (hs : [a, b].all noStar = true := by rfl) :
    EW X (.Call (.Name "product" p) [a, b] [] pos) σ H Q := by
  refine EW.callX C hr tk ((AX.two ha hb).ev H (Ex.refl H) _ fun vs H1 e1 hvs => ?_) hk hg hs
  obtain ⟨u, v, rfl, hu, hv⟩ := hvs.two
  obtain ⟨r, rfl, hr⟩ := hu.ofInts
  obtain ⟨t, rfl, ht⟩ := hv.ofInts
  obtain ⟨fo, ho⟩ := first_ex false o
  obtain ⟨fi, hi⟩ := first_ex true i
  have lo : o.length ≤ 200 := Nat.le_trans (by simpa using Nat.mul_le_mul_left o.length i1) l2
  have li : i.length ≤ 200 := Nat.le_trans (by simpa using Nat.mul_le_mul_right i.length o1) l2
  refine ⟨.ref r, .ref t, none, none, rfl, SetIs.ints hr o1 lo bo, SetIs.ints ht i1 li bi, (fun k z => nomatch z), (fun k _ z => nomatch z), fun _ _ => ⟨r, t, o, i, fo, fi, rfl, rfl, hr, ht, lo, ⟨i1, li⟩, bo, bi, ho, hi, fun h => absurd h (by omega), fun _ _ H2 e2 => hE H2 (e1.trans e2), fun _ h1 h2 => ?_⟩⟩
  subst h1 h2
  exact absurd ⟨ho, hi⟩ no
end
/-! ### [e for x in range(a, b)] -/
section
variable {σ : L2.St} {H : Hp} {t : TT} {te : TE}
theorem el_lcR2 {ta : TA} {j : Nat} {vs : List Nat} {lo n : Int} (v : Nat → V) (h : EvA ta σ H [.int lo, .int n]) (hn : lo ≤ n ∧ n - lo ≤ 40000) (hw : ∀ x, wipe ((wipe σ vs).set j (some x)) vs = wipe σ vs)
    (he : ∀ (i : Nat) H1, Ex H H1 → lo + (i : Int) < n → Ev te ((wipe σ vs).set j (some (.int (lo + (i : Int))))) H1 (v i)) :
    EvL (tLc (iRng2A ta) (gName j) tYes te vs) σ H (given (n - lo).toNat (fun _ => true) v) := fun H0 e Q q => h H0 e _ fun H1 e1 => ⟨lo, n, rfl, fun Dl hD =>
  lc_range (lo := lo) (n := (n - lo).toNat) (Cw H1 (fun _ => true) v Dl) ⟨hD, Ex.new hD, upd_same⟩ (fun i H' hi p => ⟨hw _, cw_turn p (by omega) ev_yes (fun _ => he i H1 (e.trans e1) (by omega))⟩) (fun H' p => q Dl H' (fresh_back e1 p.1) (e1.trans p.2.1) p.2.2)⟩
end
theorem LC.range2 {X : Cx} {σ : L2.St} {H : Hp} {a b : Expr} {x : Str} {p pr p2 pos : Pos} {elt : Expr} {scope : Scope} {j : Nat} {lo n : Int} (v : Nat → V) (m : X.mg "range" = none) (hN : X.N.Nodup) (ok : BlkOk X.N X.env.scope scope [(x, j)]) (h : EV X a σ H (.int lo)) (h' : EV X b σ H (.int n)) (hn : lo ≤ n ∧ n - lo ≤ 40000)
    (he : ∀ (i : Nat) H1, Ex H H1 → lo + (i : Int) < n → EVb X scope elt ((wipe σ [j]).set j (some (.int (lo + (i : Int))))) H1 (v i))
    (hw : ∀ z, wipe ((wipe σ [j]).set j (some z)) [j] = wipe σ [j] := by intro _; rfl)
    (hg : ∀ (s : Shared) (H : Hp) (C : Addr) (cl : List (Str × Addr)) (fp : List Addr), PG (X.blk s H scope (compEnvC scope cl C X.env) fp) (.Name x p) (gName j) := by exact fun _ _ _ _ _ => pg_name (i := _) (by assumption) rfl (Or.inl rfl)) (hgl : Gl X "range" := by rfl) (hst : noStar a = true := by rfl) (hst2 : noStar b = true := by rfl) (hc : X.calm = true := by rfl) :
    LC X (.ListComp elt [⟨.Name x p, .Call (.Name "range" pr) [a, b] [] p2, [], 0⟩] scope pos) σ H ((List.range (n - lo).toNat).map v) := by
  refine lc_of (own := [(x, j)]) hc hN (pi_range2A hgl m (pa_all (es := [a, b]) (by simp [hst, hst2])) (by rw [star_of hst, star_of hst2]; rfl) (star_of hst2 [])) ok hg (fun _ => rfl) ?_
  rw [← given_all]
  exact el_lcR2 v (AV.two h h').ev hn hw (fun i H1 e1 hi => (he i H1 e1 hi).ev)
end QR

namespace QR
open PySem PySem.Spec PyProof.Rows L2 Evl
/-! ### values of which only C is known -/
abbrev PC := Hp → V → Prop
/-- C stays as the heap grows -/
def Up (C : PC) : Prop := ∀ H H' v, Ex H H' → C H v → C H' v
structure EC (X : Cx) (e : Expr) (σ : L2.St) (H : Hp) (C : PC) : Prop where
  ev : ∀ H1, Ex H H1 → ∀ Q : VK, (∀ v H2, Ex H1 H2 → C H2 v → Q v H2) → EW X e σ H1 Q
structure AC (X : Cx) (es : List Expr) (σ : L2.St) (H : Hp) (C : PC) (n : Nat) : Prop where
  ev : ∀ H1, Ex H H1 → ∀ Q : List V → Hp → Prop, (∀ vs H2, Ex H1 H2 → vs.length = n → (∀ v ∈ vs, C H2 v) → Q vs H2) → tArgs X es σ H1 Q
/-- a new list of n values, all C -/
def RetC (C : PC) (n : Nat) (H : Hp) (Q : VK) : Prop := ∀ p vs H2, H p = none → Ex H H2 → H2 p = some (.lst vs) → vs.length = n → (∀ v ∈ vs, C H2 v) → Q (.ref p) H2
structure NC (X : Cx) (e : Expr) (σ : L2.St) (H : Hp) (C : PC) (n : Nat) : Prop where
  ev : ∀ H1, Ex H H1 → ∀ Q : VK, RetC C n H1 Q → EW X e σ H1 Q
section
variable {X : Cx} {e a b c : Expr} {es : List Expr} {σ : L2.St} {H : Hp} {C : PC} {n m : Nat} {v : V} {xs : List V} {s : Sh} {pos p : Pos} {Q : VK} {x : Str} {sp : Sp} {k j : Nat} {rest : List Stmt} {D : Ends}
theorem EC.val (h : EV X e σ H v) (hc : ∀ H1, Ex H H1 → C H1 v) : EC X e σ H C := ⟨fun H1 e1 Q q => h.ev H1 e1 Q fun H2 e2 => q v H2 e2 (hc H2 (e1.trans e2))⟩
theorem EC.sh (h : EX X e σ H s) (hc : ∀ v H1, Ex H H1 → Is X.K H1 v s → C H1 v) : EC X e σ H C := ⟨fun H1 e1 Q q => h.ev H1 e1 Q fun v H2 e2 hv => q v H2 e2 (hc v H2 (e1.trans e2) hv)⟩
theorem EC.el (h : EL X e σ H xs) (hc : ∀ r H1, Ex H H1 → H1 r = some (.lst xs) → C H1 (.ref r)) : EC X e σ H C := ⟨fun H1 e1 Q q => h.ev H1 e1 Q fun r H2 _ e2 hr => q _ H2 e2 (hc r H2 (e1.trans e2) hr)⟩
theorem EC.eu (h : EU X e σ H xs) (hc : ∀ r H1, Ex H H1 → H1 r = some (.tup xs) → C H1 (.ref r)) : EC X e σ H C := ⟨fun H1 e1 Q q => h.ev H1 e1 Q fun r H2 _ e2 hr => q _ H2 e2 (hc r H2 (e1.trans e2) hr)⟩
theorem EC.nc {C' : PC} (h : NC X e σ H C' n) (hc : ∀ r vs H1, Ex H H1 → H1 r = some (.lst vs) → vs.length = n → (∀ v ∈ vs, C' H1 v) → C H1 (.ref r)) : EC X e σ H C := ⟨fun H1 e1 Q q => h.ev H1 e1 Q fun r vs H2 _ e2 hr hl ha => q _ H2 e2 (hc r vs H2 (e1.trans e2) hr hl ha)⟩
/-- {} -/
theorem EC.d0 (hc : ∀ r H1, Ex H H1 → H1 r = some (.dK []) → C H1 (.ref r)) : EC X (.Dict [] [] pos) σ H C := ⟨fun H1 e1 Q q => EW.of pe_dnewK fun r nr => q _ _ (Ex.new nr) (hc r _ (e1.trans (Ex.new nr)) upd_same)⟩
theorem AC.nil : AC X [] σ H C 0 := ⟨fun H1 _ _ q => q [] H1 (Ex.refl H1) rfl (fun v hv => nomatch hv)⟩
theorem AC.cons (up : Up C) (h : EC X e σ H C) (hr : AC X es σ H C n) : AC X (e :: es) σ H C (n + 1) := ⟨fun H1 e1 Q q => h.ev H1 e1 _ fun v H2 e2 hv => hr.ev H2 (e1.trans e2) _ fun vs H3 e3 hl ha => q (v :: vs) H3 (e2.trans e3) (congrArg (· + 1) hl) fun u hu => by
  rcases List.mem_cons.mp hu with rfl | hu
  · exact up _ _ _ e3 hv
  · exact ha u hu⟩
theorem NC.lst (up : Up C) (h : AC X es σ H C n) (hn : n ≤ 100000 := by exact Nat.le_of_ble_eq_true rfl) (hs : es.all noStar = true := by rfl) : NC X (.List es pos) σ H C n :=
  ⟨fun H1 e1 Q q => EW.of (pe_lst (pa_all hs)) (h.ev H1 e1 _ fun vs H2 e2 hl ha => ⟨sz_of (by rw [hl]; exact hn), fun r hr => q r vs _ (fresh_back e2 hr) (e2.trans (Ex.new hr)) upd_same hl fun v hv => up _ _ _ (Ex.new hr) (ha v hv)⟩)⟩
theorem NC.cat (up : Up C) (ha : NC X a σ H C n) (hb : NC X b σ H C m) (hn : n + m ≤ 100000 := by exact Nat.le_of_ble_eq_true rfl) : NC X (.BinOp a .Add b pos) σ H C (n + m) :=
  ⟨fun H1 e1 Q q => EW.of (pe_op op_catS pe_self pe_self) (ha.ev H1 e1 _ fun r vs H2 nr e2 hr l1 c1 => hb.ev H2 (e1.trans e2) _ fun t us H3 nt e3 ht l2 c2 =>
    ⟨r, t, vs, us, rfl, rfl, sq_of (e3 _ _ hr), sq_of ht, sz_of (by rw [l1, l2]; exact hn), fun z hz => q z _ _ (fresh_back (e2.trans e3) hz) ((e2.trans e3).trans (Ex.new hz)) upd_same (by rw [List.length_append, l1, l2]) fun v hv => by
      rcases List.mem_append.mp hv with h | h
      · exact up _ _ _ (e3.trans (Ex.new hz)) (c1 v h)
      · exact up _ _ _ (Ex.new hz) (c2 v h)⟩)⟩
/-- a list that stands, all C -/
theorem NC.oldCat {q : Addr} {vs : List V} (up : Up C) (ha : EV X a σ H (.ref q)) (hq : SqL X.K H q vs) (hl : vs.length = n) (hc : ∀ v ∈ vs, C H v) (hb : NC X b σ H C m) (hn : n + m ≤ 100000 := by exact Nat.le_of_ble_eq_true rfl) : NC X (.BinOp a .Add b pos) σ H C (n + m) :=
  ⟨fun H1 e1 Q k => EW.of (pe_op op_catS pe_self pe_self) (ha.ev H1 e1 _ fun H2 e2 => hb.ev H2 (e1.trans e2) _ fun t us H3 nt e3 ht l2 c2 =>
    ⟨q, t, vs, us, rfl, rfl, ex_l ((e1.trans e2).trans e3) hq, sq_of ht, sz_of (by rw [hl, l2]; exact hn), fun z hz => k z _ _ (fresh_back (e2.trans e3) hz) ((e2.trans e3).trans (Ex.new hz)) upd_same (by rw [List.length_append, hl, l2]) fun v hv => by
      rcases List.mem_append.mp hv with h | h
      · exact up _ _ _ (((e1.trans e2).trans e3).trans (Ex.new hz)) (hc v h)
      · exact up _ _ _ (Ex.new hz) (c2 v h)⟩)⟩
theorem BW.asgNC {y : Str} (i : Nat) (hN : X.N.Nodup) (h : NC X e σ H C n) (k : ∀ q vs H1, H q = none → Ex H H1 → H1 q = some (.lst vs) → vs.length = n → (∀ v ∈ vs, C H1 v) → BW X rest D (σ.set i (some (.ref q))) H1) (hi : X.N[i]? = some y := by rfl) (hx : Loc X.env.scope y := by first | exact Or.inl rfl | exact Or.inr rfl) (hs : swapsWith e (some (.Name y p)) pos.line X.env = pure false := by rfl) (hf : X.fn y = true ∨ X.env.scope.names.lookup y = some .local := by first | exact .inl rfl | exact .inr rfl) : BW X (.Assign [.Name y p] e pos :: rest) D σ H :=
  BW.asgW hN hi hx (h.ev H (Ex.refl H) _ k) hs hf
theorem BW.retNC (h : NC X e σ H C n) (k : RetC C n H D.rt) : BW X (.Return (some e) pos :: rest) D σ H := BW.retW (h.ev H (Ex.refl H) _ k)
/-- a if c else b, with what follows -/
theorem EW.ite {t : Bool} (ht : TV X c σ H t) (h1 : t = true → ∀ H1, Ex H H1 → EW X a σ H1 Q) (h2 : t = false → ∀ H1, Ex H H1 → EW X b σ H1 Q) : EW X (.IfExp c a b pos) σ H Q :=
  EW.of (pe_ifExp pt_self pe_self pe_self) (ht.go fun H1 e1 => by
    cases t with
    | true => exact h1 rfl H1 e1
    | false => exact h2 rfl H1 e1)
/-- x(e, ..), x a slot that holds a def; what it raises is taken at these slots -/
theorem EW.callLX {f : Addr} {W : WX} (i : Nat) (F : Hc X.prog X.w X.K X.mg X.base k f sp) (hr : Room j X.A) (tk : L2N.Takes X W) (hi : σ[i]? = some (some (.ref f))) (h : tArgs X (e :: es) σ H fun vs H1 => sp vs H1 Q (fun cls d H' => W cls d σ H')) (hk : k ≤ j := by decide)
    (hN : X.N[i]? = some x := by rfl) (hvs : Vis X.env.scope x := by first | exact Or.inl rfl | exact Or.inr (Or.inl rfl) | exact Or.inr (Or.inr rfl)) (hst : (e :: es).all noStar = true := by rfl) (hdb : (x == ("__debug__" : Str)) = false := by decide) (hcd : (x == ("__classdict__" : Str)) = false := by decide) :
    EW X (.Call (.Name x p) (e :: es) [] pos) σ H Q := by
  obtain ⟨fd, ps, F, kp, bn⟩ := F.ex
  refine ⟨fun pins s I => wpAny_Call_Name_kw (thn ((pe_var (pos := p) hN hvs hdb hcd).run pins s σ H (fun v H1 => v = .ref f ∧ H1 = H) I ⟨.ref f, hi, rfl, rfl⟩) fun u s1 ⟨v, H1, I1, r1, q1⟩ => ?_)⟩
  obtain ⟨rfl, rfl⟩ := q1
  obtain rfl : u = Value.ref f := r1
  refine PySem.W.callWith_K (h₀ := X.base) I.ok.mod.kin kp (thn ((pa_all (X := X) hst).run pos pins s1 σ _ _ I1 h) fun us s2 ⟨vs, H2, I2, r, q⟩ => ⟨I2.kIn, ?_⟩) (star_of (List.all_eq_true.mp hst e List.mem_cons_self) es) (back_any es (List.all_eq_true.mpr fun e' he => List.all_eq_true.mp hst e' (List.mem_cons_of_mem _ he)))
  exact run_fnS (E := WE W) F (hr.mono hk) bn (L2N.passAt tk σ) I2 r q
/-- things: a def that gives a new list of n values, all C -/
def spT (C : PC) (n : Nat) : Sp := fun vs H Q _ => ∃ c : Int, vs = [.int c] ∧ 0 ≤ c ∧ RetC C n H Q
theorem NC.callL {f : Addr} {c : Int} (i : Nat) (F : Hc X.prog X.w X.K X.mg X.base k f (spT C n)) (hr : Room j X.A) (hi : σ[i]? = some (some (.ref f))) (ha : EV X e σ H (.int c)) (hc : 0 ≤ c) (hk : k ≤ j := by decide)
    (hN : X.N[i]? = some x := by rfl) (hvs : Vis X.env.scope x := by first | exact Or.inl rfl | exact Or.inr (Or.inl rfl) | exact Or.inr (Or.inr rfl)) (hs : [e].all noStar = true := by rfl) (hdb : (x == ("__debug__" : Str)) = false := by decide) (hcd : (x == ("__classdict__" : Str)) = false := by decide) :
    NC X (.Call (.Name x p) [e] [] pos) σ H C n := by
  obtain ⟨fd, ps, F, kp, bn⟩ := F.ex
  refine ⟨fun H1 e1 Q q => EW.of (pe_callL (i := i) (f := f) (dvs := []) F (hr.mono hk) hN hvs kp bn .nil passLN (pa_all hs) hdb hcd (star_of (List.all_eq_true.mp hs e List.mem_cons_self) []) (back_any [] rfl)) ⟨hi, (AV.one ha).ev H1 e1 _ fun H2 e2 => ⟨c, rfl, hc, fun r vs H3 nr e3 hr hl ha => q r vs H3 (fresh_back e2 nr) (e2.trans e3) hr hl ha⟩⟩⟩
/-- [e for x in xs], xs a new list of n values that are C; each e is z -/
theorem LC.listC {elt iter : Expr} {scope : Scope} {y : Str} {i : Nat} {z : V} (up : Up C) (hN : X.N.Nodup) (ok : BlkOk X.N X.env.scope scope [(y, i)]) (h : NC X iter σ H C n) (hz : n ≤ 40000)
    (he : ∀ (u : V) H1, Ex H H1 → C H1 u → EVb X scope elt ((wipe σ [i]).set i (some u)) H1 z)
    (hw : ∀ z, wipe ((wipe σ [i]).set i (some z)) [i] = wipe σ [i] := by intro _; rfl)
    (hg : ∀ (s : Shared) (H : Hp) (C : Addr) (cl : List (Str × Addr)) (fp : List Addr), PG (X.blk s H scope (compEnvC scope cl C X.env) fp) (.Name y p) (gName i) := by exact fun _ _ _ _ _ => pg_name (i := _) (by assumption) rfl (Or.inl rfl)) (hc : X.calm = true := by rfl) (hfs : ∀ x, foldedSetIterable iter X.env x = pure x := by intro _; rfl) :
    LC X (.ListComp elt [⟨.Name y p, iter, [], 0⟩] scope pos) σ H ((List.range n).map fun _ => z) := by
  refine lc_of (own := [(y, i)]) hc hN (pi_list pe_self) ok hg hfs ?_
  rw [← given_all]
  exact fun H0 e Q q => h.ev H0 e _ fun r vs H1 nr e1 hr hl ha => ⟨r, rfl, ⟨vs, sq_of hr⟩, fun Dl hD => lc_list (xs := vs) (Cw H1 (fun _ => true) (fun _ => z) Dl) ⟨hD, Ex.new hD, upd_same⟩ (fun i H' _ p => ex_l p.2.1 (sq_of hr))
    (fun i u H' hi p => ⟨hw u, cw_turn p (by have := (List.getElem?_eq_some_iff.mp hi).1; omega) ev_yes (fun _ => (he u H1 (e.trans e1) (ha u (List.mem_of_getElem? hi))).ev)⟩)
    (fun H' p => q Dl H' (fresh_back e1 p.1) (e1.trans p.2.1) (by rw [← hl]; exact p.2.2))⟩
/-- xs[i], xs a new list of n values that are C -/
theorem EC.ixN {t : Nat} (up : Up C) (h : NC X a σ H C n) (hi : EV X b σ H (.int (t : Int))) (ht : t < n) (hp : PlainIx b := by exact fun _ _ => rfl) : EC X (.Subscript a b pos) σ H C :=
  ⟨fun H1 e1 Q q => EW.of (pe_ix ix_list pe_self pe_self hp) (h.ev H1 e1 _ fun r vs H2 nr e2 hr hl ha => hi.ev H2 (e1.trans e2) _ fun H3 e3 => by
    have htl : t < vs.length := by omega
    exact ⟨r, vs, (t : Int), vs[t], rfl, rfl, sq_of (e3 _ _ hr), atI_nat (List.getElem?_eq_getElem htl), q _ H3 (e2.trans e3) (up _ _ _ e3 (ha _ (List.getElem_mem htl)))⟩)⟩
/-- xs[j] = e, of e only C is known -/
theorem BW.setLC {l : Addr} {t : Nat} {apos : Pos} (up : Up C) (hl : H l = some (.lst xs)) (h : EC X e σ H C) (ho : EV X a σ H (.ref l)) (hi : EV X b σ H (.int (t : Int))) (ht : t < xs.length) (k : ∀ v H1, Ex H H1 → C H1 v → BW X rest D σ (upd H1 l (.lst (xs.set t v))))
    (hg : PG X (.Subscript a b apos) (gSub (EW X a) (EW X b) rSetL) := by exact pg_sub pe_self pe_self set_list) (hs : swapsWithSole [.Subscript a b apos] e pos.line X.env = pure false := by rfl) (hw : swappedStores [.Subscript a b apos] e X.env = pure none := by rfl) : BW X (.Assign [.Subscript a b apos] e pos :: rest) D σ H :=
  BW.cons (ps_asg pe_self hg hs hw) (h.ev H (Ex.refl H) _ fun v H1 e1 hv => ho.ev H1 e1 _ fun H2 e2 => hi.ev H2 (e1.trans e2) _ fun H3 e3 => ⟨l, xs, (t : Int), t, rfl, rfl, ((e1.trans e2).trans e3) l _ hl, ixN_nat ht, k v H3 ((e1.trans e2).trans e3) (up _ _ _ (e2.trans e3) hv)⟩)
end
end QR

namespace QR
open PySem PySem.Spec PyProof.Rows L2 Evl
/-- mirrored(o), upended(o) -/
theorem EL.one {X : Cx} {a : Expr} {σ : L2.St} {H : Hp} {p pos : Pos} {j : Nat} {o : List Int} {xa : Ek → Addr} {x : Str} {out : List Int → List Int} (C : Fc X.prog X.w X.K X.mg X.base 3 x (spOne X.K xa out)) (hr : Room j X.A) (ha : EX X a σ H (Sh.ints o)) (o1 : 1 ≤ o.length) (l2 : o.length ≤ 200) (bo : Bd o) (hk : 3 ≤ j := by decide) (hg : Gl X x := by rfl) (hs : [a].all noStar = true := by rfl) (hdb : (x == ("__debug__" : Str)) = false := by decide) :
    EL X (.Call (.Name x p) [a] [] pos) σ H ((out o).map V.int) :=
  EL.callA C hr (AX.one ha) (fun vs H1 e1 hvs => by
    obtain ⟨u, rfl, hu⟩ := hvs.one
    obtain ⟨r, rfl, hr⟩ := hu.ofInts
    exact sl_one hr o1 l2 bo) hk hg hs hdb
end QR

namespace QR
open PySem PySem.Spec PyProof.Rows L2 Evl
/-! ### refusals alone -/
def spBadS (K : PySem.W.Frag) (xa : Ek → Addr) : Sp := fun vs H Q E => ∃ x, vs = [x] ∧ SetIs K H x (some .setting) ∧ ∀ H2, Ex H H2 → E (.ref (xa .setting)) none H2
def spBadZ (K : PySem.W.Frag) (xa : Ek → Addr) : Sp := fun vs H Q E => ∃ x, vs = [x] ∧ Kd? K H x ∧ ckSize x = some .size ∧ ∀ H2, Ex H H2 → E (.ref (xa .size)) none H2
/-- a def of a door and a thing that refuses by k -/
def spA (xa : Ek → Addr) (C : Hp → Int → V → Prop) (k : Ek) : Sp := fun vs H Q E => ∃ d x, vs = [.int d, x] ∧ C H d x ∧ ∀ H2, Ex H H2 → E (.ref (xa k)) none H2
theorem ckPlace_size {x y : V} (h : ckSize x = some .size) : ckPlace x y = some .size := by
  have hx : ¬ numB x 1 = true := fun z => by
    unfold ckSize at h
    rw [if_pos z] at h
    cases h
  have : ckPeace x = some .size := by
    unfold ckPeace
    rw [if_neg hx]
  unfold ckPlace
  rw [this]
theorem ckPlace_none' {x y : V} (h : x = .int 2 ∨ x = .int 3) : ckPlace x y = some .none := by
  rcases h with rfl | rfl <;> rfl
theorem ckSet_none' {x : V} (h : x = .int 2 ∨ x = .int 3) : ckSet x = some .none := by
  rcases h with rfl | rfl <;> decide
theorem res_bad {xa : Ek → Addr} {o : Option Ek} {k : Ek} {v : V} {H H0 : Hp} {Q : VK} {E : XK} (h : o = some k) (e : Ex H0 H) (hE : ∀ H2, Ex H0 H2 → E (.ref (xa k)) none H2) : Res xa o v H Q E := by
  subst h
  exact fun H2 e2 => hE H2 (e.trans e2)
theorem resL_bad {xa : Ek → Addr} {o : Option Ek} {k : Ek} {xs : List V} {H H0 : Hp} {Q : VK} {E : XK} (h : o = some k) (e : Ex H0 H) (hE : ∀ H2, Ex H0 H2 → E (.ref (xa k)) none H2) : ResL xa o xs H Q E := by
  subst h
  exact fun H2 e2 => hE H2 (e.trans e2)
def C1 (K : PySem.W.Frag) (H : Hp) (d : Int) (x : V) : Prop := Kd? K H x ∧ ((0 ≤ d ∧ d < 4 ∧ ckSize x = some .size) ∨ (d = 2 ∧ ∃ i, x = .int i ∧ 200 < i))
def C2 (H : Hp) (d : Int) (x : V) : Prop := (0 ≤ d ∧ d < 3) ∧ (x = .int 2 ∨ x = .int 3)
def C3 (K : PySem.W.Frag) (H : Hp) (d : Int) (x : V) : Prop := (0 ≤ d ∧ d < 2) ∧ Kd? K H x ∧ ckPlace (.int 9) x = some .place
def C4 (K : PySem.W.Frag) (H : Hp) (d : Int) (x : V) : Prop := (0 ≤ d ∧ d < 7) ∧ SetIs K H x (some .setting)
def C5 (K : PySem.W.Frag) (H : Hp) (d : Int) (x : V) : Prop := ∃ ns ms : List Int, Is K H x (.tup [Sh.ints ns, Sh.ints ms]) ∧ (1 ≤ ns.length ∧ ns.length ≤ 200) ∧ Bd ns ∧ 1 ≤ ms.length ∧ Bd ms ∧ 200 < ns.length * ms.length
def C6 (K : PySem.W.Frag) (H : Hp) (d : Int) (x : V) : Prop := ∃ ns : List Int, Is K H x (Sh.ints ns) ∧ (0 ≤ d ∧ d < 3) ∧ (1 ≤ ns.length ∧ ns.length ≤ 50) ∧ Bd ns ∧ ¬ NoTake true ns ∧ (d < 2 → ¬ NoTake false ns)
section
variable {P : Program} {w : World} {K : PySem.W.Frag} {mg : Str → Option Value} {base : Heap} {xa : Ek → Addr}
theorem ok_toldB {f : Addr} {fd : FuncData} (F : Fun K "told" "told" s_told f fd) (Cs : Fc P w K mg base 2 "check_setting" (spCkSetting K xa)) : FnOk P w K mg base (L2N.CX P w) 3 f fd ["setting"] (spBadS K xa) := by
  refine okR F sc_told (fun vs H Q E h => ?_) (fun cdv Ar outer s H vs Q E hr h => ?_)
  · obtain ⟨x, rfl, _⟩ := h
    rfl
  · obtain ⟨x, rfl, hx, hE⟩ := h
    exact BW.exprX Cs hr (L2N.takes_of (E := E) rfl rfl rfl rfl) (AV.one (EV.var 0 rfl)) fun H1 e1 => sx_setg hx H1 e1 _ E fun H2 e2 => hE H2 (e1.trans e2)
theorem ok_told_joinedB {f : Addr} {fd : FuncData} (F : Fun K "told_joined" "told_joined" s_told_joined f fd) (Cs : Fc P w K mg base 2 "check_setting" (spCkSetting K xa)) : FnOk P w K mg base (L2N.CX P w) 3 f fd ["setting"] (spBadS K xa) := by
  refine okR F sc_told_joined (fun vs H Q E h => ?_) (fun cdv Ar outer s H vs Q E hr h => ?_)
  · obtain ⟨x, rfl, _⟩ := h
    rfl
  · obtain ⟨x, rfl, hx, hE⟩ := h
    exact BW.exprX Cs hr (L2N.takes_of (E := E) rfl rfl rfl rfl) (AV.one (EV.var 0 rfl)) fun H1 e1 => sx_setg hx H1 e1 _ E fun H2 e2 => hE H2 (e1.trans e2)
theorem ok_stepB {f : Addr} {fd : FuncData} (F : Fun K "step" "step" s_step f fd) (Cs : Fc P w K mg base 2 "check_size" (spCkSize K xa)) : FnOk P w K mg base (L2N.CX P w) 3 f fd ["size"] (spBadZ K xa) := by
  refine okR F sc_step (fun vs H Q E h => ?_) (fun cdv Ar outer s H vs Q E hr h => ?_)
  · obtain ⟨x, rfl, _⟩ := h
    rfl
  · obtain ⟨x, rfl, kd, hx, hE⟩ := h
    exact BW.exprX Cs hr (L2N.takes_of (E := E) rfl rfl rfl rfl) (AV.one (EV.var 0 rfl)) fun H1 e1 => sx_size kd H1 e1 _ E (res_bad hx e1 hE)
theorem ok_with_size {f : Addr} {fd : FuncData} (F : Fun K "_law_with_size" "_law_with_size" s_law_with_size f fd) (c_column : Fc P w K mg base 5 "column" (spCol K xa)) (c_row_of : Fc P w K mg base 5 "row_of" (spRow K xa)) (c_setting : Fc P w K mg base 4 "setting" (spSetting K xa)) (c_step : Fc P w K mg base 3 "step" (spBadZ K xa)) : FnOk P w K mg base (L2N.CX P w) 6 f fd ["_law_door", "_law_thing"] (spA xa (C1 K) .size) := by
  refine okR F sc_law_with_size (fun vs H Q E h => ?_) (fun cdv Ar outer s H vs Q E hr h => ?_)
  · obtain ⟨d, x, rfl, _⟩ := h
    rfl
  · obtain ⟨d, x, rfl, ⟨kd, hx⟩, hE⟩ := h
    refine BW.when (TV.lt (EV.var 0 rfl) EV.int) (fun hk H1 e1 => ?_) (fun hk H1 e1 => ?_)
    · have hd : d < 2 := of_decide_eq_true hk
      have hz : ckSize x = some .size := by
        rcases hx with ⟨_, _, z⟩ | ⟨z, _⟩
        · exact z
        · omega
      refine BW.retW (EW.ite (TV.eq (EV.var 0 rfl) EV.int) (fun _ H2 e2 => ?_) (fun _ H2 e2 => ?_))
      · exact EW.callX c_column hr (L2N.takes_of (E := E) rfl rfl rfl rfl) ((AV.two (EV.var 1 rfl) EV.non).ev H2 (Ex.refl H2) _ fun H3 e3 => ⟨x, .non, rfl, kd.ex ((e1.trans e2).trans e3), Kd?.non, res_bad (ckPlace_size hz) ((e1.trans e2).trans e3) hE⟩)
      · exact EW.callX c_row_of hr (L2N.takes_of (E := E) rfl rfl rfl rfl) ((AV.two (EV.var 1 rfl) (EV.neg EV.int)).ev H2 (Ex.refl H2) _ fun H3 e3 => ⟨x, _, rfl, kd.ex ((e1.trans e2).trans e3), Kd?.int, res_bad (ckPlace_size hz) ((e1.trans e2).trans e3) hE⟩)
    · have hd : ¬ d < 2 := of_decide_eq_false hk
      refine BW.retW (EW.ite (TV.eq (EV.var 0 rfl) EV.int) (fun _ H2 e2 => ?_) (fun h2 H2 e2 => ?_))
      · have hz : ckSet x = some .size := by
          rcases hx with ⟨_, _, z⟩ | ⟨_, i, rfl, z⟩
          · exact ckSet_size z
          · unfold ckSet
            rw [if_pos (by simp [numB]; omega), if_pos (show 200 < intV (.int i) from z)]
        exact EW.callX c_setting hr (L2N.takes_of (E := E) rfl rfl rfl rfl) ((AV.one (EV.var 1 rfl)).ev H2 (Ex.refl H2) _ fun H3 e3 => ⟨x, rfl, kd.ex ((e1.trans e2).trans e3), resL_bad hz ((e1.trans e2).trans e3) hE⟩)
      · have hz : ckSize x = some .size := by
          rcases hx with ⟨_, _, z⟩ | ⟨z, _⟩
          · exact z
          · exact absurd z (of_decide_eq_false h2)
        exact EW.callX c_step hr (L2N.takes_of (E := E) rfl rfl rfl rfl) ((AV.one (EV.var 1 rfl)).ev H2 (Ex.refl H2) _ fun H3 e3 => ⟨x, rfl, kd.ex ((e1.trans e2).trans e3), hz, fun H4 e4 => hE H4 (((e1.trans e2).trans e3).trans e4)⟩)
theorem ok_with_none {f : Addr} {fd : FuncData} (F : Fun K "_law_with_none" "_law_with_none" s_law_with_none f fd) (c_column : Fc P w K mg base 5 "column" (spCol K xa)) (c_row_of : Fc P w K mg base 5 "row_of" (spRow K xa)) (c_setting : Fc P w K mg base 4 "setting" (spSetting K xa)) : FnOk P w K mg base (L2N.CX P w) 6 f fd ["_law_door", "_law_thing"] (spA xa C2 .none) := by
  refine okR F sc_law_with_none (fun vs H Q E h => ?_) (fun cdv Ar outer s H vs Q E hr h => ?_)
  · obtain ⟨d, x, rfl, _⟩ := h
    rfl
  · obtain ⟨d, x, rfl, ⟨_, hx⟩, hE⟩ := h
    have kd : ∀ Ha, Kd? K Ha x := fun Ha => by rcases hx with rfl | rfl <;> exact Kd?.int
    refine BW.retW (EW.ite (TV.eq (EV.var 0 rfl) EV.int) (fun _ H2 e2 => ?_) (fun _ H2 e2 => EW.ite (TV.eq (EV.var 0 rfl) EV.int) (fun _ H3 e3 => ?_) (fun _ H3 e3 => ?_)))
    · exact EW.callX c_column hr (L2N.takes_of (E := E) rfl rfl rfl rfl) ((AV.two (EV.var 1 rfl) (EV.neg EV.int)).ev H2 (Ex.refl H2) _ fun H3 e3 => ⟨x, _, rfl, kd H3, Kd?.int, res_bad (ckPlace_none' hx) (e2.trans e3) hE⟩)
    · exact EW.callX c_row_of hr (L2N.takes_of (E := E) rfl rfl rfl rfl) ((AV.two (EV.var 1 rfl) EV.non).ev H3 (Ex.refl H3) _ fun H4 e4 => ⟨x, _, rfl, kd H4, Kd?.non, res_bad (ckPlace_none' hx) ((e2.trans e3).trans e4) hE⟩)
    · exact EW.callX c_setting hr (L2N.takes_of (E := E) rfl rfl rfl rfl) ((AV.one (EV.var 1 rfl)).ev H3 (Ex.refl H3) _ fun H4 e4 => ⟨x, rfl, kd H4, resL_bad (ckSet_none' hx) ((e2.trans e3).trans e4) hE⟩)
theorem ok_with_place {f : Addr} {fd : FuncData} (F : Fun K "_law_with_place" "_law_with_place" s_law_with_place f fd) (c_column : Fc P w K mg base 5 "column" (spCol K xa)) (c_row_of : Fc P w K mg base 5 "row_of" (spRow K xa)) : FnOk P w K mg base (L2N.CX P w) 6 f fd ["_law_door", "_law_thing"] (spA xa (C3 K) .place) := by
  refine okR F sc_law_with_place (fun vs H Q E h => ?_) (fun cdv Ar outer s H vs Q E hr h => ?_)
  · obtain ⟨d, x, rfl, _⟩ := h
    rfl
  · obtain ⟨d, x, rfl, ⟨_, kd, hx⟩, hE⟩ := h
    refine BW.retW (EW.ite (TV.eq (EV.var 0 rfl) EV.int) (fun _ H2 e2 => ?_) (fun _ H2 e2 => ?_))
    · exact EW.callX c_column hr (L2N.takes_of (E := E) rfl rfl rfl rfl) ((AV.two EV.int (EV.var 1 rfl)).ev H2 (Ex.refl H2) _ fun H3 e3 => ⟨_, x, rfl, Kd?.int, kd.ex (e2.trans e3), res_bad hx (e2.trans e3) hE⟩)
    · exact EW.callX c_row_of hr (L2N.takes_of (E := E) rfl rfl rfl rfl) ((AV.two EV.int (EV.var 1 rfl)).ev H2 (Ex.refl H2) _ fun H3 e3 => ⟨_, x, rfl, Kd?.int, kd.ex (e2.trans e3), res_bad hx (e2.trans e3) hE⟩)
theorem SetIs.inv {H : Hp} {x : V} {o : Option Ek} (h : SetIs K H x o) : (∃ n, TyX K H x (.type n) ∧ n ∈ kinds ∧ n ≠ "list") ∨ ∃ p xs, x = .ref p ∧ SqL K H p xs := by
  cases h with
  | lst a b => exact .inr ⟨_, _, rfl, a⟩
  | oth a b c => exact .inl ⟨_, a, b, c⟩
theorem SetIs.bad {H : Hp} {p : Addr} {xs : List V} {o : Option Ek} (h : SqL K H p xs) (hk : ∀ y ∈ xs, Kd? K H y) (hc : ckList xs = o) : SetIs K H (.ref p) o := hc ▸ .lst h hk
theorem zz_set {H : Hp} {q : Addr} (h : H q = some (.lst [.int 0, .int 0])) : SetIs K H (.ref q) none := SetIs.ints (ns := [0, 0]) (sq_of h) (by decide) (by decide) (by decide)
theorem ok_with_setting {f : Addr} {fd : FuncData} (F : Fun K "_law_with_setting" "_law_with_setting" s_law_with_setting f fd) (B : Bl mg) (c_told : Fc P w K mg base 3 "told" (spBadS K xa)) (c_told_joined : Fc P w K mg base 3 "told_joined" (spBadS K xa)) (c_mirrored : Fc P w K mg base 3 "mirrored" (spOne K xa mirL)) (c_upended : Fc P w K mg base 3 "upended" (spOne K xa List.reverse)) (c_exchanged : Fc P w K mg base 3 "exchanged" (spExch K xa)) (c_product : Fc P w K mg base 3 "product" (spProd K xa)) : FnOk P w K mg base (L2N.CX P w) 6 f fd ["_law_door", "_law_thing"] (spA xa (C4 K) .setting) := by
  refine okR F sc_law_with_setting (fun vs H Q E h => ?_) (fun cdv Ar outer s H vs Q E hr h => ?_)
  · obtain ⟨d, x, rfl, _⟩ := h
    rfl
  · obtain ⟨d, x, rfl, ⟨_, hx⟩, hE⟩ := h
    have fin : ∀ (H1 : Hp), Ex H H1 → BW (cxOf (L2N.CX P w) P w K mg base n_law_with_setting "_law_with_setting" (defScope s_law_with_setting) f cdv Ar outer s H E) ((defBody s_law_with_setting).drop 1) { nx := fun _ H' => Q .non H', rt := Q } (L2.start n_law_with_setting [.int d, x]) H1 := fun H1 e1 => by
      refine BW.when (TV.lt (EV.var 0 rfl) EV.int) (fun hk H2 e2 => ?_) (fun hk H2 e2 => ?_)
      · refine BW.retW (EW.ite (TV.eq (EV.var 0 rfl) EV.int) (fun _ H3 e3 => ?_) (fun _ H3 e3 => ?_))
        · exact EW.callX c_mirrored hr (L2N.takes_of (E := E) rfl rfl rfl rfl) ((AV.one (EV.var 1 rfl)).ev H3 (Ex.refl H3) _ fun H4 e4 => ⟨x, _, rfl, hx.ex (((e1.trans e2).trans e3).trans e4), (fun k z H5 e5 => by cases z; exact hE H5 ((((e1.trans e2).trans e3).trans e4).trans e5)), fun z => nomatch z⟩)
        · exact EW.callX c_upended hr (L2N.takes_of (E := E) rfl rfl rfl rfl) ((AV.one (EV.var 1 rfl)).ev H3 (Ex.refl H3) _ fun H4 e4 => ⟨x, _, rfl, hx.ex (((e1.trans e2).trans e3).trans e4), (fun k z H5 e5 => by cases z; exact hE H5 ((((e1.trans e2).trans e3).trans e4).trans e5)), fun z => nomatch z⟩)
      · refine BW.when (TV.eq (EV.var 0 rfl) EV.int) (fun hk H3 e3 => ?_) (fun hk H3 e3 => ?_)
        · exact BW.retW (EW.callX c_exchanged hr (L2N.takes_of (E := E) rfl rfl rfl rfl) ((AV.one (EV.var 1 rfl)).ev H3 (Ex.refl H3) _ fun H4 e4 => ⟨x, _, rfl, hx.ex (((e1.trans e2).trans e3).trans e4), (fun k z H5 e5 => by cases z; exact hE H5 ((((e1.trans e2).trans e3).trans e4).trans e5)), fun z => nomatch z⟩))
        · have e13 := (e1.trans e2).trans e3
          refine BW.retW (EW.ite (TV.eq (EV.var 0 rfl) EV.int) (fun _ H4 e4 => ?_) (fun _ H4 e4 => ?_))
          · refine EW.callX c_product hr (L2N.takes_of (E := E) rfl rfl rfl rfl) ((EV.var (pos := _) 1 rfl).ev H4 (Ex.refl H4) _ fun H5 e5 => (EL.lst (vs := [.int 0, .int 0]) (AV.two EV.int EV.int)).ev H5 (Ex.refl H5) _ fun q H6 nq e6 hq => ?_)
            have e16 := (e13.trans e4).trans (e5.trans e6)
            exact ⟨x, .ref q, _, none, rfl, hx.ex e16, zz_set hq, (fun k z H7 e7 => by cases z; exact hE H7 (e16.trans e7)), (fun k z => nomatch z), fun z => nomatch z⟩
          · refine EW.callX c_product hr (L2N.takes_of (E := E) rfl rfl rfl rfl) ((EL.lst (vs := [.int 0, .int 0]) (AV.two EV.int EV.int)).ev H4 (Ex.refl H4) _ fun q H5 nq e5 hq => (EV.var (pos := _) 1 rfl).ev H5 (Ex.refl H5) _ fun H6 e6 => ?_)
            have e16 := (e13.trans e4).trans (e5.trans e6)
            exact ⟨.ref q, x, none, _, rfl, zz_set (e6 _ _ hq), hx.ex e16, (fun k z => nomatch z), (fun k _ z H7 e7 => by cases z; exact hE H7 (e16.trans e7)), fun _ z => nomatch z⟩
    have bad1 : ∀ H1, Ex H H1 → spBadS K xa [x] H1 Q E := fun H1 e1 => ⟨x, rfl, hx.ex e1, fun H2 e2 => hE H2 (e1.trans e2)⟩
    have tail : ∀ H1, Ex H H1 → BW (cxOf (L2N.CX P w) P w K mg base n_law_with_setting "_law_with_setting" (defScope s_law_with_setting) f cdv Ar outer s H E) (match (defBody s_law_with_setting) with | (.If _ b _ _) :: _ => b | _ => []) (Ends.bef (cxOf (L2N.CX P w) P w K mg base n_law_with_setting "_law_with_setting" (defScope s_law_with_setting) f cdv Ar outer s H E) ((defBody s_law_with_setting).drop 1) { nx := fun _ H' => Q .non H', rt := Q }) (L2.start n_law_with_setting [.int d, x]) H1 := fun H1 e1 => by
      refine BW.retW (EW.ite (TV.eq (EV.mod (EV.var 0 rfl) EV.int (by decide)) EV.int) (fun _ H2 e2 => ?_) (fun _ H2 e2 => ?_))
      · exact EW.callX c_told hr (L2N.takes_of (E := E) rfl rfl rfl rfl) ((AV.one (EV.var 1 rfl)).ev H2 (Ex.refl H2) _ fun H3 e3 => bad1 H3 ((e1.trans e2).trans e3))
      · exact EW.callX c_told_joined hr (L2N.takes_of (E := E) rfl rfl rfl rfl) ((AV.one (EV.var 1 rfl)).ev H2 (Ex.refl H2) _ fun H3 e3 => bad1 H3 ((e1.trans e2).trans e3))
    rcases hx.inv with ⟨n, ty, hk, hn⟩ | ⟨p, xs, rfl, hp⟩
    · exact BW.when (TV.or2 (k2 := false) (TV.lt (EV.var 0 rfl) EV.int) (fun _ => TV.is (TV.and3 (k2 := false) (k3 := false) (TV.lt (EV.var 0 rfl) EV.int) (fun _ => TV.val (EV.isT B.isinstance B.list boot_list' (EV.var 1 rfl) ty (nolist _ hk hn))) (fun _ z => nomatch z)) (by simp))) (fun _ H1 e1 => tail H1 e1) (fun _ H1 e1 => fin H1 e1)
    · exact BW.when (TV.or2 (TV.lt (EV.var 0 rfl) EV.int) (fun _ => TV.and3 (TV.lt (EV.var 0 rfl) EV.int) (fun _ => TV.val (EV.isT (k := true) B.isinstance B.list boot_list' (EV.var 1 rfl) (ty_list hp) (by decide +kernel))) (fun _ _ => TV.gt (EV.len B.len (EV.var 1 rfl) hp) EV.int))) (fun _ H1 e1 => tail H1 e1) (fun _ H1 e1 => fin H1 e1)
theorem ok_with_product {f : Addr} {fd : FuncData} (F : Fun K "_law_with_product" "_law_with_product" s_law_with_product f fd) (c_product : Fc P w K mg base 3 "product" (spProd K xa)) : FnOk P w K mg base (L2N.CX P w) 6 f fd ["_law_door", "_law_thing"] (spA xa (C5 K) .setting) := by
  refine okR F sc_law_with_product (fun vs H Q E h => ?_) (fun cdv Ar outer s H vs Q E hr h => ?_)
  · obtain ⟨d, x, rfl, _⟩ := h
    rfl
  · obtain ⟨d, x, rfl, ⟨ns, ms, hx, ⟨n1, n2⟩, bn, m1, bm, big⟩, hE⟩ := h
    refine BW.retW (EW.callX c_product hr (L2N.takes_of (E := E) rfl rfl rfl rfl) ((AX.two (EX.ixT (k := 0) (EX.var 1 rfl hx) EV.int rfl rfl) (EX.ixT (k := 1) (EX.var 1 rfl hx) EV.int rfl rfl)).ev H (Ex.refl H) _ fun vs H1 e1 hvs => ?_))
    obtain ⟨u, v, rfl, hu, hv⟩ := hvs.two
    obtain ⟨r, rfl, hr⟩ := hu.ofInts
    obtain ⟨t, rfl, ht⟩ := hv.ofInts
    have s1 : SetIs K H1 (.ref r) none := SetIs.ints hr n1 n2 bn
    by_cases hm : ms.length ≤ 200
    · obtain ⟨fo, ho⟩ := first_ex false ns
      obtain ⟨fi, hi⟩ := first_ex true ms
      exact ⟨.ref r, .ref t, none, none, rfl, s1, SetIs.ints ht m1 hm bm, (fun k z => nomatch z), (fun k _ z => nomatch z), fun _ _ => ⟨r, t, ns, ms, fo, fi, rfl, rfl, hr, ht, n2, ⟨m1, hm⟩, bn, bm, ho, hi, (fun _ H2 e2 => hE H2 (e1.trans e2)), (fun z => absurd z (by omega)), (fun z => absurd z (by omega))⟩⟩
    · have s2 : SetIs K H1 (.ref t) (some .setting) := SetIs.bad ht (fun y hy => by
        obtain ⟨c, _, rfl⟩ := List.mem_map.mp hy
        exact Kd?.int) (by
        unfold ckList
        rw [if_neg (by rw [List.length_map]; intro z; omega)])
      exact ⟨.ref r, .ref t, none, _, rfl, s1, s2, (fun k z => nomatch z), (fun k _ z H2 e2 => by cases z; exact hE H2 (e1.trans e2)), fun _ z => nomatch z⟩
theorem ok_with_taking {f : Addr} {fd : FuncData} (F : Fun K "_law_with_taking" "_law_with_taking" s_law_with_taking f fd) (c_exchanged : Fc P w K mg base 3 "exchanged" (spExch K xa)) (c_product : Fc P w K mg base 3 "product" (spProd K xa)) : FnOk P w K mg base (L2N.CX P w) 6 f fd ["_law_door", "_law_thing"] (spA xa (C6 K) .peace) := by
  refine okR F sc_law_with_taking (fun vs H Q E h => ?_) (fun cdv Ar outer s H vs Q E hr h => ?_)
  · obtain ⟨d, x, rfl, _⟩ := h
    rfl
  · obtain ⟨d, x, rfl, ⟨ns, hx, hd, ⟨n1, n2⟩, bn, nj, nb⟩, hE⟩ := h
    refine BW.when (TV.eq (EV.var 0 rfl) EV.int) (fun hk H1 e1 => ?_) (fun hk H1 e1 => ?_)
    · have hd0 : d = 0 := of_decide_eq_true hk
      exact BW.retW (EW.exchNo c_exchanged hr (L2N.takes_of (E := E) rfl rfl rfl rfl) (EX.var 1 rfl (hx.ex e1)) n1 (by omega) bn (nb (by omega)) fun H2 e2 => hE H2 (e1.trans e2))
    · have hd0 : d ≠ 0 := of_decide_eq_false hk
      refine BW.retW (EW.ite (TV.eq (EV.var 0 rfl) EV.int) (fun hk2 H2 e2 => ?_) (fun hk2 H2 e2 => ?_))
      · have hd1 : d = 1 := of_decide_eq_true hk2
        exact EW.prodNo c_product hr (L2N.takes_of (E := E) rfl rfl rfl rfl) (EX.var 1 rfl (hx.ex (e1.trans e2))) (EX.newI (ns := [0]) (EL.lst (AV.one EV.int))) n1 (by decide) (by simp; omega) bn (by unfold Bd; decide) (fun z => nb (by omega) z.1) fun H3 e3 => hE H3 ((e1.trans e2).trans e3)
      · exact EW.prodNo c_product hr (L2N.takes_of (E := E) rfl rfl rfl rfl) (EX.newI (ns := [1, 3, 0, 2]) (EL.lst (AV.cons EV.int (AV.three EV.int EV.int EV.int)))) (EX.var 1 rfl (hx.ex (e1.trans e2))) (by decide) n1 (by simp; omega) (by unfold Bd; decide) bn (fun z => nj z.2) fun H3 e3 => hE H3 ((e1.trans e2).trans e3)
end
end QR

namespace QR
open PySem PySem.Spec PyProof.Rows L2 Evl
/-! ### the things -/
def Z1 (K : PySem.W.Frag) : PC := fun H x => Kd? K H x ∧ ckSize x = some .size
def Z2 : PC := fun _ x => x = .int 2 ∨ x = .int 3
def Z3 (K : PySem.W.Frag) : PC := fun H x => Kd? K H x ∧ ckPlace (.int 9) x = some .place
def Z4 (K : PySem.W.Frag) : PC := fun H x => SetIs K H x (some .setting)
def Z5 (K : PySem.W.Frag) : PC := fun H x => C5 K H 0 x
def Z6 (K : PySem.W.Frag) : PC := fun H x => C6 K H 0 x
/-- never a column -/
def Zb (K : PySem.W.Frag) : PC := fun H y => Kd? K H y ∧ ∀ n, n ≤ 1 → colB n y = false
/-- no column of eleven -/
def Zc11 (K : PySem.W.Frag) : PC := fun H y => Kd? K H y ∧ colB 11 y = false
section
variable {K : PySem.W.Frag}
theorem up1 : Up (Z1 K) := fun _ _ _ e h => ⟨h.1.ex e, h.2⟩
theorem up2 : Up Z2 := fun _ _ _ _ h => h
theorem up3 : Up (Z3 K) := fun _ _ _ e h => ⟨h.1.ex e, h.2⟩
theorem up4 : Up (Z4 K) := fun _ _ _ e h => SetIs.ex h e
theorem up5 : Up (Z5 K) := fun _ _ _ e ⟨ns, ms, h, r⟩ => ⟨ns, ms, h.ex e, r⟩
theorem up6 : Up (Z6 K) := fun _ _ _ e ⟨ns, h, r⟩ => ⟨ns, h.ex e, r⟩
theorem upb : Up (Zb K) := fun _ _ _ e h => ⟨h.1.ex e, h.2⟩
theorem up11 : Up (Zc11 K) := fun _ _ _ e h => ⟨h.1.ex e, h.2⟩
theorem Kd?.d0 {H : Hp} {r : Addr} (h : H r = some (.dK [])) : Kd? K H (.ref r) := ⟨"dict", .base (.dK h), by decide⟩
theorem TyX.updL {H : Hp} {l : Addr} {xs ys : List V} {x : V} {t : Value} (ty : TyX K H x t) (hl : H l = some (.lst xs)) : TyX K (upd H l (.lst ys)) x t := by
  have ne : ∀ {a : Addr} {o : HO}, H a = some o → (∀ zs, o ≠ .lst zs) → upd H l (.lst ys) a = some o := fun {a o} h n => by
    rw [upd_ne (fun z => by rw [z, hl] at h; exact n _ (Option.some.inj h).symm)]
    exact h
  cases ty with
  | base b =>
    refine .base ?_
    cases b with
    | non => exact .non
    | bl x => exact .bl x
    | int i => exact .int i
    | str x => exact .str x
    | flt x => exact .flt x
    | @lst a zs h =>
      by_cases ha : a = l
      · subst ha
        exact .lst upd_same
      · exact .lst ((upd_ne ha).trans h)
    | frz h => exact .frz (ne h (fun _ z => nomatch z))
    | tup h => exact .tup (ne h (fun _ z => nomatch z))
    | dK h => exact .dK (ne h (fun _ z => nomatch z))
    | dT h => exact .dT (ne h (fun _ z => nomatch z))
    | ins h c a b d m => exact .ins (ne h (fun _ z => nomatch z)) c a b d m
  | byt b => exact .byt b
  | set h => exact .set (ne h (fun _ z => nomatch z))
  | kList h c => exact .kList h c
  | kTuple h c => exact .kTuple h c
  | kDict h c => exact .kDict h c
  | fTuple h => exact .fTuple (ne h (fun _ z => nomatch z))
  | fDict h => exact .fDict (ne h (fun _ z => nomatch z))
theorem Kd?.updL {H : Hp} {l : Addr} {xs ys : List V} {x : V} (h : Kd? K H x) (hl : H l = some (.lst xs)) : Kd? K (upd H l (.lst ys)) x := let ⟨n, h1, h2⟩ := h; ⟨n, TyX.updL h1 hl, h2⟩
theorem z1_neg {H : Hp} {i : Int} (h : i < 1) : Z1 K H (.int i) := ⟨Kd?.int, by unfold ckSize; rw [if_neg (by simp [numB]; omega)]⟩
theorem z3_int {H : Hp} {i : Int} (h : i < 0 ∨ 9 ≤ i) : Z3 K H (.int i) := ⟨Kd?.int, by
  show (if numB (.int i) 0 = true ∧ ltV (.int i) (.int 9) = true then none else some Ek.place) = some .place
  rw [if_neg (by simp [numB, ltV]; omega)]⟩
theorem z4_ints {H : Hp} {r : Addr} {ns : List Int} (h : H r = some (.lst (ns.map V.int))) (hb : ¬ ((1 ≤ ns.length ∧ ns.length ≤ 200) ∧ ∀ c ∈ ns, 0 ≤ c ∧ c < (ns.length : Int))) : Z4 K H (.ref r) := by
  refine SetIs.bad (sq_of h) (fun y hy => ?_) ?_
  · obtain ⟨c, _, rfl⟩ := List.mem_map.mp hy
    exact Kd?.int
  · unfold ckList
    rw [if_neg]
    intro z
    refine hb ⟨by simpa using z.1, fun c hc => ?_⟩
    have := List.all_eq_true.mp z.2 (.int c) (List.mem_map.mpr ⟨c, hc, rfl⟩)
    simpa [colB] using this
theorem z4_one {H : Hp} {r : Addr} {vs : List V} (h : H r = some (.lst vs)) (hl : vs.length = 1) (ha : ∀ v ∈ vs, Zb K H v) : Z4 K H (.ref r) := by
  refine SetIs.bad (sq_of h) (fun y hy => (ha y hy).1) ?_
  unfold ckList
  rw [if_neg]
  intro z
  obtain ⟨v, rfl⟩ : ∃ v, vs = [v] := List.length_eq_one_iff.mp hl
  have := List.all_eq_true.mp z.2 v List.mem_cons_self
  have z2 : colB 1 v = true := this
  rw [(ha v List.mem_cons_self).2 1 (Nat.le_refl _)] at z2
  cases z2
end
section
variable {P : Program} {w : World} {K : PySem.W.Frag} {mg : Str → Option Value} {base : Heap} {xa : Ek → Addr}
theorem ok_bad_sizes {f : Addr} {fd : FuncData} (F : Fun K "_law_bad_sizes" "_law_bad_sizes" s_law_bad_sizes f fd) : FnOk P w K mg base (L2N.CX P w) 1 f fd ["_law_cell"] (spT (Z1 K) 10) := by
  refine okB F sc_law_bad_sizes (fun vs H Q E h => ?_) (fun cdv Ar outer s H vs Q E hr h => ?_)
  · obtain ⟨c, rfl, _⟩ := h
    rfl
  · obtain ⟨c, rfl, hc, k⟩ := h
    refine BW.retNC (NC.lst up1 (AC.cons up1 (EC.val EV.non fun _ _ => ⟨Kd?.non, rfl⟩) (AC.cons up1 (EC.val EV.int fun _ _ => z1_neg (by decide)) (AC.cons up1 (EC.val (EV.neg EV.int) fun _ _ => z1_neg (by decide)) (AC.cons up1 (EC.val (EV.sub (EV.neg EV.int) (EV.var 0 rfl)) fun _ _ => z1_neg (by omega)) (AC.cons up1 (EC.val EV.bl fun _ _ => ⟨Kd?.bl, rfl⟩) (AC.cons up1 (EC.val EV.bl fun _ _ => ⟨Kd?.bl, rfl⟩) (AC.cons up1 (EC.val EV.str fun _ _ => ⟨Kd?.str, rfl⟩)
      (AC.cons up1 (EC.el (EL.lst (AV.one EV.int)) fun r _ _ h => ⟨Kd?.lst (sq_of h), rfl⟩) (AC.cons up1 (EC.eu (EU.tup (AV.one EV.int)) fun r _ _ h => ⟨Kd?.tup (st_of h), rfl⟩) (AC.cons up1 (EC.d0 fun r _ _ h => ⟨Kd?.d0 h, rfl⟩) AC.nil))))))))))) k
theorem ok_none6 {f : Addr} {fd : FuncData} (F : Fun K "_law_none" "_law_none" s_law_none f fd) : FnOk P w K mg base (L2N.CX P w) 1 f fd ["_law_cell"] (spT Z2 3) := by
  refine okB F sc_law_none (fun vs H Q E h => ?_) (fun cdv Ar outer s H vs Q E hr h => ?_)
  · obtain ⟨c, rfl, _⟩ := h
    rfl
  · obtain ⟨c, rfl, hc, k⟩ := h
    refine BW.retNC (NC.lst up2 (AC.cons up2 (EC.val EV.int fun _ _ => .inl rfl) (AC.cons up2 (EC.val EV.int fun _ _ => .inr rfl) (AC.cons up2 (EC.val (EV.add EV.int (EV.mod (EV.var 0 rfl) EV.int (by decide))) fun _ _ => ?_) AC.nil)))) k
    rcases Int.emod_two_eq c with z | z
    · exact .inl (by rw [z]; rfl)
    · exact .inr (by rw [z]; rfl)
theorem ok_bad_places {f : Addr} {fd : FuncData} (F : Fun K "_law_bad_places" "_law_bad_places" s_law_bad_places f fd) : FnOk P w K mg base (L2N.CX P w) 1 f fd ["_law_cell"] (spT (Z3 K) 11) := by
  refine okB F sc_law_bad_places (fun vs H Q E h => ?_) (fun cdv Ar outer s H vs Q E hr h => ?_)
  · obtain ⟨c, rfl, _⟩ := h
    rfl
  · obtain ⟨c, rfl, hc, k⟩ := h
    refine BW.retNC (NC.lst up3 (AC.cons up3 (EC.val EV.non fun _ _ => ⟨Kd?.non, rfl⟩) (AC.cons up3 (EC.val (EV.neg EV.int) fun _ _ => z3_int (.inl (by decide))) (AC.cons up3 (EC.val (EV.sub (EV.neg EV.int) (EV.var 0 rfl)) fun _ _ => z3_int (.inl (by omega))) (AC.cons up3 (EC.val EV.int fun _ _ => z3_int (.inr (by decide))) (AC.cons up3 (EC.val (EV.add EV.int (EV.var 0 rfl)) fun _ _ => z3_int (.inr (by omega)))
      (AC.cons up3 (EC.val EV.bl fun _ _ => ⟨Kd?.bl, rfl⟩) (AC.cons up3 (EC.val EV.bl fun _ _ => ⟨Kd?.bl, rfl⟩) (AC.cons up3 (EC.val EV.str fun _ _ => ⟨Kd?.str, rfl⟩) (AC.cons up3 (EC.el (EL.lst (AV.one EV.int)) fun r _ _ h => ⟨Kd?.lst (sq_of h), rfl⟩) (AC.cons up3 (EC.eu (EU.tup (AV.one EV.int)) fun r _ _ h => ⟨Kd?.tup (st_of h), rfl⟩) (AC.cons up3 (EC.d0 fun r _ _ h => ⟨Kd?.d0 h, rfl⟩) AC.nil)))))))))))) k
theorem mem_drop_or {vs : List V} {i : Nat} {v u : V} (h : u ∈ vs.set i v) : u ∈ vs ∨ u = v := List.mem_or_eq_of_mem_set h
theorem ok_bad_settings {f : Addr} {fd : FuncData} (F : Fun K "_law_bad_settings" "_law_bad_settings" s_law_bad_settings f fd) (B : Bl mg) : FnOk P w K mg base (L2N.CX P w) 1 f fd ["_law_cell"] (spT (Z4 K) 20) := by
  refine okB F sc_law_bad_settings (fun vs H Q E h => ?_) (fun cdv Ar outer s H vs Q E hr h => ?_)
  · obtain ⟨c, rfl, _⟩ := h
    rfl
  · obtain ⟨c, rfl, hc, k⟩ := h
    have nd := sc_law_bad_settings.nd
    have m0 := Int.emod_nonneg c (show (11 : Int) ≠ 0 by decide)
    have m1 := Int.emod_lt_of_pos c (show (0 : Int) < 11 by decide)
    have t0 := Int.emod_nonneg (c / 11) (show (10 : Int) ≠ 0 by decide)
    have t1 := Int.emod_lt_of_pos (c / 11) (show (0 : Int) < 10 by decide)
    obtain ⟨i, hi⟩ : ∃ i : Nat, (i : Int) = c % 11 := ⟨(c % 11).toNat, by omega⟩
    obtain ⟨t, ht⟩ : ∃ t : Nat, (t : Int) = c / 11 % 10 := ⟨(c / 11 % 10).toNat, by omega⟩
    refine BW.asgC 1 (LC.range (j := 2) (fun r => .int ((2 * (r : Int) + c) % 11)) B.range nd (blkOk_by (N := n_law_bad_settings) (sc := defScope s_law_bad_settings) (by decide +kernel)) EV.int ⟨by decide, by decide⟩ (fun r Ha ea hr s0 H0 C0 cl fp => EV.mod (EV.add (EV.mul EV.int (EV.var 2 rfl) (mul_small (.inl ⟨by decide, by decide⟩))) (EV.var 0 rfl)) EV.int (by decide))) fun l H1 nl e1 hl => ?_
    refine BW.setLC (C := Zc11 K) (t := i) up11 hl (EC.ixN (t := t) up11 (NC.lst up11 (AC.cons up11 (EC.val EV.non fun _ _ => ⟨Kd?.non, rfl⟩) (AC.cons up11 (EC.val EV.str fun _ _ => ⟨Kd?.str, rfl⟩) (AC.cons up11 (EC.val EV.bl fun _ _ => ⟨Kd?.bl, rfl⟩) (AC.cons up11 (EC.val EV.bl fun _ _ => ⟨Kd?.bl, rfl⟩) (AC.cons up11 (EC.el (EL.lst (AV.one EV.int)) fun r _ _ h => ⟨Kd?.lst (sq_of h), rfl⟩) (AC.cons up11 (EC.eu (EU.tup (AV.one EV.int)) fun r _ _ h => ⟨Kd?.tup (st_of h), rfl⟩)
      (AC.cons up11 (EC.val EV.int fun _ _ => ⟨Kd?.int, rfl⟩) (AC.cons up11 (EC.val (EV.add EV.int (EV.var 0 rfl)) fun _ _ => ⟨Kd?.int, by simp [colB]; omega⟩) (AC.cons up11 (EC.val (EV.neg EV.int) fun _ _ => ⟨Kd?.int, rfl⟩) (AC.cons up11 (EC.val (EV.sub (EV.neg EV.int) (EV.var 0 rfl)) fun _ _ => ⟨Kd?.int, by simp [colB]; omega⟩) AC.nil))))))))))) (EV.isI (EV.mod (EV.fdiv (EV.var 0 rfl) EV.int (by decide)) EV.int (by decide)) ht.symm) (by omega)) (EV.var 1 rfl) (EV.isI (EV.mod (EV.var 0 rfl) EV.int (by decide)) hi.symm) (by simp; omega) fun v H2 e2 hv => ?_
    have hl2 := e2 _ _ hl
    have hlen : ((List.range (11 : Int).toNat).map fun r : Nat => V.int ((2 * (r : Int) + c) % 11)).length = 11 := by simp
    generalize hxs : ((List.range (11 : Int).toNat).map fun r : Nat => V.int ((2 * (r : Int) + c) % 11)) = xs at hl2 hlen
    have hk : ∀ y ∈ xs, ∀ Ha, Kd? K Ha y := fun y hy Ha => by
      rw [← hxs] at hy
      obtain ⟨r, _, rfl⟩ := List.mem_map.mp hy
      exact Kd?.int
    have hv3 := hv.1.updL (ys := xs.set i v) hl2
    generalize hH3 : upd H2 l (.lst (xs.set i v)) = H3
    rw [hH3] at hv3
    have hl3 : H3 l = some (.lst (xs.set i v)) := by rw [← hH3, upd_same]
    have e3 : Ex H H3 := by rw [← hH3]; exact (ex_hide (e1.trans e2) nl).trans hide_out
    have many : ∀ Ha, Ex H3 Ha → Z4 K Ha (.ref l) := fun Ha ea => by
      refine SetIs.bad (sq_of (ea _ _ hl3)) (fun y hy => ?_) ?_
      · rcases List.mem_or_eq_of_mem_set hy with z | rfl
        · exact hk y z Ha
        · exact hv3.ex ea
      · unfold ckList
        rw [if_neg]
        rintro ⟨_, z⟩
        rw [List.length_set, hlen] at z
        have := List.all_eq_true.mp z v (List.mem_iff_getElem.mpr ⟨i, by rw [List.length_set]; omega, by simp⟩)
        rw [hv.2] at this
        cases this
    have ni : ∀ (a b : Int), ¬ (0 ≤ b ∧ b < 2) → ¬ ((1 ≤ ([a, b] : List Int).length ∧ ([a, b] : List Int).length ≤ 200) ∧ ∀ c ∈ [a, b], 0 ≤ c ∧ c < (([a, b] : List Int).length : Int)) := fun a b h z => h (z.2 b (by simp))
    refine BW.asgNC (C := Z4 K) 3 nd (NC.lst up4 (AC.cons up4 (EC.val EV.non fun _ _ => SetIs.oth (n := "NoneType") (.base .non) (by decide) (by decide)) (AC.cons up4 (EC.el (EL.lst AV.nil) fun r _ _ h => z4_ints (ns := []) h (by decide)) (AC.cons up4 (EC.eu (EU.tup (AV.one EV.int)) fun r _ _ h => SetIs.oth (ty_tup (st_of h)) (by decide) (by decide)) (AC.cons up4 (EC.eu (EU.tup (AV.cons EV.int (AV.three EV.int EV.int EV.int))) fun r _ _ h => SetIs.oth (ty_tup (st_of h)) (by decide) (by decide)) (AC.cons up4 (EC.val EV.str fun _ _ => SetIs.oth (n := "str") (.base (.str _)) (by decide) (by decide)) (AC.cons up4 (EC.d0 fun r _ _ h => SetIs.oth (n := "dict") (.base (.dK h)) (by decide) (by decide)) (AC.cons up4 (EC.val EV.int fun _ _ => SetIs.oth (n := "int") (.base (.int _)) (by decide) (by decide))
      (AC.cons up4 (EC.el (EL.lst (AV.one EV.int)) fun r _ _ h => z4_ints (ns := [1]) h (by decide)) (AC.cons up4 (EC.el (EL.lst (AV.two EV.int EV.int)) fun r _ _ h => z4_ints (ns := [0, 2]) h (by decide))
      (AC.cons up4 (EC.nc (C' := Zb K) (NC.lst upb (AC.cons upb (EC.val EV.non fun _ _ => ⟨Kd?.non, fun _ _ => rfl⟩) AC.nil)) fun r vs _ _ h hl ha => z4_one h hl ha) (AC.cons up4 (EC.nc (C' := Zb K) (NC.lst upb (AC.cons upb (EC.val EV.str fun _ _ => ⟨Kd?.str, fun _ _ => rfl⟩) AC.nil)) fun r vs _ _ h hl ha => z4_one h hl ha) (AC.cons up4 (EC.nc (C' := Zb K) (NC.lst upb (AC.cons upb (EC.val EV.bl fun _ _ => ⟨Kd?.bl, fun _ _ => rfl⟩) AC.nil)) fun r vs _ _ h hl ha => z4_one h hl ha) (AC.cons up4 (EC.nc (C' := Zb K) (NC.lst upb (AC.cons upb (EC.val EV.bl fun _ _ => ⟨Kd?.bl, fun _ _ => rfl⟩) AC.nil)) fun r vs _ _ h hl ha => z4_one h hl ha)
      (AC.cons up4 (EC.nc (C' := Zb K) (NC.lst upb (AC.cons upb (EC.el (EL.lst (AV.one EV.int)) fun r _ _ h => ⟨Kd?.lst (sq_of h), fun _ _ => rfl⟩) AC.nil)) fun r vs _ _ h hl ha => z4_one h hl ha) (AC.cons up4 (EC.el (EL.lst (AV.one (EV.neg EV.int))) fun r _ _ h => z4_ints (ns := [-1]) h (by decide)) AC.nil)))))))))))))))) fun q vs H4 nq e4 hq hlen4 hall => ?_
    have b9 := Int.emod_nonneg c (show (9 : Int) ≠ 0 by decide)
    have b9' := Int.emod_lt_of_pos c (show (0 : Int) < 9 by decide)
    refine BW.retNC (NC.oldCat up4 (EV.var 3 rfl) (sq_of hq) hlen4 hall (NC.lst up4 (AC.cons up4 (EC.el (EL.rep (k := 201) (EL.lst (AV.one EV.int)) EV.int (by decide) (by decide)) fun r _ _ h => z4_ints (ns := List.replicate 201 0) (by rw [h]; congr 2) (by rw [List.length_replicate]; omega)) (AC.cons up4 (EC.val (EV.var 1 rfl) fun Ha ea => many Ha (e4.trans ea))
      (AC.cons up4 (EC.el (EL.listR1 B.list B.range (EV.add EV.int (EV.mod (EV.var 0 rfl) EV.int (by decide))) (by omega)) fun r _ _ h => z4_ints (ns := (List.range (201 + c % 9).toNat).map fun i : Nat => (i : Int)) (by rw [h, List.map_map]; rfl) (by rw [List.length_map, List.length_range]; omega)) (AC.cons up4 (EC.el (EL.lst (AV.two EV.int (EV.sub (EV.neg EV.int) (EV.var 0 rfl)))) fun r _ _ h => z4_ints (ns := [0, -1 - c]) h (ni _ _ (by omega))) (AC.cons up4 (EC.el (EL.lst (AV.two EV.int (EV.add EV.int (EV.var 0 rfl)))) fun r _ _ h => z4_ints (ns := [0, 2 + c]) h (ni _ _ (by omega))) AC.nil))))))) fun p us Ha np ea hp hpl hpa => k p us Ha (fresh_back (e3.trans e4) np) ((e3.trans e4).trans ea) hp hpl hpa
theorem z5_of {H : Hp} {r : Addr} {vs : List V} {ns ms : List Int} (h : H r = some (.tup vs)) (ha : IsAll K H vs [Sh.ints ns, Sh.ints ms]) (h1 : 1 ≤ ns.length ∧ ns.length ≤ 200) (h2 : Bd ns) (h3 : 1 ≤ ms.length) (h4 : Bd ms) (h5 : 200 < ns.length * ms.length) : Z5 K H (.ref r) := ⟨ns, ms, .tup (st_of h) ha, h1, h2, h3, h4, h5⟩
theorem bd_zero (n : Nat) (h : 1 ≤ n) : Bd (List.replicate n (0 : Int)) := fun c hc => by
  rw [List.length_replicate]
  have := (List.mem_replicate.mp hc).2
  omega
theorem bd_range (n : Nat) : Bd ((List.range n).map fun i : Nat => (i : Int)) := fun c hc => by
  obtain ⟨i, hi, rfl⟩ := List.mem_map.mp hc
  have := List.mem_range.mp hi
  rw [List.length_map, List.length_range]
  omega
theorem rep_zero (n : Nat) : (List.replicate n [V.int 0]).flatten = (List.replicate n (0 : Int)).map V.int := by
  rw [List.map_replicate]
  induction n with
  | zero => rfl
  | succ n ih => rw [List.replicate_succ, List.flatten_cons, ih, List.replicate_succ]; rfl
theorem ok_products {f : Addr} {fd : FuncData} (F : Fun K "_law_products" "_law_products" s_law_products f fd) (B : Bl mg) : FnOk P w K mg base (L2N.CX P w) 1 f fd ["_law_cell"] (spT (Z5 K) 4) := by
  refine okB F sc_law_products (fun vs H Q E h => ?_) (fun cdv Ar outer s H vs Q E hr h => ?_)
  · obtain ⟨c, rfl, _⟩ := h
    rfl
  · obtain ⟨c, rfl, hc, k⟩ := h
    have nd := sc_law_products.nd
    have m0 := Int.emod_nonneg c (show (50 : Int) ≠ 0 by decide)
    have m1 := Int.emod_lt_of_pos c (show (0 : Int) < 50 by decide)
    have t0 := Int.emod_nonneg c (show (100 : Int) ≠ 0 by decide)
    have t1 := Int.emod_lt_of_pos c (show (0 : Int) < 100 by decide)
    obtain ⟨a, ha⟩ : ∃ a : Nat, (a : Int) = 201 + c % 50 := ⟨(201 + c % 50).toNat, by omega⟩
    obtain ⟨b, hb⟩ : ∃ b : Nat, (b : Int) = 67 + c % 100 := ⟨(67 + c % 100).toNat, by omega⟩
    refine BW.asg 1 nd (EV.isI (EV.add EV.int (EV.mod (EV.var 0 rfl) EV.int (by decide))) ha.symm) fun H1 e1 => ?_
    refine BW.retNC (NC.lst up5 (AC.cons up5 (EC.sh (s := .tup [Sh.ints (List.replicate 15 0), Sh.ints (List.replicate 14 0)]) (EX.tup (AX.two (EX.newI (EL.is (EL.rep (k := 15) (EL.lst (AV.one EV.int)) EV.int (by decide) (by decide)) (rep_zero 15))) (EX.newI (EL.is (EL.rep (k := 14) (EL.lst (AV.one EV.int)) EV.int (by decide) (by decide)) (rep_zero 14))))) fun v _ _ hv => ⟨_, _, hv, by simp, bd_zero 15 (by decide), by simp, bd_zero 14 (by decide), by simp⟩)
      (AC.cons up5 (EC.sh (s := .tup [Sh.ints (List.replicate 101 0), Sh.ints [0, 1]]) (EX.tup (AX.two (EX.newI (EL.is (EL.rep (k := 101) (EL.lst (AV.one EV.int)) EV.int (by decide) (by decide)) (rep_zero 101))) (EX.newI (ns := [0, 1]) (EL.lst (AV.two EV.int EV.int))))) fun v _ _ hv => ⟨_, _, hv, by simp, bd_zero 101 (by decide), by simp, by unfold Bd; decide, by simp⟩)
      (AC.cons up5 (EC.sh (s := .tup [Sh.ints [0], Sh.ints ((List.range a).map fun i : Nat => (i : Int))]) (EX.tup (AX.two (EX.newI (ns := [0]) (EL.lst (AV.one EV.int))) (EX.newI (EL.is (EL.listR1 B.list B.range (EV.var 1 rfl) (by omega)) (by rw [List.map_map, Int.toNat_natCast]; rfl))))) fun v _ _ hv => ⟨_, _, hv, by simp, by unfold Bd; decide, by simp; omega, bd_range a, by simp; omega⟩)
      (AC.cons up5 (EC.sh (s := .tup [Sh.ints (List.replicate 3 0), Sh.ints (List.replicate b 0)]) (EX.tup (AX.two (EX.newI (EL.is (EL.rep (k := 3) (EL.lst (AV.one EV.int)) EV.int (by decide) (by decide)) (rep_zero 3))) (EX.newI (EL.is (EL.rep (k := (b : Int)) (EL.lst (AV.one EV.int)) (EV.isI (EV.add EV.int (EV.mod (EV.var 0 rfl) EV.int (by decide))) hb.symm) (by omega) (by simp; omega)) (by rw [Int.toNat_natCast]; exact rep_zero b))))) fun v _ _ hv => ⟨_, _, hv, by simp, bd_zero 3 (by decide), by simp; omega, bd_zero b (by omega), by simp; omega⟩) AC.nil))))) fun p us Ha np ea hp hpl hpa => k p us Ha (fresh_back e1 np) (e1.trans ea) hp hpl hpa
theorem no_range {n : Nat} (h : 2 ≤ n) (j : Bool) : ¬ NoTake j ((List.range n).map fun i : Nat => (i : Int)) := fun z => by
  have hl : ((List.range n).map fun i : Nat => (i : Int)).length = n := by simp
  have g : ∀ i, i < n → ((List.range n).map fun i : Nat => (i : Int)).getD i 0 = (i : Int) := fun i hi => by simp [List.getD_eq_getElem?_getD, hi]
  have := z 1 (by rw [hl]; omega) 0 (by decide)
  have ht : takes false ((List.range n).map fun i : Nat => (i : Int)) 0 1 = true := (takeB_iff _ _ _).mpr (by rw [g 0 (by omega), g 1 (by omega)]; omega)
  cases j with
  | false => rw [ht] at this; cases this
  | true =>
    have := board_of_joined z 1 (by rw [hl]; omega) 0 (by decide)
    rw [ht] at this
    cases this
theorem no_rev {n : Nat} (h : 2 ≤ n) (j : Bool) : ¬ NoTake j ((List.range n).map fun i : Nat => (i : Int)).reverse := fun z => by
  have hl : ((List.range n).map fun i : Nat => (i : Int)).reverse.length = n := by simp
  have g : ∀ i, i < n → ((List.range n).map fun i : Nat => (i : Int)).reverse.getD i 0 = (n : Int) - 1 - (i : Int) := fun i hi => by
    rw [List.getD_eq_getElem?_getD, List.getElem?_reverse (by simpa using hi)]
    simp only [List.length_map, List.length_range]
    rw [List.getElem?_map, List.getElem?_range (by omega)]
    show ((n - 1 - i : Nat) : Int) = _
    omega
  have ht : takes false ((List.range n).map fun i : Nat => (i : Int)).reverse 0 1 = true := (takeB_iff _ _ _).mpr (by rw [g 0 (by omega), g 1 (by omega)]; omega)
  have z' : NoTake false ((List.range n).map fun i : Nat => (i : Int)).reverse := by
    cases j with
    | false => exact z
    | true => exact board_of_joined z
  have := z' 1 (by rw [hl]; omega) 0 (by decide)
  rw [ht] at this
  cases this
theorem no_dup {ns : List Int} {a b : Nat} (hab : a < b) (hb : b < ns.length) (h : ns.getD a 0 = ns.getD b 0) (j : Bool) : ¬ NoTake j ns := fun z => by
  have z' : NoTake false ns := by
    cases j with
    | false => exact z
    | true => exact board_of_joined z
  have h1 := z' b hb a hab
  have h2 : takes false ns a b = true := (takeB_iff ns a b).mpr (.inl h)
  rw [h2] at h1
  cases h1
theorem ok_takings {f : Addr} {fd : FuncData} (F : Fun K "_law_takings" "_law_takings" s_law_takings f fd) (B : Bl mg) : FnOk P w K mg base (L2N.CX P w) 1 f fd ["_law_cell"] (spT (Z6 K) 6) := by
  refine okB F sc_law_takings (fun vs H Q E h => ?_) (fun cdv Ar outer s H vs Q E hr h => ?_)
  · obtain ⟨c, rfl, _⟩ := h
    rfl
  · obtain ⟨c, rfl, hc, k⟩ := h
    have nd := sc_law_takings.nd
    have m0 := Int.emod_nonneg c (show (30 : Int) ≠ 0 by decide)
    have m1 := Int.emod_lt_of_pos c (show (0 : Int) < 30 by decide)
    have t0 := Int.emod_nonneg c (show (7 : Int) ≠ 0 by decide)
    have t1 := Int.emod_lt_of_pos c (show (0 : Int) < 7 by decide)
    obtain ⟨a, ha⟩ : ∃ a : Nat, (a : Int) = 4 + c % 30 := ⟨(4 + c % 30).toNat, by omega⟩
    have z6 : ∀ {Ha : Hp} {v : V} {ns : List Int}, Is K Ha v (Sh.ints ns) → (1 ≤ ns.length ∧ ns.length ≤ 50) → Bd ns → (∀ j, ¬ NoTake j ns) → Z6 K Ha v := fun h h1 h2 h3 => ⟨_, h, by decide, h1, h2, h3 true, fun _ => h3 false⟩
    refine BW.asg 1 nd (EV.isI (EV.add EV.int (EV.mod (EV.var 0 rfl) EV.int (by decide))) ha.symm) fun H1 e1 => ?_
    refine BW.retNC (NC.lst up6 (AC.cons up6 (EC.sh (EX.newI (ns := [0, 0]) (EL.lst (AV.two EV.int EV.int))) fun v _ _ hv => z6 hv (by decide) (by unfold Bd; decide) (by unfold NoTake; decide)) (AC.cons up6 (EC.sh (EX.newI (ns := [0, 1]) (EL.lst (AV.two EV.int EV.int))) fun v _ _ hv => z6 hv (by decide) (by unfold Bd; decide) (by unfold NoTake; decide)) (AC.cons up6 (EC.sh (EX.newI (ns := [0, 2, 1]) (EL.lst (AV.three EV.int EV.int EV.int))) fun v _ _ hv => z6 hv (by decide) (by unfold Bd; decide) (by unfold NoTake; decide))
      (AC.cons up6 (EC.sh (EX.newI (ns := (List.range a).map fun i : Nat => (i : Int)) (EL.is (EL.listR1 B.list B.range (EV.var 1 rfl) (by omega)) (by rw [List.map_map, Int.toNat_natCast]; rfl))) fun v _ _ hv => z6 hv (by simp; omega) (bd_range a) (no_range (by omega)))
      (AC.cons up6 (EC.sh (EX.newI (ns := ((List.range a).map fun i : Nat => (i : Int)).reverse) (EL.is (EL.rev (ES.new (EL.listR1 B.list B.range (EV.var 1 rfl) (by omega)))) (by rw [List.map_reverse, List.map_map, Int.toNat_natCast]; rfl))) fun v _ _ hv => z6 hv (by simp; omega) (rev_bd (bd_range a)) (no_rev (by omega)))
      (AC.cons up6 (EC.sh (EX.newI (ns := [1, 3, 0, 2, c % 7, c % 7, c % 7]) (EL.cat (xs := [.int 1, .int 3, .int 0, .int 2]) (ys := [.int (c % 7), .int (c % 7), .int (c % 7)]) (ES.new (EL.lst (AV.cons EV.int (AV.three EV.int EV.int EV.int)))) (ES.new (EL.rep (k := 3) (EL.lst (AV.one (EV.mod (EV.var 0 rfl) EV.int (by decide)))) EV.int (by decide) (Nat.le_of_ble_eq_true rfl))) (Nat.le_of_ble_eq_true rfl))) fun v _ _ hv => z6 hv ⟨Nat.le_of_ble_eq_true rfl, Nat.le_of_ble_eq_true rfl⟩ ?_ (no_dup (a := 4) (b := 5) (by decide) (Nat.le_of_ble_eq_true rfl) rfl)) AC.nil))))))) fun p us Ha np ea hp hpl hpa => k p us Ha (fresh_back e1 np) (e1.trans ea) hp hpl hpa
    intro z hz
    simp only [List.mem_cons, List.not_mem_nil, or_false] at hz
    show 0 ≤ z ∧ z < 7
    omega
end
end QR

namespace QR
open PySem PySem.Spec PyProof.Rows L2 Evl
section
variable {X : Cx} {e a b : Expr} {σ : L2.St} {H : Hp} {pos p p2 pr pf : Pos} {x : Str}
/-- xs == ys, lists of truths, anywhere -/
theorem EV.eqLBu {ns ms : List Bool} (hu : X.A.units + 64 < cLine) (ha : ES X a σ H (ns.map V.bl)) (hb : ES X b σ H (ms.map V.bl)) : EV X (.Compare a [.Eq] [b] pos) σ H (.bl (decide (ns = ms))) :=
  EV.isB (EV.of (pe_cmpR (op_eqD hu) pe_self pe_self (nomark _)) fun H1 e1 Q q => (ED.bls ha).ev H1 e1 _ fun v H2 e2 dv => (ED.bls hb).ev H2 (e1.trans e2) _ fun w H3 e3 dw => ⟨_, _, Dp.ex e3 dv, dw, shaped_bls _, shaped_bls _, q H3 (e2.trans e3)⟩) (eqv_bls _ _)
/-- [e for x in range(n)] in a suite -/
theorem EL.rangeHot {elt : Expr} {scope : Scope} {j : Nat} {n : Int} (v : Nat → V) (hot : L2H.HotC X) (m : X.mg "range" = none) (hN : X.N.Nodup) (ok : BlkOk X.N X.env.scope scope [(x, j)]) (h : EV X a σ H (.int n)) (hn : 0 ≤ n ∧ n ≤ 40000)
    (he : ∀ (i : Nat) H1, Ex H H1 → (i : Int) < n → EVb X scope elt ((wipe σ [j]).set j (some (.int (i : Int)))) H1 (v i))
    (hw : ∀ z, wipe ((wipe σ [j]).set j (some z)) [j] = wipe σ [j] := by intro _; rfl)
    (hg : ∀ (s : Shared) (H : Hp) (C : Addr) (cl : List (Str × Addr)) (fp : List Addr), PG (X.blk s H scope (compEnvC scope cl C X.env) fp) (.Name x p) (gName j) := by exact fun _ _ _ _ _ => pg_name (i := _) (by assumption) rfl (Or.inl rfl)) (hgl : Gl X "range" := by rfl) (hst : noStar a = true := by rfl) (hs : X.stack = X.env :: X.outer := by rfl) (hf : X.env.frame = some X.env.locals := by rfl) :
    EL X (.ListComp elt [⟨.Name x p, .Call (.Name "range" pr) [a] [] p2, [], 0⟩] scope pos) σ H ((List.range n.toNat).map v) := by
  refine EL.of (pe_lcHot (own := [(x, j)]) hot hs hf hN hgl m (pa_all (es := [a]) (by simp [hst])) (star_of hst []) ok hg (fun _ _ _ _ _ => pe_selfb)) ?_
  rw [← given_all]
  exact el_lcR1 (fun _ => true) v (AV.one h).ev hn hw (fun i H1 e1 hi => ev_yes) (fun i H1 e1 hi _ => (he i H1 e1 hi).ev)
/-- isinstance(error, T), T a built-in class -/
theorem EV.isEB {a : Addr} {oe : Obj} {pn : List (Addr × Obj)} {xa : Ek → Addr} {QE : Addr} {k : Ek} {T : String} {b : Bool} (hx : Xi X.K X.mg xa QE) (hz : Zc (.ref (xa k)) none oe) (hf : ∃ vs, oe.data = .fields vs) (m : X.mg "isinstance" = none) (mT : X.mg x = none) (hv : bootBuiltins x = some (.type T)) (hk : PySem.W.kitOne X.K (.ref (xa k)) (.type T) = some b)
    (he : EV (X.suite a ((a, oe) :: pn)) e σ H (.ref a)) (hg : Gl (X.suite a ((a, oe) :: pn)) "isinstance" := by rfl) (hg2 : Gl (X.suite a ((a, oe) :: pn)) x := by rfl) (hs : noStar e = true := by rfl) (hn : x ≠ "__name__" := by decide) (hdb : (x == ("__debug__" : Str)) = false := by decide) :
    EV (X.suite a ((a, oe) :: pn)) (.Call (.Name "isinstance" p) [e, .Name x p2] [] pos) σ H (.bl b) :=
  EV.callB (call_isE (hx.exc k) hz hf) m (by decide +kernel) (AV.two he (EV.ty mT hv hg2 hn hdb)) (fun H1 e1 Q q => ⟨_, _, _, rfl, (fun u h => h), hk, q H1 (Ex.refl H1)⟩) hg (hs := by rw [List.all_cons, hs]; rfl)
end
/-! ### _law_due -/
def rk6 : Ek → Int
  | .size => 0
  | .none => 1
  | .place => 2
  | .setting => 3
  | .peace => 4
def spDue (P : Program) (w : World) (K : PySem.W.Frag) (mg : Str → Option Value) (base : Heap) (xa : Ek → Addr) : Sp := fun vs H Q _ => ∃ (g : Addr) (d : Int) (x : V) (k : Ek) (C : Hp → Int → V → Prop), vs = [.ref g, .int d, x, .int (rk6 k)] ∧ Hc P w K mg base 6 g (spA xa C k) ∧ (∀ H1, Ex H H1 → C H1 d x) ∧ RetV (.bl true) H Q
section
variable {P : Program} {w : World} {K : PySem.W.Frag} {mg : Str → Option Value} {base : Heap} {xa : Ek → Addr} {QE : Addr}
theorem ok_due {f : Addr} {fd : FuncData} (F : Fun K "_law_due" "_law_due" s_law_due f fd) (B : Bl mg) (hx : Xi K mg xa QE) (hV : ∀ k, PySem.W.kitOne K (.ref (xa k)) (.type "ValueError") = some true) : FnOk P w K mg base (L2N.CX P w) 7 f fd ["_law_ask", "_law_door", "_law_thing", "_law_due_here"] (spDue P w K mg base xa) := by
  refine okB F sc_law_due (fun vs H Q E h => ?_) (fun cdv Ar outer s H vs Q E hr h => ?_)
  · obtain ⟨g, d, x, k, C, rfl, _⟩ := h
    rfl
  · obtain ⟨g, d, x, k, C, rfl, hg, hC, kq⟩ := h
    have nd := sc_law_due.nd
    refine BW.tryAs 4 nd ⟨rfl, by decide, .inl hx.gQ⟩ takes0N fun W pn xe hW tk => ?_
    refine BW.exprW (EW.callLX 0 hg hr tk rfl ((AV.two (EV.var 1 rfl) (EV.var 2 rfl)).ev H (Ex.refl H) _ fun H1 e1 => ⟨d, x, rfl, hC H1 e1, fun H2 e2 => ?_⟩))
    rw [hW]
    refine ⟨true, hx.exm k, fun _ a na oe pn2 hz hf => ?_, fun z => nomatch z⟩
    refine BW.asgL 5 nd (EL.lst (AV.three (EV.isE .size hx hz.zc hf B.isinstance (EV.var 4 rfl)) (EV.isE .none hx hz.zc hf B.isinstance (EV.var 4 rfl)) (EV.isE .place hx hz.zc hf B.isinstance (EV.var 4 rfl)))) fun r H3 nr e3 hr3 => ?_
    refine BW.asgL 5 nd (EL.cat (ES.old (EV.var 5 rfl) (sq_of hr3)) (ES.new (EL.lst (AV.two (EV.isE .setting hx hz.zc hf B.isinstance (EV.var 4 rfl)) (EV.isE .peace hx hz.zc hf B.isinstance (EV.var 4 rfl))))) (Nat.le_of_ble_eq_true rfl)) fun r' H4 nr' e4 hr4 => ?_
    refine BW.ret (EV.isB (j := true) (EV.and2 (EV.eqLBu (ns := [decide (k = .size), decide (k = .none), decide (k = .place), decide (k = .setting), decide (k = .peace)]) (ms := [decide ((0 : Int) = rk6 k), decide ((1 : Int) = rk6 k), decide ((2 : Int) = rk6 k), decide ((3 : Int) = rk6 k), decide ((4 : Int) = rk6 k)]) hr.units (ES.old (EV.var 5 rfl) (sq_of hr4)) (ES.new (EL.is (EL.rangeHot (j := 6) (fun z => .bl (decide ((z : Int) = rk6 k))) (hotC hz hf) B.range nd (blkOk_by (N := n_law_due) (sc := defScope s_law_due) (by decide +kernel)) EV.int ⟨by decide, by decide⟩ (fun z Ha ea hz s0 H0 C0 cl fp => EV.eq (EV.var 6 rfl) (EV.var 3 rfl))) rfl))) (fun _ => EV.isEB hx hz.zc hf B.isinstance B.valueError (by decide +kernel) (hV k) (EV.var 4 rfl))) ?_) fun H5 e5 => kq H5 ((((e1.trans e2).trans e3).trans e4).trans e5)
    cases k <;> rfl
/-! ### law -/
/-- a row of _law_kinds -/
structure Kn (P : Program) (w : World) (K : PySem.W.Frag) (mg : Str → Option Value) (base : Heap) (xa : Ek → Addr) (f : Addr) (n : Nat) (g : Addr) (k : Ek) : Prop where
  ex : ∃ (C : Hp → Int → V → Prop) (Z : PC) (m : Nat), Hc P w K mg base 6 f (spA xa C k) ∧ Hc P w K mg base 1 g (spT Z m) ∧ Up Z ∧ (1 ≤ m ∧ m ≤ 1000) ∧ (1 ≤ n ∧ n ≤ 1000) ∧ ∀ H (d : Int) x, 0 ≤ d → d < (n : Int) → Z H x → C H d x
def knS (f : Addr) (n : Nat) (g : Addr) (k : Ek) : Sh := .tup ([V.ref f, .int (n : Int), .ref g, .int (rk6 k)].map Sh.v)
def spLaw6 (K : PySem.W.Frag) : Sp := fun vs H Q _ => ∃ (a : Addr) (ns : List Int), vs = [.ref a] ∧ SqL K H a (ns.map V.int) ∧ ns.length ≤ 63 ∧ ∀ H', Q (.bl true) H'
theorem ok_law6 {f f1 f2 f3 f4 f5 f6 g1 g2 g3 g4 g5 g6 : Addr} {fd : FuncData} (F : Fun K "law" "law" s_law f fd) (B : Bl mg) (c_due : Fc P w K mg base 7 "_law_due" (spDue P w K mg base xa))
    (m1 : mg "_law_with_size" = some (.ref f1)) (m2 : mg "_law_with_none" = some (.ref f2)) (m3 : mg "_law_with_place" = some (.ref f3)) (m4 : mg "_law_with_setting" = some (.ref f4)) (m5 : mg "_law_with_product" = some (.ref f5)) (m6 : mg "_law_with_taking" = some (.ref f6))
    (t1 : mg "_law_bad_sizes" = some (.ref g1)) (t2 : mg "_law_none" = some (.ref g2)) (t3 : mg "_law_bad_places" = some (.ref g3)) (t4 : mg "_law_bad_settings" = some (.ref g4)) (t5 : mg "_law_products" = some (.ref g5)) (t6 : mg "_law_takings" = some (.ref g6))
    (k1 : Kn P w K mg base xa f1 4 g1 .size) (k2 : Kn P w K mg base xa f2 3 g2 .none) (k3 : Kn P w K mg base xa f3 2 g3 .place) (k4 : Kn P w K mg base xa f4 7 g4 .setting) (k5 : Kn P w K mg base xa f5 1 g5 .setting) (k6 : Kn P w K mg base xa f6 3 g6 .peace)
    (h1 : Hc P w K mg base 6 f1 (spA xa (C1 K) .size)) (h6 : Hc P w K mg base 6 f6 (spA xa (C6 K) .peace))
    (c_setting : Fc P w K mg base 4 "setting" (spSetting K xa)) (c_product : Fc P w K mg base 3 "product" (spProd K xa)) (c_mirrored : Fc P w K mg base 3 "mirrored" (spOne K xa mirL)) : FnOk P w K mg base (L2N.CX P w) 8 f fd ["_law_script"] (spLaw6 K) := by
  refine okB F sc_law (fun vs H Q E h => ?_) (fun cdv Ar outer s H vs Q E hr h => ?_)
  · obtain ⟨a, ns, rfl, _⟩ := h
    rfl
  · obtain ⟨a, ns, rfl, hq, hl, k⟩ := h
    have nd := sc_law.nd
    have kn2 : ∀ {Ha : Hp}, True := trivial
    refine BW.asgN 1 nd (ss := [knS f1 4 g1 .size, knS f2 3 g2 .none]) (EN.lst (AX.two (EX.newU (EU.tup (AV.cons (EV.glob m1) (AV.three EV.int (EV.glob t1) EV.int)))) (EX.newU (EU.tup (AV.cons (EV.glob m2) (AV.three EV.int (EV.glob t2) EV.int)))))) fun q1 vs1 H1 nq1 e1 hq1 ha1 => ?_
    refine BW.asgN 1 nd (ss := [knS f1 4 g1 .size, knS f2 3 g2 .none] ++ [knS f3 2 g3 .place, knS f4 7 g4 .setting]) (EN.cat (EX.var 1 rfl (.lst (sq_of hq1) ha1)) (EX.lst (AX.two (EX.newU (EU.tup (AV.cons (EV.glob m3) (AV.three EV.int (EV.glob t3) EV.int)))) (EX.newU (EU.tup (AV.cons (EV.glob m4) (AV.three EV.int (EV.glob t4) EV.int))))))) fun q2 vs2 H2 nq2 e2 hq2 ha2 => ?_
    refine BW.asgN 1 nd (ss := ([knS f1 4 g1 .size, knS f2 3 g2 .none] ++ [knS f3 2 g3 .place, knS f4 7 g4 .setting]) ++ [knS f5 1 g5 .setting, knS f6 3 g6 .peace]) (EN.cat (EX.var 1 rfl (.lst (sq_of hq2) ha2)) (EX.lst (AX.two (EX.newU (EU.tup (AV.cons (EV.glob m5) (AV.three EV.int (EV.glob t5) EV.int)))) (EX.newU (EU.tup (AV.cons (EV.glob m6) (AV.three EV.int (EV.glob t6) EV.int))))))) fun q3 vs3 H3 nq3 e3 hq3 ha3 => ?_
    have e03 := (e1.trans e2).trans e3
    generalize hss : (([knS f1 4 g1 .size, knS f2 3 g2 .none] ++ [knS f3 2 g3 .place, knS f4 7 g4 .setting]) ++ [knS f5 1 g5 .setting, knS f6 3 g6 .peace]) = ss at ha3
    have hall : ∀ i s, ss[i]? = some s → ∃ f n g k, s = knS f n g k ∧ Kn P w K mg base xa f n g k := fun i s hi => by
      have hm := List.mem_of_getElem? hi
      rw [← hss] at hm
      simp only [List.cons_append, List.nil_append, List.mem_cons, List.not_mem_nil, or_false] at hm
      rcases hm with rfl | rfl | rfl | rfl | rfl | rfl
      · exact ⟨_, _, _, _, rfl, k1⟩
      · exact ⟨_, _, _, _, rfl, k2⟩
      · exact ⟨_, _, _, _, rfl, k3⟩
      · exact ⟨_, _, _, _, rfl, k4⟩
      · exact ⟨_, _, _, _, rfl, k5⟩
      · exact ⟨_, _, _, _, rfl, k6⟩
    refine BW.forX (g := gTup K 4 (gCons (gName 2) (gCons (gName 3) (gCons (gName 4) (gCons (gName 5) gNil))))) (EX.var 1 rfl (.lst (sq_of hq3) ha3)) (pg_tup rfl (pgs_cons (pg_name (i := 2) nd rfl (by first | exact Or.inl rfl | exact Or.inr rfl)) (pgs_cons (pg_name (i := 3) nd rfl (by first | exact Or.inl rfl | exact Or.inr rfl)) (pgs_cons (pg_name (i := 4) nd rfl (by first | exact Or.inl rfl | exact Or.inr rfl)) (pgs_cons (pg_name (i := 5) nd rfl (by first | exact Or.inl rfl | exact Or.inr rfl)) pgs_nil)))))
      (fun Ha i σ' Hb => Ex Ha Hb ∧ ∃ y2 y3 y4 y5 y6 y8 y9, σ' = [some (.ref a), some (.ref q3), y2, y3, y4, y5, y6, none, y8, y9]) (fun Ha ea => ⟨Ex.refl Ha, _, _, _, _, _, _, _, rfl⟩) (fun Ha i σ' Hb pv => pv.1) ?_ ?_
    · rintro Ha i s v σ' Hb ea hi iv ⟨eb, y2, y3, y4, y5, y6, y8, y9, rfl⟩
      obtain ⟨f', n, g', k', rfl, hk⟩ := hall i s hi
      obtain ⟨p, us, rfl, hp, hu⟩ := iv.ofU
      have := IsAll.valsE (vs := [V.ref f', .int (n : Int), .ref g', .int (rk6 k')]) hu
      subst this
      refine ⟨p, _, rfl, hp, rfl, _, _, rfl, _, _, rfl, _, _, rfl, _, _, rfl, rfl, ?_⟩
      show BW _ _ _ [some (.ref a), some (.ref q3), some (.ref f'), some (.int (n : Int)), some (.ref g'), some (.int (rk6 k')), y6, none, y8, y9] Hb
      obtain ⟨C, Z, m, hf, hg, up, ⟨hm1, hm2⟩, ⟨hn1, hn2⟩, hCZ⟩ := hk.ex
      have e0b := (e03.trans ea).trans eb
      refine BW.forR 6 (n := (n : Int)) B.range nd (EV.var 3 rfl) (by omega) (fun j σ' Hc => Ex Hb Hc ∧ ∃ y6, σ' = [some (.ref a), some (.ref q3), some (.ref f'), some (.int (n : Int)), some (.ref g'), some (.int (rk6 k')), y6, none, y8, y9]) (fun Hc ec => ⟨ec, _, rfl⟩) ?_ ?_
      · rintro j σ' Hc hj ⟨ec, z6, rfl⟩
        show BW _ _ _ [some (.ref a), some (.ref q3), some (.ref f'), some (.int (n : Int)), some (.ref g'), some (.int (rk6 k')), some (.int (j : Int)), none, y8, y9] Hc
        have e0c := e0b.trans ec
        refine BW.skip (TV.is (TV.not (TV.val (EV.allN (bs := List.replicate m true) B.all (EL.is (LC.listC (i := 7) (z := .bl true) up nd (blkOk_by (N := n_law) (sc := defScope s_law) (by decide +kernel)) (NC.callL 4 hg hr rfl (EV.len B.len (EV.var 0 rfl) (ex_l e0c hq)) (by omega)) (by omega) (fun u Hd ed hu s0 H0 C0 cl fp => EV.call c_due hr (AV.cons (EV.var 2 rfl) (AV.three (EV.var 6 rfl) (EV.var 7 rfl) (EV.var 5 rfl))) (fun He ee Q kq _ => ⟨f', (j : Int), u, k', C, rfl, hf, fun Hf ef => hCZ _ _ _ (by omega) hj (up _ _ _ (ee.trans ef) hu), kq⟩))).el ?_)))) ?_) fun Hd ed => BW.nil ⟨ec.trans ed, _, rfl⟩
        · rw [List.map_const', List.length_range, List.map_replicate]
        · simp
      · rintro σ' Hc ⟨ec, z6, rfl⟩
        have e0c := e0b.trans ec
        refine BW.forL (xs := ns.map V.int) (EV.var 0 rfl) (ex_l e0c hq) (pg_name (i := 8) nd rfl (by first | exact Or.inl rfl | exact Or.inr rfl)) (fun j σ' Hd => Ex Hc Hd ∧ ∃ y8 y9, σ' = [some (.ref a), some (.ref q3), some (.ref f'), some (.int (n : Int)), some (.ref g'), some (.int (rk6 k')), z6, none, y8, y9]) (fun Hd ed => ⟨ed, _, _, rfl⟩) (fun j σ' Hd _ pv => ex_l (e0c.trans pv.1) hq) ?_ ?_
        · rintro j y σ' Hd hj ⟨ed, z8, z9, rfl⟩
          obtain ⟨rfl, hjl⟩ := at_map hj
          generalize ns.getD j 0 = cc
          show BW _ _ _ [some (.ref a), some (.ref q3), some (.ref f'), some (.int (n : Int)), some (.ref g'), some (.int (rk6 k')), z6, none, some (.int cc), z9] Hd
          have p0 : (0 : Int) < 10 ^ (60 : Int).toNat := Int.pow_pos (by decide)
          refine BW.asgNC (C := Z) (n := m) 9 nd (NC.callL 4 hg hr rfl (EV.mod (EV.var 8 rfl) (EV.pow EV.int EV.int (by decide)) p0) (Int.emod_nonneg _ (by omega))) fun r vs He nr ee hr' hvl hva => ?_
          obtain ⟨t, ht⟩ : ∃ t : Nat, (t : Int) = cc / 7 % (m : Int) := ⟨(cc / 7 % (m : Int)).toNat, by have := Int.emod_nonneg (cc / 7) (show (m : Int) ≠ 0 by omega); omega⟩
          have htm : t < vs.length := by
            have := Int.emod_lt_of_pos (cc / 7) (show (0 : Int) < (m : Int) by omega)
            omega
          have d0 := Int.emod_nonneg cc (show (n : Int) ≠ 0 by omega)
          have d1 := Int.emod_lt_of_pos cc (show (0 : Int) < (n : Int) by omega)
          refine BW.skip (TV.is (TV.not (TV.val (EV.call c_due hr (AV.cons (EV.var 2 rfl) (AV.three (EV.mod (EV.var 8 rfl) (EV.var 3 rfl) (by omega)) (EV.ixL (v := vs[t]) (EV.var 9 rfl) (EV.isI (EV.mod (EV.fdiv (EV.var 8 rfl) EV.int (by decide)) (EV.isI (EV.len B.len (EV.var 9 rfl) (sq_of hr')) (congrArg Nat.cast hvl)) (by omega)) ht.symm) (sq_of hr') (atI_nat (List.getElem?_eq_getElem htm))) (EV.var 5 rfl))) (fun Hf ef Q kq _ => ⟨f', cc % (n : Int), vs[t], k', C, rfl, hf, fun Hg eg => hCZ _ _ _ d0 d1 (up _ _ _ (ef.trans eg) (hva _ (List.getElem_mem htm))), kq⟩)))) rfl) fun Hf ef => BW.nil ⟨(ed.trans ee).trans ef, _, _, rfl⟩
        · rintro σ' Hd ⟨ed, z8, z9, rfl⟩
          exact BW.nil ⟨(eb.trans ec).trans ed, _, _, _, _, _, _, _, rfl⟩
    · rintro Ha σ' Hb ea ⟨eb, y2, y3, y4, y5, y6, y8, y9, rfl⟩
      have e0b := (e03.trans ea).trans eb
      refine BW.skip (TV.is (TV.or2 (TV.not (TV.val (EV.call c_due hr (AV.cons (EV.glob m1) (AV.three EV.int (EV.add EV.int (EV.len B.len (EV.var 0 rfl) (ex_l e0b hq))) EV.int)) (fun Hc ec Q kq _ => ⟨f1, 2, _, .size, C1 K, rfl, h1, fun Hd ed => ⟨Kd?.int, .inr ⟨rfl, _, rfl, by omega⟩⟩, kq⟩)))) (fun _ => TV.not (TV.val (k := true) (EV.callA (ss := [.v (.ref f6), .v (.int 2), Sh.ints [1, 3, 0, 2], .v (.int 4)]) c_due hr (AX.cons (EX.vv (EV.glob m6)) (AX.three (EX.vv EV.int) (EX.newI (EL.lst (AV.cons EV.int (AV.three EV.int EV.int EV.int)))) (EX.vv EV.int))) (fun vs Hc ec hvs => ?_))))) rfl) fun Hc ec => ?_
      · cases hvs with
        | cons v1 hvs =>
          obtain ⟨u2, u3, u4, rfl, v2, v3, v4⟩ := hvs.three
          cases v1.vv
          cases v2.vv
          cases v4.vv
          exact fun Hd ed Q kq _ => ⟨f6, 2, u3, .peace, C6 K, rfl, h6, fun He ee => ⟨[1, 3, 0, 2], v3.ex (ed.trans ee), by decide, by decide, by unfold Bd; decide, by unfold NoTake; decide, fun z => absurd z (by decide)⟩, kq⟩
      · have l200 : (setL (200 : Int).toNat).length = 200 := setL_len' 200
        exact BW.ret (EV.isB (j := true) (EV.and3 (EV.eq (EV.lenX B.len (EX.newI (EL.call c_setting hr (AV.one EV.int) (sl_setting (by decide) (by decide) (by decide) (by decide))))) EV.int) (fun _ => EV.eqL (ns := prodL [0] [0]) (ms := [0]) hr (ES.new (EL.prod c_product hr (EX.newI (ns := [0]) (EL.lst (AV.one EV.int))) (EX.newI (ns := [0]) (EL.lst (AV.one EV.int))) (by decide) (by decide) (by decide) (by unfold Bd; decide) (by unfold Bd; decide) (by unfold NoTake; decide) (by unfold NoTake; decide))) (ES.new (EL.lst (AV.one EV.int)))) (fun _ _ => EV.eq (EV.lenX B.len (EX.newI (EL.one c_mirrored hr (EX.newI (EL.is (EL.rep (k := 200) (EL.lst (AV.one EV.int)) EV.int (by decide) (by decide)) (rep_zero 200))) (by simp) (by simp) (bd_zero 200 (by decide))))) EV.int)) (by simp [l200, mirL_len, prodL]; decide)) fun Hd ed => k Hd
end
end QR

namespace QR
open PySem PySem.Spec PyProof.Rows L2 Evl

def fnl : List He.DefD := [dG "is_number" s_is_number, dG "take" s_take, dG "take_joined" s_take_joined, dG "first_taking" s_first_taking, dG "check_size" s_check_size, dG "check_setting" s_check_setting, dG "told" s_told, dG "told_joined" s_told_joined, dG "step" s_step, dG "mirrored" s_mirrored, dG "upended" s_upended, dG "exchanged" s_exchanged, dG "product" s_product, dG "column_of" s_column_of, dG "row_at" s_row_at, dG "check_peaceful" s_check_peaceful, dG "check_place" s_check_place, dG "column" s_column, dG "row_of" s_row_of, dG "setting" s_setting, dG "_law_due" s_law_due, dG "_law_with_size" s_law_with_size, dG "_law_bad_sizes" s_law_bad_sizes, dG "_law_with_none" s_law_with_none, dG "_law_none" s_law_none, dG "_law_with_place" s_law_with_place, dG "_law_bad_places" s_law_bad_places, dG "_law_with_setting" s_law_with_setting, dG "_law_bad_settings" s_law_bad_settings, dG "_law_with_product" s_law_with_product, dG "_law_products" s_law_products, dG "_law_with_taking" s_law_with_taking, dG "_law_takings" s_law_takings, dG "law" s_law]
def fal : List He.Fa := [.glo "is_number", .glo "take", .glo "take_joined", .glo "first_taking", .glo "check_size", .glo "check_setting", .glo "told", .glo "told_joined", .glo "step", .glo "mirrored", .glo "upended", .glo "exchanged", .glo "product", .glo "column_of", .glo "row_at", .glo "check_peaceful", .glo "check_place", .glo "column", .glo "row_of", .glo "setting", .glo "_law_due", .glo "_law_with_size", .glo "_law_bad_sizes", .glo "_law_with_none", .glo "_law_none", .glo "_law_with_place", .glo "_law_bad_places", .glo "_law_with_setting", .glo "_law_bad_settings", .glo "_law_with_product", .glo "_law_products", .glo "_law_with_taking", .glo "_law_takings", .glo "law", .int "MOST" 200, .free "isinstance", .free "int", .free "bool", .free "list", .free "len", .free "all", .free "any", .free "abs", .free "range", .free "sum", .free "min", .free "max", .free "set", .free "enumerate", .free "sorted", .free "tuple", .free "str", .free "ValueError"]
def tfl : List He.Defn := []
def exl (K : PySem.W.Frag) : Bool := xiB K && allEk.all fun k => decide (PySem.W.kitOne K (.ref (xaOf K k)) (.type "ValueError") = some true)
abbrev R : PySem.W.OpenRow := PySem.W.OpenLaw.row PySem.Challenge.rw_queenrows_k06_refused
abbrev hk : PySem.W.Hook := He.hookX 5 fal fnl [] tfl exl
def ob (s : PySem.W.SharedT) : He.AlX := He.obsX 5 fal fnl [] tfl exl (HandSHeadRun.getT s)
theorem ob_eq (s : PySem.W.SharedT) : ob s = hk.obs s.abs := He.obsX_eq (HandSHeadRun.getT_eq s)
def loose0 : List Str := ["_wall", "__name__", "QueenError", "BadSize", "BadPlace", "BadSetting", "NoSetting", "NoPeace", "MOST", "is_number", "check_size", "check_setting", "take", "take_joined", "first_taking", "column_of", "row_at", "check_peaceful", "check_place", "column"]
def loose1 : List Str := ["row_of", "setting", "Answer", "Peace", "JoinedPeace", "Take", "JoinedTake", "Step", "Barred", "told", "told_joined", "step", "mirrored", "upended", "exchanged", "product", "_law_with_size", "_law_with_none", "_law_with_place", "_law_with_setting"]
def loose2 : List Str := ["_law_with_product", "_law_with_taking", "_law_due", "_law_bad_sizes", "_law_none", "_law_bad_places", "_law_bad_settings", "_law_products", "_law_takings"]
def loose : List Str := loose0 ++ loose1 ++ loose2
theorem run (w : World) : HandSHeadRun.RunEq R (PySem.W.view R.prog [55]) hk ob 5000 loose w := by
  intro os
  kernel_rfl
theorem facts {P : Program} {w : World} {K : PySem.W.Frag} {h : Heap} {mg : Str → Option Value} {f : Addr} (X : K.In h) (G : h.Ns mainGlobals mg) (hfa : mg ("law" : Str) = some (.ref f)) (c : He.SaysX fal fnl [] tfl exl w h K) :
    ∃ fd : FuncData, (∀ (s : Shared) (v : Value), BindsTo s fd ⟨[v], []⟩ [("_law_script", v)]) ∧ ∀ base : Heap, K.In base → base.Ns mainGlobals mg → FnOk P w K mg base (L2N.CX P w) 8 f fd ["_law_script"] (spLaw6 K) := by
  have d := c.t.d
  have B : Bl mg := ⟨He.free_ok X G (d.fact 35 (f := .free "isinstance") rfl), He.free_ok X G (d.fact 36 (f := .free "int") rfl), He.free_ok X G (d.fact 37 (f := .free "bool") rfl), He.free_ok X G (d.fact 38 (f := .free "list") rfl), He.free_ok X G (d.fact 39 (f := .free "len") rfl), He.free_ok X G (d.fact 40 (f := .free "all") rfl), He.free_ok X G (d.fact 41 (f := .free "any") rfl), He.free_ok X G (d.fact 42 (f := .free "abs") rfl), He.free_ok X G (d.fact 43 (f := .free "range") rfl), He.free_ok X G (d.fact 44 (f := .free "sum") rfl), He.free_ok X G (d.fact 45 (f := .free "min") rfl), He.free_ok X G (d.fact 46 (f := .free "max") rfl), He.free_ok X G (d.fact 47 (f := .free "set") rfl), He.free_ok X G (d.fact 48 (f := .free "enumerate") rfl), He.free_ok X G (d.fact 49 (f := .free "sorted") rfl), He.free_ok X G (d.fact 50 (f := .free "tuple") rfl), He.free_ok X G (d.fact 51 (f := .free "str") rfl), He.free_ok X G (d.fact 52 (f := .free "ValueError") rfl)⟩
  have hX := He.ba c.more
  have hI := xi_of X G hX.1
  have hV : ∀ k, PySem.W.kitOne K (.ref (xaOf K k)) (.type "ValueError") = some true := fun k => of_decide_eq_true (List.all_eq_true.mp hX.2 k (mem_allEk k))
  have gM := He.int_ok X G (d.fact 34 (f := .int "MOST" 200) rfl)
  obtain ⟨fdL, FL0⟩ := d.def_ 33 (d := dG "law" s_law) rfl
  have FL : Fun K "law" "law" s_law _ fdL := fun_ofD FL0
  have e := hfa.symm.trans (He.glo_ok X G (d.fact 33 (f := .glo "law") rfl))
  cases e
  obtain ⟨fd0, F0_0⟩ := d.def_ 0 (d := dG "is_number" s_is_number) rfl
  have F_is_number : Fun K "is_number" "is_number" s_is_number _ fd0 := fun_ofD F0_0
  have b_is_number := F_is_number.binds (ps := ["thing", "least"]) fun _ _ _ _ _ _ us hl => match us, hl with | [_, _], _ => rfl
  obtain ⟨fd1, F1_0⟩ := d.def_ 1 (d := dG "take" s_take) rfl
  have F_take : Fun K "take" "take" s_take _ fd1 := fun_ofD F1_0
  have b_take := F_take.binds (ps := ["setting", "one", "other"]) fun _ _ _ _ _ _ us hl => match us, hl with | [_, _, _], _ => rfl
  obtain ⟨fd2, F2_0⟩ := d.def_ 2 (d := dG "take_joined" s_take_joined) rfl
  have F_take_joined : Fun K "take_joined" "take_joined" s_take_joined _ fd2 := fun_ofD F2_0
  have b_take_joined := F_take_joined.binds (ps := ["setting", "one", "other"]) fun _ _ _ _ _ _ us hl => match us, hl with | [_, _, _], _ => rfl
  obtain ⟨fd3, F3_0⟩ := d.def_ 3 (d := dG "first_taking" s_first_taking) rfl
  have F_first_taking : Fun K "first_taking" "first_taking" s_first_taking _ fd3 := fun_ofD F3_0
  have b_first_taking := F_first_taking.binds (ps := ["setting", "taking"]) fun _ _ _ _ _ _ us hl => match us, hl with | [_, _], _ => rfl
  obtain ⟨fd4, F4_0⟩ := d.def_ 4 (d := dG "check_size" s_check_size) rfl
  have F_check_size : Fun K "check_size" "check_size" s_check_size _ fd4 := fun_ofD F4_0
  have b_check_size := F_check_size.binds (ps := ["size"]) fun _ _ _ _ _ _ us hl => match us, hl with | [_], _ => rfl
  obtain ⟨fd5, F5_0⟩ := d.def_ 5 (d := dG "check_setting" s_check_setting) rfl
  have F_check_setting : Fun K "check_setting" "check_setting" s_check_setting _ fd5 := fun_ofD F5_0
  have b_check_setting := F_check_setting.binds (ps := ["setting"]) fun _ _ _ _ _ _ us hl => match us, hl with | [_], _ => rfl
  obtain ⟨fd6, F6_0⟩ := d.def_ 6 (d := dG "told" s_told) rfl
  have F_told : Fun K "told" "told" s_told _ fd6 := fun_ofD F6_0
  have b_told := F_told.binds (ps := ["setting"]) fun _ _ _ _ _ _ us hl => match us, hl with | [_], _ => rfl
  obtain ⟨fd7, F7_0⟩ := d.def_ 7 (d := dG "told_joined" s_told_joined) rfl
  have F_told_joined : Fun K "told_joined" "told_joined" s_told_joined _ fd7 := fun_ofD F7_0
  have b_told_joined := F_told_joined.binds (ps := ["setting"]) fun _ _ _ _ _ _ us hl => match us, hl with | [_], _ => rfl
  obtain ⟨fd8, F8_0⟩ := d.def_ 8 (d := dG "step" s_step) rfl
  have F_step : Fun K "step" "step" s_step _ fd8 := fun_ofD F8_0
  have b_step := F_step.binds (ps := ["size"]) fun _ _ _ _ _ _ us hl => match us, hl with | [_], _ => rfl
  obtain ⟨fd9, F9_0⟩ := d.def_ 9 (d := dG "mirrored" s_mirrored) rfl
  have F_mirrored : Fun K "mirrored" "mirrored" s_mirrored _ fd9 := fun_ofD F9_0
  have b_mirrored := F_mirrored.binds (ps := ["setting"]) fun _ _ _ _ _ _ us hl => match us, hl with | [_], _ => rfl
  obtain ⟨fd10, F10_0⟩ := d.def_ 10 (d := dG "upended" s_upended) rfl
  have F_upended : Fun K "upended" "upended" s_upended _ fd10 := fun_ofD F10_0
  have b_upended := F_upended.binds (ps := ["setting"]) fun _ _ _ _ _ _ us hl => match us, hl with | [_], _ => rfl
  obtain ⟨fd11, F11_0⟩ := d.def_ 11 (d := dG "exchanged" s_exchanged) rfl
  have F_exchanged : Fun K "exchanged" "exchanged" s_exchanged _ fd11 := fun_ofD F11_0
  have b_exchanged := F_exchanged.binds (ps := ["setting"]) fun _ _ _ _ _ _ us hl => match us, hl with | [_], _ => rfl
  obtain ⟨fd12, F12_0⟩ := d.def_ 12 (d := dG "product" s_product) rfl
  have F_product : Fun K "product" "product" s_product _ fd12 := fun_ofD F12_0
  have b_product := F_product.binds (ps := ["outer", "inner"]) fun _ _ _ _ _ _ us hl => match us, hl with | [_, _], _ => rfl
  obtain ⟨fd13, F13_0⟩ := d.def_ 13 (d := dG "column_of" s_column_of) rfl
  have F_column_of : Fun K "column_of" "column_of" s_column_of _ fd13 := fun_ofD F13_0
  have b_column_of := F_column_of.binds (ps := ["size", "row"]) fun _ _ _ _ _ _ us hl => match us, hl with | [_, _], _ => rfl
  obtain ⟨fd14, F14_0⟩ := d.def_ 14 (d := dG "row_at" s_row_at) rfl
  have F_row_at : Fun K "row_at" "row_at" s_row_at _ fd14 := fun_ofD F14_0
  have b_row_at := F_row_at.binds (ps := ["size", "column"]) fun _ _ _ _ _ _ us hl => match us, hl with | [_, _], _ => rfl
  obtain ⟨fd15, F15_0⟩ := d.def_ 15 (d := dG "check_peaceful" s_check_peaceful) rfl
  have F_check_peaceful : Fun K "check_peaceful" "check_peaceful" s_check_peaceful _ fd15 := fun_ofD F15_0
  have b_check_peaceful := F_check_peaceful.binds (ps := ["size"]) fun _ _ _ _ _ _ us hl => match us, hl with | [_], _ => rfl
  obtain ⟨fd16, F16_0⟩ := d.def_ 16 (d := dG "check_place" s_check_place) rfl
  have F_check_place : Fun K "check_place" "check_place" s_check_place _ fd16 := fun_ofD F16_0
  have b_check_place := F_check_place.binds (ps := ["size", "place"]) fun _ _ _ _ _ _ us hl => match us, hl with | [_, _], _ => rfl
  obtain ⟨fd17, F17_0⟩ := d.def_ 17 (d := dG "column" s_column) rfl
  have F_column : Fun K "column" "column" s_column _ fd17 := fun_ofD F17_0
  have b_column := F_column.binds (ps := ["size", "row"]) fun _ _ _ _ _ _ us hl => match us, hl with | [_, _], _ => rfl
  obtain ⟨fd18, F18_0⟩ := d.def_ 18 (d := dG "row_of" s_row_of) rfl
  have F_row_of : Fun K "row_of" "row_of" s_row_of _ fd18 := fun_ofD F18_0
  have b_row_of := F_row_of.binds (ps := ["size", "column"]) fun _ _ _ _ _ _ us hl => match us, hl with | [_, _], _ => rfl
  obtain ⟨fd19, F19_0⟩ := d.def_ 19 (d := dG "setting" s_setting) rfl
  have F_setting : Fun K "setting" "setting" s_setting _ fd19 := fun_ofD F19_0
  have b_setting := F_setting.binds (ps := ["size"]) fun _ _ _ _ _ _ us hl => match us, hl with | [_], _ => rfl
  obtain ⟨fd20, F20_0⟩ := d.def_ 20 (d := dG "_law_due" s_law_due) rfl
  have F_law_due : Fun K "_law_due" "_law_due" s_law_due _ fd20 := fun_ofD F20_0
  have b_law_due := F_law_due.binds (ps := ["_law_ask", "_law_door", "_law_thing", "_law_due_here"]) fun _ _ _ _ _ _ us hl => match us, hl with | [_, _, _, _], _ => rfl
  obtain ⟨fd21, F21_0⟩ := d.def_ 21 (d := dG "_law_with_size" s_law_with_size) rfl
  have F_law_with_size : Fun K "_law_with_size" "_law_with_size" s_law_with_size _ fd21 := fun_ofD F21_0
  have b_law_with_size := F_law_with_size.binds (ps := ["_law_door", "_law_thing"]) fun _ _ _ _ _ _ us hl => match us, hl with | [_, _], _ => rfl
  obtain ⟨fd22, F22_0⟩ := d.def_ 22 (d := dG "_law_bad_sizes" s_law_bad_sizes) rfl
  have F_law_bad_sizes : Fun K "_law_bad_sizes" "_law_bad_sizes" s_law_bad_sizes _ fd22 := fun_ofD F22_0
  have b_law_bad_sizes := F_law_bad_sizes.binds (ps := ["_law_cell"]) fun _ _ _ _ _ _ us hl => match us, hl with | [_], _ => rfl
  obtain ⟨fd23, F23_0⟩ := d.def_ 23 (d := dG "_law_with_none" s_law_with_none) rfl
  have F_law_with_none : Fun K "_law_with_none" "_law_with_none" s_law_with_none _ fd23 := fun_ofD F23_0
  have b_law_with_none := F_law_with_none.binds (ps := ["_law_door", "_law_thing"]) fun _ _ _ _ _ _ us hl => match us, hl with | [_, _], _ => rfl
  obtain ⟨fd24, F24_0⟩ := d.def_ 24 (d := dG "_law_none" s_law_none) rfl
  have F_law_none : Fun K "_law_none" "_law_none" s_law_none _ fd24 := fun_ofD F24_0
  have b_law_none := F_law_none.binds (ps := ["_law_cell"]) fun _ _ _ _ _ _ us hl => match us, hl with | [_], _ => rfl
  obtain ⟨fd25, F25_0⟩ := d.def_ 25 (d := dG "_law_with_place" s_law_with_place) rfl
  have F_law_with_place : Fun K "_law_with_place" "_law_with_place" s_law_with_place _ fd25 := fun_ofD F25_0
  have b_law_with_place := F_law_with_place.binds (ps := ["_law_door", "_law_thing"]) fun _ _ _ _ _ _ us hl => match us, hl with | [_, _], _ => rfl
  obtain ⟨fd26, F26_0⟩ := d.def_ 26 (d := dG "_law_bad_places" s_law_bad_places) rfl
  have F_law_bad_places : Fun K "_law_bad_places" "_law_bad_places" s_law_bad_places _ fd26 := fun_ofD F26_0
  have b_law_bad_places := F_law_bad_places.binds (ps := ["_law_cell"]) fun _ _ _ _ _ _ us hl => match us, hl with | [_], _ => rfl
  obtain ⟨fd27, F27_0⟩ := d.def_ 27 (d := dG "_law_with_setting" s_law_with_setting) rfl
  have F_law_with_setting : Fun K "_law_with_setting" "_law_with_setting" s_law_with_setting _ fd27 := fun_ofD F27_0
  have b_law_with_setting := F_law_with_setting.binds (ps := ["_law_door", "_law_thing"]) fun _ _ _ _ _ _ us hl => match us, hl with | [_, _], _ => rfl
  obtain ⟨fd28, F28_0⟩ := d.def_ 28 (d := dG "_law_bad_settings" s_law_bad_settings) rfl
  have F_law_bad_settings : Fun K "_law_bad_settings" "_law_bad_settings" s_law_bad_settings _ fd28 := fun_ofD F28_0
  have b_law_bad_settings := F_law_bad_settings.binds (ps := ["_law_cell"]) fun _ _ _ _ _ _ us hl => match us, hl with | [_], _ => rfl
  obtain ⟨fd29, F29_0⟩ := d.def_ 29 (d := dG "_law_with_product" s_law_with_product) rfl
  have F_law_with_product : Fun K "_law_with_product" "_law_with_product" s_law_with_product _ fd29 := fun_ofD F29_0
  have b_law_with_product := F_law_with_product.binds (ps := ["_law_door", "_law_thing"]) fun _ _ _ _ _ _ us hl => match us, hl with | [_, _], _ => rfl
  obtain ⟨fd30, F30_0⟩ := d.def_ 30 (d := dG "_law_products" s_law_products) rfl
  have F_law_products : Fun K "_law_products" "_law_products" s_law_products _ fd30 := fun_ofD F30_0
  have b_law_products := F_law_products.binds (ps := ["_law_cell"]) fun _ _ _ _ _ _ us hl => match us, hl with | [_], _ => rfl
  obtain ⟨fd31, F31_0⟩ := d.def_ 31 (d := dG "_law_with_taking" s_law_with_taking) rfl
  have F_law_with_taking : Fun K "_law_with_taking" "_law_with_taking" s_law_with_taking _ fd31 := fun_ofD F31_0
  have b_law_with_taking := F_law_with_taking.binds (ps := ["_law_door", "_law_thing"]) fun _ _ _ _ _ _ us hl => match us, hl with | [_, _], _ => rfl
  obtain ⟨fd32, F32_0⟩ := d.def_ 32 (d := dG "_law_takings" s_law_takings) rfl
  have F_law_takings : Fun K "_law_takings" "_law_takings" s_law_takings _ fd32 := fun_ofD F32_0
  have b_law_takings := F_law_takings.binds (ps := ["_law_cell"]) fun _ _ _ _ _ _ us hl => match us, hl with | [_], _ => rfl
  refine ⟨fdL, fun s v => FunD.bindsA (ps := ["_law_script"]) FL0 (fun _ _ _ _ _ _ us hl => match us, hl with | [_], _ => rfl) s [v] rfl, fun base hKb hNb => ?_⟩
  have c_is_number : Fc P w K mg base 1 "is_number" (spIsNum K) := ⟨_, _, _, ok_is_number F_is_number B, He.glo_ok X G (d.fact 0 (f := .glo "is_number") rfl), F_is_number.kp, b_is_number⟩
  have c_take : Fc P w K mg base 1 "take" (spTk K false) := ⟨_, _, _, ok_take F_take B, He.glo_ok X G (d.fact 1 (f := .glo "take") rfl), F_take.kp, b_take⟩
  have c_take_joined : Fc P w K mg base 1 "take_joined" (spTk K true) := ⟨_, _, _, ok_take_joined F_take_joined B, He.glo_ok X G (d.fact 2 (f := .glo "take_joined") rfl), F_take_joined.kp, b_take_joined⟩
  have c_first_taking : Fc P w K mg base 2 "first_taking" (spFirst P w K mg base) := ⟨_, _, _, ok_first_taking F_first_taking B, He.glo_ok X G (d.fact 3 (f := .glo "first_taking") rfl), F_first_taking.kp, b_first_taking⟩
  have c_check_size : Fc P w K mg base 2 "check_size" (spCkSize K (xaOf K)) := ⟨_, _, _, ok_check_sizeX F_check_size c_is_number (hI.xs .size), He.glo_ok X G (d.fact 4 (f := .glo "check_size") rfl), F_check_size.kp, b_check_size⟩
  have c_check_setting : Fc P w K mg base 2 "check_setting" (spCkSetting K (xaOf K)) := ⟨_, _, _, ok_check_setting F_check_setting B c_is_number (hI.xs .setting) gM, He.glo_ok X G (d.fact 5 (f := .glo "check_setting") rfl), F_check_setting.kp, b_check_setting⟩
  have c_told : Fc P w K mg base 3 "told" (spBadS K (xaOf K)) := ⟨_, _, _, ok_toldB F_told c_check_setting, He.glo_ok X G (d.fact 6 (f := .glo "told") rfl), F_told.kp, b_told⟩
  have c_told_joined : Fc P w K mg base 3 "told_joined" (spBadS K (xaOf K)) := ⟨_, _, _, ok_told_joinedB F_told_joined c_check_setting, He.glo_ok X G (d.fact 7 (f := .glo "told_joined") rfl), F_told_joined.kp, b_told_joined⟩
  have c_step : Fc P w K mg base 3 "step" (spBadZ K (xaOf K)) := ⟨_, _, _, ok_stepB F_step c_check_size, He.glo_ok X G (d.fact 8 (f := .glo "step") rfl), F_step.kp, b_step⟩
  have c_mirrored : Fc P w K mg base 3 "mirrored" (spOne K (xaOf K) mirL) := ⟨_, _, _, ok_mirrored F_mirrored B c_check_setting, He.glo_ok X G (d.fact 9 (f := .glo "mirrored") rfl), F_mirrored.kp, b_mirrored⟩
  have c_upended : Fc P w K mg base 3 "upended" (spOne K (xaOf K) List.reverse) := ⟨_, _, _, ok_upended F_upended c_check_setting, He.glo_ok X G (d.fact 10 (f := .glo "upended") rfl), F_upended.kp, b_upended⟩
  have c_exchanged : Fc P w K mg base 3 "exchanged" (spExch K (xaOf K)) := ⟨_, _, _, ok_exchanged F_exchanged B c_check_setting c_first_taking c_take (hI.xs .peace), He.glo_ok X G (d.fact 11 (f := .glo "exchanged") rfl), F_exchanged.kp, b_exchanged⟩
  have c_product : Fc P w K mg base 3 "product" (spProd K (xaOf K)) := ⟨_, _, _, ok_product F_product B c_check_setting c_first_taking c_take c_take_joined (hI.xs .peace) (hI.xs .setting) gM, He.glo_ok X G (d.fact 12 (f := .glo "product") rfl), F_product.kp, b_product⟩
  have c_column_of : Fc P w K mg base 1 "column_of" (spColOf) := ⟨_, _, _, ok_column_of F_column_of, He.glo_ok X G (d.fact 13 (f := .glo "column_of") rfl), F_column_of.kp, b_column_of⟩
  have c_row_at : Fc P w K mg base 1 "row_at" (spRowAt) := ⟨_, _, _, ok_row_at F_row_at, He.glo_ok X G (d.fact 14 (f := .glo "row_at") rfl), F_row_at.kp, b_row_at⟩
  have c_check_peaceful : Fc P w K mg base 3 "check_peaceful" (spCkPeace K (xaOf K)) := ⟨_, _, _, ok_check_peacefulX F_check_peaceful c_check_size (hI.xs .none), He.glo_ok X G (d.fact 15 (f := .glo "check_peaceful") rfl), F_check_peaceful.kp, b_check_peaceful⟩
  have c_check_place : Fc P w K mg base 4 "check_place" (spCkPlace K (xaOf K)) := ⟨_, _, _, ok_check_placeX F_check_place c_is_number c_check_peaceful (hI.xs .place), He.glo_ok X G (d.fact 16 (f := .glo "check_place") rfl), F_check_place.kp, b_check_place⟩
  have c_column : Fc P w K mg base 5 "column" (spCol K (xaOf K)) := ⟨_, _, _, ok_columnX F_column c_check_place c_column_of, He.glo_ok X G (d.fact 17 (f := .glo "column") rfl), F_column.kp, b_column⟩
  have c_row_of : Fc P w K mg base 5 "row_of" (spRow K (xaOf K)) := ⟨_, _, _, ok_row_ofX F_row_of c_check_place c_row_at, He.glo_ok X G (d.fact 18 (f := .glo "row_of") rfl), F_row_of.kp, b_row_of⟩
  have c_setting : Fc P w K mg base 4 "setting" (spSetting K (xaOf K)) := ⟨_, _, _, ok_settingX F_setting B c_check_size c_check_peaceful c_column_of (hI.xs .size) gM, He.glo_ok X G (d.fact 19 (f := .glo "setting") rfl), F_setting.kp, b_setting⟩
  have c_law_due : Fc P w K mg base 7 "_law_due" (spDue P w K mg base (xaOf K)) := ⟨_, _, _, ok_due F_law_due B hI hV, He.glo_ok X G (d.fact 20 (f := .glo "_law_due") rfl), F_law_due.kp, b_law_due⟩
  have h_size : Hc P w K mg base 6 _ (spA (xaOf K) (C1 K) .size) := ⟨_, _, ok_with_size F_law_with_size c_column c_row_of c_setting c_step, F_law_with_size.kp, b_law_with_size⟩
  have g_size : Hc P w K mg base 1 _ (spT (Z1 K) 10) := ⟨_, _, ok_bad_sizes F_law_bad_sizes, F_law_bad_sizes.kp, b_law_bad_sizes⟩
  have m_size := He.glo_ok X G (d.fact 21 (f := .glo "_law_with_size") rfl)
  have t_size := He.glo_ok X G (d.fact 22 (f := .glo "_law_bad_sizes") rfl)
  have k_size : Kn P w K mg base (xaOf K) _ 4 _ .size := ⟨C1 K, Z1 K, 10, h_size, g_size, up1, by decide, by decide, fun H d x h0 h1 hz => ⟨hz.1, .inl ⟨h0, h1, hz.2⟩⟩⟩
  have h_none : Hc P w K mg base 6 _ (spA (xaOf K) (C2) .none) := ⟨_, _, ok_with_none F_law_with_none c_column c_row_of c_setting, F_law_with_none.kp, b_law_with_none⟩
  have g_none : Hc P w K mg base 1 _ (spT (Z2) 3) := ⟨_, _, ok_none6 F_law_none, F_law_none.kp, b_law_none⟩
  have m_none := He.glo_ok X G (d.fact 23 (f := .glo "_law_with_none") rfl)
  have t_none := He.glo_ok X G (d.fact 24 (f := .glo "_law_none") rfl)
  have k_none : Kn P w K mg base (xaOf K) _ 3 _ .none := ⟨C2, Z2, 3, h_none, g_none, up2, by decide, by decide, fun H d x h0 h1 hz => ⟨⟨h0, h1⟩, hz⟩⟩
  have h_place : Hc P w K mg base 6 _ (spA (xaOf K) (C3 K) .place) := ⟨_, _, ok_with_place F_law_with_place c_column c_row_of, F_law_with_place.kp, b_law_with_place⟩
  have g_place : Hc P w K mg base 1 _ (spT (Z3 K) 11) := ⟨_, _, ok_bad_places F_law_bad_places, F_law_bad_places.kp, b_law_bad_places⟩
  have m_place := He.glo_ok X G (d.fact 25 (f := .glo "_law_with_place") rfl)
  have t_place := He.glo_ok X G (d.fact 26 (f := .glo "_law_bad_places") rfl)
  have k_place : Kn P w K mg base (xaOf K) _ 2 _ .place := ⟨C3 K, Z3 K, 11, h_place, g_place, up3, by decide, by decide, fun H d x h0 h1 hz => ⟨⟨h0, h1⟩, hz⟩⟩
  have h_setting : Hc P w K mg base 6 _ (spA (xaOf K) (C4 K) .setting) := ⟨_, _, ok_with_setting F_law_with_setting B c_told c_told_joined c_mirrored c_upended c_exchanged c_product, F_law_with_setting.kp, b_law_with_setting⟩
  have g_setting : Hc P w K mg base 1 _ (spT (Z4 K) 20) := ⟨_, _, ok_bad_settings F_law_bad_settings B, F_law_bad_settings.kp, b_law_bad_settings⟩
  have m_setting := He.glo_ok X G (d.fact 27 (f := .glo "_law_with_setting") rfl)
  have t_setting := He.glo_ok X G (d.fact 28 (f := .glo "_law_bad_settings") rfl)
  have k_setting : Kn P w K mg base (xaOf K) _ 7 _ .setting := ⟨C4 K, Z4 K, 20, h_setting, g_setting, up4, by decide, by decide, fun H d x h0 h1 hz => ⟨⟨h0, h1⟩, hz⟩⟩
  have h_product : Hc P w K mg base 6 _ (spA (xaOf K) (C5 K) .setting) := ⟨_, _, ok_with_product F_law_with_product c_product, F_law_with_product.kp, b_law_with_product⟩
  have g_product : Hc P w K mg base 1 _ (spT (Z5 K) 4) := ⟨_, _, ok_products F_law_products B, F_law_products.kp, b_law_products⟩
  have m_product := He.glo_ok X G (d.fact 29 (f := .glo "_law_with_product") rfl)
  have t_product := He.glo_ok X G (d.fact 30 (f := .glo "_law_products") rfl)
  have k_product : Kn P w K mg base (xaOf K) _ 1 _ .setting := ⟨C5 K, Z5 K, 4, h_product, g_product, up5, by decide, by decide, fun H d x h0 h1 hz => hz⟩
  have h_taking : Hc P w K mg base 6 _ (spA (xaOf K) (C6 K) .peace) := ⟨_, _, ok_with_taking F_law_with_taking c_exchanged c_product, F_law_with_taking.kp, b_law_with_taking⟩
  have g_taking : Hc P w K mg base 1 _ (spT (Z6 K) 6) := ⟨_, _, ok_takings F_law_takings B, F_law_takings.kp, b_law_takings⟩
  have m_taking := He.glo_ok X G (d.fact 31 (f := .glo "_law_with_taking") rfl)
  have t_taking := He.glo_ok X G (d.fact 32 (f := .glo "_law_takings") rfl)
  have k_taking : Kn P w K mg base (xaOf K) _ 3 _ .peace := ⟨C6 K, Z6 K, 6, h_taking, g_taking, up6, by decide, by decide, fun H d x h0 h1 hz => (by obtain ⟨ns, z1, _, z3, z4, z5, z6⟩ := hz; exact ⟨ns, z1, ⟨h0, h1⟩, z3, z4, z5, fun _ => z6 (by decide)⟩)⟩
  exact ok_law6 FL B c_law_due m_size m_none m_place m_setting m_product m_taking t_size t_none t_place t_setting t_product t_taking k_size k_none k_place k_setting k_product k_taking h_size h_taking c_setting c_product c_mirrored
end QR
open PySem PySem.W PySem.Calls PyProof.Rows
set_option maxRecDepth 100000 in
set_option maxHeartbeats 0 in
theorem PySem.Challenge.cw_queenrows_k06_refused_holds : PySem.Challenge.rw_queenrows_k06_refused.Holds := by
  w_on; o_law
  refine HandSHeadRun.head_any (r := OpenLaw.row PySem.Challenge.rw_queenrows_k06_refused) (q := view (OpenLaw.row PySem.Challenge.rw_queenrows_k06_refused).prog [55]) (H := QR.hk) (ob := QR.ob) (M := 5000) (loose := QR.loose) (d := HandSHeadRun.topDef (OpenLaw.row PySem.Challenge.rw_queenrows_k06_refused).prog 55) (kwd := []) QR.ob_eq
    (by kernel_rfl) (fun s => by kernel_rfl) QR.run (by kernel_rfl) (by kernel_rfl) (by kernel_rfl) (by rfl) (by first | assumption | decide +kernel) (by decide +kernel) ⟨rfl, rfl, rfl, rfl, rfl, by decide +kernel⟩ ?hw ?hc
  case hw => w_witness2
  case hc =>
    refine LamX.walk_ofTsE (l := PySem.Challenge.rw_queenrows_k06_refused) (n := 63) (k := 8) (x := "_law_script") (CX := fun w => L2N.CX (PySem.Challenge.rw_queenrows_k06_refused).prog w) rfl (by decide) (by kernel_rfl) ⟨rfl, by decide, by decide⟩ ?F (fun w H s e s' z => by obtain ⟨_, _, _, _, _, _, _, _, _, _, _, _, y⟩ := z; exact y.elim)
    intro w mg fa h Y G hmg0
    obtain ⟨K, KX, c⟩ := Y
    have hmg : mg ("law" : PySem.Str) = some (.ref fa) := by
      have e : (HandSHeadRun.topDef (OpenLaw.row PySem.Challenge.rw_queenrows_k06_refused).prog 55).name = ("law" : PySem.Str) := by kernel_rfl
      rw [← e]
      exact hmg0
    obtain ⟨fd, hb, hF⟩ := QR.facts (P := (PySem.Challenge.rw_queenrows_k06_refused).prog) (w := w) KX G hmg c
    exact ⟨K, KX, fd, [], QR.spLaw6 K, (fun p hp => nomatch hp), (fun p hp => nomatch hp), (fun p hp => nomatch hp), hb, fun H a ns hl hz _ hS => ⟨a, ns, rfl, hS, hl, fun _ => rfl⟩, fun base h1 h2 _ => hF base h1 h2⟩
