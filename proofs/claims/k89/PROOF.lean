import PyProof.Rows.All
import Wide.All
import OpenK.AllK
import Wide.FinOn
import HandS.ForMost
import HandS.Exc
import HandS.WordsExc
import HandS.ExcOwn
import HandS.Walk
import HandS.Style
import HandS.IsInst
import HandS.Defaults
import HandS.ExcInit
import HandS.ExcField
import HandS.TryMany
import HandS.HeadHook1
import HandS.HeadHook2
import HandS.More
import KE.GoesEnum
import PyProof.ReprRoads
import PyProof.ReprBulk
import PyProof.Rows.RegFStrParts
import HandS.Dict
import KE.KStateDown
import Lean
import HandS.Head0
import HandS.Head1
import HandS.Head2
import HandS.HeadEnd
import HandS.HeadHook3
import HandS.HeadHook4
import HandS.HeadWalk
import PySem.Challenge.RW_clamberhouse_k89_promises_read
import KE.IntTextLaws
import HandS.Lambda
import HandS.EndTab
set_option Elab.async false
set_option linter.all false
set_option maxRecDepth 100000
set_option maxHeartbeats 4000000
/-! Forward steps over the hand layer: what a piece of syntax must meet at one state, and one lemma a construct. -/
namespace Wp
open PySem PySem.Spec PyProof.Rows L2

/-! ### what is asked at one state -/
def wE (X : Cx) (e : Expr) : TE := fun σ H Q => ∀ (pins : List (Addr × Obj)) (s : Shared), Inv X pins σ H s → wpAny (model X.prog X.w) X.A (eval e X.env) (EP X pins σ Q) X.xe s
def wT (X : Cx) (e : Expr) : TT := fun σ H Q => ∀ (pins : List (Addr × Obj)) (s : Shared), Inv X pins σ H s → wpAny (model X.prog X.w) X.A (isTrue e X.env (eval e X.env)) (TP X pins σ Q) X.xe s
def wW (X : Cx) (e : Expr) : TT := fun σ H Q => ∀ (whole : Sem Value) (pins : List (Addr × Obj)) (s : Shared), Inv X pins σ H s → wpAny (model X.prog X.w) X.A (isTrue e X.env whole) (TP X pins σ Q) X.xe s
def wA (X : Cx) (es : List Expr) : TA := fun σ H Q => ∀ (pos : Pos) (pins : List (Addr × Obj)) (s : Shared), Inv X pins σ H s → wpAny (model X.prog X.w) X.A (spliced (backTo pos (starEach es X.env))) (AP X pins σ Q) X.xe s
def wS (X : Cx) (st : Stmt) : TS := fun D σ H => ∀ (pins : List (Addr × Obj)) (s : Shared), Inv X pins σ H s → wpAny (model X.prog X.w) X.A (exec st X.env) (SP X pins D) X.xe s
def wB (X : Cx) (sts : List Stmt) : TS := fun D σ H => ∀ (pins : List (Addr × Obj)) (s : Shared), Inv X pins σ H s → wpAny (model X.prog X.w) X.A (execs sts X.env) (SP X pins D) X.xe s
section
variable {X : Cx} {e : Expr} {es : List Expr} {st : Stmt} {sts : List Stmt} {σ : L2.St} {H : Hp}
theorem pE : PE X e (wE X e) := ⟨fun pins s _ _ _ I h => h pins s I⟩
theorem pT : PT X e (wT X e) := ⟨fun pins s _ _ _ I h => h pins s I⟩
theorem pW : PW X e (wW X e) := ⟨fun wh pins s _ _ _ I h => h wh pins s I⟩
theorem pA : PA X es (wA X es) := ⟨fun pos pins s _ _ _ I h => h pos pins s I⟩
theorem pS : PS X st (wS X st) := ⟨fun pins s _ _ _ I h => h pins s I⟩
theorem pB : PSs X sts (wB X sts) := ⟨fun pins s _ _ _ I h => h pins s I⟩
theorem ofE {t : TE} {Q : VK} (h : PE X e t) (q : t σ H Q) : wE X e σ H Q := fun pins s I => h.run pins s σ H Q I q
theorem ofT {t : TT} {Q : Bool → Hp → Prop} (h : PT X e t) (q : t σ H Q) : wT X e σ H Q := fun pins s I => h.run pins s σ H Q I q
theorem ofW {t : TT} {Q : Bool → Hp → Prop} (h : PW X e t) (q : t σ H Q) : wW X e σ H Q := fun wh pins s I => h.run wh pins s σ H Q I q
theorem ofA {t : TA} {Q : List V → Hp → Prop} (h : PA X es t) (q : t σ H Q) : wA X es σ H Q := fun pos pins s I => h.run pos pins s σ H Q I q
theorem ofS {t : TS} {D : Ends} (h : PS X st t) (q : t D σ H) : wS X st D σ H := fun pins s I => h.run pins s σ H D I q
theorem ofB {t : TS} {D : Ends} (h : PSs X sts t) (q : t D σ H) : wB X sts D σ H := fun pins s I => h.run pins s σ H D I q
end

/-! ### where one stands -/
def visB (sc : Scope) (x : Str) : Bool := (match sc.names.lookup x with
  | some .local => true
  | some .cell => true
  | some .free => true
  | _ => false) && (!(x == ("__debug__" : Str)) && !(x == ("__classdict__" : Str)))
def stB (fn : Bool) (sc : Scope) (x : Str) : Bool := match sc.names.lookup x with
  | some .local => true
  | some .cell => fn
  | _ => false
def glB (sc : Scope) (x : Str) : Bool := match sc.names.lookup x with
  | some .globalImplicit => !(x == ("__debug__" : Str))
  | _ => false
/-- the names by slot N, the scope, the globals gs, the slots that are seen, the slots that may be stored, those of plain locals -/
structure Nm where
  N : List Str
  sc : Scope
  gs : List Str
  vis : List Nat
  stv : List Nat
  lcl : List Nat
def Nm.okB (S : Nm) (fn : Bool) : Bool :=
  decide S.N.Nodup && ((S.vis.all fun i => match S.N[i]? with
    | some x => visB S.sc x
    | none => false) && ((S.gs.all fun x => glB S.sc x) && ((S.stv.all fun i => match S.N[i]? with
    | some x => stB fn S.sc x
    | none => false) && ((S.lcl.all fun i => match S.N[i]? with
    | some x => stB false S.sc x
    | none => false) && decide (S.sc.kind = .function)))))
/-- the module: the program, the world, the written part, the module's names, the base -/
structure Md where
  prog : Program
  w : World
  K : PySem.W.Frag
  mg : Str → Option Value
  base : Heap
def md (X : Cx) : Md := ⟨X.prog, X.w, X.K, X.mg, X.base⟩
structure On (X : Cx) (S : Nm) (m : Md) (k : Nat) : Prop where
  hN : X.N = S.N
  hsc : X.env.scope = S.sc
  hm : md X = m
  nd : S.N.Nodup
  vis : ∀ i ∈ S.vis, ∀ x, S.N[i]? = some x → Vis X.env.scope x ∧ (x == ("__debug__" : Str)) = false ∧ (x == ("__classdict__" : Str)) = false
  gl : ∀ (j : Nat) (x : Str), S.gs[j]? = some x → Gl X x ∧ (x == ("__debug__" : Str)) = false
  st : ∀ i ∈ S.stv, ∀ x, S.N[i]? = some x → Loc X.env.scope x ∧ (X.fn x = true ∨ X.env.scope.names.lookup x = some .local)
  lcl : ∀ i ∈ S.lcl, ∀ x, S.N[i]? = some x → X.env.scope.names.lookup x = some .local
  kind : X.env.scope.kind = .function
  calm : X.calm = true
  room : Room k X.A
theorem on_of {X : Cx} {S : Nm} {k : Nat} {fn : Bool} (h : S.okB fn = true) (hN : X.N = S.N) (hs : X.env.scope = S.sc) (hf : fn = true → ∀ x, X.fn x = true) (hc : X.calm = true) (hr : Room k X.A) : On X S (md X) k := by
  unfold Nm.okB at h
  simp only [Bool.and_eq_true, List.all_eq_true, decide_eq_true_eq] at h
  obtain ⟨h1, h2, h3, h4, h5, h6⟩ := h
  refine ⟨hN, hs, rfl, h1, fun i hi x hx => ?_, fun j x hx => ?_, fun i hi x hx => ?_, fun i hi x hx => ?_, by rw [hs]; exact h6, hc, hr⟩
  · have a := h2 i hi
    rw [hx] at a
    have b : visB S.sc x = true := a
    unfold visB at b
    simp only [Bool.and_eq_true, Bool.not_eq_true'] at b
    refine ⟨?_, b.2.1, b.2.2⟩
    have c := b.1
    unfold Vis
    rw [hs]
    split at c
    · rename_i e; exact .inl e
    · rename_i e; exact .inr (.inl e)
    · rename_i e; exact .inr (.inr e)
    · cases c
  · have a := h3 x (List.mem_of_getElem? hx)
    unfold glB at a
    unfold Gl Env.kindOf
    rw [hs]
    split at a
    · rename_i e
      exact ⟨e, by simpa using a⟩
    · cases a
  · have a := h4 i hi
    rw [hx] at a
    have b : stB fn S.sc x = true := a
    unfold stB at b
    unfold L2.Loc
    rw [hs]
    split at b
    · rename_i e
      exact ⟨.inl e, .inr e⟩
    · rename_i e
      exact ⟨.inr e, .inl (hf b x)⟩
    · cases b
  · have a := h5 i hi
    rw [hx] at a
    have b : stB false S.sc x = true := a
    unfold stB at b
    rw [hs]
    split at b
    · assumption
    · cases b
    · cases b
theorem On.mono {X : Cx} {S : Nm} {m : Md} {j k : Nat} (C : On X S m k) (h : j ≤ k) : On X S m j := { C with room := C.room.mono h }
theorem On.K {X : Cx} {S : Nm} {m : Md} {k : Nat} (C : On X S m k) : X.K = m.K := by rw [← C.hm]; rfl
theorem On.mg {X : Cx} {S : Nm} {m : Md} {k : Nat} (C : On X S m k) : X.mg = m.mg := by rw [← C.hm]; rfl
theorem On.w {X : Cx} {S : Nm} {m : Md} {k : Nat} (C : On X S m k) : X.w = m.w := by rw [← C.hm]; rfl

/-! ### names, constants -/
section
variable {X : Cx} {S : Nm} {m : Md} {k : Nat} {σ : L2.St} {H : Hp} {Q : VK} {pos : Pos} {x : Str} {v : V}
theorem wv (C : On X S m k) (i : Nat) (q : Q v H) (hs : σ[i]? = some (some v) := by rfl) (hi : S.N[i]? = some x := by rfl) (hv : i ∈ S.vis := by decide) : wE X (.Name x pos) σ H Q := by
  obtain ⟨h1, h2, h3⟩ := C.vis i hv x hi
  exact ofE (pe_var (i := i) (by rw [C.hN]; exact hi) h1 h2 h3) ⟨v, hs, q⟩
theorem w_int {i : Int} {j : Nat} (q : Q (.int i) H) : wE X (.Constant (.int i) j pos) σ H Q := ofE pe_int q
theorem w_bl {b : Bool} {j : Nat} (q : Q (.bl b) H) : wE X (.Constant (.bool b) j pos) σ H Q := ofE pe_bl q
theorem w_non {j : Nat} (q : Q .non H) : wE X (.Constant .none j pos) σ H Q := ofE pe_non q
theorem w_str {z : Str} {j : Nat} (q : Q (.str z) H) : wE X (.Constant (.str z) j pos) σ H Q := ofE pe_str q
/-- a module's name as a value -/
theorem wg (C : On X S m k) (j : Nat) {u : Value} (hm : m.mg x = some u) (r : RelV v u) (q : Q v H) (hi : S.gs[j]? = some x := by rfl) : wE X (.Name x pos) σ H Q :=
  ofE (pe_glob (C.gl j x hi).1 (by rw [C.mg]; exact hm) r (C.gl j x hi).2) q
theorem wgs (C : On X S m k) (j : Nat) {z : Str} (hm : ∃ t, m.mg x = some (.str z t)) (q : Q (.str z) H) (hi : S.gs[j]? = some x := by rfl) : wE X (.Name x pos) σ H Q := by
  obtain ⟨t, e⟩ := hm
  exact wg C j e (v := .str z) ⟨t, rfl⟩ q hi
/-- a built-in's name as a value -/
theorem wgb (C : On X S m k) (j : Nat) {u : Value} (hm : m.mg x = none) (hv : bootBuiltins x = some u) (r : RelV v u) (q : Q v H) (hi : S.gs[j]? = some x := by rfl) (hn : x ≠ "__name__" := by decide) : wE X (.Name x pos) σ H Q :=
  ofE (pe_bltn (C.gl j x hi).1 (by rw [C.mg]; exact hm) hv r hn (C.gl j x hi).2) q
end

/-! ### operators by values -/
def wO (X : Cx) (f : Value → Value → Sem Value) : R2 := fun x y H Q => ∀ (pins : List (Addr × Obj)) (s : Shared) (σ : L2.St) (v u : Value), Inv X pins σ H s → RelV x v → RelV y u → wpAny (model X.prog X.w) X.A (f v u) (EP X pins σ Q) X.xe s
theorem pO {X : Cx} {f : Value → Value → Sem Value} : OpR X f (wO X f) := fun pins s σ _ _ _ v u _ I r1 r2 h => h pins s σ v u I r1 r2
theorem ofO {X : Cx} {f : Value → Value → Sem Value} {r : R2} (h : OpR X f r) {x y : V} {H : Hp} {Q : VK} (q : r x y H Q) : wO X f x y H Q := fun pins s σ v u I r1 r2 => h pins s σ H x y v u Q I r1 r2 q
section
variable {X : Cx} {a b c : Expr} {σ : L2.St} {H : Hp} {Q : VK} {R : Bool → Hp → Prop} {pos : Pos}
theorem w_bin {op : Operator} (q : wE X a σ H fun x H1 => wE X b σ H1 fun y H2 => wO X (binaryOp op) x y H2 Q) : wE X (.BinOp a op b pos) σ H Q := ofE (pe_op pO pE pE) q
theorem w_cmp {op : CmpOp} (q : wE X a σ H fun x H1 => wE X b σ H1 fun y H2 => wO X (compareOp op) x y H2 Q) (hm : behindInMarks op b = false := by first | exact nomark _ | rfl) : wE X (.Compare a [op] [b] pos) σ H Q := ofE (pe_cmpR pO pE pE hm) q
theorem wt_cmp {op : CmpOp} (q : wE X a σ H fun x H1 => wE X b σ H1 fun y H2 => wO X (compareOp op) x y H2 fun z H3 => ∃ k, z = .bl k ∧ R k H3) (hm : behindInMarks op b = false := by first | exact nomark _ | rfl) : wT X (.Compare a [op] [b] pos) σ H R := ofT (pt_cmpR pO pE pE hm) q
theorem w_chain {op op' : CmpOp} (q : wE X a σ H fun x H1 => wE X b σ H1 fun y H2 => wO X (compareOp op) x y H2 fun z H3 => ∃ k, z = .bl k ∧ (if k = true then wE X c σ H3 fun w' H4 => wO X (compareOp op') y w' H4 Q else Q (.bl false) H3))
    (hm : lastMarks [op, op'] [b, c] = false := by with_unfolding_all rfl) : wE X (.Compare a [op, op'] [b, c] pos) σ H Q := ofE (pe_chain pO pO pE pE pE hm) q
theorem wt_chain {op op' : CmpOp} (q : wE X a σ H fun x H1 => wE X b σ H1 fun y H2 => wO X (compareOp op) x y H2 fun z H3 => ∃ k, z = .bl k ∧ (if k = true then wE X c σ H3 fun w' H4 => wO X (compareOp op') y w' H4 fun z H5 => ∃ k, z = .bl k ∧ R k H5 else ∃ k, V.bl false = .bl k ∧ R k H3))
    (hm : lastMarks [op, op'] [b, c] = false := by with_unfolding_all rfl) : wT X (.Compare a [op, op'] [b, c] pos) σ H R := ofT (pt_chain pO pO pE pE pE hm) q
/-- a test by its value, True or False -/
theorem wt_val (q : wE X a σ H fun x H1 => ∃ k, x = .bl k ∧ R k H1) (he : ∀ whole, isTrue a X.env whole = (do let v ← whole; standAt a.pos; holding [v] (truthy v)) := by intro _; rfl) : wT X a σ H R := ofT (pt_val pE he) q
theorem wt_truth (q : wE X a σ H fun x H1 => ∃ k, TruV X.K x H1 k ∧ R k H1) (he : ∀ whole, isTrue a X.env whole = (do let v ← whole; standAt a.pos; holding [v] (truthy v)) := by intro _; rfl) : wT X a σ H R := ofT (pt_truth pE he) q
theorem wt_not (q : wT X a σ H fun k H1 => R (!k) H1) : wT X (.UnaryOp .Not a pos) σ H R := ofT (pt_not pT) q
theorem wt_w (q : wW X a σ H R) : wT X a σ H R := ofT pW.pt q
theorem ww_and {rest : List Expr} (q : wT X a σ H fun c H1 => if c = true then wW X (.BoolOp .And (b :: rest) pos) σ H1 R else R false H1) : wW X (.BoolOp .And (a :: b :: rest) pos) σ H R := ofW (pw_and pT pW) q
theorem ww_or {rest : List Expr} (q : wT X a σ H fun c H1 => if c = true then R true H1 else wW X (.BoolOp .Or (b :: rest) pos) σ H1 R) : wW X (.BoolOp .Or (a :: b :: rest) pos) σ H R := ofW (pw_or pT pW) q
theorem ww_and1 (q : wT X a σ H R) : wW X (.BoolOp .And [a] pos) σ H R := ofW (pw_and1 pT) q
theorem ww_or1 (q : wT X a σ H R) : wW X (.BoolOp .Or [a] pos) σ H R := ofW (pw_or1 pT) q
theorem w_one {op : BoolOp} (q : wE X a σ H Q) : wE X (.BoolOp op [a] pos) σ H Q := ofE (pe_one pE) q
theorem w_and {rest : List Expr} (q : wE X a σ H fun x H1 => ∃ c, x = .bl c ∧ if c = true then wE X (.BoolOp .And (b :: rest) pos) σ H1 Q else Q (.bl false) H1) : wE X (.BoolOp .And (a :: b :: rest) pos) σ H Q := ofE (pe_and pE pE) q
theorem w_or {rest : List Expr} (q : wE X a σ H fun x H1 => ∃ c, x = .bl c ∧ if c = true then Q (.bl true) H1 else wE X (.BoolOp .Or (b :: rest) pos) σ H1 Q) : wE X (.BoolOp .Or (a :: b :: rest) pos) σ H Q := ofE (pe_or pE pE) q
theorem w_not (q : wE X a σ H fun x H1 => ∃ c, x = .bl c ∧ Q (.bl (!c)) H1) : wE X (.UnaryOp .Not a pos) σ H Q := ofE (pe_not pE) q
theorem w_ifx (q : wT X c σ H fun k H1 => if k = true then wE X a σ H1 Q else wE X b σ H1 Q) : wE X (.IfExp c a b pos) σ H Q := ofE (pe_ifExp pT pE pE) q
theorem wa_nil {Q : List V → Hp → Prop} (q : Q [] H) : wA X [] σ H Q := ofA pa_nil q
theorem wa_cons {es : List Expr} {Q : List V → Hp → Prop} (q : wE X a σ H fun x H1 => wA X es σ H1 fun xs H2 => Q (x :: xs) H2) (hp : starEach (a :: es) X.env = (false, eval a X.env) :: starEach es X.env := by rfl) : wA X (a :: es) σ H Q := ofA (pa_cons pE pA hp) q
theorem w_neg {i : Int} (q : wE X a σ H fun x H1 => ∃ i, x = .int i ∧ Q (.int (-i)) H1) : wE X (.UnaryOp .USub a pos) σ H Q := ofE (pe_un un_neg pE) q
end
section
variable {X : Cx} {H : Hp} {Q : VK} {i j : Int} {y z : Str} {x w : V}
theorem o_add (q : Q (.int (i + j)) H) : wO X (binaryOp .Add) (.int i) (.int j) H Q := ofO op_add ⟨_, _, rfl, rfl, q⟩
theorem o_sub (q : Q (.int (i - j)) H) : wO X (binaryOp .Sub) (.int i) (.int j) H Q := ofO op_sub ⟨_, _, rfl, rfl, q⟩
theorem o_mul (h : CMul i j) (q : Q (.int (i * j)) H) : wO X (binaryOp .Mult) (.int i) (.int j) H Q := ofO op_mul ⟨_, _, rfl, rfl, h, q⟩
theorem o_mod (h : 0 < j) (q : Q (.int (i % j)) H) : wO X (binaryOp .Mod) (.int i) (.int j) H Q := ofO op_mod ⟨_, _, rfl, rfl, h, q⟩
theorem o_fdiv (h : 0 < j ∧ j < 1073741824) (q : Q (.int (i / j)) H) : wO X (binaryOp .FloorDiv) (.int i) (.int j) H Q := ofO op_fdiv ⟨_, _, rfl, rfl, h, q⟩
theorem o_pow (h : 0 ≤ j ∧ j ≤ 1000000 ∧ i.natAbs < 2 ^ 64) (q : Q (.int (i ^ j.toNat)) H) : wO X (binaryOp .Pow) (.int i) (.int j) H Q := ofO op_pow ⟨_, _, rfl, rfl, h, q⟩
theorem o_adds (h : y.length + z.length ≤ sizeLine) (q : Q (.str (y ++ z)) H) : wO X (binaryOp .Add) (.str y) (.str z) H Q := ofO op_add_str ⟨_, _, rfl, rfl, h, q⟩
theorem o_lt (q : Q (.bl (decide (i < j))) H) : wO X (compareOp .Lt) (.int i) (.int j) H Q := ofO op_lt ⟨_, _, rfl, rfl, q⟩
theorem o_le (q : Q (.bl (decide (i ≤ j))) H) : wO X (compareOp .LtE) (.int i) (.int j) H Q := ofO op_le ⟨_, _, rfl, rfl, q⟩
theorem o_gt (q : Q (.bl (decide (j < i))) H) : wO X (compareOp .Gt) (.int i) (.int j) H Q := ofO op_gt ⟨_, _, rfl, rfl, q⟩
theorem o_ge (q : Q (.bl (decide (j ≤ i))) H) : wO X (compareOp .GtE) (.int i) (.int j) H Q := ofO op_ge ⟨_, _, rfl, rfl, q⟩
theorem o_eq (q : Q (.bl (decide (x = w))) H) (h : scal x w = true := by rfl) : wO X (compareOp .Eq) x w H Q := ofO op_eq ⟨h, q⟩
theorem o_ne (q : Q (.bl (!decide (x = w))) H) (h : scal x w = true := by rfl) : wO X (compareOp .NotEq) x w H Q := ofO op_ne ⟨h, q⟩
theorem o_insign {c : Nat} (q : Q (.bl (decide (c ∈ z.cps.toList))) H) : wO X (compareOp .In) (.str ⟨#[c]⟩) (.str z) H Q := ofO op_in_sign ⟨_, _, rfl, rfl, q⟩
theorem o_ninsign {c : Nat} (q : Q (.bl (!decide (c ∈ z.cps.toList))) H) : wO X (compareOp .NotIn) (.str ⟨#[c]⟩) (.str z) H Q := ofO op_notIn_sign ⟨_, _, rfl, rfl, q⟩
theorem o_is (q : Q (.bl (decide (x = .non))) H) : wO X (compareOp .Is) x .non H Q := ofO op_isN ⟨rfl, q⟩
theorem o_isnt (q : Q (.bl (!decide (x = .non))) H) : wO X (compareOp .IsNot) x .non H Q := ofO op_notN ⟨rfl, q⟩
end
end Wp

set_option Elab.async false
set_option linter.all false
set_option maxRecDepth 100000
set_option maxHeartbeats 4000000
/-! Statements, calls, subscripts, displays, comprehensions. -/
namespace Wp
open PySem PySem.Spec PyProof.Rows L2
section
variable {X : Cx} {S : Nm} {m : Md} {k : Nat} {σ : L2.St} {H : Hp} {D : Ends} {pos pos' : Pos}
/-! ### statements -/
theorem b_nil (q : D.nx σ H) : wB X [] D σ H := ofB pss_nil q
theorem b_one {st : Stmt} (q : wS X st D σ H) : wB X [st] D σ H := ofB (pss_one pS) q
theorem b_cons {st : Stmt} {rest : List Stmt} (q : wS X st { D with nx := fun σ' H' => wB X rest D σ' H' } σ H) : wB X (st :: rest) D σ H := ofB (pss_cons pS pB) q
theorem s_set (C : On X S m k) (i : Nat) {x : Str} {e : Expr} (q : wE X e σ H fun v H1 => D.nx (σ.set i (some v)) H1) (hi : S.N[i]? = some x := by rfl) (hv : i ∈ S.stv := by decide) (hs : swapsWith e (some (.Name x pos')) pos.line X.env = pure false := by rfl) :
    wS X (.Assign [.Name x pos'] e pos) D σ H := by
  obtain ⟨h1, h2⟩ := C.st i hv x hi
  exact ofS (ps_set (i := i) (by rw [C.hN]; exact C.nd) (by rw [C.hN]; exact hi) h1 pE hs h2) q
theorem s_ret {e : Expr} (q : wE X e σ H D.rt) : wS X (.Return (some e) pos) D σ H := ofS (ps_ret pE) q
theorem s_retN (q : D.rt .non H) : wS X (.Return none pos) D σ H := ofS ps_retN q
theorem s_if {c : Expr} {a b : List Stmt} (q : wT X c σ H fun k H1 => if k = true then wB X a D σ H1 else wB X b D σ H1) : wS X (.If c a b pos) D σ H := ofS (ps_if pT pB pB) q
theorem s_expr {e : Expr} (q : wE X e σ H fun _ H1 => D.nx σ H1) (hs : swapsWith e none pos.line X.env = pure false := by rfl) : wS X (.Expr e pos) D σ H := ofS (ps_expr pE hs) q
theorem s_pass (q : D.nx σ H) : wS X (.Pass pos) D σ H := ofS ps_pass q
theorem s_break (q : D.bk σ H) : wS X (.Break pos) D σ H := ofS ps_break q
theorem s_cont (q : D.ct σ H) : wS X (.Continue pos) D σ H := ofS ps_continue q
/-- x, y = a, b -/
theorem sw2 {x y : Str} {a b : Expr} {px py pt pt2 : Pos} {kt k2 : Nat} (hk : X.env.scope.kind = .function) (hx : X.env.scope.names.lookup x = some .local) (hy : X.env.scope.names.lookup y = some .local) (hn : x ≠ y) (hl : (py.line == px.line) = true)
    (h1 : [a, b].any (fun | .Starred .. => true | _ => false) = false) (h2 : [a, b].all (foldedForSure 8) = false) (h3 : [a, b].all (constantsAlone 8) = false) :
    swappedStores [.Tuple [.Name x px, .Name y py] kt pt] (.Tuple [a, b] k2 pt2) X.env = pure (some [x, y]) := by
  have kx : X.env.kindOf x = some .local := hx
  have ky : X.env.kindOf y = some .local := hy
  have hb : X.env.blockKind = .function := by unfold Env.blockKind; rw [hk]; rfl
  have hd : ([x, y] : List Str).eraseDups = [x, y] := by
    have e : (y == x) = false := by simpa using hn.symm
    simp [List.eraseDups_cons, e]
  unfold swappedStores
  simp only [hb, kx, ky, Expr.pos, hl, h1, h2, h3, hd, List.filterMap_cons, List.filterMap_nil, List.head?_cons, Option.map_some, Option.getD_some, beq_self_eq_true, Bool.and_true, Bool.true_and, if_true, List.length_cons, List.length_nil]
  refine (if_neg (by decide)).trans ?_
  refine (if_neg fun z => ?_).trans ?_
  · have z' := z.symm.trans h1
    cases z'
  · refine (if_neg (by decide)).trans ?_
    refine (if_neg (by decide)).trans ?_
    exact if_neg (by decide)
theorem s_par (C : On X S m k) (i j : Nat) {x y : Str} {a b : Expr} {px py pt pt2 : Pos} {kt k2 : Nat} (q : wA X [a, b] σ H fun vs H1 => ∃ v w, vs = [v, w] ∧ D.nx ((σ.set i (some v)).set j (some w)) H1)
    (hi : S.N[i]? = some x := by rfl) (hj : S.N[j]? = some y := by rfl) (hij : i ≠ j := by decide) (hvi : i ∈ S.lcl := by decide) (hvj : j ∈ S.lcl := by decide) (hl : (py.line == px.line) = true := by rfl)
    (h1 : [a, b].any (fun | .Starred .. => true | _ => false) = false := by rfl) (h2 : [a, b].all (foldedForSure 8) = false := by rfl) (h3 : [a, b].all (constantsAlone 8) = false := by rfl) :
    wS X (.Assign [.Tuple [.Name x px, .Name y py] kt pt] (.Tuple [a, b] k2 pt2) pos) D σ H := by
  have hx := C.lcl i hvi x hi
  have hy := C.lcl j hvj y hj
  have hn : x ≠ y := fun e => hij (nodup_ix C.nd hi (e ▸ hj))
  exact ofS (ps_par (i := i) (j := j) C.calm (by rw [C.hN]; exact C.nd) (by rw [C.hN]; exact hi) (by rw [C.hN]; exact hj) hij hx hy pA (sw2 C.kind hx hy hn hl h1 h2 h3)) q
end
/-! ### targets -/
def wG (X : Cx) (tg : Expr) : TG := fun v σ H Q => ∀ (pins : List (Addr × Obj)) (s : Shared) (u : Value), Inv X pins σ H s → RelV v u → wpAny (model X.prog X.w) X.A (assign tg X.env u) (fun _ s' => ∃ σ' H', Inv X pins σ' H' s' ∧ Q σ' H') X.xe s
theorem pG {X : Cx} {tg : Expr} : PG X tg (wG X tg) := ⟨fun pins s _ _ _ u _ I r h => h pins s u I r⟩
theorem ofG {X : Cx} {tg : Expr} {t : TG} {v : V} {σ : L2.St} {H : Hp} {Q : L2.St → Hp → Prop} (h : PG X tg t) (q : t v σ H Q) : wG X tg v σ H Q := fun pins s u I r => h.run pins s σ H v u Q I r q
section
variable {X : Cx} {S : Nm} {m : Md} {k : Nat} {σ : L2.St} {H : Hp} {D : Ends} {pos pos' : Pos} {Q : L2.St → Hp → Prop}
theorem pgn (C : On X S m k) (i : Nat) {x : Str} (hi : S.N[i]? = some x := by rfl) (hv : i ∈ S.stv := by decide) : PG X (.Name x pos) (gName i) := by
  obtain ⟨h1, h2⟩ := C.st i hv x hi
  exact pg_name (i := i) (by rw [C.hN]; exact C.nd) (by rw [C.hN]; exact hi) h1 h2
theorem g_name (C : On X S m k) (i : Nat) {x : Str} {v : V} (q : Q (σ.set i (some v)) H) (hi : S.N[i]? = some x := by rfl) (hv : i ∈ S.stv := by decide) : wG X (.Name x pos) v σ H Q := ofG (pgn C i hi hv) q
/-- x, y = v: v a tuple of two -/
theorem g_two (C : On X S m k) (i j : Nat) {x y : Str} {kt : Nat} {px py : Pos} {p : Addr} {v w : V} (h : SqT m.K H p [v, w]) (q : Q ((σ.set i (some v)).set j (some w)) H)
    (hi : S.N[i]? = some x := by rfl) (hj : S.N[j]? = some y := by rfl) (hvi : i ∈ S.stv := by decide) (hvj : j ∈ S.stv := by decide) : wG X (.Tuple [.Name x px, .Name y py] kt pos) (.ref p) σ H Q :=
  ofG (pg_tup C.calm (pgs_cons (pgn C i hi hvi) (pgs_cons (pgn C j hj hvj) pgs_nil))) ⟨p, [v, w], rfl, by rw [C.K]; exact h, rfl, v, [w], rfl, w, [], rfl, rfl, q⟩
theorem s_asg {tg e : Expr} (q : wE X e σ H fun v H1 => wG X tg v σ H1 D.nx) (hs : swapsWithSole [tg] e pos.line X.env = pure false := by rfl) (hw : swappedStores [tg] e X.env = pure none := by rfl) (h1 : (assignEach [tg] X.env).map (·.2) = [assign tg X.env] := by rfl) : wS X (.Assign [tg] e pos) D σ H := ofS (ps_asg pE pG hs hw h1) q
end
/-! ### calls -/
/-- a def of the module: its promise at its name -/
structure Df (m : Md) (k : Nat) (x : Str) (ps : List Str) (sp : Sp) : Prop where
  ex : ∃ (f : Addr) (fd : FuncData), FnOk m.prog m.w m.K m.mg m.base (L2.CX m.prog m.w) k f fd ps sp ∧ m.mg x = some (.ref f) ∧ PySem.W.keepIn m.K (.ref f) = true ∧ Binds m.K fd ps []
section
variable {X : Cx} {S : Nm} {m : Md} {k n : Nat} {σ : L2.St} {H : Hp} {Q : VK} {pos p apos : Pos} {e o : Expr} {es : List Expr} {x : Str}
/-- a call that raises nothing -/
theorem w_call {ps : List Str} {sp : Sp} (C : On X S m n) (j : Nat) (G : Df m k x ps sp) (q : wA X (e :: es) σ H fun vs H1 => sp vs H1 Q fun _ _ _ => False) (hi : S.gs[j]? = some x := by rfl) (hk : k ≤ n := by decide)
    (he : starEach (e :: es) X.env = (false, eval e X.env) :: starEach es X.env := by rfl) (hpl : (backTo pos (starEach es X.env)).any (·.1) = false := by rfl) : wE X (.Call (.Name x p) (e :: es) [] pos) σ H Q := by
  obtain ⟨f, fd, F, hm, hkp, hb⟩ := G.ex
  have em := C.hm
  subst em
  refine ofE (pe_call F (C.room.mono hk) (C.gl j x hi).1 hm hkp hb .nil passL pA (C.gl j x hi).2 he hpl) (t := tCall sp [] E0 (wA X (e :: es))) ?_
  refine fun pos' pins s I => thn (q pos' pins s I) fun us s1 ⟨vs, H1, I1, r1, q1⟩ => ⟨vs, H1, I1, r1, by show sp (vs ++ []) H1 Q E0; rw [List.append_nil]; exact q1⟩
theorem w_call0 {ps : List Str} {sp : Sp} (C : On X S m n) (j : Nat) (G : Df m k x ps sp) (q : sp [] H Q fun _ _ _ => False) (hi : S.gs[j]? = some x := by rfl) (hk : k ≤ n := by decide) : wE X (.Call (.Name x p) [] [] pos) σ H Q := by
  obtain ⟨f, fd, F, hm, hkp, hb⟩ := G.ex
  have em := C.hm
  subst em
  exact ofE (pe_call0 F (C.room.mono hk) (C.gl j x hi).1 hm hkp hb .nil passL (C.gl j x hi).2) q
/-- a call that may raise: W, what is wanted of it -/
theorem w_callX {ps : List Str} {sp : Sp} {W : WX} (C : On X S m n) (tk : Takes X W) (j : Nat) (G : Df m k x ps sp) (q : wA X (e :: es) σ H fun vs H1 => sp vs H1 Q fun cls d H' => W cls d σ H') (hi : S.gs[j]? = some x := by rfl) (hk : k ≤ n := by decide)
    (he : starEach (e :: es) X.env = (false, eval e X.env) :: starEach es X.env := by rfl) (hpl : (backTo pos (starEach es X.env)).any (·.1) = false := by rfl) : wE X (.Call (.Name x p) (e :: es) [] pos) σ H Q := by
  obtain ⟨f, fd, F, hm, hkp, hb⟩ := G.ex
  have em := C.hm
  subst em
  exact ofE (pe_callS (E := fun σ cls d H' => W cls d σ H') F (C.room.mono hk) (C.gl j x hi).1 hm hkp hb (fun σ => passAt tk σ) pA (C.gl j x hi).2 he hpl) q
/-- a built-in function, a built-in class, called -/
theorem w_cb {id : String} {r : List V → Hp → VK → Prop} (C : On X S m n) (j : Nat) (hc : CallR X (.builtin id) r) (hm : m.mg x = none) (hv : bootBuiltins x = some (.builtin id)) (q : wA X (e :: es) σ H fun vs H1 => r vs H1 Q) (hi : S.gs[j]? = some x := by rfl) (hn : x ≠ "__name__" := by decide)
    (he : starEach (e :: es) X.env = (false, eval e X.env) :: starEach es X.env := by rfl) (hpl : (backTo pos (starEach es X.env)).any (·.1) = false := by rfl) : wE X (.Call (.Name x p) (e :: es) [] pos) σ H Q :=
  ofE (pe_callB hc (C.gl j x hi).1 (by rw [C.mg]; exact hm) hv pA hn (C.gl j x hi).2 he hpl) q
theorem w_ct {T : String} {r : List V → Hp → VK → Prop} (C : On X S m n) (j : Nat) (hc : CallR X (.type T) r) (hm : m.mg x = none) (hv : bootBuiltins x = some (.type T)) (q : wA X (e :: es) σ H fun vs H1 => r vs H1 Q) (hi : S.gs[j]? = some x := by rfl) (hn : x ≠ "__name__" := by decide)
    (he : starEach (e :: es) X.env = (false, eval e X.env) :: starEach es X.env := by rfl) (hpl : (backTo pos (starEach es X.env)).any (·.1) = false := by rfl) : wE X (.Call (.Name x p) (e :: es) [] pos) σ H Q :=
  ofE (pe_callTy hc (C.gl j x hi).1 (by rw [C.mg]; exact hm) hv pA hn (C.gl j x hi).2 he hpl) q
/-- a built-in type's method -/
theorem w_bm {T id : String} {name : Str} {r : V → List V → Hp → VK → Prop} (pa : PlainAttrs T) (slot : Slot T name id) (hty : typeOf (.builtin id) = pure (.type "method_descriptor")) (hm : MtR X id r) (q : wE X o σ H fun v H1 => tyV X.K T v H1 ∧ wA X (e :: es) σ H1 fun xs H2 => r v xs H2 Q)
    (hbase : attributeBase o name X.env (eval o X.env) = eval o X.env := by rfl)
    (hfew : ((backTo pos (starEach (e :: es) X.env)).all (fun x => !x.1) && (backToKw pos (keywordEach [] X.env)).all (fun x => x.1.isSome)
      && decide ((e :: es).length + ([] : List Keyword).length + (if ([] : List Keyword).isEmpty then 0 else 1) < 30)) = true := by rfl)
    (hline : (apos.endLine == pos.line) = true := by rfl) (hs : starEach (e :: es) X.env = (false, eval e X.env) :: starEach es X.env := by rfl) (hplain : (backTo pos (starEach es X.env)).any (·.1) = false := by rfl) :
    wE X (.Call (.Attribute o name apos) (e :: es) [] pos) σ H Q := ofE (pe_bm pa slot hty hm pE pA hbase hfew hline hs hplain) q
end
/-! ### subscripts, slices, displays -/
def wI (X : Cx) : R2 := fun x y H Q => ∀ (value slice : Expr) (pins : List (Addr × Obj)) (s : Shared) (σ : L2.St) (v u : Value), Inv X pins σ H s → RelV x v → RelV y u → subscripted slice false v u = operate [v, u] (getItem v u) → wpAny (model X.prog X.w) X.A (subscriptTail value slice v u) (EP X pins σ Q) X.xe s
theorem pI {X : Cx} : IxR X (wI X) := fun value slice pins s σ _ _ _ v u _ I r1 r2 h hs => h value slice pins s σ v u I r1 r2 hs
theorem ofI {X : Cx} {r : R2} (h : IxR X r) {x y : V} {H : Hp} {Q : VK} (q : r x y H Q) : wI X x y H Q := fun value slice pins s σ v u I r1 r2 hs => h value slice pins s σ H x y v u Q I r1 r2 q hs
def wSl (X : Cx) : V → Option Int → Option Int → Hp → VK → Prop := fun x lo hi H Q => ∀ (pins : List (Addr × Obj)) (s : Shared) (σ : L2.St) (v vl vu : Value) (sl : Addr), Inv X pins σ H s → RelV x v → s.heap.IsSliceOf sl vl vu .none → IsPart vl lo → IsPart vu hi →
    ∃ T id, typeLookup (.type T) "__getitem__" = pure (some (.builtin id)) ∧ s.TypeIs v T ∧ wpAny (model X.prog X.w) X.A (getItem v (.ref sl)) (EP X pins σ Q) X.xe s
theorem pSl {X : Cx} : SlR X (wSl X) := fun pins s σ _ _ v vl vu _ _ sl _ I r1 r2 r3 r4 h => h pins s σ v vl vu sl I r1 r2 r3 r4
theorem ofSl {X : Cx} {r : V → Option Int → Option Int → Hp → VK → Prop} (h : SlR X r) {x : V} {lo hi : Option Int} {H : Hp} {Q : VK} (q : r x lo hi H Q) : wSl X x lo hi H Q := fun pins s σ v vl vu sl I r1 r2 r3 r4 => h pins s σ H x v vl vu lo hi sl Q I r1 r2 r3 r4 q
section
variable {X : Cx} {S : Nm} {m : Md} {k n : Nat} {σ : L2.St} {H : Hp} {Q : VK} {pos p2 : Pos} {e a b : Expr} {es : List Expr}
theorem w_sub (q : wE X a σ H fun x H1 => wE X b σ H1 fun y H2 => wI X x y H2 Q) (hs : PlainIx b := by exact fun _ _ => rfl) : wE X (.Subscript a b pos) σ H Q := ofE (pe_ix pI pE pE hs) q
theorem w_sl {l u : Expr} (q : wE X e σ H fun x H1 => wE X l σ H1 fun y H2 => ∃ i, y = .int i ∧ wE X u σ H2 fun z H3 => ∃ j, z = .int j ∧ wSl X x (some i) (some j) H3 Q) : wE X (.Subscript e (.Slice (some l) (some u) none p2) pos) σ H Q := ofE (pe_slice pSl pE (po_some pE) (po_some pE)) q
theorem w_slf {l : Expr} (q : wE X e σ H fun x H1 => wE X l σ H1 fun y H2 => ∃ i, y = .int i ∧ wSl X x (some i) none H2 Q) : wE X (.Subscript e (.Slice (some l) none none p2) pos) σ H Q := ofE (pe_slice pSl pE (po_some pE) po_none) q
theorem w_slt {u : Expr} (q : wE X e σ H fun x H1 => wE X u σ H1 fun y H2 => ∃ j, y = .int j ∧ wSl X x none (some j) H2 Q) : wE X (.Subscript e (.Slice none (some u) none p2) pos) σ H Q := ofE (pe_slice pSl pE po_none (po_some pE)) q
theorem i_list (C : On X S m n) {p : Addr} {xs : List V} {i : Int} {v : V} (h : SqL m.K H p xs) (ha : atI xs i = some v) (q : Q v H) : wI X (.ref p) (.int i) H Q := ofI ix_list ⟨p, xs, i, v, rfl, rfl, by rw [C.K]; exact h, ha, q⟩
theorem i_tup (C : On X S m n) {p : Addr} {xs : List V} {i : Int} {v : V} (h : SqT m.K H p xs) (ha : atI xs i = some v) (q : Q v H) : wI X (.ref p) (.int i) H Q := ofI ix_tup ⟨p, xs, i, v, rfl, rfl, by rw [C.K]; exact h, ha, q⟩
theorem i_str {z : Str} {i : Int} {c : Nat} (h : z.length ≤ sizeLine) (ha : atI z.cps.toList i = some c) (q : Q (.str ⟨#[c]⟩) H) : wI X (.str z) (.int i) H Q := ofI ix_str ⟨z, i, c, rfl, rfl, h, ha, q⟩
theorem sl_l (C : On X S m n) {p : Addr} {xs : List V} {lo hi : Option Int} (h : SqL m.K H p xs) (q : ∀ l, H l = none → Q (.ref l) (upd H l (.lst (cutV xs lo hi)))) : wSl X (.ref p) lo hi H Q := ofSl sl_list ⟨p, xs, rfl, by rw [C.K]; exact h, q⟩
theorem sl_s {z : Str} {lo hi : Option Int} (h : z.length ≤ sizeLine) (q : Q (.str (cutS z lo hi)) H) : wSl X (.str z) lo hi H Q := ofSl sl_str ⟨z, rfl, h, q⟩
theorem w_tup {k : Nat} (q : wA X es σ H fun xs H1 => xs.length ≤ sizeLine ∧ ∀ p, H1 p = none → Q (.ref p) (upd H1 p (.tup xs))) : wE X (.Tuple es k pos) σ H Q := ofE (pe_tup pA) q
theorem w_lst (q : wA X es σ H fun xs H1 => xs.length ≤ sizeLine ∧ ∀ p, H1 p = none → Q (.ref p) (upd H1 p (.lst xs))) : wE X (.List es pos) σ H Q := ofE (pe_lst pA) q
/-- d[k] -/
theorem w_dget (C : On X S m n) (q : wE X a σ H fun x H1 => wE X b σ H1 fun y H2 => ∃ d v, x = .ref d ∧ DGet H2 d y (some v) ∧ Q v H2) (hs : NoSl b := by exact fun _ _ => rfl) : wE X (.Subscript a b pos) σ H Q := ofE (pe_dget (hu_of C.room) pE pE hs) q
end
end Wp

set_option Elab.async false
set_option linter.all false
set_option maxRecDepth 100000
set_option maxHeartbeats 4000000
/-! A def's promise from its body; loops; comprehensions; raising. -/
namespace Wp
open PySem PySem.Spec PyProof.Rows L2
/-! ### a def's promise -/
/-- what a def's body stands in, besides On -/
structure Bd (X : Cx) (E : XK) : Prop where
  tk : Takes X (fun cls d _ H => E cls d H)
  po : PassesOwn (model X.prog X.w) X.A X.env X.xe
  stk : X.stack = X.env :: X.outer
  frm : X.env.frame = some X.env.locals
def fsB (N ps : List Str) (sc : Scope) : Bool :=
  !sc.isCoroutine && (!sc.isGenerator && (decide (N.take ps.length = ps) && ((ps.all fun x => match sc.names.lookup x with
    | some .local => true
    | some .cell => true
    | _ => false) && sc.names.all fun y => match y.2 with
    | .free => false
    | _ => true)))
theorem fs_of {S : Nm} {ps : List Str} (h : S.okB true = true) (h2 : fsB S.N ps S.sc = true) : FnScope S.N ps S.sc := by
  unfold Nm.okB at h
  simp only [Bool.and_eq_true, List.all_eq_true, decide_eq_true_eq] at h
  obtain ⟨h1, _, _, _, _, h6⟩ := h
  unfold fsB at h2
  simp only [Bool.and_eq_true, List.all_eq_true, decide_eq_true_eq, Bool.not_eq_true'] at h2
  obtain ⟨a1, a2, a3, a4, a5⟩ := h2
  refine ⟨h6, a1, a2, h1, a3, fun x hx => ?_, fun y hy e => ?_⟩
  · have b := a4 x hx
    split at b
    · rename_i e; exact .inl e
    · rename_i e; exact .inr e
    · cases b
  · have b := a5 y hy
    rw [e] at b
    cases b
def defNm (N : List Str) (st : Stmt) (gs : List Str) (lcl : List Nat) : Nm := ⟨N, defScope st, gs, List.range N.length, List.range N.length, lcl⟩
/-- the same, cv the slots that stand in comprehensions alone -/
def defNmC (N : List Str) (st : Stmt) (gs : List Str) (lcl cv : List Nat) : Nm := ⟨N, defScope st, gs, (List.range N.length).filter fun i => !cv.contains i, (List.range N.length).filter fun i => !cv.contains i, lcl⟩
abbrev FnP (m : Md) (x q : Str) (st : Stmt) (f : Addr) (fd : FuncData) : Prop := FunD m.K x q (defArgs st) (defBody st) (defScope st) [] [] f fd
/-- the ways out of a def's body -/
abbrev out (Q : VK) : Ends := { nx := fun _ H' => Q .non H', rt := Q }
theorem fn_df {m : Md} {x q : Str} {st : Stmt} {f : Addr} {fd : FuncData} {S : Nm} {ps : List Str} {sp : Sp} {k : Nat} (F : FnP m x q st f fd) (hS : S.okB true = true) (hF : fsB S.N ps S.sc = true) (hsc : S.sc = defScope st)
    (len : ∀ vs H Q E, sp vs H Q E → vs.length = ps.length)
    (body : ∀ (X : Cx) (vs : List V) (H : Hp) (Q : VK) (E : XK), On X S m k → Bd X E → sp vs H Q E → wB X (defBody st) (out Q) (start S.N vs) H) : FnOk m.prog m.w m.K m.mg m.base (L2.CX m.prog m.w) (k + 1) f fd ps sp := by
  have sc := fs_of hS hF
  rw [hsc] at sc
  refine F.ok sc len fun cdv A outer s H vs Q E hr h => ⟨_, pB, ?_⟩
  have C := on_of (X := cxOf (L2.CX m.prog m.w) m.prog m.w m.K m.mg m.base S.N q (defScope st) f cdv A outer s H E) hS rfl hsc.symm (fun _ _ => rfl) rfl hr
  exact body _ vs H Q E C ⟨takes_of rfl rfl rfl rfl, passes_of rfl, rfl, rfl⟩ h
theorem mk_df {m : Md} {x : Str} {st : Stmt} {f : Addr} {fd : FuncData} {S : Nm} {ps : List Str} {sp : Sp} {k : Nat} (F : FnP m x x st f fd) (hm : m.mg x = some (.ref f)) (hS : S.okB true = true) (hF : fsB S.N ps S.sc = true) (hsc : S.sc = defScope st)
    (hb : ∀ (kV doc pm : Value) (an : Option Addr) (cdv ct : Value) (us : List Value), us.length = ps.length → bindArgs (PySem.W.fnOf x x (defArgs st) (defBody st) (defScope st) .none kV doc pm an cdv ct) ⟨us, []⟩ = pure (ps.zip us))
    (len : ∀ vs H Q E, sp vs H Q E → vs.length = ps.length)
    (body : ∀ (X : Cx) (vs : List V) (H : Hp) (Q : VK) (E : XK), On X S m k → Bd X E → sp vs H Q E → wB X (defBody st) (out Q) (start S.N vs) H) : Df m (k + 1) x ps sp :=
  ⟨f, fd, fn_df F hS hF hsc len body, hm, F.kp, F.bindsN hb⟩
theorem Df.mono {m : Md} {j k : Nat} {x : Str} {ps : List Str} {sp : Sp} (G : Df m j x ps sp) (h : j ≤ k) : Df m k x ps sp := by
  obtain ⟨f, fd, F, a, b, c⟩ := G.ex
  exact ⟨f, fd, F.mono h, a, b, c⟩
theorem Df.imp {m : Md} {k : Nat} {x : Str} {ps : List Str} {sp sp' : Sp} (G : Df m k x ps sp) (h : ∀ vs H Q E, sp' vs H Q E → sp vs H Q E) : Df m k x ps sp' := by
  obtain ⟨f, fd, F, a, b, c⟩ := G.ex
  exact ⟨f, fd, F.imp h, a, b, c⟩
/-! ### loops -/
section
variable {X : Cx} {S : Nm} {m : Md} {k n : Nat} {σ : L2.St} {H : Hp} {D : Ends} {pos p : Pos} {tg l : Expr} {body : List Stmt} {E : XK}
theorem s_for {iter : Expr} {wi : TI} (C : On X S m n) (B : PassesOwn (model X.prog X.w) X.A X.env X.xe) (hi : PI X tg iter wi) (q : tFor wi (wG X tg) (wB X body) D σ H) (hs : ∀ x, foldedSetIterable iter X.env x = pure x := by intro _; rfl) : wS X (.For tg iter body [] pos) D σ H :=
  ofS (ps_for B C.calm hi pG pB hs) q
/-- for .. in a list -/
theorem s_forL (C : On X S m n) (B : PassesOwn (model X.prog X.w) X.A X.env X.xe)
    (q : wE X l σ H fun v H1 => ∃ a xs, v = .ref a ∧ SqL m.K H1 a xs ∧ ∃ Pv : Nat → L2.St → Hp → Prop, Pv 0 σ H1 ∧ (∀ i σ H, i ≤ xs.length → Pv i σ H → SqL m.K H a xs) ∧
      (∀ i x σ H, xs[i]? = some x → Pv i σ H → wG X tg x σ H fun σ2 H2 => wB X body { D with nx := Pv (i + 1), ct := Pv (i + 1), bk := D.nx } σ2 H2) ∧ ∀ σ H, Pv xs.length σ H → D.nx σ H)
    (hs : ∀ x, foldedSetIterable l X.env x = pure x := by intro _; rfl) : wS X (.For tg l body [] pos) D σ H := by
  refine s_for C B (pi_list pE) ?_ hs
  refine fun pins s I => thn (q pins s I) fun u s1 ⟨v, H1, I1, r1, a, xs, ev, hx, Pv, h0, hl, ht, hd⟩ => ⟨v, H1, I1, r1, a, ev, ⟨xs, by rw [C.K]; exact hx⟩, ?_⟩
  rw [C.K]
  exact for_list (xs := xs) Pv h0 hl ht hd
/-- for .. in range(n) -/
theorem s_forR {a : Expr} (C : On X S m n) (B : PassesOwn (model X.prog X.w) X.A X.env X.xe) (j : Nat) (hm : m.mg "range" = none)
    (q : wE X a σ H fun v H1 => ∃ n : Int, v = .int n ∧ (-(2 ^ 62) ≤ n ∧ n < 2 ^ 62) ∧ ∃ Pv : Nat → L2.St → Hp → Prop, Pv 0 σ H1 ∧
      (∀ (i : Nat) σ H, i < n.toNat → Pv i σ H → wG X tg (.int (i : Int)) σ H fun σ2 H2 => wB X body { D with nx := Pv (i + 1), ct := Pv (i + 1), bk := D.nx } σ2 H2) ∧ ∀ σ H, Pv n.toNat σ H → D.nx σ H)
    (hi : S.gs[j]? = some ("range" : Str) := by rfl) (hs : starEach [a] X.env = [(false, eval a X.env)] := by rfl) (hf : ∀ x, foldedSetIterable (.Call (.Name "range" p) [a] [] pos) X.env x = pure x := by intro _; rfl) {pos2 : Pos} :
    wS X (.For tg (.Call (.Name "range" p) [a] [] pos) body [] pos2) D σ H := by
  refine s_for C B (pi_range1 (C.gl j _ hi).1 (by rw [C.mg]; exact hm) (pa_cons pE pa_nil hs) hs) ?_ hf
  refine fun pins s I => thn (q pins s I) fun u s1 ⟨v, H1, I1, r1, n, ev, hb, Pv, h0, ht, hd⟩ => ⟨v, H1, I1, r1, n, by rw [ev], hb.1, hb.2, ?_⟩
  refine for_range (lo := 0) (n := n.toNat) Pv h0 (fun i σ H hi p => ?_) hd
  have e : (0 : Int) + (i : Int) = (i : Int) := Int.zero_add _
  rw [e]
  exact ht i σ H hi p
end
/-! ### comprehensions -/
section
variable {X : Cx} {S : Nm} {m : Md} {k n : Nat} {σ : L2.St} {H : Hp} {D : Ends} {pos p : Pos} {Q : VK} {tg iter elt : Expr} {scope : Scope}
def relS (scope sc : Scope) : Scope := { scope with names := scope.names.map fun (n, k) => if (k == .free && sc.kind == .function && sc.names.lookup n == some .cell) then (n, .cell) else (n, k) }
/-- the names within a block: seen v, stored st (its own) -/
def blkNm (S : Nm) (scope : Scope) (gs : List Str) (v st : List Nat) : Nm := ⟨S.N, relS scope S.sc, gs, v, st, st⟩
def ownOf (N : List Str) (st : List Nat) : List (Str × Nat) := st.filterMap fun i => N[i]?.map fun x => (x, i)
def blkB (S : Nm) (scope : Scope) (gs : List Str) (v st : List Nat) : Bool := (blkNm S scope gs v st).okB false && blkC S.N S.sc scope (ownOf S.N st)
/-- the block of a comprehension that stands in X -/
def Blk (X : Cx) (scope : Scope) (X2 : Cx) : Prop := ∃ (s : Shared) (H : Hp) (C : Addr) (cl : List (Str × Addr)) (fp : List Addr), X2 = X.blk s H scope (compEnvC scope cl C X.env) fp
theorem blk_on {gs : List Str} {v st : List Nat} {X2 : Cx} (C : On X S m n) (h : blkB S scope gs v st = true) (b : Blk X scope X2) : On X2 (blkNm S scope gs v st) m n := by
  obtain ⟨s, H, A, cl, fp, rfl⟩ := b
  unfold blkB at h
  simp only [Bool.and_eq_true] at h
  have e2 : relS scope X.env.scope = relS scope S.sc := by rw [C.hsc]
  have q := on_of (X := X.blk s H scope (compEnvC scope cl A X.env) fp) (S := blkNm S scope gs v st) (fn := false) h.1 C.hN e2 (fun z => nomatch z) C.calm C.room
  have e : md (X.blk s H scope (compEnvC scope cl A X.env) fp) = m := C.hm
  rw [e] at q
  exact q
/-- what a block's pieces are asked: in every block X2 of X -/
def tEs (X : Cx) (scope : Scope) (S2 : Nm) (m : Md) (n : Nat) (e : Expr) : TE := fun σ H Q => ∀ X2, On X2 S2 m n → wE X2 e σ H Q
def tTs (X : Cx) (scope : Scope) (S2 : Nm) (m : Md) (n : Nat) (e : Expr) : TT := fun σ H Q => ∀ X2, On X2 S2 m n → wT X2 e σ H Q
def tGs (X : Cx) (scope : Scope) (S2 : Nm) (m : Md) (n : Nat) (e : Expr) : TG := fun v σ H Q => ∀ X2, On X2 S2 m n → wG X2 e v σ H Q
/-- a list comprehension at one state, whoever takes its list -/
def wL (X : Cx) (elt tg iter : Expr) (ifs : List Expr) (scope : Scope) : TE := fun σ H Q => ∃ (own : List (Str × Nat)) (wi : TI) (g : TG) (tt : TT) (te : TE), PI X tg iter wi ∧ BlkOk X.N X.env.scope scope own ∧
  (∀ (s : Shared) (H : Hp) (C : Addr) (cl : List (Str × Addr)) (fp : List Addr), PG (X.blk s H scope (compEnvC scope cl C X.env) fp) tg g) ∧ (∀ (s : Shared) (H : Hp) (C : Addr) (cl : List (Str × Addr)) (fp : List Addr), PTs (X.blk s H scope (compEnvC scope cl C X.env) fp) ifs tt) ∧
  (∀ (s : Shared) (H : Hp) (C : Addr) (cl : List (Str × Addr)) (fp : List Addr), PE (X.blk s H scope (compEnvC scope cl C X.env) fp) elt te) ∧ (∀ x, foldedSetIterable iter X.env x = pure x) ∧ tLc wi g tt te (own.map (·.2)) σ H Q
theorem w_ofL {ifs : List Expr} (C : On X S m n) (q : wL X elt tg iter ifs scope σ H Q) : wE X (.ListComp elt [⟨tg, iter, ifs, 0⟩] scope pos) σ H Q := by
  obtain ⟨own, wi, g, tt, te, h1, h2, h3, h4, h5, h6, h7⟩ := q
  exact ofE (pe_lc C.calm (by rw [C.hN]; exact C.nd) h1 h2 h3 h4 h5 h6) h7
theorem s_ofL {ifs : List Expr} {y : Str} {py spos : Pos} (C : On X S m n) (i : Nat) (q : wL X elt tg iter ifs scope σ H fun v H1 => D.nx (σ.set i (some v)) H1) (hi : S.N[i]? = some y := by rfl) (hv : i ∈ S.lcl := by decide) (hl : (py.line == pos.line) = true := by rfl)
    (ha : (scope.names.any fun (n, k) => n == y && (k == .local || k == .cell)) = false := by decide +kernel) : wS X (.Assign [.Name y py] (.ListComp elt [⟨tg, iter, ifs, 0⟩] scope pos) spos) D σ H := by
  obtain ⟨own, wi, g, tt, te, h1, h2, h3, h4, h5, h6, h7⟩ := q
  have hy := C.lcl i hv y hi
  exact ofS (ps_setLc (i := i) C.calm (by rw [C.hN]; exact C.nd) (by rw [C.hN]; exact hi) hy (sw_true C.kind hy hl ha) h1 h2 h3 h4 h5 h6) h7
theorem w_lc {wi : TI} (C : On X S m n) (gs : List Str) (v st : List Nat) (h : blkB S scope gs v st = true) (hi : PI X tg iter wi)
    (q : tLc wi (tGs X scope (blkNm S scope gs v st) m n tg) tYes (tEs X scope (blkNm S scope gs v st) m n elt) ((ownOf S.N st).map (·.2)) σ H Q) (hs : ∀ x, foldedSetIterable iter X.env x = pure x := by intro _; rfl) :
    wL X elt tg iter [] scope σ H Q := by
  have h2 := h
  unfold blkB at h2
  simp only [Bool.and_eq_true] at h2
  exact ⟨_, _, _, _, _, hi, by rw [C.hN, C.hsc]; exact blkOk_by h2.2, (fun s H A cl fp => ⟨fun pins s' σ' H' v u Q' I r z => z _ (blk_on C h ⟨s, H, A, cl, fp, rfl⟩) pins s' u I r⟩), (fun s H A cl fp => pts_nil),
    (fun s H A cl fp => ⟨fun pins s' σ' H' Q' I z => z _ (blk_on C h ⟨s, H, A, cl, fp, rfl⟩) pins s' I⟩), hs, q⟩
theorem w_lcIf {c : Expr} {wi : TI} (C : On X S m n) (gs : List Str) (v st : List Nat) (h : blkB S scope gs v st = true) (hi : PI X tg iter wi)
    (q : tLc wi (tGs X scope (blkNm S scope gs v st) m n tg) (tTs X scope (blkNm S scope gs v st) m n c) (tEs X scope (blkNm S scope gs v st) m n elt) ((ownOf S.N st).map (·.2)) σ H Q) (hs : ∀ x, foldedSetIterable iter X.env x = pure x := by intro _; rfl) :
    wL X elt tg iter [c] scope σ H Q := by
  have h2 := h
  unfold blkB at h2
  simp only [Bool.and_eq_true] at h2
  exact ⟨_, _, _, _, _, hi, by rw [C.hN, C.hsc]; exact blkOk_by h2.2, (fun s H A cl fp => ⟨fun pins s' σ' H' v u Q' I r z => z _ (blk_on C h ⟨s, H, A, cl, fp, rfl⟩) pins s' u I r⟩), (fun s H A cl fp => pts_one ⟨fun pins s' σ' H' Q' I z => z _ (blk_on C h ⟨s, H, A, cl, fp, rfl⟩) pins s' I⟩),
    (fun s H A cl fp => ⟨fun pins s' σ' H' Q' I z => z _ (blk_on C h ⟨s, H, A, cl, fp, rfl⟩) pins s' I⟩), hs, q⟩
end
/-! ### the list so far -/
/-- at D the items that f tells of the first i turns; all else as in H0 -/
def LP (H0 : Hp) (Dl : Addr) (f : Nat → Option V) (i : Nat) (H : Hp) : Prop := H0 Dl = none ∧ Same H0 H ∧ H Dl = some (.lst ((List.range i).filterMap f))
theorem same_new {H : Hp} {p : Addr} {o : HO} (h : H p = none) : Same H (upd H p o) := fun b x e => by
  rw [upd_ne (ne_of_none e h)]
  exact e
theorem LP.zero {H0 : Hp} {Dl : Addr} {f : Nat → Option V} (h : H0 Dl = none) : LP H0 Dl f 0 (upd H0 Dl (.lst [])) := ⟨h, same_new h, upd_same⟩
theorem fm_len (f : Nat → Option V) (i : Nat) : ((List.range i).filterMap f).length ≤ i := by
  have h := List.length_filterMap_le f (List.range i)
  rw [List.length_range] at h
  exact h
theorem LP.yes {H0 H H4 : Hp} {Dl : Addr} {f : Nat → Option V} {i : Nat} {y : V} (h : LP H0 Dl f i H) (e : Same H H4) (hf : f i = some y) (hi : i < 16777216) : ∃ acc, H4 Dl = some (.lst acc) ∧ acc.length < sizeLine ∧ LP H0 Dl f (i + 1) (upd H4 Dl (.lst (acc ++ [y]))) := by
  obtain ⟨h1, h2, h3⟩ := h
  refine ⟨_, e _ _ h3, Nat.lt_of_le_of_lt (fm_len f i) (by rw [sizeLine_eq]; exact hi), h1, fun b o q => ?_, ?_⟩
  · rw [upd_ne (ne_of_none q h1)]
    exact e _ _ (h2 _ _ q)
  · rw [upd_same, List.range_succ, List.filterMap_append]
    simp [hf]
theorem LP.no {H0 H H3 : Hp} {Dl : Addr} {f : Nat → Option V} {i : Nat} (h : LP H0 Dl f i H) (e : Same H H3) (hf : f i = none) : LP H0 Dl f (i + 1) H3 := by
  obtain ⟨h1, h2, h3⟩ := h
  refine ⟨h1, h2.trans e, ?_⟩
  rw [e _ _ h3, List.range_succ, List.filterMap_append]
  simp [hf]
end Wp

set_option Elab.async false
set_option linter.all false
set_option maxRecDepth 100000
set_option maxHeartbeats 4000000
/-! Comprehensions whose pieces leave what is known. -/
namespace Wp
open PySem PySem.Spec PyProof.Rows L2
section
variable {X : Cx} {σ : L2.St} {H : Hp}
theorem wE_mono {e : Expr} {Q Q' : VK} (h : wE X e σ H Q) (hq : ∀ v H', Q v H' → Q' v H') : wE X e σ H Q' := fun pins s I => thn (h pins s I) fun u s1 ⟨v, H1, I1, r1, q⟩ => ⟨v, H1, I1, r1, hq v H1 q⟩
theorem wT_mono {e : Expr} {Q Q' : Bool → Hp → Prop} (h : wT X e σ H Q) (hq : ∀ v H', Q v H' → Q' v H') : wT X e σ H Q' := fun pins s I => thn (h pins s I) fun b s1 ⟨H1, I1, q⟩ => ⟨H1, I1, hq b H1 q⟩
theorem wA_mono {e : List Expr} {Q Q' : List V → Hp → Prop} (h : wA X e σ H Q) (hq : ∀ v H', Q v H' → Q' v H') : wA X e σ H Q' := fun pos pins s I => thn (h pos pins s I) fun u s1 ⟨v, H1, I1, r1, q⟩ => ⟨v, H1, I1, r1, hq v H1 q⟩
theorem wG_mono {e : Expr} {v : V} {Q Q' : L2.St → Hp → Prop} (h : wG X e v σ H Q) (hq : ∀ σ' H', Q σ' H' → Q' σ' H') : wG X e v σ H Q' := fun pins s u I r => thn (h pins s u I r) fun _ s1 ⟨σ1, H1, I1, q⟩ => ⟨σ1, H1, I1, hq σ1 H1 q⟩
theorem ends_mono {pins : List (Addr × Obj)} {D D' : Ends} {f : Flow} {s : Shared} (h1 : ∀ σ H, D.nx σ H → D'.nx σ H) (h2 : ∀ v H, D.rt v H → D'.rt v H) (h3 : ∀ σ H, D.bk σ H → D'.bk σ H) (h4 : ∀ σ H, D.ct σ H → D'.ct σ H) (h : SP X pins D f s) : SP X pins D' f s := by
  cases f with
  | next => obtain ⟨a, b, c, d⟩ := h; exact ⟨a, b, c, h1 _ _ d⟩
  | brk => obtain ⟨a, b, c, d⟩ := h; exact ⟨a, b, c, h3 _ _ d⟩
  | cont => obtain ⟨a, b, c, d⟩ := h; exact ⟨a, b, c, h4 _ _ d⟩
  | ret u => obtain ⟨a, b, c, d, e, g⟩ := h; exact ⟨a, b, c, d, e, h2 _ _ g⟩
theorem wS_mono {st : Stmt} {D D' : Ends} (h : wS X st D σ H) (h1 : ∀ σ H, D.nx σ H → D'.nx σ H) (h2 : ∀ v H, D.rt v H → D'.rt v H) (h3 : ∀ σ H, D.bk σ H → D'.bk σ H) (h4 : ∀ σ H, D.ct σ H → D'.ct σ H) : wS X st D' σ H := fun pins s I => thn (h pins s I) fun f s1 q => ends_mono h1 h2 h3 h4 q
theorem wB_mono {st : List Stmt} {D D' : Ends} (h : wB X st D σ H) (h1 : ∀ σ H, D.nx σ H → D'.nx σ H) (h2 : ∀ v H, D.rt v H → D'.rt v H) (h3 : ∀ σ H, D.bk σ H → D'.bk σ H) (h4 : ∀ σ H, D.ct σ H → D'.ct σ H) : wB X st D' σ H := fun pins s I => thn (h pins s I) fun f s1 q => ends_mono h1 h2 h3 h4 q
/-- a statement, then the rest, a word between them -/
theorem b_cut {st : Stmt} {rest : List Stmt} {D : Ends} (M : L2.St → Hp → Prop) (h : wS X st { D with nx := M } σ H) (k : ∀ σ' H', M σ' H' → wB X rest D σ' H') : wB X (st :: rest) D σ H :=
  b_cons (wS_mono h k (fun _ _ z => z) (fun _ _ z => z) (fun _ _ z => z))
end
section
variable {X : Cx} {S : Nm} {m : Md} {k n : Nat} {σ : L2.St} {H H1 : Hp} {D : Ends} {pos p : Pos} {Q : VK} {tg iter elt c : Expr} {scope : Scope} {gs : List Str} {v st vs : List Nat} {J : It} {len : Nat} {G : Hp → Prop} {P : Nat → V → Prop} {S2 : Nm} {Dl : Addr} {Qd : Hp → Prop}
/-- the turns of [elt for tg in ..], the pieces leaving what is known -/
theorem lc_pure (w : Walk J len G fun i H x H' => H' = H ∧ P i x) (hn : len < 16777216) (hG : ∀ H2, Same H1 H2 → G H2) (hD : H1 Dl = none) (f : Nat → V)
    (ht : ∀ i x H2 X2, i < len → P i x → Same H1 H2 → On X2 S2 m n → wG X2 tg x (wipe σ vs) H2 fun σ3 H3 => wipe σ3 vs = wipe σ vs ∧ ∀ X3, On X3 S2 m n → wE X3 elt σ3 H3 fun y H4 => Same H2 H4 ∧ y = f i)
    (hd : ∀ H2, Same H1 H2 → H2 Dl = some (.lst ((List.range len).map f)) → Qd H2) :
    ∃ W : Nat → Nat → Hp → Prop, (∃ m, W 0 m (upd H1 Dl (.lst []))) ∧ ∀ i a H, W i a H →
      (J.stop i H ∧ Qd H) ∨ (J.go i H ∧ ∃ Nx : Hp → Prop, (∀ H', Nx H' → ∃ m', m' < a ∧ W (i + 1) m' H') ∧ ∀ x H', J.yld i H x H' → tGs X scope S2 m n tg x (wipe σ vs) H' fun σ2 H2 => wipe σ2 vs = wipe σ vs ∧ tYes σ2 H2 fun b H3 =>
        if b = true then tEs X scope S2 m n elt σ2 H3 fun y H4 => ∃ acc, H4 Dl = some (.lst acc) ∧ acc.length < sizeLine ∧ Nx (upd H4 Dl (.lst (acc ++ [y]))) else Nx H3) := by
  refine lc_it w (LP H1 Dl fun i => some (f i)) (LP.zero hD) (fun i H _ p => hG H p.2.1) (fun i x H H' hi p y => ?_) (fun H p => hd H p.2.1 ?_)
  · obtain ⟨rfl, px⟩ := y
    refine fun X2 C2 => wG_mono (ht i x H' X2 hi px p.2.1 C2) fun σ3 H3 ⟨e, z⟩ => ⟨e, ?_⟩
    unfold tYes
    dsimp only
    rw [if_pos rfl]
    exact fun X3 C3 => wE_mono (z X3 C3) fun y H4 ⟨s4, ey⟩ => LP.yes p s4 (by rw [ey]) (by omega)
  · rw [p.2.2, List.filterMap_eq_map']
/-- .. with a test -/
theorem lc_pureIf (w : Walk J len G fun i H x H' => H' = H ∧ P i x) (hn : len < 16777216) (hG : ∀ H2, Same H1 H2 → G H2) (hD : H1 Dl = none) (f : Nat → Option V)
    (ht : ∀ i x H2 X2, i < len → P i x → Same H1 H2 → On X2 S2 m n → wG X2 tg x (wipe σ vs) H2 fun σ3 H3 => wipe σ3 vs = wipe σ vs ∧ ∀ X3, On X3 S2 m n → wT X3 c σ3 H3 fun b H4 =>
      if b = true then (∀ X4, On X4 S2 m n → wE X4 elt σ3 H4 fun y H5 => Same H2 H5 ∧ f i = some y) else Same H2 H4 ∧ f i = none)
    (hd : ∀ H2, Same H1 H2 → H2 Dl = some (.lst ((List.range len).filterMap f)) → Qd H2) :
    ∃ W : Nat → Nat → Hp → Prop, (∃ m, W 0 m (upd H1 Dl (.lst []))) ∧ ∀ i a H, W i a H →
      (J.stop i H ∧ Qd H) ∨ (J.go i H ∧ ∃ Nx : Hp → Prop, (∀ H', Nx H' → ∃ m', m' < a ∧ W (i + 1) m' H') ∧ ∀ x H', J.yld i H x H' → tGs X scope S2 m n tg x (wipe σ vs) H' fun σ2 H2 => wipe σ2 vs = wipe σ vs ∧ tTs X scope S2 m n c σ2 H2 fun b H3 =>
        if b = true then tEs X scope S2 m n elt σ2 H3 fun y H4 => ∃ acc, H4 Dl = some (.lst acc) ∧ acc.length < sizeLine ∧ Nx (upd H4 Dl (.lst (acc ++ [y]))) else Nx H3) := by
  refine lc_it w (LP H1 Dl f) (LP.zero hD) (fun i H _ p => hG H p.2.1) (fun i x H H' hi p y => ?_) (fun H p => hd H p.2.1 p.2.2)
  obtain ⟨rfl, px⟩ := y
  refine fun X2 C2 => wG_mono (ht i x H' X2 hi px p.2.1 C2) fun σ3 H3 ⟨e, z⟩ => ⟨e, fun X3 C3 => wT_mono (z X3 C3) fun b H4 zb => ?_⟩
  cases b with
  | true =>
    rw [if_pos rfl] at zb ⊢
    exact fun X4 C4 => wE_mono (zb X4 C4) fun y H5 ⟨s5, ey⟩ => LP.yes p s5 ey (by omega)
  | false =>
    rw [if_neg Bool.false_ne_true] at zb ⊢
    exact LP.no p zb.1 zb.2
end
section
variable {X : Cx} {S : Nm} {m : Md} {k n : Nat} {σ : L2.St} {H H1 : Hp} {D : Ends} {pos p : Pos} {Q : VK} {tg iter elt c : Expr} {scope : Scope} {px : Pos} {x : Str}
/-- the slots that a block's own names take, emptied -/
abbrev wp1 (S : Nm) (σ : L2.St) (st : List Nat) : L2.St := wipe σ ((ownOf S.N st).map (·.2))
/-- a new list: what is asked behind a display or a comprehension -/
abbrev NewL (xs : List V) (H : Hp) (Q : VK) : Prop := ∀ p H', H p = none → Same H H' → H' p = some (.lst xs) → Q (.ref p) H'
abbrev NewT (xs : List V) (H : Hp) (Q : VK) : Prop := ∀ p H', H p = none → Same H H' → H' p = some (.tup xs) → Q (.ref p) H'
/-- [elt for x in text] -/
theorem lcS (C : On X S m n) (j : Nat) (gs : List Str) (v : List Nat) (h : blkB S scope gs v [j] = true)
    (q : wE X iter σ H fun t H1 => ∃ z : Str, t = .str z ∧ z.length < 16777216 ∧ ∃ f : Nat → V,
      (∀ (i : Nat) (c : Nat) H2 X2, z.cps[i]? = some c → Same H1 H2 → On X2 (blkNm S scope gs v [j]) m n → wE X2 elt ((wp1 S σ [j]).set j (some (.str ⟨#[c]⟩))) H2 fun y H4 => Same H2 H4 ∧ y = f i) ∧ NewL ((List.range z.cps.size).map f) H1 Q)
    (hw : ∀ y, wipe ((wp1 S σ [j]).set j (some y)) ((ownOf S.N [j]).map (·.2)) = wp1 S σ [j]) (hx : S.N[j]? = some x := by rfl) (hs : ∀ z, foldedSetIterable iter X.env z = pure z := by intro _; rfl) :
    wL X elt (.Name x px) iter [] scope σ H Q := by
  refine w_lc C gs v [j] h (pi_str pE) ?_ hs
  refine fun pins s I => thn (q pins s I) fun u s1 ⟨t, H1, I1, r1, z, ez, hz, f, hf, hd⟩ => ⟨t, H1, I1, r1, z, ez, fun Dl hD => ?_⟩
  have hz' : z.cps.size < 16777216 := hz
  refine lc_pure (walk_str.mono (G' := fun _ => True) (fun _ h => h) fun i H a H' _ _ y => y) hz' (fun _ _ => trivial) hD f (fun i a H2 X2 _ pa s2 C2 => ?_) (fun H2 s2 e2 => hd Dl H2 hD s2 e2)
  obtain ⟨c, ec, rfl⟩ := pa
  exact g_name C2 j ⟨hw _, fun X3 C3 => hf i c H2 X3 ec s2 C3⟩ hx (List.mem_singleton.mpr rfl)
theorem lcSIf (C : On X S m n) (j : Nat) (gs : List Str) (v : List Nat) (h : blkB S scope gs v [j] = true)
    (q : wE X iter σ H fun t H1 => ∃ z : Str, t = .str z ∧ z.length < 16777216 ∧ ∃ f : Nat → Option V,
      (∀ (i : Nat) (a : Nat) H2 X2, z.cps[i]? = some a → Same H1 H2 → On X2 (blkNm S scope gs v [j]) m n → wT X2 c ((wp1 S σ [j]).set j (some (.str ⟨#[a]⟩))) H2 fun b H4 =>
        if b = true then (∀ X4, On X4 (blkNm S scope gs v [j]) m n → wE X4 elt ((wp1 S σ [j]).set j (some (.str ⟨#[a]⟩))) H4 fun y H5 => Same H2 H5 ∧ f i = some y) else Same H2 H4 ∧ f i = none) ∧ NewL ((List.range z.cps.size).filterMap f) H1 Q)
    (hw : ∀ y, wipe ((wp1 S σ [j]).set j (some y)) ((ownOf S.N [j]).map (·.2)) = wp1 S σ [j]) (hx : S.N[j]? = some x := by rfl) (hs : ∀ z, foldedSetIterable iter X.env z = pure z := by intro _; rfl) :
    wL X elt (.Name x px) iter [c] scope σ H Q := by
  refine w_lcIf C gs v [j] h (pi_str pE) ?_ hs
  refine fun pins s I => thn (q pins s I) fun u s1 ⟨t, H1, I1, r1, z, ez, hz, f, hf, hd⟩ => ⟨t, H1, I1, r1, z, ez, fun Dl hD => ?_⟩
  have hz' : z.cps.size < 16777216 := hz
  refine lc_pureIf (walk_str.mono (G' := fun _ => True) (fun _ h => h) fun i H a H' _ _ y => y) hz' (fun _ _ => trivial) hD f (fun i a H2 X2 _ pa s2 C2 => ?_) (fun H2 s2 e2 => hd Dl H2 hD s2 e2)
  obtain ⟨c, ec, rfl⟩ := pa
  exact g_name C2 j ⟨hw _, fun X3 C3 => hf i c H2 X3 ec s2 C3⟩ hx (List.mem_singleton.mpr rfl)
/-- [elt for x in list] -/
theorem lcL (C : On X S m n) (j : Nat) (gs : List Str) (v : List Nat) (h : blkB S scope gs v [j] = true)
    (q : wE X iter σ H fun t H1 => ∃ a xs, t = .ref a ∧ SqL m.K H1 a xs ∧ xs.length < 16777216 ∧ ∃ f : Nat → V,
      (∀ (i : Nat) (y : V) H2 X2, xs[i]? = some y → Same H1 H2 → On X2 (blkNm S scope gs v [j]) m n → wE X2 elt ((wp1 S σ [j]).set j (some y)) H2 fun y H4 => Same H2 H4 ∧ y = f i) ∧ NewL ((List.range xs.length).map f) H1 Q)
    (hw : ∀ y, wipe ((wp1 S σ [j]).set j (some y)) ((ownOf S.N [j]).map (·.2)) = wp1 S σ [j]) (hx : S.N[j]? = some x := by rfl) (hs : ∀ z, foldedSetIterable iter X.env z = pure z := by intro _; rfl) :
    wL X elt (.Name x px) iter [] scope σ H Q := by
  refine w_lc C gs v [j] h (pi_list pE) ?_ hs
  rw [C.K]
  refine fun pins s I => thn (q pins s I) fun u s1 ⟨t, H1, I1, r1, a, xs, ea, hxs, hz, f, hf, hd⟩ => ⟨t, H1, I1, r1, a, ea, ⟨xs, hxs⟩, fun Dl hD => ?_⟩
  refine lc_pure (walk_list (xs := xs)) hz (fun H2 s2 => s2.seq hxs) hD f (fun i y H2 X2 _ py s2 C2 => ?_) (fun H2 s2 e2 => hd Dl H2 hD s2 e2)
  exact g_name C2 j ⟨hw _, fun X3 C3 => hf i y H2 X3 py s2 C3⟩ hx (List.mem_singleton.mpr rfl)
theorem lcLIf (C : On X S m n) (j : Nat) (gs : List Str) (v : List Nat) (h : blkB S scope gs v [j] = true)
    (q : wE X iter σ H fun t H1 => ∃ a xs, t = .ref a ∧ SqL m.K H1 a xs ∧ xs.length < 16777216 ∧ ∃ f : Nat → Option V,
      (∀ (i : Nat) (y : V) H2 X2, xs[i]? = some y → Same H1 H2 → On X2 (blkNm S scope gs v [j]) m n → wT X2 c ((wp1 S σ [j]).set j (some y)) H2 fun b H4 =>
        if b = true then (∀ X4, On X4 (blkNm S scope gs v [j]) m n → wE X4 elt ((wp1 S σ [j]).set j (some y)) H4 fun y H5 => Same H2 H5 ∧ f i = some y) else Same H2 H4 ∧ f i = none) ∧ NewL ((List.range xs.length).filterMap f) H1 Q)
    (hw : ∀ y, wipe ((wp1 S σ [j]).set j (some y)) ((ownOf S.N [j]).map (·.2)) = wp1 S σ [j]) (hx : S.N[j]? = some x := by rfl) (hs : ∀ z, foldedSetIterable iter X.env z = pure z := by intro _; rfl) :
    wL X elt (.Name x px) iter [c] scope σ H Q := by
  refine w_lcIf C gs v [j] h (pi_list pE) ?_ hs
  rw [C.K]
  refine fun pins s I => thn (q pins s I) fun u s1 ⟨t, H1, I1, r1, a, xs, ea, hxs, hz, f, hf, hd⟩ => ⟨t, H1, I1, r1, a, ea, ⟨xs, hxs⟩, fun Dl hD => ?_⟩
  refine lc_pureIf (walk_list (xs := xs)) hz (fun H2 s2 => s2.seq hxs) hD f (fun i y H2 X2 _ py s2 C2 => ?_) (fun H2 s2 e2 => hd Dl H2 hD s2 e2)
  exact g_name C2 j ⟨hw _, fun X3 C3 => hf i y H2 X3 py s2 C3⟩ hx (List.mem_singleton.mpr rfl)
end
section
variable {X : Cx} {S : Nm} {m : Md} {k n : Nat} {σ : L2.St} {H H1 : Hp} {D : Ends} {pos p : Pos} {Q : VK} {a elt c : Expr} {scope : Scope} {px : Pos} {x : Str}
/-- [elt for x in range(n)], the pieces leaving what is known -/
theorem lcR (C : On X S m n) (jr : Nat) (hm : m.mg "range" = none) (j : Nat) (gs : List Str) (v : List Nat) (h : blkB S scope gs v [j] = true)
    (q : wE X a σ H fun t H1 => ∃ len : Int, t = .int len ∧ (-(2 ^ 62) ≤ len ∧ len < 16777216) ∧ ∃ f : Nat → V,
      (∀ (i : Nat) H2 X2, i < len.toNat → Same H1 H2 → On X2 (blkNm S scope gs v [j]) m n → wE X2 elt ((wp1 S σ [j]).set j (some (.int (i : Int)))) H2 fun y H4 => Same H2 H4 ∧ y = f i) ∧ NewL ((List.range len.toNat).map f) H1 Q)
    (hw : ∀ y, wipe ((wp1 S σ [j]).set j (some y)) ((ownOf S.N [j]).map (·.2)) = wp1 S σ [j]) (hx : S.N[j]? = some x := by rfl) (hi : S.gs[jr]? = some ("range" : Str) := by rfl) (hs : starEach [a] X.env = [(false, eval a X.env)] := by rfl)
    (hf : ∀ z, foldedSetIterable (.Call (.Name "range" p) [a] [] pos) X.env z = pure z := by intro _; rfl) :
    wL X elt (.Name x px) (.Call (.Name "range" p) [a] [] pos) [] scope σ H Q := by
  refine w_lc C gs v [j] h (pi_range1 (C.gl jr _ hi).1 (by rw [C.mg]; exact hm) (pa_cons pE pa_nil hs) hs) ?_ hf
  refine fun pins s I => thn (q pins s I) fun u s1 ⟨t, H1, I1, r1, len, et, hl, f, hf, hd⟩ => ⟨t, H1, I1, r1, len, by rw [et], hl.1, by omega, fun Dl hD => ?_⟩
  refine lc_pure (walk_range.mono (G' := fun _ => True) (fun _ h => h) fun i H a H' _ _ y => y) (by omega) (fun _ _ => trivial) hD f (fun i a H2 X2 hi pa s2 C2 => ?_) (fun H2 s2 e2 => hd Dl H2 hD s2 e2)
  have e0 : (0 : Int) + (i : Int) = (i : Int) := Int.zero_add _
  have pa2 : a = .int (i : Int) := by
    rw [← e0]
    exact pa
  rw [pa2]
  exact g_name C2 j ⟨hw _, fun X3 C3 => hf i H2 X3 hi s2 C3⟩ hx (List.mem_singleton.mpr rfl)
end
section
variable {X : Cx} {S : Nm} {m : Md} {n : Nat}
theorem w_tupN {σ : L2.St} {H : Hp} {Q : VK} {es : List Expr} {k : Nat} {pos : Pos} (q : wA X es σ H fun xs H1 => xs.length ≤ sizeLine ∧ NewT xs H1 Q) : wE X (.Tuple es k pos) σ H Q :=
  w_tup (wA_mono q fun xs H1 ⟨a, b⟩ => ⟨a, fun p hp => b p _ hp (same_new hp) upd_same⟩)
theorem w_lstN {σ : L2.St} {H : Hp} {Q : VK} {es : List Expr} {pos : Pos} (q : wA X es σ H fun xs H1 => xs.length ≤ sizeLine ∧ NewL xs H1 Q) : wE X (.List es pos) σ H Q :=
  w_lst (wA_mono q fun xs H1 ⟨a, b⟩ => ⟨a, fun p hp => b p _ hp (same_new hp) upd_same⟩)
theorem c_all (C : On X S m n) : CallR X (.builtin "all") (rAll m.K) := by rw [← C.K]; exact cr_all C.calm
theorem c_any (C : On X S m n) : CallR X (.builtin "any") (rAny m.K) := by rw [← C.K]; exact cr_any C.calm
end
end Wp

set_option Elab.async false
set_option linter.all false
set_option maxRecDepth 100000
set_option maxHeartbeats 4000000
/-! Built-in functions, classes and methods, one lemma a call. -/
namespace Wp
open PySem PySem.Spec PyProof.Rows L2
theorem iteNT {A B : Prop} (h : A) : if (!false) = true then A else B := h
theorem iteNF {A B : Prop} (h : B) : if (!true) = true then A else B := h
theorem ite2b {c : Bool} {A B : Prop} (h1 : c = true → A) (h2 : c = false → B) : if c = true then A else B := by
  cases c
  · exact h2 rfl
  · exact h1 rfl
theorem ite2n {c : Bool} {A B : Prop} (h1 : c = false → A) (h2 : c = true → B) : if (!c) = true then A else B := by
  cases c
  · exact h1 rfl
  · exact h2 rfl
section
variable {X : Cx} {S : Nm} {m : Md} {k n : Nat} {σ : L2.St} {H : Hp} {D : Ends} {pos p apos : Pos} {Q : VK} {a b e o : Expr} {es : List Expr}
theorem w_lenS (C : On X S m n) (j : Nat) (hm : m.mg "len" = none) (q : wE X a σ H fun v H1 => ∃ z : Str, v = .str z ∧ z.length ≤ sizeLine ∧ Q (.int z.length) H1) (hi : S.gs[j]? = some ("len" : Str) := by rfl)
    (he : starEach [a] X.env = (false, eval a X.env) :: starEach [] X.env := by rfl) : wE X (.Call (.Name "len" p) [a] [] pos) σ H Q :=
  w_cb C j call_len_str hm PySem.boot_len (wa_cons (wE_mono q fun v H1 ⟨z, ev, hz, q1⟩ => wa_nil ⟨z, by rw [ev], hz, q1⟩) he) hi (by decide) he
theorem w_lenL (C : On X S m n) (j : Nat) (hm : m.mg "len" = none) (q : wE X a σ H fun v H1 => ∃ p xs, v = .ref p ∧ (SqL m.K H1 p xs ∨ SqT m.K H1 p xs) ∧ Q (.int (xs.length : Int)) H1) (hi : S.gs[j]? = some ("len" : Str) := by rfl)
    (he : starEach [a] X.env = (false, eval a X.env) :: starEach [] X.env := by rfl) : wE X (.Call (.Name "len" p) [a] [] pos) σ H Q :=
  w_cb C j call_len_seq hm PySem.boot_len (wa_cons (wE_mono q fun v H1 ⟨p, xs, ev, hx, q1⟩ => wa_nil ⟨p, xs, by rw [ev], by rw [C.K]; exact hx, q1⟩) he) hi (by decide) he
theorem w_all (C : On X S m n) (j : Nat) (hm : m.mg "all" = none) (q : wE X a σ H fun v H1 => ∃ (p : Addr) (bs : List Bool), v = .ref p ∧ SqL m.K H1 p (bs.map V.bl) ∧ Q (.bl (bs.all id)) H1) (hi : S.gs[j]? = some ("all" : Str) := by rfl)
    (he : starEach [a] X.env = (false, eval a X.env) :: starEach [] X.env := by rfl) : wE X (.Call (.Name "all" p) [a] [] pos) σ H Q :=
  w_cb C j (c_all C) hm (by decide +kernel) (wa_cons (wE_mono q fun v H1 ⟨p, bs, ev, hx, q1⟩ => wa_nil ⟨p, bs, by rw [ev], hx, q1⟩) he) hi (by decide) he
theorem w_any (C : On X S m n) (j : Nat) (hm : m.mg "any" = none) (q : wE X a σ H fun v H1 => ∃ (p : Addr) (bs : List Bool), v = .ref p ∧ SqL m.K H1 p (bs.map V.bl) ∧ Q (.bl (bs.any id)) H1) (hi : S.gs[j]? = some ("any" : Str) := by rfl)
    (he : starEach [a] X.env = (false, eval a X.env) :: starEach [] X.env := by rfl) : wE X (.Call (.Name "any" p) [a] [] pos) σ H Q :=
  w_cb C j (c_any C) hm (by decide +kernel) (wa_cons (wE_mono q fun v H1 ⟨p, bs, ev, hx, q1⟩ => wa_nil ⟨p, bs, by rw [ev], hx, q1⟩) he) hi (by decide) he
theorem w_intS (C : On X S m n) (j : Nat) (hm : m.mg "int" = none) (q : wE X a σ H fun v H1 => ∃ (z : Str) (i : Int), v = .str z ∧ PySem.intText? z = some i ∧ z.length ≤ 640 ∧ Q (.int i) H1) (hi : S.gs[j]? = some ("int" : Str) := by rfl)
    (he : starEach [a] X.env = (false, eval a X.env) :: starEach [] X.env := by rfl) : wE X (.Call (.Name "int" p) [a] [] pos) σ H Q :=
  w_ct C j call_int_str hm PyProof.Rows.boot_int (wa_cons (wE_mono q fun v H1 ⟨z, i, ev, h1, h2, q1⟩ => wa_nil ⟨z, i, by rw [ev], h1, h2, q1⟩) he) hi (by decide) he
theorem w_intI (C : On X S m n) (j : Nat) (hm : m.mg "int" = none) (q : wE X a σ H fun v H1 => ∃ i : Int, v = .int i ∧ Q (.int i) H1) (hi : S.gs[j]? = some ("int" : Str) := by rfl)
    (he : starEach [a] X.env = (false, eval a X.env) :: starEach [] X.env := by rfl) : wE X (.Call (.Name "int" p) [a] [] pos) σ H Q :=
  w_ct C j call_int1 hm PyProof.Rows.boot_int (wa_cons (wE_mono q fun v H1 ⟨i, ev, q1⟩ => wa_nil (.inl ⟨i, by rw [ev], q1⟩)) he) hi (by decide) he
theorem w_strI (C : On X S m n) (j : Nat) (hm : m.mg "str" = none) (q : wE X a σ H fun v H1 => ∃ i : Int, v = .int i ∧ i.natAbs.log2 < 1920 ∧ Q (.str (toString i)) H1) (hi : S.gs[j]? = some ("str" : Str) := by rfl)
    (he : starEach [a] X.env = (false, eval a X.env) :: starEach [] X.env := by rfl) : wE X (.Call (.Name "str" p) [a] [] pos) σ H Q :=
  w_ct C j call_str_int hm PyProof.Rows.boot_str (wa_cons (wE_mono q fun v H1 ⟨i, ev, h1, q1⟩ => wa_nil ⟨i, by rw [ev], h1, q1⟩) he) hi (by decide) he
/-- isinstance(x, T), T a built-in class -/
theorem w_isi (C : On X S m n) (j : Nat) (hm : m.mg "isinstance" = none) (q : wA X [a, b] σ H fun vs H1 => ∃ (x : V) (T N : String) (r : Bool), vs = [x, .ty N] ∧ TyX m.K H1 x (.type T) ∧ kitB T N = some r ∧ Q (.bl r) H1) (hi : S.gs[j]? = some ("isinstance" : Str) := by rfl)
    (he : starEach [a, b] X.env = (false, eval a X.env) :: starEach [b] X.env := by rfl) (he2 : starEach [b] X.env = (false, eval b X.env) :: starEach [] X.env := by rfl) : wE X (.Call (.Name "isinstance" p) [a, b] [] pos) σ H Q :=
  w_cb C j call_isi hm PyProof.Rows.boot_isinstance (wA_mono q fun vs H1 ⟨x, T, N, r, ev, h1, h2, q1⟩ => ⟨x, .ty N, .type T, .type N, r, ev, .ty N, by rw [C.K]; exact h1, kit_ty h2, q1⟩) hi (by decide) he (by rw [he2]; rfl)
/-- text methods -/
theorem w_split (q : wE X o σ H fun v H1 => ∃ z : Str, v = .str z ∧ z.length + 2 ≤ sizeLine ∧ wE X e σ H1 fun y H2 => ∃ s : Str, y = .str s ∧ (s.length == 0) = false ∧ NewL ((Txt.split z s).map V.str) H2 Q)
    (hs : starEach [e] X.env = [(false, eval e X.env)] := by rfl) (hbase : attributeBase o "split" X.env (eval o X.env) = eval o X.env := by rfl) (hline : (apos.endLine == pos.line) = true := by rfl) : wE X (.Call (.Attribute o "split" apos) [e] [] pos) σ H Q :=
  ofE (pe_split pE pE hs hbase hline) (wE_mono q fun v H1 ⟨z, ev, hz, q1⟩ => ⟨⟨z, ev⟩, wE_mono q1 fun y H2 ⟨s, ey, hs, q2⟩ => ⟨z, s, ev, by rw [ey], hs, hz, fun p hp => q2 p _ hp (same_new hp) upd_same⟩⟩)
theorem w_join (C : On X S m n) (q : wE X o σ H fun v H1 => ∃ z : Str, v = .str z ∧ wE X e σ H1 fun y H2 => ∃ (p : Addr) (ys : List Str), y = .ref p ∧ (SqL m.K H2 p (ys.map V.str) ∨ SqT m.K H2 p (ys.map V.str)) ∧ (ys.map (·.length)).sum + ys.length * z.length ≤ 16777216 ∧ Q (.str (Txt.join z ys)) H2)
    (hs : starEach [e] X.env = [(false, eval e X.env)] := by rfl) (hbase : attributeBase o "join" X.env (eval o X.env) = eval o X.env := by rfl) (hline : (apos.endLine == pos.line) = true := by rfl) : wE X (.Call (.Attribute o "join" apos) [e] [] pos) σ H Q :=
  ofE (pe_join pE pE hs hbase hline) (wE_mono q fun v H1 ⟨z, ev, q1⟩ => ⟨⟨z, ev⟩, wE_mono q1 fun y H2 ⟨p, ys, ey, hx, hl, q2⟩ => ⟨z, p, ys, ev, by rw [ey], by rw [C.K]; exact hx, hl, q2⟩⟩)
/-- list(xs), tuple(xs) -/
theorem w_listL (C : On X S m n) (j : Nat) (hm : m.mg "list" = none) (q : wE X a σ H fun v H1 => ∃ p xs, v = .ref p ∧ (SqL m.K H1 p xs ∨ SqT m.K H1 p xs) ∧ NewL xs H1 Q) (hi : S.gs[j]? = some ("list" : Str) := by rfl)
    (he : starEach [a] X.env = (false, eval a X.env) :: starEach [] X.env := by rfl) : wE X (.Call (.Name "list" p) [a] [] pos) σ H Q :=
  w_ct C j call_list_of hm PyProof.Rows.boot_list (wa_cons (wE_mono q fun v H1 ⟨p, xs, ev, hx, q1⟩ => wa_nil ⟨p, xs, by rw [ev], by rw [C.K]; exact hx, fun l hl => q1 l _ hl (same_new hl) upd_same⟩) he) hi (by decide) he
theorem w_tupleL (C : On X S m n) (j : Nat) (hm : m.mg "tuple" = none) (q : wE X a σ H fun v H1 => ∃ p xs, v = .ref p ∧ SqL m.K H1 p xs ∧ NewT xs H1 Q) (hi : S.gs[j]? = some ("tuple" : Str) := by rfl)
    (he : starEach [a] X.env = (false, eval a X.env) :: starEach [] X.env := by rfl) : wE X (.Call (.Name "tuple" p) [a] [] pos) σ H Q :=
  w_ct C j call_tuple_of hm PyProof.Rows.boot_tuple (wa_cons (wE_mono q fun v H1 ⟨p, xs, ev, hx, q1⟩ => wa_nil ⟨p, xs, by rw [ev], .inl ⟨by rw [C.K]; exact hx, fun l hl => q1 l _ hl (same_new hl) upd_same⟩⟩) he) hi (by decide) he
/-- xs.append(e), as a statement: xs stands at l -/
theorem s_append (C : On X S m n) (q : wE X o σ H fun v H1 => ∃ l, v = .ref l ∧ (∃ ys, SqL m.K H1 l ys) ∧ wE X e σ H1 fun y H2 => ∃ xs, H2 l = some (.lst xs) ∧ xs.length < sizeLine ∧ D.nx σ (upd H2 l (.lst (xs ++ [y]))))
    (hs : starEach [e] X.env = (false, eval e X.env) :: starEach [] X.env := by rfl) (hbase : attributeBase o "append" X.env (eval o X.env) = eval o X.env := by rfl) (hline : (apos.endLine == pos.line) = true := by rfl) {pos2 : Pos}
    (hfew : ((backTo pos (starEach [e] X.env)).all (fun x => !x.1) && (backToKw pos (keywordEach [] X.env)).all (fun x => x.1.isSome)
      && decide ([e].length + ([] : List Keyword).length + (if ([] : List Keyword).isEmpty then 0 else 1) < 30)) = true := by rfl)
    (hsw : swapsWith (.Call (.Attribute o "append" apos) [e] [] pos) none pos2.line X.env = pure false := by rfl) : wS X (.Expr (.Call (.Attribute o "append" apos) [e] [] pos) pos2) D σ H := by
  refine s_expr (w_bm PySem.F.plainAttrs_list PySem.F.slot_list_append PySem.F.type_list_append mt_append ?_ hbase hfew hline hs (by rfl)) hsw
  refine wE_mono q fun v H1 ⟨l, ev, ⟨ys, hy⟩, q1⟩ => ?_
  subst ev
  refine ⟨.inl ⟨rfl, ys, by rw [C.K]; exact hy⟩, wa_cons (wE_mono q1 fun y H2 ⟨xs, h1, h2, q2⟩ => wa_nil ⟨l, xs, y, rfl, rfl, h1, h2, q2⟩) hs⟩
end
end Wp

set_option Elab.async false
set_option linter.all false
set_option maxRecDepth 100000
set_option maxHeartbeats 4000000
/-! Own exception classes of one, two or three fields: made and raised; a try with several clauses. -/
namespace Wp
open PySem PySem.Spec PyProof.Rows L2
/-! ### the class's facts by a Bool -/
def oexB (K : PySem.W.Frag) (C : Addr) : Bool := (match K.lookup C with
  | some ⟨.type t, _, .cls cd, sl⟩ => (match cd.mro, sl.toList with
    | .ref C' :: bm, [_, _, _, _, some (.builtin n), _] => decide (t = "type") && (decide (C' = C) && (decide (n = "ValueError.__new__") && (!cd.hasDel && (cd.hasDict && PySem.HandSPX.refsVE bm))))
    | _, _ => false)
  | _ => false) && (decide (PySem.W.findIn K (.ref C) "__setattr__" = some (some (.builtin "object.__setattr__"))) && (decide (PySem.W.subIn K (.ref C) (.type "BaseException") = some true) &&
  (decide (PySem.W.typeIn K (.ref C) = some (.type "type")) && PySem.W.keepIn K (.ref C))))
theorem oexB_ok {K : PySem.W.Frag} {C : Addr} (h : oexB K C = true) : OexC K C := by
  unfold oexB at h
  simp only [Bool.and_eq_true, decide_eq_true_eq] at h
  obtain ⟨h0, h1, h2, h3, h4⟩ := h
  refine ⟨?_, h1, h2, h3, h4⟩
  split at h0
  · rename_i t dd cd sl ho
    split at h0
    · rename_i C' bm k0 k1 k2 k3 n k5 hm hs
      simp only [Bool.and_eq_true, decide_eq_true_eq, Bool.not_eq_true'] at h0
      obtain ⟨rfl, rfl, rfl, hdel, hdict, hr⟩ := h0
      obtain ⟨nm, bs, mro, ns, qn, hd, sn, sub, ab, col, del⟩ := cd
      dsimp only at hm hdel hdict
      subst hm hdel hdict
      have hsl : sl = #[k0, k1, k2, k3, some (.builtin "ValueError.__new__"), k5] := by
        obtain ⟨l⟩ := sl
        simp only at hs
        rw [hs]
      subst hsl
      exact ⟨nm, qn, ns, bs, bm, sn, sub, ab, col, dd, k0, k1, k2, k3, k5, ho, hr⟩
    · cases h0
  · cases h0
/-! ### self.f = e in such an __init__ -/
/-- an own exception's __init__(self, f, ..): self.f = f .. for its fields fs; vs their values -/
def spXI (C : Addr) (fs : List Str) : Sp := fun us H Q _ => ∃ (a : Addr) (vs : List V), us = .ref a :: vs ∧ vs.length = fs.length ∧ H a = some (exo a C none) ∧
  ∀ d H', H d = none → d ≠ a → Mu2 a H H' → H' a = some (exo a C (some d)) → H' d = some (exd d (fs.zip vs).reverse) → Q .non H'
where
  /-- all but a is as it was -/
  Mu2 (a : Addr) (H H' : Hp) : Prop := ∀ b o, b ≠ a → H b = some o → H' b = some o
section
variable {X : Cx} {S : Nm} {m : Md} {k n : Nat} {σ : L2.St} {H : Hp} {D : Ends} {pos p p1 p2 p3 pos' : Pos} {Q : VK} {e o : Expr} {es : List Expr} {f : Str} {C0 : Addr}
theorem s_ost (C : On X S m n) (q : wE X e σ H fun y H1 => wE X o σ H1 fun x H2 => ∃ a c : Addr, x = .ref a ∧ OexC m.K c ∧ PySem.W.findIn m.K (.ref c) f = some none ∧
  ((H2 a = some (exo a c none) ∧ ∀ dx, H2 dx = none → dx ≠ a → D.nx σ (upd (upd H2 dx (exd dx [(f, y)])) a (exo a c (some dx)))) ∨
    ∃ (dx : Addr) (fs : List (Str × V)), H2 a = some (exo a c (some dx)) ∧ H2 dx = some (exd dx fs) ∧ fs.length ≤ 900 ∧ D.nx σ (upd H2 dx (exd dx ((f, y) :: fs)))))
    (hs : swapsWith e (some (.Attribute o f p1)) pos.line X.env = pure false := by rfl) : wS X (.Assign [.Attribute o f p1] e pos) D σ H := by
  have h := ps_ost (X := X) (f := f) (p' := p1) (pos := pos) (o := o) (e := e) pE pE hs
  rw [C.K] at h
  exact ofS h q
end
/-- the class at C named x, of the fields fs: its facts, its __init__'s promise -/
structure Xc (m : Md) (x : Str) (C : Addr) (fs : List Str) : Prop where
  T : OexC m.K C
  gC : m.mg x = some (.ref C)
  no : ∀ f ∈ fs, PySem.W.findIn m.K (.ref C) f = some none
  init : ∃ (fI : Addr) (fd : FuncData), PySem.W.findIn m.K (.ref C) "__init__" = some (some (.ref fI)) ∧ PySem.W.typeIn m.K (.ref fI) = some (.type "function") ∧ FnOk m.prog m.w m.K m.mg m.base (L2.CX m.prog m.w) 1 fI fd ("self" :: fs) (spXI C fs) ∧ Binds m.K fd ("self" :: fs) []
section
variable {X : Cx} {S : Nm} {m : Md} {k n : Nat} {σ : L2.St} {H : Hp} {D : Ends} {pos p pos' : Pos} {e : Expr} {es : List Expr} {x : Str} {C0 : Addr} {fs : List Str} {W : WX}
/-- raise x(e, ..) -/
theorem s_raise (C : On X S m n) (tk : Takes X W) (j : Nat) (Z : Xc m x C0 fs) (hl : fs.length ≤ 100) (q : wA X (e :: es) σ H fun vs H1 => vs.length = fs.length ∧ ∀ d H', H1 d = none → Same H1 H' → H' d = some (.xd (fs.zip vs).reverse) → W (.ref C0) (some d) σ H')
    (hi : S.gs[j]? = some x := by rfl) (hk : 2 ≤ n := by decide) (he : starEach (e :: es) X.env = (false, eval e X.env) :: starEach es X.env := by rfl) (hpl : (backTo pos (starEach es X.env)).any (·.1) = false := by rfl) :
    wS X (.Raise (some (.Call (.Name x p) (e :: es) [] pos)) none pos') D σ H := by
  obtain ⟨fI, fd, h1, h2, F, hb⟩ := Z.init
  have em := C.hm
  subst em
  have g := C.gl j x hi
  refine ofS (ps_raise (X := X) C.calm tk (pmk_oex (X := X) Z.T h1 h2 F (C.room.mono hk) hb .nil passL g.1 Z.gC pA g.2 he hpl)) ?_
  refine wA_mono q fun vs H1 ⟨hv, q1⟩ => ⟨by omega, fun a ha => ?_⟩
  refine ⟨a, vs, by rw [List.append_nil], hv, upd_same, fun d H2 hd da mu ea ed => ⟨rfl, d, _, ea, ed, ?_, ?_⟩⟩
  · rw [upd_ne da] at hd
    exact hd
  · rw [upd_ne da] at hd
    refine q1 d _ hd (fun b o hbo => ?_) upd_same
    have hba : b ≠ a := ne_of_none hbo ha
    rw [upd_ne (ne_of_none hbo hd), del_ne hba]
    exact mu b o hba (by rw [upd_ne hba]; exact hbo)
end
/-- __init__ of two fields: its body's promise -/
theorem xi_two {m : Md} {x q : Str} {st : Stmt} {fI : Addr} {fd : FuncData} {C : Addr} {f g : Str} {pa pb pc pd qa qb qc qd : Pos} (T : OexC m.K C) (nf : PySem.W.findIn m.K (.ref C) f = some none) (ng : PySem.W.findIn m.K (.ref C) g = some none)
    (F : FnP m x q st fI fd) (hb : defBody st = [.Assign [.Attribute (.Name "self" pa) f pb] (.Name f pc) pd, .Assign [.Attribute (.Name "self" qa) g qb] (.Name g qc) qd]) (hS : (defNm ["self", f, g] st [] []).okB true = true) (hF : fsB ["self", f, g] ["self", f, g] (defScope st) = true) :
    FnOk m.prog m.w m.K m.mg m.base (L2.CX m.prog m.w) 1 fI fd ["self", f, g] (spXI C [f, g]) := by
  refine fn_df (S := defNm ["self", f, g] st [] []) (k := 0) F hS hF rfl (fun vs H Q E h => ?_) (fun X vs H Q E On B h => ?_)
  · obtain ⟨a, ws, rfl, hl, _⟩ := h
    rw [List.length_cons, hl]
    rfl
  · obtain ⟨a, ws, rfl, hl, ha, k⟩ := h
    match ws, hl with
    | [y, z], _ =>
      rw [hb]
      refine b_cons (s_ost On ?_)
      refine wv On 1 ?_ (hv := (by decide : 1 ∈ List.range 3))
      refine wv On 0 ?_ (hv := (by decide : 0 ∈ List.range 3))
      refine ⟨a, C, rfl, T, nf, .inl ⟨ha, fun dx hd da => ?_⟩⟩
      refine b_one (s_ost On ?_)
      refine wv On 2 ?_ (hv := (by decide : 2 ∈ List.range 3))
      refine wv On 0 ?_ (hv := (by decide : 0 ∈ List.range 3))
      refine ⟨a, C, rfl, T, ng, .inr ⟨dx, [(f, y)], by rw [upd_same], by rw [upd_ne da, upd_same], Nat.le_of_ble_eq_true rfl, ?_⟩⟩
      refine k dx _ hd da (fun b o h1 h2 => ?_) ?_ ?_
      · rw [upd_ne (ne_of_none h2 hd), upd_ne h1, upd_ne (ne_of_none h2 hd)]
        exact h2
      · rw [upd_ne da.symm, upd_same]
      · exact upd_same
end Wp

set_option Elab.async false
set_option linter.all false
set_option maxRecDepth 100000
set_option maxHeartbeats 4000000
/-! try: .. except A as e: .. except B as e: ..: the clauses one after another, the error bound to one name (slot i). -/
namespace Wp
open PySem PySem.Spec PyProof.Rows L2
/-- a clause: the class, what its suite is asked -/
abbrev Cl : Type := Value × (Addr → Value → Option Addr → TS)
/-- the ways out of a clause's suite: the name is let go -/
abbrev unAs (i : Nat) (D : Ends) : Ends := { nx := fun σ H => D.nx (σ.set i none) H, rt := D.rt, bk := fun σ H => D.bk (σ.set i none) H, ct := fun σ H => D.ct (σ.set i none) H }
/-- what the clauses ask of an error of the body -/
def asWish (K : PySem.W.Frag) (i : Nat) (W0 : WX) (D : Ends) : List Cl → WX
  | [] => W0
  | (c, ts) :: r => fun cls d σ H => (PySem.W.exmOne K cls c = some true ∧ ∀ a, H a = none → ts a cls d (unAs i D) (σ.set i (some (.ref a))) H) ∨ (PySem.W.exmOne K cls c = some false ∧ asWish K i W0 D r cls d σ H)
inductive Clauses (X : Cx) (n : Str) : List ExceptHandler → List Cl → Prop
  | nil : Clauses X n [] []
  | cons {x : Str} {c : Value} {ts : Addr → Value → Option Addr → TS} {b₀ : Stmt} {suite : List Stmt} {np p2 : Pos} {hs : List ExceptHandler} {l : List Cl} (hc : Names X x c)
      (hsu : ∀ (a : Addr) (oe : Obj) (cls : Value) (d : Option Addr) (pn : List (Addr × Obj)), Zc cls d oe → (∃ vs, oe.data = .fields vs) → PSs (X.suite a ((a, oe) :: pn)) (b₀ :: suite) (ts a cls d)) (r : Clauses X n hs l) :
      Clauses X n (.ExceptHandler (some (.Name x np)) (some n) (b₀ :: suite) p2 :: hs) ((c, ts) :: l)
section
variable {X : Cx} {n : Str} {i : Nat} {body : List Stmt} {h₀ : ExceptHandler} {hds : List ExceptHandler} {l : List Cl} {pos : Pos} {tb : WX → TS} {W0 : WX}
/-- a suite's end: the name n is unbound -/
theorem suite_end {a : Addr} {oe : Obj} {pn pins : List (Addr × Obj)} {D : Ends} {s : Shared} {p2 : Pos} {f : Flow} (ok : X.Ok) (hN : X.N.Nodup) (hi : X.N[i]? = some n) (hln : X.env.kindOf n = some .local) (z : SP (X.suite a ((a, oe) :: (pn ++ pins))) [] (unAs i D) f s)
    (conv : ∀ {σ : L2.St} {H : Hp}, Inv (X.suite a ((a, oe) :: (pn ++ pins))) [] σ H s → Inv X pins σ H s) :
    wpAny (model X.prog X.w) X.A (do bindName X.env n .none; unbindBehindTheSuite X.env n p2) (fun _ s7 => SP X pins D f s7) X.xe s := by
  cases f with
  | next => obtain ⟨σ6, H6, S6, q6⟩ := z; exact gone_ok (conv S6) hN hi hln fun s7 J7 => ⟨_, _, J7, q6⟩
  | brk => obtain ⟨σ6, H6, S6, q6⟩ := z; exact gone_ok (conv S6) hN hi hln fun s7 J7 => ⟨_, _, J7, q6⟩
  | cont => obtain ⟨σ6, H6, S6, q6⟩ := z; exact gone_ok (conv S6) hN hi hln fun s7 J7 => ⟨_, _, J7, q6⟩
  | ret u => obtain ⟨v6, σ6, H6, S6, r6, q6⟩ := z; exact gone_ok (conv S6) hN hi hln fun s7 J7 => ⟨_, _, _, J7, r6, q6⟩
theorem try_as (hs : X.stack = X.env :: X.outer) (hf : X.env.frame = some X.env.locals) (hN : X.N.Nodup) (hi : X.N[i]? = some n) (hln : X.env.kindOf n = some .local) (tk : Takes X W0)
    (hb : ∀ (W : WX) (pn : List (Addr × Obj)) (xe : Value → Shared → Prop), Takes (X.tr pn xe) W → PassesOwn (model X.prog X.w) X.A X.env xe → PSs (X.tr pn xe) body (tb W))
    (hh : Clauses X n (h₀ :: hds) l) : PS X (.Try body (h₀ :: hds) [] [] pos) (fun D σ H => tb (asWish X.K i W0 D l) D σ H) := by
  refine ⟨fun pins s σ H D I h => ?_⟩
  have ok := I.ok
  have hfr : X.A.frames = some (X.env :: X.outer) := by rw [ok.frames, hs]
  refine wpAny_Try_except (wpAny_mono ((hb (asWish X.K i W0 D l) (X.pn ++ pins) (fun e s₁ => wpAny (model X.prog X.w) X.A (noteFrame e X.env) (fun _ s₂ => wpAny (model X.prog X.w) X.A (setFlight e none) (fun _ s₃ =>
    wpAny (model X.prog X.w) X.A (handleBy e X.env (h₀ :: hds)) (SP X pins D) X.xe s₃) X.xe s₂) X.xe s₁) (fun u s' xx => ?_) PassesOwn.looking).run [] s σ H D (I.toTry _) h) (fun f s1 z => ?_) fun e s1 z => z)
  · obtain ⟨a, B, sI, pins', σ', H', cls, d, rfl, J', nb, up, sky, na, os, ag, wish⟩ := xx
    have J : Inv X pins σ' H' sI := J'.ofTry ok
    rw [hs] at sky
    show wpAny _ X.A (noteFrame (.ref a) X.env) _ _ _
    refine Sky.land Zc.steady hfr hf sky fun h3 fl3 up3 => ?_
    have J3 : Inv X pins σ' H' { s' with heap := h3 } := J.landed nb fl3.1 (up.trans up3) os ag
    obtain ⟨oe3, vs3, he3, hz3, hd3⟩ := fl3.there
    have nfr : a ∉ frs (X.env :: X.outer) := fun hm => by
      obtain ⟨_, o', e', hnf⟩ := fl3.2.2.1.mem hm
      rw [he3] at e'
      cases e'
      exact hnf _ hd3
    have nL : a ≠ X.env.locals := fun z => nfr (List.mem_filterMap.mpr ⟨X.env, List.mem_cons_self, by rw [hf, z]⟩)
    have nF : a ∉ X.fs := fun hm => by
      obtain ⟨e, he, q⟩ := List.mem_filterMap.mp hm
      exact nfr (List.mem_filterMap.mpr ⟨e, List.mem_cons_of_mem _ he, q⟩)
    have S3 := J3.suite he3 hd3 na nL nF
    have LT : PySem.W.Looks (model X.prog X.w) h3 (typeOf (.ref a)) cls := fun A Q E s k q => wpAny_typeOf_ref (k _ _ he3) (by rw [hz3.1]; exact q)

    have all : ∀ {hs' : List ExceptHandler} {l' : List Cl}, Clauses X n hs' l' → asWish X.K i W0 D l' cls d σ' H' → wpAny (model X.prog X.w) X.A (handleBy (.ref a) X.env hs') (SP X pins D) X.xe { s' with heap := h3 } := by
      intro hs' l' hk
      induction hk with
      | nil =>
        intro w
        refine wpAny_handleBy_nil ?_
        obtain ⟨_, _, _, oe, vs, T, oT, ts', he, hz, hd, h1, hr⟩ := id fl3
        unfold PySem.passOn
        refine wpAny_bind (wpAny_field he hd h1 ?_)
        rw [if_neg (show ¬ ((Value.ref T == Value.none) = true) from by simp)]
        have fin : wpAny (model X.prog X.w) X.A (setFlight (.ref a) X.env.frame) (fun _ s4 => wpAny (model X.prog X.w) X.A (throw (.ref a) : Sem Flow) (SP X pins D) X.xe s4) X.xe { s' with heap := h3 } := by
          rw [hf]
          refine HandSPX.setFlight_upZ fl3 fun h4 hh4 up4 => wpAny_throw (tk _ _ ⟨a, B, sI, pins, σ', H', cls, d, rfl, J, nb, (up.trans up3).trans up4, .inr (.inr (by rw [hs]; exact hh4)), na, os, ag, w⟩)
        first
          | exact wpAny_bind (wpAny_pure (wpAny_bind fin))
          | exact wpAny_bind fin
      | @cons x c ts b₀ suite np p2 hs2 l2 hc hsu r ih =>
        intro w
        refine wpAny_handleBy_cons (codeAny_handlers_test ?_) (by intro q; cases q)
        have test : ∀ {Q E : Value → Shared → Prop}, Q c { s' with heap := h3 } → wpAny (model X.prog X.w) (X.A.mark (some (.ref a))) (eval (.Name x np) X.env) Q E { s' with heap := h3 } := fun {Q E} q => by
          obtain ⟨hg, hdbg, hm | ⟨hm, hv, hnn⟩⟩ := hc
          · exact ld_glob (X := X.suite a ((a, oe3) :: (X.pn ++ pins))) S3 hg hm q hdbg
          · exact ld_blt (X := X.suite a ((a, oe3) :: (X.pn ++ pins))) S3 hg hm hv q hnn hdbg
        rcases w with ⟨hb1, hyes⟩ | ⟨hb1, hno⟩
        · refine test ((PySem.W.exm_one (M := model X.prog X.w) J3.kIn LT hb1).here (codeAny_handlers_suite_as ?_))
          refine HandSPX.lands_againZ fl3 fun h4 fl4 up4 => ?_
          have J4 : Inv X pins σ' H' { s' with heap := h4 } := J.landed nb fl4.1 ((up.trans up3).trans up4) os ag
          obtain ⟨oe4, vs4, he4, hz4, hd4⟩ := fl4.there
          refine store_ok (X := X.suite a ((a, oe4) :: (X.pn ++ pins))) (v := .ref a) (J4.suite he4 hd4 na nL nF) hN hi (.inl hln) rfl (fun s5 S5 => ?_) (.inr hln)
          exact wpAny_mono ((hsu a oe4 cls d (X.pn ++ pins) hz4 ⟨_, hd4⟩).run [] s5 _ H' _ S5 (hyes a na)) (fun f s6 z => suite_end ok hN hi hln z fun S6 => S6.unsuite ok) fun _ _ z => False.elim z
        · exact test ((PySem.W.exm_one (M := model X.prog X.w) J3.kIn LT hb1).here (ih hno))
    exact all hh wish
  · cases f with
    | next =>
      obtain ⟨σ', H', J', q⟩ := z
      exact wpAny_execs_nil ⟨σ', H', J'.ofTry ok, q⟩
    | brk =>
      obtain ⟨σ', H', J', q⟩ := z
      exact ⟨σ', H', J'.ofTry ok, q⟩
    | cont =>
      obtain ⟨σ', H', J', q⟩ := z
      exact ⟨σ', H', J'.ofTry ok, q⟩
    | ret u =>
      obtain ⟨v, σ', H', J', r, q⟩ := z
      exact ⟨v, σ', H', J'.ofTry ok, r, q⟩
end
end Wp

set_option Elab.async false
set_option linter.all false
set_option maxRecDepth 100000
set_option maxHeartbeats 4000000
/-! in, not in; written dicts; enumerate; instances. -/
namespace Wp
open PySem PySem.Spec PyProof.Rows L2
section
variable {X : Cx} {S : Nm} {m : Md} {k n : Nat} {σ : L2.St} {H : Hp} {D : Ends} {pos p pos2 : Pos} {Q : VK} {e : Expr} {x : V} {z : Str}
theorem o_inS (C : On X S m n) {a : Addr} {xs : List V} (h : SqL m.K H a xs ∨ SqT m.K H a xs) (hx : flatV x = true) (hf : xs.all flatV = true) (q : Q (.bl (inV x xs)) H) : wO X (compareOp .In) x (.ref a) H Q := ofO op_in_seq ⟨a, xs, rfl, by rw [C.K]; exact h, hx, hf, q⟩
theorem o_niS (C : On X S m n) {a : Addr} {xs : List V} (h : SqL m.K H a xs ∨ SqT m.K H a xs) (hx : flatV x = true) (hf : xs.all flatV = true) (q : Q (.bl (!inV x xs)) H) : wO X (compareOp .NotIn) x (.ref a) H Q := ofO op_notIn_seq ⟨a, xs, rfl, by rw [C.K]; exact h, hx, hf, q⟩
/-- a written dict with text keys: row z: the value at z, as one knows it -/
structure Tb (m : Md) (x : Str) (has : Str → Bool) (row : Str → V → Prop) : Prop where
  ex : ∃ (d : Addr) (es : Array DictEntry) (n : Nat), m.mg x = some (.ref d) ∧ KDict m.K m.w d es n ∧ ∀ z, (has z = false → PySem.W.nsIn m.K d z = some none) ∧ (has z = true → ∃ u v, PySem.W.nsIn m.K d z = some (some u) ∧ RelV v u ∧ row z v)
theorem Tb.is {has : Str → Bool} {row : Str → V → Prop} {d : Addr} (h : ∀ z, (has z = false → PySem.W.nsIn m.K d z = some none) ∧ (has z = true → ∃ u v, PySem.W.nsIn m.K d z = some (some u) ∧ RelV v u ∧ row z v)) (z : Str) : ∃ r, PySem.W.nsIn m.K d z = some r ∧ r.isSome = has z := by
  cases e : has z with
  | false => exact ⟨none, (h z).1 e, rfl⟩
  | true =>
    obtain ⟨u, v, a, _⟩ := (h z).2 e
    exact ⟨some u, a, rfl⟩
/-- z in x, z not in x: x the dict's name -/
theorem w_inTb {has : Str → Bool} {row : Str → V → Prop} {t : Str} (C : On X S m n) (j : Nat) (T : Tb m t has row) (q : wE X e σ H fun v H1 => ∃ z : Str, v = .str z ∧ Q (.bl (has z)) H1) (hi : S.gs[j]? = some t := by rfl) (hm : behindInMarks .In (.Name t p) = false := by rfl) : wE X (.Compare e [.In] [.Name t p] pos) σ H Q := by
  obtain ⟨d, es, n, hg, hk, hr⟩ := T.ex
  refine w_cmp (wE_mono q fun v H1 ⟨z, ev, q1⟩ => wg C j hg (v := .ref d) rfl ?_ hi) hm
  obtain ⟨r, e1, e2⟩ := Tb.is hr z
  have hk' : KDict X.K X.w d es n := by rw [C.K, C.w]; exact hk
  exact ofO (op_in_kd hk') ⟨z, r, ev, rfl, by rw [C.K]; exact e1, by rw [e2]; exact q1⟩
theorem w_niTb {has : Str → Bool} {row : Str → V → Prop} {t : Str} (C : On X S m n) (j : Nat) (T : Tb m t has row) (q : wE X e σ H fun v H1 => ∃ z : Str, v = .str z ∧ Q (.bl (!has z)) H1) (hi : S.gs[j]? = some t := by rfl) (hm : behindInMarks .NotIn (.Name t p) = false := by rfl) : wE X (.Compare e [.NotIn] [.Name t p] pos) σ H Q := by
  obtain ⟨d, es, n, hg, hk, hr⟩ := T.ex
  refine w_cmp (wE_mono q fun v H1 ⟨z, ev, q1⟩ => wg C j hg (v := .ref d) rfl ?_ hi) hm
  obtain ⟨r, e1, e2⟩ := Tb.is hr z
  have hk' : KDict X.K X.w d es n := by rw [C.K, C.w]; exact hk
  exact ofO (op_notIn_kd hk') ⟨z, r, ev, rfl, by rw [C.K]; exact e1, by rw [e2]; exact q1⟩
/-- x[z] -/
theorem w_atTb {has : Str → Bool} {row : Str → V → Prop} {t : Str} (C : On X S m n) (j : Nat) (T : Tb m t has row) (q : wE X e σ H fun v H1 => ∃ z : Str, v = .str z ∧ has z = true ∧ ∀ u, row z u → Q u H1) (hi : S.gs[j]? = some t := by rfl) (hs : PlainIx e := by exact fun _ _ => rfl) : wE X (.Subscript (.Name t p) e pos) σ H Q := by
  obtain ⟨d, es, n, hg, hk, hr⟩ := T.ex
  refine w_sub (wg C j hg (v := .ref d) rfl (wE_mono q fun v H1 ⟨z, ev, hz, q1⟩ => ?_) hi) hs
  obtain ⟨u, v', a, b, c⟩ := (hr z).2 hz
  exact ofI ix_kdict ⟨d, z, v', rfl, ev, ⟨es, n, u, by rw [C.K]; exact hk.at_, by rw [C.w]; exact hk.lit, by rw [C.K]; exact a, b⟩, q1 v' c⟩
/-- for x, y in enumerate(list) -/
theorem s_forE (C : On X S m n) (B : PassesOwn (model X.prog X.w) X.A X.env X.xe) (j i1 i2 : Nat) (hm : m.mg "enumerate" = none) {a : Expr} {body : List Stmt} {x y : Str} {kk : Nat} {px py tpos : Pos}
    (q : wE X a σ H fun v H1 => ∃ l xs, v = .ref l ∧ SqL m.K H1 l xs ∧ ∃ Pv : Nat → L2.St → Hp → Prop, Pv 0 σ H1 ∧ (∀ i σ H, i ≤ xs.length → Pv i σ H → SqL m.K H l xs) ∧
      (∀ i u σ H H', xs[i]? = some u → Pv i σ H → Same H H' → wB X body { D with nx := Pv (i + 1), ct := Pv (i + 1), bk := D.nx } ((σ.set i1 (some (.int (i : Int)))).set i2 (some u)) H') ∧ ∀ σ H, Pv xs.length σ H → D.nx σ H)
    (hi : S.gs[j]? = some ("enumerate" : Str) := by rfl) (h1 : S.N[i1]? = some x := by rfl) (h2 : S.N[i2]? = some y := by rfl) (hv1 : i1 ∈ S.stv := by decide) (hv2 : i2 ∈ S.stv := by decide) (hs : starEach [a] X.env = [(false, eval a X.env)] := by rfl)
    (hf : ∀ z, foldedSetIterable (.Call (.Name "enumerate" p) [a] [] pos) X.env z = pure z := by intro _; rfl) : wS X (.For (.Tuple [.Name x px, .Name y py] kk tpos) (.Call (.Name "enumerate" p) [a] [] pos) body [] pos2) D σ H := by
  refine s_for C B (pi_enum (C.gl j _ hi).1 (by rw [C.mg]; exact hm) (pa_cons pE pa_nil hs) hs) ?_ hf
  refine fun pins s I => thn (q pins s I) fun u s1 ⟨v, H1, I1, r1, l, xs, ev, hx, Pv, h0, hl, ht, hd⟩ => ⟨v, H1, I1, r1, l, xs, by rw [ev], by rw [C.K]; exact hx, ?_⟩
  rw [C.K]
  refine for_it (walk_enum (xs := xs)) Pv h0 hl (fun i w σ H H' hi p hy => ?_) hd
  obtain ⟨T, a1, a2, rfl, nT, rfl, e1, e2⟩ := hy
  cases e1
  exact g_two C i1 i2 (v := .int (i : Int)) (w := a2) (.inl (.inl upd_same)) (ht i a2 σ H _ e2 p (same_new nT)) h1 h2 hv1 hv2
end
/-! ### instances -/
section
variable {X : Cx} {S : Nm} {m : Md} {k n : Nat} {σ : L2.St} {H : Hp} {D : Ends} {pos p pos' : Pos} {Q : VK} {o e : Expr} {es : List Expr} {f x : Str} {CA : Addr}
/-- o.f -/
theorem w_fld (C : On X S m n) (hc : Cls m.K CA) (hn : NoAttr m.K CA f) (q : wE X o σ H fun v H1 => ∃ a dx fs u, v = .ref a ∧ H1 a = some (.ins CA dx fs) ∧ fs.lookup f = some u ∧ Q u H1) (hb : attributeBase o f X.env (eval o X.env) = eval o X.env := by rfl) : wE X (.Attribute o f pos) σ H Q :=
  ofE (pe_fld pE hb) (wE_mono q fun v H1 ⟨a, dx, fs, u, ev, h1, h2, q1⟩ => ⟨a, CA, dx, fs, u, ev, h1, by rw [C.K]; exact hc, by rw [C.K]; exact hn, h2, q1⟩)
/-- o.f = e -/
theorem s_fld (C : On X S m n) (hc : Cls m.K CA) (hn : NoAttr m.K CA f) (q : wE X e σ H fun y H1 => wE X o σ H1 fun v H2 => ∃ a dx fs, v = .ref a ∧ H2 a = some (.ins CA dx fs) ∧ fs.length < 1000 ∧ D.nx σ (upd H2 a (.ins CA dx (putF f y fs)))) (hs : swapsWith e (some (.Attribute o f pos')) pos.line X.env = pure false := by rfl) :
    wS X (.Assign [.Attribute o f pos'] e pos) D σ H := by
  refine ofS (ps_fld pE pE hs) (wE_mono q fun y H1 q1 => wE_mono q1 fun v H2 ⟨a, dx, fs, ev, h1, h2, q2⟩ => ?_)
  exact ⟨a, CA, dx, fs, ev, h1, by rw [C.K]; exact hc, by rw [C.K]; exact hn, h2, q2⟩
/-- a class of the module, by its __init__'s promise -/
structure Mkc (m : Md) (k : Nat) (x : Str) (CA : Addr) (ps : List Str) (sp : Sp) : Prop where
  cl : Cls m.K CA
  g : m.mg x = some (.ref CA)
  ex : ∃ (f : Addr) (fd : FuncData), Mk m.K CA f ∧ FnOk m.prog m.w m.K m.mg m.base (L2.CX m.prog m.w) k f fd ps sp ∧ Binds m.K fd ps []
/-- x(e, ..), nothing raised -/
theorem w_make {ps : List Str} {sp : Sp} (C : On X S m n) (j : Nat) (M : Mkc m k x CA ps sp) (q : wA X (e :: es) σ H fun vs H1 => ∀ a dx, H1 a = none → H1 dx = none → dx ≠ a → sp (.ref a :: vs) (upd (upd H1 dx (.own a)) a (.ins CA dx [])) (fun v H2 => v = .non ∧ Q (.ref a) H2) fun _ _ _ => False)
    (hi : S.gs[j]? = some x := by rfl) (hk : k + 1 ≤ n := by decide) (he : starEach (e :: es) X.env = (false, eval e X.env) :: starEach es X.env := by rfl) (hpl : (backTo pos (starEach es X.env)).any (·.1) = false := by rfl) : wE X (.Call (.Name x p) (e :: es) [] pos) σ H Q := by
  obtain ⟨f, fd, Mk, F, hb⟩ := M.ex
  have g := M.g
  have em := C.hm
  subst em
  refine ofE (pe_make Mk F (C.room.mono hk) (C.gl j x hi).1 g hb .nil passL pA (C.gl j x hi).2 he hpl) (t := tMake CA sp [] E0 (wA X (e :: es))) ?_
  exact wA_mono q fun vs H1 q1 a dx h1 h2 h3 => by rw [List.append_nil]; exact q1 a dx h1 h2 h3
theorem passT {X : Cx} {W : XK} (tk : Takes X (fun cls d _ H => W cls d H)) : Passes (L2.CX X.prog X.w) X W := fun pins σ H s e s' I c => passAt tk σ pins H s e s' I c
/-- x(e, ..) that may raise: W, whatever the slots -/
theorem w_makeX {ps : List Str} {sp : Sp} {W : XK} (C : On X S m n) (tk : Takes X (fun cls d _ H => W cls d H)) (j : Nat) (M : Mkc m k x CA ps sp) (q : wA X (e :: es) σ H fun vs H1 => ∀ a dx, H1 a = none → H1 dx = none → dx ≠ a → sp (.ref a :: vs) (upd (upd H1 dx (.own a)) a (.ins CA dx [])) (fun v H2 => v = .non ∧ Q (.ref a) H2) W)
    (hi : S.gs[j]? = some x := by rfl) (hk : k + 1 ≤ n := by decide) (he : starEach (e :: es) X.env = (false, eval e X.env) :: starEach es X.env := by rfl) (hpl : (backTo pos (starEach es X.env)).any (·.1) = false := by rfl) : wE X (.Call (.Name x p) (e :: es) [] pos) σ H Q := by
  obtain ⟨f, fd, Mk, F, hb⟩ := M.ex
  have g := M.g
  have em := C.hm
  subst em
  refine ofE (pe_make Mk F (C.room.mono hk) (C.gl j x hi).1 g hb .nil (passT tk) pA (C.gl j x hi).2 he hpl) (t := tMake CA sp [] W (wA X (e :: es))) ?_
  exact wA_mono q fun vs H1 q1 a dx h1 h2 h3 => by rw [List.append_nil]; exact q1 a dx h1 h2 h3
end
end Wp

set_option Elab.async false
set_option linter.all false
set_option maxRecDepth 100000
set_option maxHeartbeats 4000000
/-! enumerate over a tuple; comprehensions whose items are new objects; more. -/
namespace Wp
open PySem PySem.Spec PyProof.Rows L2
theorem meets_enum1 {v : Value} {o : Obj} {P : Heap → Prop} (B : Begins v o P) :
    Meets (Builtin.«enumerate.__new__» ⟨[.type "enumerate", v], []⟩) (fun _ R s => P s.heap ∧
      R (.ok (.ret (.ref (s.heap.push o).objs.size))) { s with heap := (s.heap.push o).push { cls := .type "enumerate", data := .fields #[.none, .bool false, .ref s.heap.objs.size, rawInt 0, .none, .none] } }) :=
  .of_wp fun prog w A R s h => by
    obtain ⟨hp, g, d, tk, os⟩ := s; obtain ⟨h1, h⟩ := h
    have hsub := sub_enumerate
    have q1 : ∀ {A' : Around} {E : Value → Shared → Prop} {Q : Value → Shared → Prop}, Q (.ref hp.objs.size) ⟨hp.push o, g, d, tk, os⟩ → wpAny (model prog w) A' (pyIter v) Q E ⟨hp, g, d, tk, os⟩ :=
      fun q => B.iter prog w _ _ ⟨hp, g, d, tk, os⟩ _ h1 q
    wp_walk using q1
    refine wpAny_stack_any fun st => wpAny_pure ?_
    split
    · rename_i c _ _ _ _ _
      cases (c == Value.type "enumerate")
      · wp_walk using q1
        exact ⟨_, rfl, h⟩
      · wp_walk using q1
        exact ⟨_, rfl, h⟩
    · wp_walk using q1
      exact ⟨_, rfl, h⟩
section
variable {prog : Program} {w : World} {A : Around} {E : Value → Shared → Prop} {s : Shared}
theorem enum1_begins {v : Value} {o : Obj} {P : Heap → Prop} {Q : Value → Shared → Prop} (B : Begins v o P) (h1 : P s.heap)
    (h : ∀ h', IsEnum h' (s.heap.objs.size + 1) s.heap.objs.size 0 .none → h'.get? s.heap.objs.size = some o → h'.objs.size = s.heap.objs.size + 2 →
      (∀ b o, s.heap.get? b = some o → h'.get? b = some o) → Q (.ref (s.heap.objs.size + 1)) { s with heap := h' }) :
    wpAny (model prog w) A (call (.type "enumerate") [v]) Q E s := by
  refine callType_new F.called_enumerate (by decide) (F.typeCall_enumerate_1 _) (F.newCall_enumerate_1 _) (fun obj => F.args_object_init_2 obj _) F.entry_enumerate_new
    (meets_enum1 B) ⟨h1, ?_⟩
  have hz : (s.heap.push o).objs.size = s.heap.objs.size + 1 := Heap.size_push ..
  show _ ∧ _
  rw [hz]
  have he : IsEnum ((s.heap.push o).push { cls := .type "enumerate", data := .fields #[.none, .bool false, .ref s.heap.objs.size, rawInt 0, .none, .none] }) (s.heap.objs.size + 1) s.heap.objs.size 0 .none := by
    have := Heap.get?_push_size (s.heap.push o) (o := { cls := .type "enumerate", data := .fields #[.none, .bool false, .ref s.heap.objs.size, rawInt 0, .none, .none] }) rfl
    rw [hz] at this; exact this
  exact ⟨⟨_, he, rfl⟩, h _ he (Heap.get?_push_of_some _ (Heap.get?_push_size _ B.free)) (by rw [Heap.size_push, hz]) fun b o x => Heap.get?_push_of_some _ (Heap.get?_push_of_some _ x)⟩
end
/-- the tuple at a, each item in a new pair -/
def IteT (K : PySem.W.Frag) (a : Addr) : It :=
  ⟨fun i H => ∃ (xs : List V) (x : V), SqT K H a xs ∧ xs[i]? = some x, fun i H v H' => ∃ T x, v = .ref T ∧ H T = none ∧ H' = upd H T (.tup [.int (i : Nat), x]) ∧ ∀ xs, SqT K H a xs → xs[i]? = some x, fun i H => ∃ xs : List V, SqT K H a xs ∧ xs.length ≤ i⟩
theorem walk_enumT {K : PySem.W.Frag} {a : Addr} {xs : List V} : Walk (IteT K a) xs.length (fun H => SqT K H a xs) (YPair (fun i => some (.int (i : Nat))) (fun i => xs[i]?)) := by
  refine ⟨fun i _ hi q => ⟨xs, xs[i], q, by simp [hi]⟩, fun _ q => ⟨xs, q, Nat.le_refl _⟩, fun i H v H' _ q y => ?_⟩
  obtain ⟨T, x, h1, h2, h3, h4⟩ := y
  exact ⟨T, .int (i : Nat), x, h1, h2, h3, rfl, h4 xs q⟩
theorem enum_apart {h : Heap} {e it a : Addr} {k : Int} {old : Value} {i : Nat} {items : Array Value} (he : IsEnum h e it k old) (hi : h.IsTupleIter it a i) (ht : h.IsTuple a items) : e ≠ a ∧ a ≠ it := by
  obtain ⟨o1, e1, c1, _⟩ := ht
  obtain ⟨o2, e2, c2, _⟩ := hi
  refine ⟨fun z => ?_, fun z => ?_⟩
  · subst z
    rw [show h.get? e = some _ from he] at e1
    cases e1
    injection c1 with c1
    exact absurd c1 (by decide)
  · subst z
    rw [e1] at e2
    cases e2
    rw [c1] at c2
    injection c2 with c2
    exact absurd c2 (by decide)
theorem turn_enumT {P : Program} {w : World} {K : PySem.W.Frag} {elts : List Expr} {kk : Nat} {tpos : Pos} (a e it : Addr) :
    Turn P w K (.Tuple elts kk tpos) (IteT K a) [e, it] e (fun i h => (∃ old, IsEnum h e it ((i : Nat) : Int) old) ∧ h.IsTupleIter it a i ∧ e ≠ it) where
  mem := by simp
  obj := fun i h st b hb => by
    obtain ⟨⟨old, he⟩, ⟨o, ho, hc, hd⟩, _⟩ := st
    have e' : b = e ∨ b = it := by simpa using hb
    rcases e' with z | z
    · rw [z]; exact ⟨_, he, fun v q => nomatch q⟩
    · rw [z]; exact ⟨o, ho, fun v q => by rw [hd] at q; cases q⟩
  keep := fun i h h' st k => let ⟨⟨old, he⟩, hi, hne⟩ := st; ⟨⟨old, k e (by simp) _ he⟩, hi.at fun o q => k it (by simp) o q, hne⟩
  item := by
    intro X hP hw hK hc i pins s σ H E I hf st hg
    subst hP hw hK
    obtain ⟨⟨old, he⟩, hit, hne⟩ := st
    obtain ⟨xs, x, hq, hx⟩ := hg
    obtain ⟨its, rv, p, hz⟩ := I.tuple hq
    obtain ⟨u, hu, ru⟩ := rv.get hx
    have pt : s.heap.IsTuple a its.toArray := p
    obtain ⟨ne1, ne2⟩ := enum_apart he hit pt
    have hel : e < s.heap.objs.size := Heap.lt_size he
    have hil : it < s.heap.objs.size := by obtain ⟨_, q, _⟩ := hit; exact Heap.lt_size q
    have hd := I.ok.hd hc
    have il : i < its.toArray.size := by
      have l1 := rv.length
      have l2 := List.getElem?_eq_some_iff.mp hx
      obtain ⟨l3, _⟩ := l2
      simp
      omega
    refine wpAny_pyNext_enum_itemD (Draws.tuple (A := X.A.in1) hd it a ne2 its.toArray) he ⟨hit, pt⟩ il hne (by simp [hne, ne1]) fun y h' tk hy ho hit' hT hsz hk => ?_
    have ey : y = u := by
      have e1 : its.toArray[i]? = some u := by simpa using hu
      exact Option.some.inj (hy.symm.trans e1)
    subst ey
    refine ⟨_, rfl, wpAny_letOwnedTupleGo_enum (s := { s with heap := h', toks := tk + 1 }) ho fun h'' he' sb => ?_⟩
    have hT2 : h''.get? s.heap.objs.size = some { cls := .type "tuple", data := .seq #[.int i tk, y] } := (sb.2 _ (Nat.ne_of_gt hel)).trans hT
    have new : ObjOk X.prog X.w (upd H s.heap.objs.size (.tup [.int (i : Nat), x])) h'' s.heap.objs.size (.tup [.int (i : Nat), x]) :=
      ⟨by show 2 ≤ sizeLine; decide, [.int i tk, y], .cons ⟨_, rfl⟩ (.cons ru .nil), ⟨_, hT2, rfl, _, rfl⟩⟩
    have I1 : Inv X pins σ (upd H s.heap.objs.size (.tup [.int (i : Nat), x])) { s with heap := h'', toks := tk + 1 } :=
      I.turnedNew (ch := [e, it]) (fun b ob hb q => (sb.2 b (fun z => hb (by simp [z]))).trans (hk b ob (fun z => hb (by simp [z])) (fun z => hb (by simp [z])) q)) hf (Nat.le_refl _) new
    refine ⟨.ref s.heap.objs.size, _, I1, rfl, ⟨_, x, rfl, I.hok.fresh (Nat.le_refl _), rfl, fun ys hy => by rw [I.tuple_inj hy hq]; exact hx⟩, ⟨⟨y, ?_⟩, hit'.1.at fun o q => (sb.2 it (Ne.symm hne)).trans q, hne⟩, fun b hb => ?_⟩
    · have e1 : ((i + 1 : Nat) : Int) = (i : Int) + 1 := by omega
      rw [e1]; exact he'
    · have hb' : b < s.heap.objs.size := by
        have e' : b = e ∨ b = it := by simpa using hb
        rcases e' with z | z
        · rw [z]; exact hel
        · rw [z]; exact hil
      rw [upd_ne (Nat.ne_of_lt hb')]
      exact (hf b hb).1
  done := by
    intro X hP hw hK hc i pins s σ H E I hf st hg
    subst hP hw hK
    obtain ⟨⟨old, he⟩, hit, hne⟩ := st
    obtain ⟨xs, hq, hx⟩ := hg
    obtain ⟨its, rv, p, hz⟩ := I.tuple hq
    have pt : s.heap.IsTuple a its.toArray := p
    obtain ⟨ne1, ne2⟩ := enum_apart he hit pt
    obtain ⟨f0, f1, f2, f3, f4, f5⟩ := hf it (by simp)
    have hl := rv.length
    have hd := I.ok.hd hc
    have hn : its.toArray[i]? = none := by simp; omega
    have T1 : s.TypeIs (.ref e) "enumerate" := ⟨_, he, rfl⟩
    unfold pyNext
    refine wpAny_bind (wpAny_attempt (wpAny_callSpecial?_slot (name := Str.ofString "__next__") T1 F.slot_enumerate_next
      (wpAny_call_entry F.slot_enumerate_next T1 F.entry_enumerate_next ?_ (F.args_enumerate_next_1 _))))
    show wpAny _ _ (field (.ref e) 2 >>= _) _ _ _
    refine wpAny_bind (wpAny_field he rfl (x := .ref it) rfl ?_)
    refine wpAny_bind (wpAny_nextOf_tuple_end hd hit pt hn fun h' y eb hy => ?_)
    obtain ⟨o, ho, hc'⟩ := hy
    refine wpAny_bind (wpAny_isInstance (T := "StopIteration") (b := true) ⟨o, ho, hc'⟩ isSubtype_stop ?_)
    exact wpAny_pure ⟨rfl, I.turned (t' := s.toks) (fun b o hb q => eb b o hb q) f0 f1 f3 f4 f5⟩
  self := fun A i s Q E st h => let ⟨⟨_, he⟩, _⟩ := st; wpAny_pyIter_enum he h
def iEnumT (K : PySem.W.Frag) (ta : TA) : TI := fun σ H R => ta σ H fun vs H1 => ∃ a xs, vs = [.ref a] ∧ SqT K H1 a xs ∧ R (IteT K a) H1
theorem pi_enumT {X : Cx} {e : Expr} {ta : TA} {p pos tpos : Pos} {elts : List Expr} {kk : Nat} (hg : Gl X "enumerate") (hm : X.mg "enumerate" = none) (ha : PA X [e] ta) (hs : starEach [e] X.env = [(false, eval e X.env)] := by rfl) :
    PI X (.Tuple elts kk tpos) (.Call (.Name "enumerate" p) [e] [] pos) (iEnumT X.K ta) := by
  refine ⟨fun pins s σ H R I h => ?_⟩
  refine Call_ (ld_blt I hg hm boot_enumerate (PyProof.Rows.callWith_type1 (thn (ha.run pos pins s σ H _ I h) fun us s1 ⟨vs, H1, I1, r1, q1⟩ => ?_) hs rfl))
  obtain ⟨a, xs, ex, hq, q⟩ := q1
  subst ex
  cases r1 with
  | cons r rr =>
    cases rr
    cases r
    obtain ⟨its, rv, p', hz⟩ := I1.tuple hq
    refine enum1_begins (begins_tuple a its.toArray) (show s1.heap.IsTuple a its.toArray from p') fun h' he hit hsz hk => wpAny_pyIter_enum he ?_
    have I2 : Inv X pins σ H1 { s1 with heap := h' } := I1.kept (t' := s1.toks) hk
    refine ⟨s1.heap.objs.size + 1, [s1.heap.objs.size + 1, s1.heap.objs.size], _, _, H1, rfl, I2, turn_enumT a (s1.heap.objs.size + 1) s1.heap.objs.size, ⟨⟨.none, he⟩, ⟨_, hit, rfl, rfl⟩, Nat.succ_ne_self _⟩, fun b hb => ?_, q⟩
    have e' : b = s1.heap.objs.size + 1 ∨ b = s1.heap.objs.size := by simpa using hb
    have hle : s1.heap.objs.size ≤ b := by
      rcases e' with z | z
      · rw [z]; exact Nat.le_add_right _ _
      · rw [z]; exact Nat.le_refl _
    exact I1.fpOk hle (I1.hok.fresh hle)
section
variable {X : Cx} {S : Nm} {m : Md} {k n : Nat} {σ : L2.St} {H : Hp} {D : Ends} {pos p pos2 : Pos} {Q : VK} {e : Expr} {x : V} {z : Str}
/-- for x, y in enumerate(tuple) -/
theorem s_forET (C : On X S m n) (B : PassesOwn (model X.prog X.w) X.A X.env X.xe) (j i1 i2 : Nat) (hm : m.mg "enumerate" = none) {a : Expr} {body : List Stmt} {x y : Str} {kk : Nat} {px py tpos : Pos}
    (q : wE X a σ H fun v H1 => ∃ l xs, v = .ref l ∧ SqT m.K H1 l xs ∧ ∃ Pv : Nat → L2.St → Hp → Prop, Pv 0 σ H1 ∧ (∀ i σ H, i ≤ xs.length → Pv i σ H → SqT m.K H l xs) ∧
      (∀ i u σ H H', xs[i]? = some u → Pv i σ H → Same H H' → wB X body { D with nx := Pv (i + 1), ct := Pv (i + 1), bk := D.nx } ((σ.set i1 (some (.int (i : Int)))).set i2 (some u)) H') ∧ ∀ σ H, Pv xs.length σ H → D.nx σ H)
    (hi : S.gs[j]? = some ("enumerate" : Str) := by rfl) (h1 : S.N[i1]? = some x := by rfl) (h2 : S.N[i2]? = some y := by rfl) (hv1 : i1 ∈ S.stv := by decide) (hv2 : i2 ∈ S.stv := by decide) (hs : starEach [a] X.env = [(false, eval a X.env)] := by rfl)
    (hf : ∀ z, foldedSetIterable (.Call (.Name "enumerate" p) [a] [] pos) X.env z = pure z := by intro _; rfl) : wS X (.For (.Tuple [.Name x px, .Name y py] kk tpos) (.Call (.Name "enumerate" p) [a] [] pos) body [] pos2) D σ H := by
  refine s_for C B (pi_enumT (C.gl j _ hi).1 (by rw [C.mg]; exact hm) (pa_cons pE pa_nil hs) hs) ?_ hf
  refine fun pins s I => thn (q pins s I) fun u s1 ⟨v, H1, I1, r1, l, xs, ev, hx, Pv, h0, hl, ht, hd⟩ => ⟨v, H1, I1, r1, l, xs, by rw [ev], by rw [C.K]; exact hx, ?_⟩
  rw [C.K]
  refine for_it (walk_enumT (xs := xs)) Pv h0 hl (fun i w σ H H' hi p hy => ?_) hd
  obtain ⟨T, a1, a2, rfl, nT, rfl, e1, e2⟩ := hy
  cases e1
  exact g_two C i1 i2 (v := .int (i : Int)) (w := a2) (.inl (.inl upd_same)) (ht i a2 σ H _ e2 p (same_new nT)) h1 h2 hv1 hv2
end
end Wp
namespace Wp
open PySem PySem.Spec PyProof.Rows L2
section
variable {X : Cx} {S : Nm} {m : Md} {k n : Nat} {σ : L2.St} {H : Hp} {D : Ends} {pos p pos2 : Pos} {Q : VK} {e : Expr} {x : V} {z : Str}
/-- the right side of in, not in: a written dict's name -/
theorem n_inTb {has : Str → Bool} {row : Str → V → Prop} {t : Str} (C : On X S m n) (j : Nat) (T : Tb m t has row) (q : Q (.bl (has z)) H) (hi : S.gs[j]? = some t := by rfl) : wE X (.Name t p) σ H fun y H2 => wO X (compareOp .In) (.str z) y H2 Q := by
  obtain ⟨d, es, n, hg, hk, hr⟩ := T.ex
  refine wg C j hg (v := .ref d) rfl ?_ hi
  obtain ⟨r, e1, e2⟩ := Tb.is hr z
  have hk' : KDict X.K X.w d es n := by rw [C.K, C.w]; exact hk
  exact ofO (op_in_kd hk') ⟨z, r, rfl, rfl, by rw [C.K]; exact e1, by rw [e2]; exact q⟩
theorem n_niTb {has : Str → Bool} {row : Str → V → Prop} {t : Str} (C : On X S m n) (j : Nat) (T : Tb m t has row) (q : Q (.bl (!has z)) H) (hi : S.gs[j]? = some t := by rfl) : wE X (.Name t p) σ H fun y H2 => wO X (compareOp .NotIn) (.str z) y H2 Q := by
  obtain ⟨d, es, n, hg, hk, hr⟩ := T.ex
  refine wg C j hg (v := .ref d) rfl ?_ hi
  obtain ⟨r, e1, e2⟩ := Tb.is hr z
  have hk' : KDict X.K X.w d es n := by rw [C.K, C.w]; exact hk
  exact ofO (op_notIn_kd hk') ⟨z, r, rfl, rfl, by rw [C.K]; exact e1, by rw [e2]; exact q⟩
/-- x[lo:], a list's -/
theorem cutV_from (xs : List V) (b : Nat) : cutV xs (some (b : Int)) none = xs.drop b := by
  unfold cutV
  rw [show HT.sIx xs.length 0 (some (b : Int)) = min b xs.length from HT.sIx_nat xs.length 0 b, show HT.sIx xs.length xs.length none = xs.length from rfl]
  by_cases h : b ≤ xs.length
  · rw [Nat.min_eq_left h]
    exact List.take_of_length_le (by rw [List.length_drop]; omega)
  · rw [Nat.min_eq_right (by omega), Nat.sub_self, List.take_zero, List.drop_of_length_le (by omega)]
theorem sl_from (C : On X S m n) {p : Addr} {xs : List V} {b : Int} {b' : Nat} (h : SqL m.K H p xs) (hb : b = (b' : Int)) (q : NewL (xs.drop b') H Q) : wSl X (.ref p) (some b) none H Q :=
  sl_l C h fun l hl => by subst hb; rw [cutV_from]; exact q l _ hl (same_new hl) upd_same
theorem sl_any (C : On X S m n) {p : Addr} {xs : List V} {lo hi : Option Int} (h : SqL m.K H p xs) (q : NewL (cutV xs lo hi) H Q) : wSl X (.ref p) lo hi H Q :=
  sl_l C h fun l hl => q l _ hl (same_new hl) upd_same
/-- all but a is as it was -/
abbrev Mu (a : Addr) (H H' : Hp) : Prop := ∀ b o, b ≠ a → H b = some o → H' b = some o
theorem Mu.of {a : Addr} {H H' : Hp} (h : Same H H') : Mu a H H' := fun b o _ e => h b o e
theorem Mu.trans {a : Addr} {H H1 H2 : Hp} (h : Mu a H H1) (k : Mu a H1 H2) : Mu a H H2 := fun b o n e => k b o n (h b o n e)
theorem Mu.upd {a : Addr} {H : Hp} {o : HO} : Mu a H (upd H a o) := fun b o n e => by rw [upd_ne n]; exact e
theorem same_none {H H' : Hp} (h : Same H H') {d : Addr} (n : H' d = none) : H d = none := by
  cases e : H d with
  | none => rfl
  | some o =>
    rw [h d o e] at n
    cases n
theorem fdiv_pos {i j : Int} (h : 0 < j ∧ j < 1073741824) (q : Q (.int (i / j)) H) : wO X (binaryOp .FloorDiv) (.int i) (.int j) H Q := o_fdiv h q
end
end Wp

set_option Elab.async false
set_option linter.all false
set_option maxRecDepth 100000
set_option maxHeartbeats 4000000
/-! Comprehensions with a word of their own on the heap and the items so far. -/
namespace Wp
open PySem PySem.Spec PyProof.Rows L2
section
variable {X : Cx} {S : Nm} {m : Md} {k n : Nat} {σ : L2.St} {H H1 : Hp} {D : Ends} {pos p : Pos} {Q : VK} {tg iter elt c : Expr} {scope : Scope} {gs : List Str} {v st vs : List Nat} {J : It} {len : Nat} {G : Hp → Prop} {P : Nat → V → Prop} {S2 : Nm} {Dl : Addr} {Qd : Hp → Prop}
theorem lc_gen (w : Walk J len G fun i H x H' => H' = H ∧ P i x) (hn : len < 16777216) (Iv : Nat → Hp → List V → Prop) (h0 : Iv 0 (upd H1 Dl (.lst [])) []) (hG : ∀ i H acc, Iv i H acc → G H)
    (ht : ∀ i x H2 X2 acc, i < len → P i x → Iv i H2 acc → acc.length = i → H2 Dl = some (.lst acc) → On X2 S2 m n → wG X2 tg x (wipe σ vs) H2 fun σ3 H3 => wipe σ3 vs = wipe σ vs ∧
      ∀ X3, On X3 S2 m n → wE X3 elt σ3 H3 fun y H4 => H4 Dl = some (.lst acc) ∧ Iv (i + 1) (upd H4 Dl (.lst (acc ++ [y]))) (acc ++ [y]))
    (hd : ∀ H2 acc, Iv len H2 acc → acc.length = len → H2 Dl = some (.lst acc) → Qd H2) :
    ∃ W : Nat → Nat → Hp → Prop, (∃ m, W 0 m (upd H1 Dl (.lst []))) ∧ ∀ i a H, W i a H →
      (J.stop i H ∧ Qd H) ∨ (J.go i H ∧ ∃ Nx : Hp → Prop, (∀ H', Nx H' → ∃ m', m' < a ∧ W (i + 1) m' H') ∧ ∀ x H', J.yld i H x H' → tGs X scope S2 m n tg x (wipe σ vs) H' fun σ2 H2 => wipe σ2 vs = wipe σ vs ∧ tYes σ2 H2 fun b H3 =>
        if b = true then tEs X scope S2 m n elt σ2 H3 fun y H4 => ∃ acc, H4 Dl = some (.lst acc) ∧ acc.length < sizeLine ∧ Nx (upd H4 Dl (.lst (acc ++ [y]))) else Nx H3) := by
  refine lc_it w (fun i H => ∃ acc, Iv i H acc ∧ acc.length = i ∧ H Dl = some (.lst acc)) ⟨[], h0, rfl, upd_same⟩ (fun i H _ ⟨acc, p, _⟩ => hG i H acc p) (fun i x H H' hi ⟨acc, p, pl, pd⟩ y => ?_) (fun H ⟨acc, p, pl, pd⟩ => hd H acc p pl pd)
  obtain ⟨rfl, px⟩ := y
  refine fun X2 C2 => wG_mono (ht i x H' X2 acc hi px p pl pd C2) fun σ3 H3 ⟨e, z⟩ => ⟨e, ?_⟩
  unfold tYes
  dsimp only
  rw [if_pos rfl]
  exact fun X3 C3 => wE_mono (z X3 C3) fun y H4 ⟨e4, p4⟩ => ⟨acc, e4, by rw [sizeLine_eq]; omega, acc ++ [y], p4, by rw [List.length_append, pl]; rfl, upd_same⟩
end
section
variable {X : Cx} {S : Nm} {m : Md} {k n : Nat} {σ : L2.St} {H H1 : Hp} {D : Ends} {pos p : Pos} {Q : VK} {a iter elt c : Expr} {scope : Scope} {px : Pos} {x : Str}
/-- [elt for x in list] -/
theorem lcLg (C : On X S m n) (j : Nat) (gs : List Str) (v : List Nat) (h : blkB S scope gs v [j] = true)
    (q : wE X iter σ H fun t H1 => ∃ a xs, t = .ref a ∧ SqL m.K H1 a xs ∧ xs.length < 16777216 ∧ ∀ Dl, H1 Dl = none → ∃ Iv : Nat → Hp → List V → Prop, Iv 0 (upd H1 Dl (.lst [])) [] ∧ (∀ i H acc, Iv i H acc → SqL m.K H a xs) ∧
      (∀ (i : Nat) (y : V) H2 X2 acc, xs[i]? = some y → Iv i H2 acc → acc.length = i → H2 Dl = some (.lst acc) → On X2 (blkNm S scope gs v [j]) m n → wE X2 elt ((wp1 S σ [j]).set j (some y)) H2 fun y H4 => H4 Dl = some (.lst acc) ∧ Iv (i + 1) (upd H4 Dl (.lst (acc ++ [y]))) (acc ++ [y])) ∧
      ∀ H2 acc, Iv xs.length H2 acc → acc.length = xs.length → H2 Dl = some (.lst acc) → Q (.ref Dl) H2)
    (hw : ∀ y, wipe ((wp1 S σ [j]).set j (some y)) ((ownOf S.N [j]).map (·.2)) = wp1 S σ [j]) (hx : S.N[j]? = some x := by rfl) (hs : ∀ z, foldedSetIterable iter X.env z = pure z := by intro _; rfl) :
    wL X elt (.Name x px) iter [] scope σ H Q := by
  refine w_lc C gs v [j] h (pi_list pE) ?_ hs
  rw [C.K]
  refine fun pins s I => thn (q pins s I) fun u s1 ⟨t, H1, I1, r1, a, xs, ea, hxs, hz, f⟩ => ⟨t, H1, I1, r1, a, ea, ⟨xs, hxs⟩, fun Dl hD => ?_⟩
  obtain ⟨Iv, h0, hG, ht, hd⟩ := f Dl hD
  refine lc_gen (walk_list (xs := xs)) hz Iv h0 hG (fun i y H2 X2 acc _ py p pl pd C2 => ?_) hd
  exact g_name C2 j ⟨hw _, fun X3 C3 => ht i y H2 X3 acc py p pl pd C3⟩ hx (List.mem_singleton.mpr rfl)
/-- [elt for x in range(n)] -/
theorem lcRg (C : On X S m n) (jr : Nat) (hm : m.mg "range" = none) (j : Nat) (gs : List Str) (v : List Nat) (h : blkB S scope gs v [j] = true)
    (q : wE X a σ H fun t H1 => ∃ len : Int, t = .int len ∧ (-(2 ^ 62) ≤ len ∧ len < 16777216) ∧ ∀ Dl, H1 Dl = none → ∃ Iv : Nat → Hp → List V → Prop, Iv 0 (upd H1 Dl (.lst [])) [] ∧
      (∀ (i : Nat) H2 X2 acc, i < len.toNat → Iv i H2 acc → acc.length = i → H2 Dl = some (.lst acc) → On X2 (blkNm S scope gs v [j]) m n → wE X2 elt ((wp1 S σ [j]).set j (some (.int (i : Int)))) H2 fun y H4 => H4 Dl = some (.lst acc) ∧ Iv (i + 1) (upd H4 Dl (.lst (acc ++ [y]))) (acc ++ [y])) ∧
      ∀ H2 acc, Iv len.toNat H2 acc → acc.length = len.toNat → H2 Dl = some (.lst acc) → Q (.ref Dl) H2)
    (hw : ∀ y, wipe ((wp1 S σ [j]).set j (some y)) ((ownOf S.N [j]).map (·.2)) = wp1 S σ [j]) (hx : S.N[j]? = some x := by rfl) (hi : S.gs[jr]? = some ("range" : Str) := by rfl) (hs : starEach [a] X.env = [(false, eval a X.env)] := by rfl)
    (hf : ∀ z, foldedSetIterable (.Call (.Name "range" p) [a] [] pos) X.env z = pure z := by intro _; rfl) :
    wL X elt (.Name x px) (.Call (.Name "range" p) [a] [] pos) [] scope σ H Q := by
  refine w_lc C gs v [j] h (pi_range1 (C.gl jr _ hi).1 (by rw [C.mg]; exact hm) (pa_cons pE pa_nil hs) hs) ?_ hf
  refine fun pins s I => thn (q pins s I) fun u s1 ⟨t, H1, I1, r1, len, et, hl, f⟩ => ⟨t, H1, I1, r1, len, by rw [et], hl.1, by omega, fun Dl hD => ?_⟩
  obtain ⟨Iv, h0, ht, hd⟩ := f Dl hD
  refine lc_gen (walk_range.mono (G' := fun _ => True) (fun _ h => h) fun i H a H' _ _ y => y) (by omega) Iv h0 (fun _ _ _ _ => trivial) (fun i a H2 X2 acc hi pa p pl pd C2 => ?_) hd
  have e0 : (0 : Int) + (i : Int) = (i : Int) := Int.zero_add _
  have pa2 : a = .int (i : Int) := by
    rw [← e0]
    exact pa
  rw [pa2]
  exact g_name C2 j ⟨hw _, fun X3 C3 => ht i H2 X3 acc hi p pl pd C3⟩ hx (List.mem_singleton.mpr rfl)
/-- .. of which nothing is asked but that all else stays -/
abbrev LAny (H1 : Hp) (Dl : Addr) : Nat → Hp → List V → Prop := fun _ H _ => H1 Dl = none ∧ Same H1 H
theorem LAny.step {H1 H2 H4 : Hp} {Dl : Addr} {i : Nat} {acc : List V} {y : V} (p : LAny H1 Dl i H2 acc) (h : Same H2 H4) (hd : H2 Dl = some (.lst acc)) : H4 Dl = some (.lst acc) ∧ LAny H1 Dl (i + 1) (upd H4 Dl (.lst (acc ++ [y]))) (acc ++ [y]) :=
  ⟨h _ _ hd, p.1, fun b o q => by rw [upd_ne (ne_of_none q p.1)]; exact h _ _ (p.2 _ _ q)⟩
end
end Wp

set_option Elab.async false
set_option linter.all false
set_option maxRecDepth 100000
set_option maxHeartbeats 4000000
/-! == of data of any depth; repr of data. -/
namespace Wp
open PySem PySem.Spec PyProof.Rows L2
section
variable {X : Cx} {S : Nm} {m : Md} {k n : Nat} {σ : L2.St} {H : Hp} {Q : VK} {pos p : Pos} {x y : V} {d e : PyData}
theorem s_cut {st : Stmt} {D : Ends} (M : L2.St → Hp → Prop) (h : wS X st { D with nx := M } σ H) (k : ∀ σ' H', M σ' H' → D.nx σ' H') : wS X st D σ H :=
  wS_mono h k (fun _ _ z => z) (fun _ _ z => z) (fun _ _ z => z)
theorem hu64 {A : Around} {k : Nat} (hr : Room k A) : A.units + 64 < cLine := by
  have := hr.un
  omega
theorem o_eqD (C : On X S m n) (hx : Dp m.K H x d) (hy : Dp m.K H y e) (sx : SeqAt.shaped d = true) (sy : SeqAt.shaped e = true) (q : Q (.bl (PyData.eqv d e)) H) : wO X (compareOp .Eq) x y H Q :=
  ofO (op_eqD (hu64 C.room)) ⟨d, e, by rw [C.K]; exact hx, by rw [C.K]; exact hy, sx, sy, q⟩
theorem o_neD (C : On X S m n) (hx : Dp m.K H x d) (hy : Dp m.K H y e) (sx : SeqAt.shaped d = true) (sy : SeqAt.shaped e = true) (q : Q (.bl (!PyData.eqv d e)) H) : wO X (compareOp .NotEq) x y H Q :=
  ofO (op_neD (hu64 C.room)) ⟨d, e, by rw [C.K]; exact hx, by rw [C.K]; exact hy, sx, sy, q⟩
/-- repr of a tuple (or list) that reads as d, where nothing is being shown -/
def rRepr (K : PySem.W.Frag) : List V → Hp → VK → Prop := fun vs H Q => ∃ a d, vs = [.ref a] ∧ Dp K H (.ref a) d ∧ d.showable = true ∧ d.hasDict = false ∧ d.depth ≤ 60 ∧ d.leavesShort 13 = true ∧ d.bulk ≤ 2 ^ 20 ∧ Q (.str d.shown) H
theorem cr_repr (hg : X.A.guards = some []) (hu : X.A.units + 64 < cLine) : CallR X (.builtin "repr") (rRepr X.K) := by
  intro pins s σ H xs us Q I r h
  obtain ⟨a, d, rfl, hd, h1, h2, h3, h4, h5, q⟩ := h
  cases r with
  | cons r1 r2 =>
    cases r2
    cases r1
    obtain ⟨as, rd⟩ := Dp.reads I d _ _ hd rfl
    exact repr_of_reads' rd h1 (PyData.noDict_hsm h2) hg (by omega) (fun b o e => e) (fun h' u tk hk => ⟨.str d.shown, H, I.kept (t' := tk) hk, ⟨u, rfl⟩, q⟩) (PyData.shown_fits_bulk (B := 13) (by decide) (by decide) h4 h5)
theorem w_repr (C : On X S m n) (hg : X.A.guards = some []) (j : Nat) (hm : m.mg "repr" = none) {a : Expr} (q : wE X a σ H fun v H1 => ∃ b d, v = .ref b ∧ Dp m.K H1 (.ref b) d ∧ d.showable = true ∧ d.hasDict = false ∧ d.depth ≤ 60 ∧ d.leavesShort 13 = true ∧ d.bulk ≤ 2 ^ 20 ∧ Q (.str d.shown) H1)
    (hi : S.gs[j]? = some ("repr" : Str) := by rfl) (he : starEach [a] X.env = (false, eval a X.env) :: starEach [] X.env := by rfl) : wE X (.Call (.Name "repr" p) [a] [] pos) σ H Q :=
  w_cb C j (cr_repr hg (hu64 C.room)) hm (by decide +kernel) (wa_cons (wE_mono q fun v H1 ⟨b, d, ev, h⟩ => wa_nil ⟨b, d, by rw [ev], by rw [C.K]; exact h⟩) he) hi (by decide) he
end
end Wp

set_option Elab.async false
set_option linter.all false
set_option maxRecDepth 100000
set_option maxHeartbeats 4000000
/-! dicts with text keys; list + list, list * int; list stores. -/
namespace Wp
open PySem PySem.Spec PyProof.Rows L2
section
variable {X : Cx} {S : Nm} {m : Md} {k n : Nat} {σ : L2.St} {H : Hp} {D : Ends} {Q : VK} {pos p pos' p1 : Pos} {x y : V} {o i e : Expr} {a : Addr}
def DG (H : Hp) (x y : V) (P : V → Prop) : Prop := ∃ d v, x = .ref d ∧ DGet H d y (some v) ∧ P v
theorem dget_at {P : V → Prop} {a : Addr} {z : Str} {kvs : List (Key × V)} {v : V} (h : H a = some (.dK kvs)) (hv : valV kvs (.inr z) = some v) (q : P v) : DG H (.ref a) (.str z) P :=
  ⟨a, v, rfl, by rw [← hv]; exact DGet.k (k := Sum.inr z) h, q⟩
theorem w_dgN (C : On X S m n) (q : wE X o σ H fun x H1 => wE X i σ H1 fun y H2 => DG H2 x y fun v => Q v H2) (hs : NoSl i := by exact fun _ _ => rfl) : wE X (.Subscript o i pos) σ H Q := w_dget C q hs
theorem s_dput (C : On X S m n) (q : wE X e σ H fun v H1 => wE X o σ H1 fun x H2 => wE X i σ H2 fun y H3 => ∃ a H4, x = .ref a ∧ DPut H3 a y v H4 ∧ D.nx σ H4) (hs : swapsWith e (some (.Subscript o i p1)) pos.line X.env = pure false := by rfl) : wS X (.Assign [.Subscript o i p1] e pos) D σ H :=
  ofS (ps_dput (by have := hu64 C.room; omega) pE pE pE hs) q
theorem dput_at {P : Hp → Prop} {z : Str} {kvs : List (Key × V)} {v : V} (h : H a = some (.dK kvs)) (hl : kvs.length < sizeLine) (q : ∀ H', Mu a H H' → H' a = some (.dK (putK kvs (.inr z) v)) → P H') : ∃ b H4, V.ref a = .ref b ∧ DPut H b (.str z) v H4 ∧ P H4 :=
  ⟨a, _, rfl, DPut.k (k := Sum.inr z) h hl, q _ Mu.upd upd_same⟩
/-- a written dict of text keys, in an expression -/
def wPs (X : Cx) : List (Expr × Expr) → L2.St → Hp → (List (V × V) → Hp → Prop) → Prop
  | [], _, H, Q => Q [] H
  | (kx, vx) :: r, σ, H, Q => wE X kx σ H fun x H1 => wE X vx σ H1 fun y H2 => wPs X r σ H2 fun ps H3 => Q ((x, y) :: ps) H3
def trsOf (X : Cx) : List (Expr × Expr) → List (TE × TE)
  | [] => []
  | (kx, vx) :: r => (wE X kx, wE X vx) :: trsOf X r
theorem tp_of {X : Cx} : ∀ (l : List (Expr × Expr)) (σ : L2.St) (H : Hp) (Q : List (V × V) → Hp → Prop), wPs X l σ H Q → tPairs (trsOf X l) σ H Q
  | [], _, _, _, q => q
  | (kx, vx) :: r, σ, H, Q, q => wE_mono (X := X) (e := kx) q fun x H1 q1 => wE_mono (X := X) (e := vx) q1 fun y H2 q2 => tp_of r σ H2 _ q2
theorem pps_of {X : Cx} {pos : Pos} : ∀ l : List (Expr × Expr), PPs X pos (l.map fun q => some q.1) (l.map (·.2)) (trsOf X l)
  | [] => pps_nil
  | (kx, vx) :: r => pps_cons pE pE (pps_of r)
theorem w_disp {l : List (Expr × Expr)} {keys : List (Option Expr)} {values : List Expr} (hk : keys = l.map fun q => some q.1) (hv : values = l.map (·.2)) (h0 : keys ≠ []) (h15 : keys.length ≤ 15)
    (q : ∀ p H0, H p = none → Same H H0 → H0 p = some (.dK []) → wPs X l σ H0 fun ps H2 => H2 p = some (.dK []) ∧ ∃ kvs : List (Key × V), ps = kvs.map (fun kv => (kV kv.1, kv.2)) ∧ kvs.length ≤ 15 ∧ ∀ H3, Mu p H2 H3 → H3 p = some (.dK (mergeK [] kvs)) → Q (.ref p) H3) : wE X (.Dict keys values pos) σ H Q := by
  subst hk hv
  refine ofE (pe_disp (pps_of l) (by simp) (by simp) h0 h15) ?_
  refine fun p hp => tp_of l _ _ _ ?_
  have := q p _ hp (same_new hp) upd_same
  have mono : ∀ (l : List (Expr × Expr)) (σ : L2.St) (H : Hp) (Q Q' : List (V × V) → Hp → Prop), (∀ ps H, Q ps H → Q' ps H) → wPs X l σ H Q → wPs X l σ H Q' := by
    intro l
    induction l with
    | nil => exact fun σ H Q Q' hq q => hq _ _ q
    | cons a r ih => exact fun σ H Q Q' hq q => wE_mono (e := a.1) q fun x H1 q1 => wE_mono (e := a.2) q1 fun y H2 q2 => ih σ H2 _ _ (fun ps H3 z => hq _ _ z) q2
  exact mono l _ _ _ _ (fun ps H2 ⟨h1, kvs, h2, h3, h4⟩ => ⟨h1, kvs, h2, h3, h4 _ Mu.upd upd_same⟩) this
/-- lists -/
theorem o_cat {l b : Addr} {xs zs : List V} (h1 : H l = some (.lst xs)) (h2 : H b = some (.lst zs)) (hl : xs.length + zs.length ≤ sizeLine) (q : NewL (xs ++ zs) H Q) : wO X (binaryOp .Add) (.ref l) (.ref b) H Q :=
  ofO op_cat ⟨l, b, xs, zs, rfl, rfl, h1, h2, hl, fun p hp => q p _ hp (same_new hp) upd_same⟩
theorem o_rep {l : Addr} {k : Int} {xs : List V} (h1 : H l = some (.lst xs)) (hk : 0 ≤ k ∧ k < 1000) (hl : xs.length * k.toNat ≤ 100000) (q : NewL (List.replicate k.toNat xs).flatten H Q) : wO X (binaryOp .Mult) (.ref l) (.int k) H Q :=
  ofO op_rep ⟨l, k, xs, rfl, rfl, h1, by omega, by omega, Nat.le_trans hl (by decide), fun p hp => q p _ hp (same_new hp) upd_same⟩
/-- truth of what is between -/
theorem w_subN (q : wE X o σ H fun x H1 => wE X i σ H1 fun y H2 => wI X x y H2 Q) (hs : PlainIx i := by exact fun _ _ => rfl) : wE X (.Subscript o i pos) σ H Q := w_sub q hs
end
end Wp

set_option Elab.async false
set_option linter.all false
set_option maxRecDepth 100000
set_option maxHeartbeats 4000000
/-! three names at once; a list's item stored. -/
namespace Wp
open PySem PySem.Spec PyProof.Rows L2
section
variable {X : Cx} {S : Nm} {m : Md} {k n : Nat} {σ : L2.St} {H : Hp} {D : Ends} {Q : VK} {pos p pos' p1 : Pos} {o i e : Expr} {a : Addr}
theorem sw3 {x y z : Str} {a b c : Expr} {px py pz pt pt2 : Pos} {kt k2 : Nat} (hk : X.env.scope.kind = .function) (hx : X.env.scope.names.lookup x = some .local) (hy : X.env.scope.names.lookup y = some .local) (hz : X.env.scope.names.lookup z = some .local)
    (n1 : x ≠ y) (n2 : x ≠ z) (n3 : y ≠ z) (hl : (py.line == px.line) = true) (hl2 : (pz.line == px.line) = true)
    (h1 : [a, b, c].any (fun | .Starred .. => true | _ => false) = false) (h2 : [a, b, c].all (foldedForSure 8) = false) (h3 : [a, b, c].all (constantsAlone 8) = false) :
    swappedStores [.Tuple [.Name x px, .Name y py, .Name z pz] kt pt] (.Tuple [a, b, c] k2 pt2) X.env = pure (some [x, y, z]) := by
  have kx : X.env.kindOf x = some .local := hx
  have ky : X.env.kindOf y = some .local := hy
  have kz : X.env.kindOf z = some .local := hz
  have hb : X.env.blockKind = .function := by unfold Env.blockKind; rw [hk]; rfl
  have hd : ([x, y, z] : List Str).eraseDups = [x, y, z] := by
    have e1 : (y == x) = false := by simpa using n1.symm
    have e2 : (z == x) = false := by simpa using n2.symm
    have e3 : (z == y) = false := by simpa using n3.symm
    simp [List.eraseDups_cons, e1, e2, e3]
  unfold swappedStores
  simp only [hb, kx, ky, kz, Expr.pos, hl, hl2, h1, h2, h3, hd, List.filterMap_cons, List.filterMap_nil, List.head?_cons, Option.map_some, Option.getD_some, beq_self_eq_true, Bool.and_true, Bool.true_and, if_true, List.length_cons, List.length_nil]
  refine (if_neg (by decide)).trans ?_
  refine (if_neg fun z => ?_).trans ?_
  · have z' := z.symm.trans h1
    cases z'
  · refine (if_neg (by decide)).trans ?_
    refine (if_neg (by decide)).trans ?_
    exact if_neg (by decide)
theorem s_par3 (C : On X S m k) (i j l : Nat) {x y z : Str} {a b c : Expr} {px py pz pt pt2 : Pos} {kt k2 : Nat} (q : wA X [a, b, c] σ H fun vs H1 => ∃ u v w, vs = [u, v, w] ∧ D.nx (((σ.set i (some u)).set j (some v)).set l (some w)) H1)
    (hi : S.N[i]? = some x := by rfl) (hj : S.N[j]? = some y := by rfl) (hl' : S.N[l]? = some z := by rfl) (hij : i ≠ j := by decide) (hil : i ≠ l := by decide) (hjl : j ≠ l := by decide) (hvi : i ∈ S.lcl := by decide) (hvj : j ∈ S.lcl := by decide) (hvl : l ∈ S.lcl := by decide)
    (hl : (py.line == px.line) = true := by rfl) (hl2 : (pz.line == px.line) = true := by rfl)
    (h1 : [a, b, c].any (fun | .Starred .. => true | _ => false) = false := by rfl) (h2 : [a, b, c].all (foldedForSure 8) = false := by rfl) (h3 : [a, b, c].all (constantsAlone 8) = false := by rfl) :
    wS X (.Assign [.Tuple [.Name x px, .Name y py, .Name z pz] kt pt] (.Tuple [a, b, c] k2 pt2) pos) D σ H := by
  have hx := C.lcl i hvi x hi
  have hy := C.lcl j hvj y hj
  have hz := C.lcl l hvl z hl'
  have n1 : x ≠ y := fun e => hij (nodup_ix C.nd hi (e ▸ hj))
  have n2 : x ≠ z := fun e => hil (nodup_ix C.nd hi (e ▸ hl'))
  have n3 : y ≠ z := fun e => hjl (nodup_ix C.nd hj (e ▸ hl'))
  exact ofS (ps_par3 (i := i) (j := j) (l := l) C.calm (by rw [C.hN]; exact C.nd) (by rw [C.hN]; exact hi) (by rw [C.hN]; exact hj) (by rw [C.hN]; exact hl') hij hil hjl hx hy hz pA (sw3 C.kind hx hy hz n1 n2 n3 hl hl2 h1 h2 h3)) q
/-- xs[i] = e, a list -/
theorem s_lput (q : wE X e σ H fun v H1 => wE X o σ H1 fun x H2 => wE X i σ H2 fun y H3 => rSetL x y v H3 fun H4 => D.nx σ H4) (hs : swapsWithSole [.Subscript o i p1] e pos.line X.env = pure false := by rfl) (hw : swappedStores [.Subscript o i p1] e X.env = pure none := by rfl)
    (h1 : (assignEach [.Subscript o i p1] X.env).map (·.2) = [assign (.Subscript o i p1) X.env] := by rfl)
    (ha : ∀ v, assign (.Subscript o i p1) X.env v = (do
      let ov ← holding [v] (eval o X.env)
      let iv ← holding [v, ov] (eval i X.env)
      standAt p1
      holding [v, ov, iv] (setItem ov iv v)
      release [v, ov, iv] []) := by intro _; rfl) : wS X (.Assign [.Subscript o i p1] e pos) D σ H :=
  s_asg (wE_mono q fun v H1 q1 => ofG (pg_sub pE pE set_list ha) q1) hs hw h1
theorem cutV_to (xs : List V) (b : Nat) : cutV xs none (some (b : Int)) = xs.take b := by
  unfold cutV
  rw [show HT.sIx xs.length 0 none = 0 from rfl, show HT.sIx xs.length xs.length (some (b : Int)) = min b xs.length from HT.sIx_nat xs.length xs.length b]
  rw [List.drop_zero, Nat.sub_zero]
  by_cases h : b ≤ xs.length
  · rw [Nat.min_eq_left h]
  · rw [Nat.min_eq_right (by omega), List.take_of_length_le (by omega), List.take_of_length_le (by omega)]
theorem sl_to (C : On X S m n) {p : Addr} {xs : List V} {b : Int} {b' : Nat} (h : SqL m.K H p xs) (hb : b = (b' : Int)) (q : NewL (xs.take b') H Q) : wSl X (.ref p) none (some b) H Q :=
  sl_l C h fun l hl => by subst hb; rw [cutV_to]; exact q l _ hl (same_new hl) upd_same
theorem cutS_le (z : Str) (b : Nat) : (cutS z none (some (b : Int))).cps.toList = z.cps.toList.take b := by
  unfold cutS
  rw [show HT.sIx z.length 0 none = 0 from rfl, show HT.sIx z.length z.length (some (b : Int)) = min b z.length from HT.sIx_nat z.length z.length b]
  simp only [List.drop_zero]
  have e : z.length = z.cps.toList.length := by simp [Str.length]
  rw [e]
  by_cases h : b ≤ z.cps.toList.length
  · rw [Nat.min_eq_left h]; simp
  · rw [Nat.min_eq_right (by omega), List.take_of_length_le (l := z.cps.toList) (i := b) (by omega)]
    simp
    exact List.take_of_length_le (by simp)
theorem cutS_ge (z : Str) (b : Nat) : (cutS z (some (b : Int)) none).cps.toList = z.cps.toList.drop b := by
  unfold cutS
  rw [show HT.sIx z.length 0 (some (b : Int)) = min b z.length from HT.sIx_nat z.length 0 b, show HT.sIx z.length z.length none = z.length from rfl]
  have e : z.length = z.cps.toList.length := by simp [Str.length]
  rw [e]
  simp only
  by_cases h : b ≤ z.cps.toList.length
  · rw [Nat.min_eq_left h]
    exact List.take_of_length_le (by rw [List.length_drop]; omega)
  · rw [Nat.min_eq_right (by omega), List.drop_of_length_le (i := b) (by omega)]
    simp
theorem sw_cell {elt : Expr} {gs : List Comprehension} {scope : Scope} {pos py : Pos} {y : Str} {l : Nat} {env : Env} (hk : env.scope.kind = .function) (hy : env.scope.names.lookup y = some .cell) : swapsWith (.ListComp elt gs scope pos) (some (.Name y py)) l env = pure false := by
  have ky : env.kindOf y = some .cell := hy
  have hb : env.blockKind = .function := by unfold Env.blockKind; rw [hk]; rfl
  unfold swapsWith
  simp only [hb, ky]
  rfl
/-- y = [..], y a cell -/
theorem s_ofLc (C : On X S m n) (i : Nat) {elt tg iter : Expr} {ifs : List Expr} {scope : Scope} {y : Str} {py spos : Pos} (hc : S.sc.names.lookup y = some .cell) (q : wL X elt tg iter ifs scope σ H fun v H1 => D.nx (σ.set i (some v)) H1) (hi : S.N[i]? = some y := by rfl) (hv : i ∈ S.stv := by decide) :
    wS X (.Assign [.Name y py] (.ListComp elt [⟨tg, iter, ifs, 0⟩] scope pos) spos) D σ H :=
  s_set C i (w_ofL C q) hi hv (sw_cell C.kind (by rw [C.hsc]; exact hc))
/-- x, y = a, b with x a cell: the stores are not swapped -/
theorem sw2c {x y : Str} {a b : Expr} {px py pt pt2 : Pos} {kt k2 : Nat} {env : Env} (hk : env.scope.kind = .function) (hx : env.scope.names.lookup x = some .cell) (h1 : [a, b].any (fun | .Starred .. => true | _ => false) = false) :
    swappedStores [.Tuple [.Name x px, .Name y py] kt pt] (.Tuple [a, b] k2 pt2) env = pure none := by
  have kx : env.kindOf x = some .cell := hx
  have hb : env.blockKind = .function := by unfold Env.blockKind; rw [hk]; rfl
  have kc : ((some NameKind.cell : Option NameKind) == some .local) = false := by decide
  unfold swappedStores
  simp only [hb, kx, kc, Bool.false_and, Expr.pos, List.filterMap_cons, List.filterMap_nil, List.head?_cons, Option.map_some, Option.getD_some, List.length_cons, List.length_nil]
  refine (if_neg (by decide)).trans ?_
  refine (if_neg fun z => ?_).trans ?_
  · have z' := z.symm.trans h1
    cases z'
  · refine if_pos ?_
    split
    · split <;> simp
    · rename_i h
      simp at h
end
end Wp

set_option Elab.async false
set_option linter.all false
set_option maxRecDepth 100000
set_option maxHeartbeats 4000000
/-! The law's text by places, and its head. -/
namespace K9
open PySem PySem.Spec PyProof.Rows L2
def top (i : Nat) : Stmt := PySem.Challenge.pw_clamberhouse_k89_promises_read.main.body.getD i (.Pass ⟨0, 0, 0, 0⟩)
abbrev sBT : Stmt := inClass (top 4) 0
abbrev sIsName : Stmt := top 16
abbrev sIsN : Stmt := top 19
abbrev sIsZ : Stmt := top 20
abbrev sIsV : Stmt := top 24
abbrev sFits : Stmt := top 25
abbrev sLimit : Stmt := top 26
abbrev sKind : Stmt := top 27
abbrev sCells : Stmt := top 28
abbrev sVow : Stmt := inClass (top 29) 0
abbrev sPen : Stmt := top 31
abbrev sDraw : Stmt := top 32
abbrev sPick : Stmt := top 33
abbrev sLName : Stmt := top 34
abbrev sNames : Stmt := top 35
abbrev sMet : Stmt := top 36
abbrev sLN : Stmt := top 37
abbrev sLZ : Stmt := top 38
abbrev sLFits : Stmt := top 39
abbrev sForms : Stmt := top 40
abbrev sDue : Stmt := top 41
abbrev sWord : Stmt := top 42
abbrev sBent : Stmt := top 43
abbrev sShown : Stmt := top 44
abbrev sLaw : Stmt := top 45
abbrev dd (x : Str) (st : Stmt) : He.DefD := ⟨(x, none), x, x, defArgs st, defBody st, defScope st, [], []⟩
abbrev dm (c x q : Str) (st : Stmt) : He.DefD := ⟨(c, some x), x, q, defArgs st, defBody st, defScope st, [], []⟩
def fn : List He.DefD := [dd "is_name" sIsName, dd "is_n" sIsN, dd "is_z" sIsZ, dd "is_v" sIsV, dd "fits" sFits, dd "limit_of" sLimit, dd "kind_at" sKind, dd "cells_behind" sCells,
  dm "Vow" "__init__" "Vow.__init__" sVow, dm "BadText" "__init__" "BadText.__init__" sBT,
  dd "_law_pen" sPen, dd "_law_draw" sDraw, dd "_law_pick" sPick, dd "_law_is_name" sLName, dd "_law_names" sNames, dd "_law_met" sMet, dd "_law_is_n" sLN, dd "_law_is_z" sLZ, dd "_law_fits" sLFits,
  dd "_law_vow_forms" sForms, dd "_law_vow_due" sDue, dd "_law_vow_word" sWord, dd "_law_bent_vow" sBent, dd "_law_shown" sShown, dd "law" sLaw]
def others : List Str := ["BadName", "NoName", "TakenName", "BadNumber", "BadLand", "NotThere", "BadArrangement", "Unlike", "NotKept", "NothingToUndo", "NothingToRedo"]
def free_ : List Str := ["len", "all", "isinstance", "str", "int", "range", "enumerate", "tuple", "list", "repr"]
def glos : List Str := ["is_name", "is_n", "is_z", "is_v", "fits", "limit_of", "kind_at", "cells_behind", "Vow", "BadText", "PLAIN", "TIMED"]
def glos2 : List Str := ["_law_pen", "_law_draw", "_law_pick", "_law_is_name", "_law_names", "_law_met", "_law_is_n", "_law_is_z", "_law_fits", "_law_vow_forms", "_law_vow_due", "_law_vow_word"]
def glos3 : List Str := ["_law_bent_vow", "_law_shown", "law"]
def vowF : List Str := ["text", "name", "kind", "other", "when", "limit", "column", "cells"]
def fa : List He.Fa := free_.map He.Fa.free ++ (glos.map He.Fa.glo ++ (glos2.map He.Fa.glo ++ (glos3.map He.Fa.glo ++ (others.map He.Fa.glo ++ (vowF.map (fun f => He.Fa.noat "Vow" f) ++
  [.str "FIGURES" "0123456789", .str "SMALL" "abcdefghijklmnopqrstuvwxyz", .str "SIGNS" "abcdefghijklmnopqrstuvwxyz0123456789", .cls "Vow", .mkr "Vow", .noat "BadText" "line", .noat "BadText" "column", .meth "BadText" "__init__", .exm "BadText" "BadText" true])))))
def ts : List He.Tab := [(fun K => He.ga K "PLAIN", ["within", "beyond", "allowed", "like"]), (fun K => He.ga K "TIMED", ["free", "hangs", "holds", "strong"])]
def tf : List He.Defn := [("law", none)]
/-- a tuple of the written part -/
def tupA (K : PySem.W.Frag) (q : Addr) (vs : List V) : Bool := match K.lookup q with
  | some ⟨.type c, _, .seq its _, _⟩ => decide (c = "tuple") && (decide (its.size ≤ sizeLine) && He.relAll vs its.toList)
  | _ => false
def rowB (K : PySem.W.Frag) (f : List Str × Nat) (u : Value) : Bool := match u with
  | .ref p => (match K.lookup p with
    | some ⟨.type c, _, .seq its _, _⟩ => decide (c = "tuple") && (decide (its.size ≤ sizeLine) && (match its.toList with
      | [.ref q, v] => He.relB (.int (f.2 : Int)) v && tupA K q (f.1.map V.str)
      | _ => false))
    | _ => false)
  | _ => false
def keyS (e : DictEntry) : Option Str := match e.key with
  | .str x _ => some x
  | _ => none
def keysB (K : PySem.W.Frag) (a : Addr) (ks : List Str) : Bool := match K.lookup a with
  | some ⟨_, _, .dict es _, _⟩ => decide (es.toList.map keyS = ks.map some)
  | _ => false
def valB (K : PySem.W.Frag) (a : Addr) (rows : List (Str × (List Str × Nat))) : Bool := rows.all fun r => match PySem.W.nsIn K a r.1 with
  | some (some u) => rowB K r.2 u
  | _ => false
def rowsP : List (Str × (List Str × Nat)) := [("within", (["n"], 0)), ("beyond", (["n"], 0)), ("allowed", ([], 0)), ("like", (["name"], 0))]
def rowsT : List (Str × (List Str × Nat)) := [("free", ([], 1)), ("hangs", ([], 2)), ("holds", (["n"], 1)), ("strong", (["v"], 0))]
def ex (K : PySem.W.Frag) : Bool := Wp.oexB K (He.ga K "BadText") && (xfB K (He.ga K "BadText") && (decide (PySem.W.typeIn K (.ref (He.ma K (He.ga K "BadText") "__init__")) = some (.type "function")) &&
  (decide (PySem.W.findIn K (.ref (He.ga K "Vow")) "__class__" = some (some (.builtin "object.__class__"))) && (decide (PySem.W.specialIn K (.builtin "object.__class__") "__get__" = some (some (.builtin "getset_descriptor.__get__"))) &&
  (decide (PySem.W.takesIn K (.builtin "object.__class__") = some true) && (decide (PySem.W.mroIn K (He.ga K "Vow") (.type "object") = some true) &&
  (keysB K (He.ga K "PLAIN") (rowsP.map (·.1)) && (keysB K (He.ga K "TIMED") (rowsT.map (·.1)) && (valB K (He.ga K "PLAIN") rowsP && valB K (He.ga K "TIMED") rowsT)))))))))
abbrev R : PySem.W.OpenRow := PySem.W.OpenLaw.row PySem.Challenge.rw_clamberhouse_k89_promises_read
abbrev hk : PySem.W.Hook := He.hookX 5 fa fn ts tf ex
def ob (s : PySem.W.SharedT) : He.AlX := He.obsX 5 fa fn ts tf ex (HandSHeadRun.getT s)
theorem ob_eq (s : PySem.W.SharedT) : ob s = hk.obs s.abs := He.obsX_eq (HandSHeadRun.getT_eq s)
def names : List Str := (["SMALL", "SIGNS", "ClimbError", "BadText", "BadNumber", "BadName", "BadLand", "BadArrangement", "TakenName", "NotThere", "Unlike", "NotKept"] : List Str) ++ (["NoName", "NothingToUndo", "NothingToRedo", "is_name", "FIGURES", "is_n", "is_z", "PLAIN", "TIMED", "is_v", "fits", "limit_of"] : List Str) ++ (["kind_at", "cells_behind", "Vow", "_law_pen", "_law_draw", "_law_pick", "_law_is_name", "_law_names", "_law_met", "_law_is_n", "_law_is_z", "_law_fits"] : List Str) ++ (["_law_vow_forms", "_law_vow_due", "_law_vow_word", "_law_bent_vow", "_law_shown"] : List Str)
theorem run (w : World) : HandSHeadRun.RunEq R (PySem.W.view R.prog [45]) hk ob 12000 names w := by
  refine PySem.W.byRow2 "special-get-raises" (P := fun w => HandSHeadRun.RunEq R (PySem.W.view R.prog [45]) hk ob 12000 names w) ?_ ?_ w
  · intro w os
    kernel_rfl
  · intro w os
    kernel_rfl
end K9

set_option Elab.async false
set_option linter.all false
set_option maxRecDepth 100000
set_option maxHeartbeats 4000000
namespace K9
open PySem PySem.Spec PyProof.Rows L2 Wp
local macro_rules | `(tactic| walk_at "go1") => `(tactic| first
  | (with_reducible show wE _ (Expr.Name _ _) _ _ _); (first | refine wv ‹On _ _ _ _› 0 ?_ | refine wv ‹On _ _ _ _› 1 ?_ | refine wv ‹On _ _ _ _› 2 ?_ | refine wv ‹On _ _ _ _› 3 ?_ | refine wv ‹On _ _ _ _› 4 ?_ | refine wv ‹On _ _ _ _› 5 ?_ | refine wv ‹On _ _ _ _› 6 ?_ | refine wv ‹On _ _ _ _› 7 ?_ | refine wv ‹On _ _ _ _› 8 ?_ | refine wv ‹On _ _ _ _› 9 ?_ | refine wv ‹On _ _ _ _› 10 ?_ | refine wv ‹On _ _ _ _› 11 ?_ | refine wv ‹On _ _ _ _› 12 ?_ | refine wv ‹On _ _ _ _› 13 ?_)
  | with_reducible refine w_int ?_
  | with_reducible refine w_str ?_
  | with_reducible refine w_bl ?_
  | with_reducible refine w_non ?_
  | with_reducible refine w_bin ?_
  | (with_reducible show wE _ (Expr.Compare _ [_] [_] _) _ _ _); (refine w_cmp ?_)
  | (with_reducible show wT _ (Expr.Compare _ [_] [_] _) _ _ _); (refine wt_cmp ?_)
  | (with_reducible show wE _ (Expr.Compare _ [_, _] [_, _] _) _ _ _); (refine w_chain ?_)
  | (with_reducible show wT _ (Expr.Compare _ [_, _] [_, _] _) _ _ _); (refine wt_chain ?_)
  | with_reducible refine wt_not ?_
  | (with_reducible show wT _ (Expr.BoolOp _ _ _) _ _ _); (refine wt_w ?_)
  | with_reducible refine ww_and1 ?_
  | with_reducible refine ww_or1 ?_
  | with_reducible refine ww_and ?_
  | with_reducible refine ww_or ?_
  | with_reducible refine w_one ?_
  | with_reducible refine w_and ?_
  | with_reducible refine w_or ?_
  | with_reducible refine w_not ?_
  | with_reducible refine w_ifx ?_
  | (with_reducible show wT _ (Expr.Call _ _ _ _) _ _ _); (refine wt_val ?_)
  | with_reducible refine w_sl ?_
  | with_reducible refine w_slf ?_
  | with_reducible refine w_slt ?_
  | (with_reducible show wE _ (Expr.Subscript _ (Expr.Constant (Const.str _) _ _) _) _ _ _); (refine w_dgN ‹On _ _ _ _› ?_)
  | (with_reducible show DG _ _ _ _); (refine dget_at (by assumption) (by rfl) ?_)
  | (with_reducible show wE _ (Expr.Subscript _ (Expr.Constant _ _ _) _) _ _ _); (refine w_sub ?_)
  | (with_reducible show wE _ (Expr.Subscript _ (Expr.BinOp _ _ _ _) _) _ _ _); (refine w_sub ?_)
  | (with_reducible show wA _ (_ :: _) _ _ _); (refine wa_cons ?_)
  | with_reducible refine wa_nil ?_
  | with_reducible refine o_add ?_
  | with_reducible refine o_sub ?_
  | with_reducible refine o_lt ?_
  | with_reducible refine o_le ?_
  | with_reducible refine o_gt ?_
  | with_reducible refine o_ge ?_
  | with_reducible refine o_is ?_
  | with_reducible refine o_isnt ?_
  | (with_reducible show wO _ (compareOp CmpOp.Eq) _ _ _ _); (refine o_eq ?_)
  | (with_reducible show wO _ (compareOp CmpOp.NotEq) _ _ _ _); (refine o_ne ?_)
  | with_reducible refine b_one ?_
  | with_reducible refine b_nil ?_
  | with_reducible refine b_cons ?_
  | with_reducible refine s_if ?_
  | with_reducible refine s_ret ?_
  | with_reducible refine s_retN ?_
  | with_reducible refine s_pass ?_
  | with_reducible refine s_break ?_
  | with_reducible refine s_cont ?_
  | (with_reducible show wS _ (Stmt.Expr (Expr.Call (Expr.Attribute _ "append" _) [_] [] _) _) _ _ _); (refine s_append ‹On _ _ _ _› ?_)
  | (with_reducible show wS _ (Stmt.Expr _ _) _ _ _); (refine s_expr ?_)
  | (with_reducible show wE _ (Expr.ListComp _ _ _ _) _ _ _); (refine w_ofL ‹On _ _ _ _› ?_)
  | (with_reducible show wS _ (Stmt.Assign [Expr.Name _ _] (Expr.ListComp _ _ _ _) _) _ _ _); (first | refine s_ofL ‹On _ _ _ _› 0 ?_ | refine s_ofL ‹On _ _ _ _› 1 ?_ | refine s_ofL ‹On _ _ _ _› 2 ?_ | refine s_ofL ‹On _ _ _ _› 3 ?_ | refine s_ofL ‹On _ _ _ _› 4 ?_ | refine s_ofL ‹On _ _ _ _› 5 ?_ | refine s_ofL ‹On _ _ _ _› 6 ?_ | refine s_ofL ‹On _ _ _ _› 7 ?_ | refine s_ofL ‹On _ _ _ _› 8 ?_ | refine s_ofL ‹On _ _ _ _› 9 ?_ | refine s_ofL ‹On _ _ _ _› 10 ?_ | refine s_ofL ‹On _ _ _ _› 11 ?_ | refine s_ofL ‹On _ _ _ _› 12 ?_ | refine s_ofL ‹On _ _ _ _› 13 ?_)
  | (with_reducible show wS _ (Stmt.Assign [Expr.Name _ _] _ _) _ _ _); (first | refine s_set ‹On _ _ _ _› 0 ?_ | refine s_set ‹On _ _ _ _› 1 ?_ | refine s_set ‹On _ _ _ _› 2 ?_ | refine s_set ‹On _ _ _ _› 3 ?_ | refine s_set ‹On _ _ _ _› 4 ?_ | refine s_set ‹On _ _ _ _› 5 ?_ | refine s_set ‹On _ _ _ _› 6 ?_ | refine s_set ‹On _ _ _ _› 7 ?_ | refine s_set ‹On _ _ _ _› 8 ?_ | refine s_set ‹On _ _ _ _› 9 ?_ | refine s_set ‹On _ _ _ _› 10 ?_ | refine s_set ‹On _ _ _ _› 11 ?_ | refine s_set ‹On _ _ _ _› 12 ?_ | refine s_set ‹On _ _ _ _› 13 ?_)
  | (with_reducible show wS _ (Stmt.Assign [Expr.Subscript _ (Expr.Constant (Const.str _) _ _) _] _ _) _ _ _); (refine s_dput ‹On _ _ _ _› ?_)
  | (with_reducible show wG _ (Expr.Name _ _) _ _ _ _); (first | refine g_name ‹On _ _ _ _› 0 ?_ | refine g_name ‹On _ _ _ _› 1 ?_ | refine g_name ‹On _ _ _ _› 2 ?_ | refine g_name ‹On _ _ _ _› 3 ?_ | refine g_name ‹On _ _ _ _› 4 ?_ | refine g_name ‹On _ _ _ _› 5 ?_ | refine g_name ‹On _ _ _ _› 6 ?_ | refine g_name ‹On _ _ _ _› 7 ?_ | refine g_name ‹On _ _ _ _› 8 ?_ | refine g_name ‹On _ _ _ _› 9 ?_ | refine g_name ‹On _ _ _ _› 10 ?_ | refine g_name ‹On _ _ _ _› 11 ?_ | refine g_name ‹On _ _ _ _› 12 ?_ | refine g_name ‹On _ _ _ _› 13 ?_)
  | with_reducible refine iteT ?_
  | with_reducible refine iteF ?_
  | with_reducible refine iteNT ?_
  | with_reducible refine iteNF ?_
  | with_reducible refine Exists.intro _ (And.intro rfl ?_))
local macro_rules | `(tactic| walk_at "go") => `(tactic| repeat (walk_at "go1"))
/-! the module's facts -/
structure Txt (m : Md) : Prop where
  len : m.mg "len" = none
  all : m.mg "all" = none
  isinstance : m.mg "isinstance" = none
  str : m.mg "str" = none
  int : m.mg "int" = none
  range : m.mg "range" = none
  enumerate : m.mg "enumerate" = none
  tuple : m.mg "tuple" = none
  list : m.mg "list" = none
  repr : m.mg "repr" = none
  figures : ∃ t, m.mg "FIGURES" = some (.str "0123456789" t)
  small : ∃ t, m.mg "SMALL" = some (.str "abcdefghijklmnopqrstuvwxyz" t)
  signs : ∃ t, m.mg "SIGNS" = some (.str "abcdefghijklmnopqrstuvwxyz0123456789" t)
def figs : List Nat := [48, 49, 50, 51, 52, 53, 54, 55, 56, 57]
theorem figs_eq : ("0123456789" : Str).cps.toList = figs := by decide +kernel
def figsOk (l : List Nat) : Bool := (decide (1 ≤ l.length) && decide (l.length ≤ 6)) && l.all fun c => decide (c ∈ figs)
def isN (l : List Nat) : Bool := figsOk l && (decide (l = [48]) || !decide (l.head? = some 48))
def spIsN : Sp := fun vs H Q _ => ∃ w : Str, vs = [.str w] ∧ w.length ≤ 1000000 ∧ ∀ H', Same H H' → Q (.bl (isN w.cps.toList)) H'
abbrev nIsN : Nm := defNmC ["word", "sign"] sIsN ["len", "all"] [] [1]
theorem all_range {l : List Nat} {p : Nat → Bool} : ((List.range l.length).map fun i => p (l.getD i 0)).all id = l.all p := by
  induction l with
  | nil => rfl
  | cons a r ih =>
    rw [List.length_cons, List.range_succ_eq_map, List.map_cons, List.all_cons, List.map_map, List.all_cons, ← ih]
    rfl
theorem szN (n : Nat) (h : n ≤ 1000 := by decide) : n ≤ sizeLine := Nat.le_trans h (by decide)
theorem str_len (w : Str) : w.length = w.cps.toList.length := by simp [Str.length]
theorem getD_of {l : List Nat} {i c : Nat} (h : l[i]? = some c) : l.getD i 0 = c := by rw [List.getD_eq_getElem?_getD, h]; rfl
theorem cps_list (w : Str) (i : Nat) : w.cps[i]? = w.cps.toList[i]? := by simp
theorem str_eq {w z : Str} : w = z ↔ w.cps.toList = z.cps.toList := by
  constructor
  · intro h; rw [h]
  · intro h
    cases w; cases z
    simp at h
    rw [h]
theorem dec_iff {p q : Prop} [Decidable p] [Decidable q] (h : p ↔ q) : decide p = decide q := by
  by_cases hp : p
  · rw [decide_eq_true hp, decide_eq_true (h.mp hp)]
  · rw [decide_eq_false hp, decide_eq_false fun z => hp (h.mpr z)]
theorem dec_str2 {w z : Str} {l r : List Nat} (hw : w.cps.toList = l) (hz : z.cps.toList = r) : decide (V.str w = V.str z) = decide (l = r) := by
  apply dec_iff
  rw [← hw, ← hz, ← str_eq]
  constructor
  · intro h; injection h
  · intro h; rw [h]
theorem b_isN {X : Cx} {m : Md} {vs : List V} {H : Hp} {Q : VK} {E : XK} (T : Txt m) (C : On X nIsN m 0) (B : Bd X E) (h : spIsN vs H Q E) : wB X (defBody sIsN) (out Q) (start nIsN.N vs) H := by
  obtain ⟨w, rfl, hw, k⟩ := h
  generalize hl : w.cps.toList = l at k
  have hlen : w.length = l.length := by rw [str_len, hl]
  have hz : w.length ≤ sizeLine := Nat.le_trans hw (by decide)
  refine b_cons ?_
  refine s_if (wT_mono (Q := fun b H1 => Same H H1 ∧ b = !figsOk l) ?_ fun b H1 ⟨s1, e1⟩ => ?_)
  · walk_at "go"
    refine w_lenS C 0 T.len ?_
    walk_at "go"
    refine ⟨hz, ?_⟩
    walk_at "go"
    rw [hlen]
    refine ite2b (fun h1 => ?_) (fun h1 => ?_)
    · walk_at "go"
      refine ite2n (fun h2 => ?_) (fun h2 => ?_)
      · refine ⟨Same.refl _, ?_⟩
        unfold figsOk
        simp at h1 h2 ⊢
        exact .inl (.inr (by omega))
      · walk_at "go"
        refine w_all C 1 T.all ?_
        refine w_ofL C ?_
        refine lcS C 1 ["FIGURES"] [1] (by decide +kernel) ?_ (fun _ => rfl)
        walk_at "go"
        refine ⟨by omega, fun i => .bl (decide (l.getD i 0 ∈ figs)), fun i c H2 X2 hc s2 C2 => ?_, fun p H2 hp s2 e2 => ?_⟩
        · walk_at "go"
          refine wgs C2 0 T.figures ?_
          refine o_insign ?_
          refine ⟨Same.refl _, ?_⟩
          have ec : l.getD i 0 = c := getD_of (by rw [← hl, ← cps_list]; exact hc)
          rw [figs_eq, ← ec]
        · refine ⟨p, (List.range l.length).map fun i => decide (l.getD i 0 ∈ figs), rfl, .inl (.inl ?_), ?_⟩
          · rw [e2, List.map_map]
            have : w.cps.size = l.length := by rw [← hlen]; rfl
            rw [this]
            rfl
          · rw [all_range (p := fun c => decide (c ∈ figs))]
            walk_at "go"
            refine ⟨s2, ?_⟩
            simp at h1 h2
            have a1 : 1 ≤ l.length := by omega
            have a2 : l.length ≤ 6 := by omega
            unfold figsOk
            simp [a1, a2]
    · walk_at "go"
      refine ⟨Same.refl _, ?_⟩
      unfold figsOk
      simp at h1 ⊢
      exact .inl (.inl (by cases l; rfl; simp at h1; omega))
  · subst e1
    refine ite2n (fun h1 => ?_) (fun h1 => ?_)
    · walk_at "go"
      have e : isN l = false := by unfold isN; rw [h1]; rfl
      exact e ▸ k H1 s1
    · walk_at "go"
      have e : isN l = (decide (l = [48]) || !decide (l.head? = some 48)) := by unfold isN; rw [h1]; rfl
      rw [e] at k
      rw [dec_str2 hl (show ("0" : Str).cps.toList = [48] by decide +kernel)]
      refine ite2b (fun h3 => ?_) (fun h3 => ?_)
      · rw [h3] at k
        exact k H1 s1
      · walk_at "go"
        rw [h3] at k
        cases l with
        | nil => exact absurd h1 (by decide)
        | cons a r =>
          refine i_str hz (c := a) (by rw [hl]; exact atI_nat (j := 0) rfl) ?_
          walk_at "go"
          rw [dec_str2 (l := [a]) rfl (show ("0" : Str).cps.toList = [48] by decide +kernel)]
          have e2 : decide ([a] = [48]) = decide ((a :: r).head? = some 48) := dec_iff (by simp)
          rw [e2]
          exact k H1 s1
end K9

set_option Elab.async false
set_option linter.all false
set_option maxRecDepth 100000
set_option maxHeartbeats 4000000
namespace K9
open PySem PySem.Spec PyProof.Rows L2 Wp
local macro_rules | `(tactic| walk_at "go1") => `(tactic| first
  | (with_reducible show wE _ (Expr.Name _ _) _ _ _); (first | refine wv ‹On _ _ _ _› 0 ?_ | refine wv ‹On _ _ _ _› 1 ?_ | refine wv ‹On _ _ _ _› 2 ?_ | refine wv ‹On _ _ _ _› 3 ?_ | refine wv ‹On _ _ _ _› 4 ?_ | refine wv ‹On _ _ _ _› 5 ?_ | refine wv ‹On _ _ _ _› 6 ?_ | refine wv ‹On _ _ _ _› 7 ?_ | refine wv ‹On _ _ _ _› 8 ?_ | refine wv ‹On _ _ _ _› 9 ?_ | refine wv ‹On _ _ _ _› 10 ?_ | refine wv ‹On _ _ _ _› 11 ?_ | refine wv ‹On _ _ _ _› 12 ?_ | refine wv ‹On _ _ _ _› 13 ?_)
  | with_reducible refine w_int ?_
  | with_reducible refine w_str ?_
  | with_reducible refine w_bl ?_
  | with_reducible refine w_non ?_
  | with_reducible refine w_bin ?_
  | (with_reducible show wE _ (Expr.Compare _ [_] [_] _) _ _ _); (refine w_cmp ?_)
  | (with_reducible show wT _ (Expr.Compare _ [_] [_] _) _ _ _); (refine wt_cmp ?_)
  | (with_reducible show wE _ (Expr.Compare _ [_, _] [_, _] _) _ _ _); (refine w_chain ?_)
  | (with_reducible show wT _ (Expr.Compare _ [_, _] [_, _] _) _ _ _); (refine wt_chain ?_)
  | with_reducible refine wt_not ?_
  | (with_reducible show wT _ (Expr.BoolOp _ _ _) _ _ _); (refine wt_w ?_)
  | with_reducible refine ww_and1 ?_
  | with_reducible refine ww_or1 ?_
  | with_reducible refine ww_and ?_
  | with_reducible refine ww_or ?_
  | with_reducible refine w_one ?_
  | with_reducible refine w_and ?_
  | with_reducible refine w_or ?_
  | with_reducible refine w_not ?_
  | with_reducible refine w_ifx ?_
  | (with_reducible show wT _ (Expr.Call _ _ _ _) _ _ _); (refine wt_val ?_)
  | with_reducible refine w_sl ?_
  | with_reducible refine w_slf ?_
  | with_reducible refine w_slt ?_
  | (with_reducible show wE _ (Expr.Subscript _ (Expr.Constant (Const.str _) _ _) _) _ _ _); (refine w_dgN ‹On _ _ _ _› ?_)
  | (with_reducible show DG _ _ _ _); (refine dget_at (by assumption) (by rfl) ?_)
  | (with_reducible show wE _ (Expr.Subscript _ (Expr.Constant _ _ _) _) _ _ _); (refine w_sub ?_)
  | (with_reducible show wE _ (Expr.Subscript _ (Expr.BinOp _ _ _ _) _) _ _ _); (refine w_sub ?_)
  | (with_reducible show wA _ (_ :: _) _ _ _); (refine wa_cons ?_)
  | with_reducible refine wa_nil ?_
  | with_reducible refine o_add ?_
  | with_reducible refine o_sub ?_
  | with_reducible refine o_lt ?_
  | with_reducible refine o_le ?_
  | with_reducible refine o_gt ?_
  | with_reducible refine o_ge ?_
  | with_reducible refine o_is ?_
  | with_reducible refine o_isnt ?_
  | (with_reducible show wO _ (compareOp CmpOp.Eq) _ _ _ _); (refine o_eq ?_)
  | (with_reducible show wO _ (compareOp CmpOp.NotEq) _ _ _ _); (refine o_ne ?_)
  | with_reducible refine b_one ?_
  | with_reducible refine b_nil ?_
  | with_reducible refine b_cons ?_
  | with_reducible refine s_if ?_
  | with_reducible refine s_ret ?_
  | with_reducible refine s_retN ?_
  | with_reducible refine s_pass ?_
  | with_reducible refine s_break ?_
  | with_reducible refine s_cont ?_
  | (with_reducible show wS _ (Stmt.Expr (Expr.Call (Expr.Attribute _ "append" _) [_] [] _) _) _ _ _); (refine s_append ‹On _ _ _ _› ?_)
  | (with_reducible show wS _ (Stmt.Expr _ _) _ _ _); (refine s_expr ?_)
  | (with_reducible show wE _ (Expr.ListComp _ _ _ _) _ _ _); (refine w_ofL ‹On _ _ _ _› ?_)
  | (with_reducible show wS _ (Stmt.Assign [Expr.Name _ _] (Expr.ListComp _ _ _ _) _) _ _ _); (first | refine s_ofL ‹On _ _ _ _› 0 ?_ | refine s_ofL ‹On _ _ _ _› 1 ?_ | refine s_ofL ‹On _ _ _ _› 2 ?_ | refine s_ofL ‹On _ _ _ _› 3 ?_ | refine s_ofL ‹On _ _ _ _› 4 ?_ | refine s_ofL ‹On _ _ _ _› 5 ?_ | refine s_ofL ‹On _ _ _ _› 6 ?_ | refine s_ofL ‹On _ _ _ _› 7 ?_ | refine s_ofL ‹On _ _ _ _› 8 ?_ | refine s_ofL ‹On _ _ _ _› 9 ?_ | refine s_ofL ‹On _ _ _ _› 10 ?_ | refine s_ofL ‹On _ _ _ _› 11 ?_ | refine s_ofL ‹On _ _ _ _› 12 ?_ | refine s_ofL ‹On _ _ _ _› 13 ?_)
  | (with_reducible show wS _ (Stmt.Assign [Expr.Name _ _] _ _) _ _ _); (first | refine s_set ‹On _ _ _ _› 0 ?_ | refine s_set ‹On _ _ _ _› 1 ?_ | refine s_set ‹On _ _ _ _› 2 ?_ | refine s_set ‹On _ _ _ _› 3 ?_ | refine s_set ‹On _ _ _ _› 4 ?_ | refine s_set ‹On _ _ _ _› 5 ?_ | refine s_set ‹On _ _ _ _› 6 ?_ | refine s_set ‹On _ _ _ _› 7 ?_ | refine s_set ‹On _ _ _ _› 8 ?_ | refine s_set ‹On _ _ _ _› 9 ?_ | refine s_set ‹On _ _ _ _› 10 ?_ | refine s_set ‹On _ _ _ _› 11 ?_ | refine s_set ‹On _ _ _ _› 12 ?_ | refine s_set ‹On _ _ _ _› 13 ?_)
  | (with_reducible show wS _ (Stmt.Assign [Expr.Subscript _ (Expr.Constant (Const.str _) _ _) _] _ _) _ _ _); (refine s_dput ‹On _ _ _ _› ?_)
  | (with_reducible show wG _ (Expr.Name _ _) _ _ _ _); (first | refine g_name ‹On _ _ _ _› 0 ?_ | refine g_name ‹On _ _ _ _› 1 ?_ | refine g_name ‹On _ _ _ _› 2 ?_ | refine g_name ‹On _ _ _ _› 3 ?_ | refine g_name ‹On _ _ _ _› 4 ?_ | refine g_name ‹On _ _ _ _› 5 ?_ | refine g_name ‹On _ _ _ _› 6 ?_ | refine g_name ‹On _ _ _ _› 7 ?_ | refine g_name ‹On _ _ _ _› 8 ?_ | refine g_name ‹On _ _ _ _› 9 ?_ | refine g_name ‹On _ _ _ _› 10 ?_ | refine g_name ‹On _ _ _ _› 11 ?_ | refine g_name ‹On _ _ _ _› 12 ?_ | refine g_name ‹On _ _ _ _› 13 ?_)
  | with_reducible refine iteT ?_
  | with_reducible refine iteF ?_
  | with_reducible refine iteNT ?_
  | with_reducible refine iteNF ?_
  | with_reducible refine Exists.intro _ (And.intro rfl ?_))
local macro_rules | `(tactic| walk_at "go") => `(tactic| repeat (walk_at "go1"))
/-! is_z: is_n(word) or (word[:1] == '-' and word != '-0' and is_n(word[1:])) -/
def isZ (l : List Nat) : Bool := isN l || (decide (l.take 1 = [45]) && (!decide (l = [45, 48]) && isN (l.drop 1)))
def spIsZ : Sp := fun vs H Q _ => ∃ w : Str, vs = [.str w] ∧ w.length ≤ 1000000 ∧ ∀ H', Same H H' → Q (.bl (isZ w.cps.toList)) H'
abbrev nIsZ : Nm := defNm ["word"] sIsZ ["is_n"] [0]
theorem cutS_to (z : Str) : (cutS z none (some 1)).cps.toList = z.cps.toList.take 1 := by
  unfold cutS
  rw [show HT.sIx z.length 0 none = 0 from rfl, show HT.sIx z.length z.length (some 1) = min 1 z.length from HT.sIx_nat z.length z.length 1]
  simp only [List.drop_zero]
  rw [str_len]
  by_cases h : z.cps.toList.length = 0
  · rw [List.length_eq_zero_iff.mp h]
    rfl
  · rw [show min 1 z.cps.toList.length = 1 by omega]
theorem cutS_from (z : Str) : (cutS z (some 1) none).cps.toList = z.cps.toList.drop 1 := by
  unfold cutS
  rw [show HT.sIx z.length 0 (some 1) = min 1 z.length from HT.sIx_nat z.length 0 1, show HT.sIx z.length z.length none = z.length from rfl, str_len]
  simp only
  by_cases h : z.cps.toList.length = 0
  · rw [List.length_eq_zero_iff.mp h]
    rfl
  · rw [show min 1 z.cps.toList.length = 1 by omega]
    exact List.take_of_length_le (by rw [List.length_drop]; omega)
theorem b_isZ {X : Cx} {m : Md} {vs : List V} {H : Hp} {Q : VK} {E : XK} (T : Txt m) (G : Df m 1 "is_n" ["word"] spIsN) (C : On X nIsZ m 1) (B : Bd X E) (h : spIsZ vs H Q E) : wB X (defBody sIsZ) (out Q) (start nIsZ.N vs) H := by
  obtain ⟨w, rfl, hw, k⟩ := h
  generalize hl : w.cps.toList = l at k
  have hlen : w.length = l.length := by rw [str_len, hl]
  have hz : w.length ≤ sizeLine := Nat.le_trans hw (by decide)
  refine b_one ?_
  walk_at "go"
  refine w_call C 0 G ?_
  walk_at "go"
  refine ⟨w, rfl, hw, fun H1 s1 => ?_⟩
  rw [hl]
  walk_at "go"
  unfold isZ at k
  refine ite2b (fun h1 => ?_) (fun h1 => ?_)
  · rw [h1] at k
    exact k H1 s1
  · rw [h1] at k
    walk_at "go"
    refine sl_s hz ?_
    walk_at "go"
    rw [dec_str2 (by rw [cutS_to, hl]) (show ("-" : Str).cps.toList = [45] by decide +kernel)]
    refine ite2b (fun h2 => ?_) (fun h2 => ?_)
    · rw [h2] at k
      walk_at "go"
      rw [dec_str2 hl (show ("-0" : Str).cps.toList = [45, 48] by decide +kernel)]
      refine ite2b (fun h3 => ?_) (fun h3 => ?_)
      · rw [h3] at k
        walk_at "go"
        refine w_call C 0 G ?_
        walk_at "go"
        refine sl_s hz ?_
        walk_at "go"
        have e : (cutS w (some 1) none).cps.toList = l.drop 1 := by rw [cutS_from, hl]
        refine ⟨_, rfl, ?_, fun H2 s2 => ?_⟩
        · rw [str_len, e, List.length_drop, ← hlen]; omega
        · rw [e]
          exact k H2 (s1.trans s2)
      · rw [h3] at k
        exact k H1 s1
    · rw [h2] at k
      exact k H1 s1
/-! is_name -/
def smalls : List Nat := ("abcdefghijklmnopqrstuvwxyz" : Str).cps.toList
def signL : List Nat := ("abcdefghijklmnopqrstuvwxyz0123456789" : Str).cps.toList
def headIn (l s : List Nat) : Bool := match l with
  | [] => false
  | a :: _ => decide (a ∈ s)
def isName (l : List Nat) : Bool := (decide (1 ≤ l.length) && decide (l.length ≤ 12)) && (headIn l smalls && l.all fun c => decide (c ∈ signL))
def spIsName : Sp := fun vs H Q _ => ∃ w : Str, vs = [.str w] ∧ w.length ≤ 1000000 ∧ ∀ H', Same H H' → Q (.bl (isName w.cps.toList)) H'
abbrev nIsName : Nm := defNmC ["value", "sign"] sIsName ["isinstance", "str", "len", "SMALL", "all"] [] [1]
theorem isi_str {m : Md} {H : Hp} {w : Str} : TyX m.K H (.str w) (.type "str") := .base (.str w)
theorem kit_ss : kitB "str" "str" = some true := by decide +kernel
theorem b_isName {X : Cx} {m : Md} {vs : List V} {H : Hp} {Q : VK} {E : XK} (T : Txt m) (C : On X nIsName m 0) (B : Bd X E) (h : spIsName vs H Q E) : wB X (defBody sIsName) (out Q) (start nIsName.N vs) H := by
  obtain ⟨w, rfl, hw, k⟩ := h
  generalize hl : w.cps.toList = l at k
  have hlen : w.length = l.length := by rw [str_len, hl]
  have hz : w.length ≤ sizeLine := Nat.le_trans hw (by decide)
  refine b_cons ?_
  refine s_if (wT_mono (Q := fun b H1 => Same H H1 ∧ b = !((decide (1 ≤ l.length) && decide (l.length ≤ 12)) && headIn l smalls)) ?_ fun b H1 ⟨s1, e1⟩ => ?_)
  · walk_at "go"
    refine w_isi C 0 T.isinstance ?_
    walk_at "go"
    refine wgb C 1 T.str PyProof.Rows.boot_str (v := .ty "str") rfl ?_
    walk_at "go"
    refine ⟨.str w, "str", "str", true, rfl, isi_str, kit_ss, ?_⟩
    walk_at "go"
    refine w_lenS C 2 T.len ?_
    walk_at "go"
    refine ⟨hz, ?_⟩
    walk_at "go"
    rw [hlen]
    refine ite2b (fun h1 => ?_) (fun h1 => ?_)
    · walk_at "go"
      refine ite2n (fun h2 => ?_) (fun h2 => ?_)
      · refine ⟨Same.refl _, ?_⟩
        simp at h1 h2 ⊢
        exact .inl (.inr (by omega))
      · walk_at "go"
        cases l with
        | nil => simp at h1
        | cons a r =>
          refine i_str hz (c := a) (by rw [hl]; exact atI_nat (j := 0) rfl) ?_
          refine wgs C 3 T.small ?_
          refine o_ninsign ?_
          walk_at "go"
          refine ⟨Same.refl _, ?_⟩
          simp at h2
          have a2 : r.length + 1 ≤ 12 := by omega
          have a3 : ¬ 11 < r.length := by omega
          simp [headIn, smalls, a2, a3]
    · walk_at "go"
      refine ⟨Same.refl _, ?_⟩
      simp at h1 ⊢
      exact .inl (.inl (by cases l; rfl; simp at h1; omega))
  · subst e1
    refine ite2n (fun h1 => ?_) (fun h1 => ?_)
    · walk_at "go"
      have e : isName l = false := by
        unfold isName
        rw [← Bool.and_assoc, h1]
        rfl
      exact e ▸ k H1 s1
    · walk_at "go"
      refine w_all C 4 T.all ?_
      refine w_ofL C ?_
      refine lcS C 1 ["SIGNS"] [1] (by decide +kernel) ?_ (fun _ => rfl)
      walk_at "go"
      refine ⟨by omega, fun i => .bl (decide (l.getD i 0 ∈ signL)), fun i c H2 X2 hc s2 C2 => ?_, fun p H2 hp s2 e2 => ?_⟩
      · walk_at "go"
        refine wgs C2 0 T.signs ?_
        refine o_insign ?_
        refine ⟨Same.refl _, ?_⟩
        have ec : l.getD i 0 = c := getD_of (by rw [← hl, ← cps_list]; exact hc)
        rw [← ec]
        rfl
      · refine ⟨p, (List.range l.length).map fun i => decide (l.getD i 0 ∈ signL), rfl, .inl (.inl ?_), ?_⟩
        · rw [e2, List.map_map]
          have : w.cps.size = l.length := by rw [← hlen]; rfl
          rw [this]
          rfl
        · rw [all_range (p := fun c => decide (c ∈ signL))]
          have e : isName l = l.all fun c => decide (c ∈ signL) := by
            unfold isName
            rw [← Bool.and_assoc, h1]
            rfl
          exact e ▸ k H2 (s1.trans s2)
/-! is_v -/
def isNS (w : Str) : Bool := isN w.cps.toList
def isVs (ps : List Str) : Bool := (decide (ps.length ≤ 2) && ps.all isNS) && (decide (ps.length = 1) || !decide (ps[1]? = some ("0" : Str)))
def isV (w : Str) : Bool := isVs (Txt.split w "/")
def spIsV : Sp := fun vs H Q _ => ∃ w : Str, vs = [.str w] ∧ w.length ≤ 1000000 ∧ ∀ H', Same H H' → Q (.bl (isV w)) H'
abbrev nIsV : Nm := defNmC ["word", "parts", "part"] sIsV ["len", "all"] [] [2]
theorem map_range {α β : Type} [Inhabited α] {l : List α} {p : α → β} : ((List.range l.length).map fun i => p (l.getD i default)) = l.map p := by
  induction l with
  | nil => rfl
  | cons a r ih =>
    rw [List.length_cons, List.range_succ_eq_map, List.map_cons, List.map_map, List.map_cons, ← ih]
    rfl
theorem getD_of' {α : Type} [Inhabited α] {l : List α} {i : Nat} {c : α} (h : l[i]? = some c) : l.getD i default = c := by rw [List.getD_eq_getElem?_getD, h]; rfl
theorem map_at {α β : Type} {l : List α} {f : α → β} {i : Nat} {y : β} (h : (l.map f)[i]? = some y) : ∃ x, l[i]? = some x ∧ y = f x := by
  rw [List.getElem?_map] at h
  cases e : l[i]? with
  | none => rw [e] at h; cases h
  | some x => rw [e] at h; exact ⟨x, rfl, (Option.some.inj h).symm⟩
theorem split_len {w s : Str} (h : w.length ≤ 1000000) : (Txt.split w s).length ≤ 1000002 := Nat.le_trans (PyProof.Rows.split_le w s) (by omega)
theorem b_isV {X : Cx} {m : Md} {vs : List V} {H : Hp} {Q : VK} {E : XK} (T : Txt m) (G : Df m 1 "is_n" ["word"] spIsN) (Gg : nIsV.gs = nIsV.gs) (C : On X nIsV m 1) (B : Bd X E) (h : spIsV vs H Q E) : wB X (defBody sIsV) (out Q) (start nIsV.N vs) H := by
  obtain ⟨w, rfl, hw, k⟩ := h
  unfold isV at k
  have hps : ∀ p ∈ Txt.split w "/", p.length ≤ 1000000 := fun p hp => Nat.le_trans (PyProof.Rows.part_short hp) hw
  have hpl := split_len (s := "/") hw
  have hpos : 1 ≤ (Txt.split w "/").length := PyProof.Rows.split_pos w "/"
  generalize hp : Txt.split w "/" = ps at k hps hpl hpos
  have hz : w.length ≤ sizeLine := Nat.le_trans hw (by decide)
  refine b_cons ?_
  walk_at "go"
  refine w_split ?_
  walk_at "go"
  refine ⟨Nat.le_trans (Nat.add_le_add_right hw 2) (by decide), ?_⟩
  walk_at "go"
  refine ⟨by decide, fun a H1 ha s1 e1 => ?_⟩
  rw [hp] at e1
  have q1 : SqL m.K H1 a (ps.map V.str) := .inl (.inl e1)
  refine b_cons ?_
  refine s_if (wT_mono (Q := fun b H2 => Same H1 H2 ∧ b = !(decide (ps.length ≤ 2) && ps.all isNS)) ?_ fun b H2 ⟨s2, e2⟩ => ?_)
  · walk_at "go"
    refine w_lenL C 0 T.len ?_
    walk_at "go"
    refine ⟨a, _, rfl, .inl q1, ?_⟩
    walk_at "go"
    rw [List.length_map]
    refine ite2b (fun h1 => ?_) (fun h1 => ?_)
    · refine ⟨Same.refl _, ?_⟩
      simp at h1 ⊢
      exact .inl (by omega)
    · walk_at "go"
      refine w_all C 1 T.all ?_
      refine w_ofL C ?_
      refine lcL C 2 ["is_n"] [2] (by decide +kernel) ?_ (fun _ => rfl)
      walk_at "go"
      refine ⟨a, _, rfl, q1, by rw [List.length_map]; omega, fun i => .bl (isNS (ps.getD i default)), fun i y H3 X2 hy s3 C2 => ?_, fun p H3 hp s3 e3 => ?_⟩
      · obtain ⟨x, hx, rfl⟩ := map_at hy
        refine w_call C2 0 G ?_
        walk_at "go"
        refine ⟨x, rfl, hps x (List.mem_of_getElem? hx), fun H4 s4 => ⟨s4, ?_⟩⟩
        show V.bl _ = V.bl (isNS (ps.getD i default))
        rw [getD_of' hx]
        rfl
      · refine ⟨p, ps.map isNS, rfl, .inl (.inl ?_), ?_⟩
        · rw [e3, List.length_map, List.map_map, ← map_range (l := ps) (p := fun x => (V.bl ∘ isNS) x)]
          rfl
        · walk_at "go"
          refine ⟨s3, ?_⟩
          simp at h1
          have a2 : ps.length ≤ 2 := by omega
          simp [a2]
  · subst e2
    have q2 : SqL m.K H2 a (ps.map V.str) := s2.seq q1
    refine ite2n (fun h1 => ?_) (fun h1 => ?_)
    · walk_at "go"
      have e : isVs ps = false := by unfold isVs; rw [h1]; rfl
      exact e ▸ k H2 (s1.trans s2)
    · walk_at "go"
      refine w_lenL C 0 T.len ?_
      walk_at "go"
      refine ⟨a, _, rfl, .inl q2, ?_⟩
      walk_at "go"
      have e : isVs ps = (decide (ps.length = 1) || !decide (ps[1]? = some ("0" : Str))) := by unfold isVs; rw [h1]; rfl
      rw [e] at k
      have e3 : decide (V.int ((ps.map V.str).length : Int) = V.int 1) = decide (ps.length = 1) := by
        rw [List.length_map]
        exact dec_iff ⟨fun z => by injection z with z; omega, fun z => by rw [z]; rfl⟩
      rw [e3]
      refine ite2b (fun h3 => ?_) (fun h3 => ?_)
      · rw [h3] at k
        exact k H2 (s1.trans s2)
      · rw [h3] at k
        walk_at "go"
        have hlt : 1 < ps.length := by simp at h3; omega
        have e4 : (ps.map V.str)[1]? = some (V.str (ps[1]'hlt)) := by rw [List.getElem?_map, List.getElem?_eq_getElem hlt]; rfl
        refine i_list C (v := V.str (ps[1]'hlt)) q2 (atI_nat (j := 1) e4) ?_
        walk_at "go"
        have e5 : decide (V.str (ps[1]'hlt) = V.str ("0" : Str)) = decide (ps[1]? = some ("0" : Str)) := by
          rw [List.getElem?_eq_getElem hlt]
          exact dec_iff ⟨fun z => by injection z with z; rw [z], fun z => by injection z with z; rw [z]⟩
        rw [e5]
        exact k H2 (s1.trans s2)
end K9

set_option Elab.async false
set_option linter.all false
set_option maxRecDepth 100000
set_option maxHeartbeats 4000000
namespace K9
open PySem PySem.Spec PyProof.Rows L2 Wp
local macro_rules | `(tactic| walk_at "go1") => `(tactic| first
  | (with_reducible show wE _ (Expr.Name _ _) _ _ _); (first | refine wv ‹On _ _ _ _› 0 ?_ | refine wv ‹On _ _ _ _› 1 ?_ | refine wv ‹On _ _ _ _› 2 ?_ | refine wv ‹On _ _ _ _› 3 ?_ | refine wv ‹On _ _ _ _› 4 ?_ | refine wv ‹On _ _ _ _› 5 ?_ | refine wv ‹On _ _ _ _› 6 ?_ | refine wv ‹On _ _ _ _› 7 ?_ | refine wv ‹On _ _ _ _› 8 ?_ | refine wv ‹On _ _ _ _› 9 ?_ | refine wv ‹On _ _ _ _› 10 ?_ | refine wv ‹On _ _ _ _› 11 ?_ | refine wv ‹On _ _ _ _› 12 ?_ | refine wv ‹On _ _ _ _› 13 ?_)
  | with_reducible refine w_int ?_
  | with_reducible refine w_str ?_
  | with_reducible refine w_bl ?_
  | with_reducible refine w_non ?_
  | with_reducible refine w_bin ?_
  | (with_reducible show wE _ (Expr.Compare _ [_] [_] _) _ _ _); (refine w_cmp ?_)
  | (with_reducible show wT _ (Expr.Compare _ [_] [_] _) _ _ _); (refine wt_cmp ?_)
  | (with_reducible show wE _ (Expr.Compare _ [_, _] [_, _] _) _ _ _); (refine w_chain ?_)
  | (with_reducible show wT _ (Expr.Compare _ [_, _] [_, _] _) _ _ _); (refine wt_chain ?_)
  | with_reducible refine wt_not ?_
  | (with_reducible show wT _ (Expr.BoolOp _ _ _) _ _ _); (refine wt_w ?_)
  | with_reducible refine ww_and1 ?_
  | with_reducible refine ww_or1 ?_
  | with_reducible refine ww_and ?_
  | with_reducible refine ww_or ?_
  | with_reducible refine w_one ?_
  | with_reducible refine w_and ?_
  | with_reducible refine w_or ?_
  | with_reducible refine w_not ?_
  | with_reducible refine w_ifx ?_
  | (with_reducible show wT _ (Expr.Call _ _ _ _) _ _ _); (refine wt_val ?_)
  | with_reducible refine w_sl ?_
  | with_reducible refine w_slf ?_
  | with_reducible refine w_slt ?_
  | (with_reducible show wE _ (Expr.Subscript _ (Expr.Constant (Const.str _) _ _) _) _ _ _); (refine w_dgN ‹On _ _ _ _› ?_)
  | (with_reducible show DG _ _ _ _); (refine dget_at (by assumption) (by rfl) ?_)
  | (with_reducible show wE _ (Expr.Subscript _ (Expr.Constant _ _ _) _) _ _ _); (refine w_sub ?_)
  | (with_reducible show wE _ (Expr.Subscript _ (Expr.BinOp _ _ _ _) _) _ _ _); (refine w_sub ?_)
  | (with_reducible show wA _ (_ :: _) _ _ _); (refine wa_cons ?_)
  | with_reducible refine wa_nil ?_
  | with_reducible refine o_add ?_
  | with_reducible refine o_sub ?_
  | with_reducible refine o_lt ?_
  | with_reducible refine o_le ?_
  | with_reducible refine o_gt ?_
  | with_reducible refine o_ge ?_
  | with_reducible refine o_is ?_
  | with_reducible refine o_isnt ?_
  | (with_reducible show wO _ (compareOp CmpOp.Eq) _ _ _ _); (refine o_eq ?_)
  | (with_reducible show wO _ (compareOp CmpOp.NotEq) _ _ _ _); (refine o_ne ?_)
  | with_reducible refine b_one ?_
  | with_reducible refine b_nil ?_
  | with_reducible refine b_cons ?_
  | with_reducible refine s_if ?_
  | with_reducible refine s_ret ?_
  | with_reducible refine s_retN ?_
  | with_reducible refine s_pass ?_
  | with_reducible refine s_break ?_
  | with_reducible refine s_cont ?_
  | (with_reducible show wS _ (Stmt.Expr (Expr.Call (Expr.Attribute _ "append" _) [_] [] _) _) _ _ _); (refine s_append ‹On _ _ _ _› ?_)
  | (with_reducible show wS _ (Stmt.Expr _ _) _ _ _); (refine s_expr ?_)
  | (with_reducible show wE _ (Expr.ListComp _ _ _ _) _ _ _); (refine w_ofL ‹On _ _ _ _› ?_)
  | (with_reducible show wS _ (Stmt.Assign [Expr.Name _ _] (Expr.ListComp _ _ _ _) _) _ _ _); (first | refine s_ofL ‹On _ _ _ _› 0 ?_ | refine s_ofL ‹On _ _ _ _› 1 ?_ | refine s_ofL ‹On _ _ _ _› 2 ?_ | refine s_ofL ‹On _ _ _ _› 3 ?_ | refine s_ofL ‹On _ _ _ _› 4 ?_ | refine s_ofL ‹On _ _ _ _› 5 ?_ | refine s_ofL ‹On _ _ _ _› 6 ?_ | refine s_ofL ‹On _ _ _ _› 7 ?_ | refine s_ofL ‹On _ _ _ _› 8 ?_ | refine s_ofL ‹On _ _ _ _› 9 ?_ | refine s_ofL ‹On _ _ _ _› 10 ?_ | refine s_ofL ‹On _ _ _ _› 11 ?_ | refine s_ofL ‹On _ _ _ _› 12 ?_ | refine s_ofL ‹On _ _ _ _› 13 ?_)
  | (with_reducible show wS _ (Stmt.Assign [Expr.Name _ _] _ _) _ _ _); (first | refine s_set ‹On _ _ _ _› 0 ?_ | refine s_set ‹On _ _ _ _› 1 ?_ | refine s_set ‹On _ _ _ _› 2 ?_ | refine s_set ‹On _ _ _ _› 3 ?_ | refine s_set ‹On _ _ _ _› 4 ?_ | refine s_set ‹On _ _ _ _› 5 ?_ | refine s_set ‹On _ _ _ _› 6 ?_ | refine s_set ‹On _ _ _ _› 7 ?_ | refine s_set ‹On _ _ _ _› 8 ?_ | refine s_set ‹On _ _ _ _› 9 ?_ | refine s_set ‹On _ _ _ _› 10 ?_ | refine s_set ‹On _ _ _ _› 11 ?_ | refine s_set ‹On _ _ _ _› 12 ?_ | refine s_set ‹On _ _ _ _› 13 ?_)
  | (with_reducible show wS _ (Stmt.Assign [Expr.Subscript _ (Expr.Constant (Const.str _) _ _) _] _ _) _ _ _); (refine s_dput ‹On _ _ _ _› ?_)
  | (with_reducible show wG _ (Expr.Name _ _) _ _ _ _); (first | refine g_name ‹On _ _ _ _› 0 ?_ | refine g_name ‹On _ _ _ _› 1 ?_ | refine g_name ‹On _ _ _ _› 2 ?_ | refine g_name ‹On _ _ _ _› 3 ?_ | refine g_name ‹On _ _ _ _› 4 ?_ | refine g_name ‹On _ _ _ _› 5 ?_ | refine g_name ‹On _ _ _ _› 6 ?_ | refine g_name ‹On _ _ _ _› 7 ?_ | refine g_name ‹On _ _ _ _› 8 ?_ | refine g_name ‹On _ _ _ _› 9 ?_ | refine g_name ‹On _ _ _ _› 10 ?_ | refine g_name ‹On _ _ _ _› 11 ?_ | refine g_name ‹On _ _ _ _› 12 ?_ | refine g_name ‹On _ _ _ _› 13 ?_)
  | with_reducible refine iteT ?_
  | with_reducible refine iteF ?_
  | with_reducible refine iteNT ?_
  | with_reducible refine iteNF ?_
  | with_reducible refine Exists.intro _ (And.intro rfl ?_))
local macro_rules | `(tactic| walk_at "go") => `(tactic| repeat (walk_at "go1"))
theorem dec_strS {w z : Str} : decide (V.str w = V.str z) = decide (w = z) := dec_iff ⟨fun h => by injection h, fun h => by rw [h]⟩
/-! fits -/
def fitsB (w f : Str) : Bool := if decide (f = ("name" : Str)) then isName w.cps.toList else if decide (f = ("n" : Str)) then isNS w else isV w
def spFits : Sp := fun vs H Q _ => ∃ w f : Str, vs = [.str w, .str f] ∧ w.length ≤ 1000000 ∧ ∀ H', Same H H' → Q (.bl (fitsB w f)) H'
abbrev nFits : Nm := defNm ["word", "form"] sFits ["is_name", "is_n", "is_v"] [0, 1]
theorem b_fits {X : Cx} {m : Md} {vs : List V} {H : Hp} {Q : VK} {E : XK} (G1 : Df m 1 "is_name" ["value"] spIsName) (G2 : Df m 1 "is_n" ["word"] spIsN) (G3 : Df m 2 "is_v" ["word"] spIsV) (C : On X nFits m 2) (B : Bd X E) (h : spFits vs H Q E) :
    wB X (defBody sFits) (out Q) (start nFits.N vs) H := by
  obtain ⟨w, f, rfl, hw, k⟩ := h
  unfold fitsB at k
  refine b_cons ?_
  walk_at "go"
  rw [dec_strS]
  refine ite2b (fun h1 => ?_) (fun h1 => ?_)
  · rw [h1] at k
    walk_at "go"
    refine w_call C 0 G1 ?_
    walk_at "go"
    exact ⟨w, rfl, hw, fun H1 s1 => k H1 s1⟩
  · rw [h1] at k
    walk_at "go"
    rw [dec_strS]
    refine ite2b (fun h2 => ?_) (fun h2 => ?_)
    · rw [h2] at k
      refine w_call C 1 G2 ?_
      walk_at "go"
      exact ⟨w, rfl, hw, fun H1 s1 => k H1 s1⟩
    · rw [h2] at k
      refine w_call C 2 G3 ?_
      walk_at "go"
      exact ⟨w, rfl, hw, fun H1 s1 => k H1 s1⟩
/-! numbers as texts -/
theorem figs_digit {c : Nat} (h : c ∈ figs) : 48 ≤ c ∧ c ≤ 57 := by
  unfold figs at h
  simp at h
  omega
theorem isN_digits {l : List Nat} (h : isN l = true) : PySem.NumText.AllDigits l ∧ l ≠ [] ∧ l.length ≤ 6 := by
  unfold isN figsOk at h
  simp only [Bool.and_eq_true, decide_eq_true_eq, List.all_eq_true] at h
  obtain ⟨⟨⟨h1, h2⟩, h3⟩, _⟩ := h
  refine ⟨fun c hc => figs_digit (h3 c hc), fun e => ?_, h2⟩
  rw [e] at h1
  exact absurd h1 (by decide)
theorem isN_int {w : Str} (h : isN w.cps.toList = true) : ∃ i, PySem.intText? w = some i ∧ w.length ≤ 640 := by
  obtain ⟨h1, h2, h3⟩ := isN_digits h
  have hl : w.length ≤ 6 := by rw [str_len]; exact h3
  exact ⟨_, PySem.intText_digits h1 h2 (by omega), by omega⟩
theorem isZ_int {w : Str} (h : isZ w.cps.toList = true) : ∃ i, PySem.intText? w = some i ∧ w.length ≤ 640 := by
  unfold isZ at h
  cases e : isN w.cps.toList with
  | true => exact isN_int e
  | false =>
    rw [e] at h
    simp only [Bool.false_or, Bool.and_eq_true, decide_eq_true_eq] at h
    obtain ⟨h1, _, h3⟩ := h
    obtain ⟨a1, a2, a3⟩ := isN_digits h3
    have hx : w.cps.toList = 45 :: w.cps.toList.drop 1 := by
      cases hl : w.cps.toList with
      | nil => rw [hl] at h1; cases h1
      | cons a r =>
        rw [hl] at h1
        simp at h1
        rw [h1]
        rfl
    have hl : w.length ≤ 7 := by
      rw [str_len, hx, List.length_cons]
      omega
    exact ⟨_, PySem.intText_neg hx a1 a2 (by omega), by omega⟩
def intOf (w : Str) : Int := (PySem.intText? w).getD 0
theorem isN_intOf {w : Str} (h : isN w.cps.toList = true) : PySem.intText? w = some (intOf w) ∧ w.length ≤ 640 := by
  obtain ⟨i, h1, h2⟩ := isN_int h
  unfold intOf
  rw [h1]
  exact ⟨rfl, h2⟩
theorem isZ_intOf {w : Str} (h : isZ w.cps.toList = true) : PySem.intText? w = some (intOf w) ∧ w.length ≤ 640 := by
  obtain ⟨i, h1, h2⟩ := isZ_int h
  unfold intOf
  rw [h1]
  exact ⟨rfl, h2⟩
theorem split_one {w : Str} (h : 47 ∉ w.cps.toList) : Txt.split w "/" = [w] := by
  have e := TL.split_join (y := "/") (s := 47) (S := []) (by decide +kernel) (by decide +kernel) (parts := [w]) (by simp) (fun p hp => by rw [List.mem_singleton.mp hp]; exact h)
  have e2 : Txt.join "/" [w] = w := by rw [TL.join_eq]; rfl
  rw [e2] at e
  exact e
/-! limit_of -/
/-- the parts that limit_of reads are numbers -/
theorem fits_parts {w f : Str} (h : fitsB w f = true) (hf : f ≠ ("name" : Str)) : ∀ p ∈ Txt.split w "/", isNS p = true := by
  unfold fitsB at h
  rw [decide_eq_false hf] at h
  by_cases h2 : f = ("n" : Str)
  · rw [decide_eq_true h2] at h
    have h3 : isN w.cps.toList = true := h
    have hn : 47 ∉ w.cps.toList := fun z => by
      have a := (isN_digits h3).1 47 z
      omega
    rw [split_one hn]
    intro p hp
    rw [List.mem_singleton.mp hp]
    exact h3
  · rw [decide_eq_false h2] at h
    have h3 : isVs (Txt.split w "/") = true := h
    unfold isVs at h3
    simp only [Bool.and_eq_true, List.all_eq_true] at h3
    exact h3.1.2
def spLimit : Sp := fun vs H Q _ => ∃ w f : Str, vs = [.str w, .str f] ∧ w.length ≤ 1000000 ∧ fitsB w f = true ∧ ∀ v H', Same H H' → Q v H'
abbrev nLimit : Nm := defNmC ["word", "form", "parts", "part"] sLimit ["len"] [2] [3]
theorem b_limit {X : Cx} {m : Md} {vs : List V} {H : Hp} {Q : VK} {E : XK} (T : Txt m) (C : On X nLimit m 2) (B : Bd X E) (h : spLimit vs H Q E) : wB X (defBody sLimit) (out Q) (start nLimit.N vs) H := by
  obtain ⟨w, f, rfl, hw, hfit, k⟩ := h
  refine b_cons ?_
  walk_at "go"
  rw [dec_strS]
  refine ite2b (fun h1 => ?_) (fun h1 => ?_)
  · walk_at "go"
    exact k _ H (Same.refl H)
  · have hnn : f ≠ ("name" : Str) := of_decide_eq_false h1
    have hps := fits_parts hfit hnn
    have hpl := split_len (s := "/") hw
    have hpos : 1 ≤ (Txt.split w "/").length := PyProof.Rows.split_pos w "/"
    walk_at "go"
    refine lcL C 3 ["int"] [3] (by decide +kernel) ?_ (fun _ => rfl)
    refine w_split ?_
    walk_at "go"
    refine ⟨Nat.le_trans (Nat.add_le_add_right hw 2) (by decide), ?_⟩
    walk_at "go"
    refine ⟨by decide, fun a H1 ha s1 e1 => ?_⟩
    generalize Txt.split w "/" = ps at hps hpl hpos e1
    refine ⟨a, _, rfl, .inl (.inl e1), by rw [List.length_map]; omega, fun i => .int (intOf (ps.getD i default)), fun i y H3 X2 hy s3 C2 => ?_, fun p H3 hp s3 e3 => ?_⟩
    · obtain ⟨x, hx, rfl⟩ := map_at hy
      refine w_intS C2 0 T.int ?_
      walk_at "go"
      obtain ⟨i1, i2⟩ := isN_intOf (w := x) (hps x (List.mem_of_getElem? hx))
      refine ⟨x, _, rfl, i1, i2, Same.refl _, ?_⟩
      show V.int _ = V.int (intOf (ps.getD i default))
      rw [getD_of' hx]
    · walk_at "go"
      rw [List.length_map] at e3
      have q3 : SqL m.K H3 p ((List.range ps.length).map fun i => V.int (intOf (ps.getD i default))) := .inl (.inl e3)
      have a0 : ((List.range ps.length).map fun i => V.int (intOf (ps.getD i default)))[0]? = some (V.int (intOf (ps.getD 0 default))) := by
        rw [List.getElem?_map, List.getElem?_range (by omega)]
        rfl
      rw [dec_strS]
      refine ite2b (fun h2 => ?_) (fun h2 => ?_)
      · walk_at "go"
        refine i_list C q3 (atI_nat (j := 0) a0) ?_
        exact k _ _ (s1.trans s3)
      · walk_at "go"
        refine w_tupN ?_
        walk_at "go"
        refine i_list C q3 (atI_nat (j := 0) a0) ?_
        walk_at "go"
        refine w_lenL C 0 T.len ?_
        walk_at "go"
        refine ⟨p, _, rfl, .inl q3, ?_⟩
        walk_at "go"
        rw [List.length_map, List.length_range]
        refine ite2b (fun h4 => ?_) (fun h4 => ?_)
        · walk_at "go"
          have a1 : ((List.range ps.length).map fun i => V.int (intOf (ps.getD i default)))[1]? = some (V.int (intOf (ps.getD 1 default))) := by
            rw [List.getElem?_map, List.getElem?_range (by simp at h4; omega)]
            rfl
          refine i_list C q3 (atI_nat (j := 1) a1) ?_
          walk_at "go"
          exact ⟨szN 2, fun t H5 ht s5 e5 => k _ _ ((s1.trans s3).trans s5)⟩
        · walk_at "go"
          exact ⟨szN 2, fun t H5 ht s5 e5 => k _ _ ((s1.trans s3).trans s5)⟩
end K9

set_option Elab.async false
set_option linter.all false
set_option maxRecDepth 100000
set_option maxHeartbeats 4000000
namespace K9
open PySem PySem.Spec PyProof.Rows L2 Wp
local macro_rules | `(tactic| walk_at "go1") => `(tactic| first
  | (with_reducible show wE _ (Expr.Name _ _) _ _ _); (first | refine wv ‹On _ _ _ _› 0 ?_ | refine wv ‹On _ _ _ _› 1 ?_ | refine wv ‹On _ _ _ _› 2 ?_ | refine wv ‹On _ _ _ _› 3 ?_ | refine wv ‹On _ _ _ _› 4 ?_ | refine wv ‹On _ _ _ _› 5 ?_ | refine wv ‹On _ _ _ _› 6 ?_ | refine wv ‹On _ _ _ _› 7 ?_ | refine wv ‹On _ _ _ _› 8 ?_ | refine wv ‹On _ _ _ _› 9 ?_ | refine wv ‹On _ _ _ _› 10 ?_ | refine wv ‹On _ _ _ _› 11 ?_ | refine wv ‹On _ _ _ _› 12 ?_ | refine wv ‹On _ _ _ _› 13 ?_)
  | with_reducible refine w_int ?_
  | with_reducible refine w_str ?_
  | with_reducible refine w_bl ?_
  | with_reducible refine w_non ?_
  | with_reducible refine w_bin ?_
  | (with_reducible show wE _ (Expr.Compare _ [_] [_] _) _ _ _); (refine w_cmp ?_)
  | (with_reducible show wT _ (Expr.Compare _ [_] [_] _) _ _ _); (refine wt_cmp ?_)
  | (with_reducible show wE _ (Expr.Compare _ [_, _] [_, _] _) _ _ _); (refine w_chain ?_)
  | (with_reducible show wT _ (Expr.Compare _ [_, _] [_, _] _) _ _ _); (refine wt_chain ?_)
  | with_reducible refine wt_not ?_
  | (with_reducible show wT _ (Expr.BoolOp _ _ _) _ _ _); (refine wt_w ?_)
  | with_reducible refine ww_and1 ?_
  | with_reducible refine ww_or1 ?_
  | with_reducible refine ww_and ?_
  | with_reducible refine ww_or ?_
  | with_reducible refine w_one ?_
  | with_reducible refine w_and ?_
  | with_reducible refine w_or ?_
  | with_reducible refine w_not ?_
  | with_reducible refine w_ifx ?_
  | (with_reducible show wT _ (Expr.Call _ _ _ _) _ _ _); (refine wt_val ?_)
  | with_reducible refine w_sl ?_
  | with_reducible refine w_slf ?_
  | with_reducible refine w_slt ?_
  | (with_reducible show wE _ (Expr.Subscript _ (Expr.Constant (Const.str _) _ _) _) _ _ _); (refine w_dgN ‹On _ _ _ _› ?_)
  | (with_reducible show DG _ _ _ _); (refine dget_at (by assumption) (by rfl) ?_)
  | (with_reducible show wE _ (Expr.Subscript _ (Expr.Constant _ _ _) _) _ _ _); (refine w_sub ?_)
  | (with_reducible show wE _ (Expr.Subscript _ (Expr.BinOp _ _ _ _) _) _ _ _); (refine w_sub ?_)
  | (with_reducible show wA _ (_ :: _) _ _ _); (refine wa_cons ?_)
  | with_reducible refine wa_nil ?_
  | with_reducible refine o_add ?_
  | with_reducible refine o_sub ?_
  | with_reducible refine o_lt ?_
  | with_reducible refine o_le ?_
  | with_reducible refine o_gt ?_
  | with_reducible refine o_ge ?_
  | with_reducible refine o_is ?_
  | with_reducible refine o_isnt ?_
  | (with_reducible show wO _ (compareOp CmpOp.Eq) _ _ _ _); (refine o_eq ?_)
  | (with_reducible show wO _ (compareOp CmpOp.NotEq) _ _ _ _); (refine o_ne ?_)
  | with_reducible refine b_one ?_
  | with_reducible refine b_nil ?_
  | with_reducible refine b_cons ?_
  | with_reducible refine s_if ?_
  | with_reducible refine s_ret ?_
  | with_reducible refine s_retN ?_
  | with_reducible refine s_pass ?_
  | with_reducible refine s_break ?_
  | with_reducible refine s_cont ?_
  | (with_reducible show wS _ (Stmt.Expr (Expr.Call (Expr.Attribute _ "append" _) [_] [] _) _) _ _ _); (refine s_append ‹On _ _ _ _› ?_)
  | (with_reducible show wS _ (Stmt.Expr _ _) _ _ _); (refine s_expr ?_)
  | (with_reducible show wE _ (Expr.ListComp _ _ _ _) _ _ _); (refine w_ofL ‹On _ _ _ _› ?_)
  | (with_reducible show wS _ (Stmt.Assign [Expr.Name _ _] (Expr.ListComp _ _ _ _) _) _ _ _); (first | refine s_ofL ‹On _ _ _ _› 0 ?_ | refine s_ofL ‹On _ _ _ _› 1 ?_ | refine s_ofL ‹On _ _ _ _› 2 ?_ | refine s_ofL ‹On _ _ _ _› 3 ?_ | refine s_ofL ‹On _ _ _ _› 4 ?_ | refine s_ofL ‹On _ _ _ _› 5 ?_ | refine s_ofL ‹On _ _ _ _› 6 ?_ | refine s_ofL ‹On _ _ _ _› 7 ?_ | refine s_ofL ‹On _ _ _ _› 8 ?_ | refine s_ofL ‹On _ _ _ _› 9 ?_ | refine s_ofL ‹On _ _ _ _› 10 ?_ | refine s_ofL ‹On _ _ _ _› 11 ?_ | refine s_ofL ‹On _ _ _ _› 12 ?_ | refine s_ofL ‹On _ _ _ _› 13 ?_)
  | (with_reducible show wS _ (Stmt.Assign [Expr.Name _ _] _ _) _ _ _); (first | refine s_set ‹On _ _ _ _› 0 ?_ | refine s_set ‹On _ _ _ _› 1 ?_ | refine s_set ‹On _ _ _ _› 2 ?_ | refine s_set ‹On _ _ _ _› 3 ?_ | refine s_set ‹On _ _ _ _› 4 ?_ | refine s_set ‹On _ _ _ _› 5 ?_ | refine s_set ‹On _ _ _ _› 6 ?_ | refine s_set ‹On _ _ _ _› 7 ?_ | refine s_set ‹On _ _ _ _› 8 ?_ | refine s_set ‹On _ _ _ _› 9 ?_ | refine s_set ‹On _ _ _ _› 10 ?_ | refine s_set ‹On _ _ _ _› 11 ?_ | refine s_set ‹On _ _ _ _› 12 ?_ | refine s_set ‹On _ _ _ _› 13 ?_)
  | (with_reducible show wS _ (Stmt.Assign [Expr.Subscript _ (Expr.Constant (Const.str _) _ _) _] _ _) _ _ _); (refine s_dput ‹On _ _ _ _› ?_)
  | (with_reducible show wG _ (Expr.Name _ _) _ _ _ _); (first | refine g_name ‹On _ _ _ _› 0 ?_ | refine g_name ‹On _ _ _ _› 1 ?_ | refine g_name ‹On _ _ _ _› 2 ?_ | refine g_name ‹On _ _ _ _› 3 ?_ | refine g_name ‹On _ _ _ _› 4 ?_ | refine g_name ‹On _ _ _ _› 5 ?_ | refine g_name ‹On _ _ _ _› 6 ?_ | refine g_name ‹On _ _ _ _› 7 ?_ | refine g_name ‹On _ _ _ _› 8 ?_ | refine g_name ‹On _ _ _ _› 9 ?_ | refine g_name ‹On _ _ _ _› 10 ?_ | refine g_name ‹On _ _ _ _› 11 ?_ | refine g_name ‹On _ _ _ _› 12 ?_ | refine g_name ‹On _ _ _ _› 13 ?_)
  | with_reducible refine iteT ?_
  | with_reducible refine iteF ?_
  | with_reducible refine iteNT ?_
  | with_reducible refine iteNF ?_
  | with_reducible refine Exists.intro _ (And.intro rfl ?_))
local macro_rules | `(tactic| walk_at "go") => `(tactic| repeat (walk_at "go1"))
/-! kind_at -/
/-- BadText(l, c) is raised -/
def Rz (CB : Addr) (l c : Int) (H : Hp) (E : XK) : Prop := ∀ d H', H d = none → Same H H' → H' d = some (.xd [("column", .int c), ("line", .int l)]) → E (.ref CB) (some d) H'
theorem Rz.mono {CB : Addr} {l c : Int} {H H1 : Hp} {E : XK} (h : Rz CB l c H E) (s : Same H H1) : Rz CB l c H1 E := fun d H' n s1 e => h d H' (same_none s n) (s.trans s1) e
def plainB (z : Str) : Bool := decide (z = ("within" : Str)) || (decide (z = ("beyond" : Str)) || (decide (z = ("allowed" : Str)) || decide (z = ("like" : Str))))
def timedB (z : Str) : Bool := decide (z = ("free" : Str)) || (decide (z = ("hangs" : Str)) || (decide (z = ("holds" : Str)) || decide (z = ("strong" : Str))))
def nowB (z : Str) : Bool := decide (z = ("now" : Str)) || decide (z = ("then" : Str))
def plainF (z : Str) : List Str × Nat := if z = ("allowed" : Str) then ([], 0) else if z = ("like" : Str) then (["name"], 0) else (["n"], 0)
def timedF (z : Str) : List Str × Nat := if z = ("free" : Str) then ([], 1) else if z = ("hangs" : Str) then ([], 2) else if z = ("holds" : Str) then (["n"], 1) else (["v"], 0)
def rowF (K : PySem.W.Frag) (f : List Str × Nat) (u : V) : Prop := ∃ p q : Addr, u = .ref p ∧ ∀ H, SqT K H p [.ref q, .int (f.2 : Int)] ∧ SqT K H q (f.1.map V.str)
structure Txt2 (m : Md) (CB : Addr) : Prop where
  plain : Tb m "PLAIN" plainB fun z u => rowF m.K (plainF z) u
  timed : Tb m "TIMED" timedB fun z u => rowF m.K (timedF z) u
  bad : Xc m "BadText" CB ["line", "column"]
def kindAt (ws : List Str) : Except Nat Nat :=
  if isName (ws.getD 0 default).cps.toList then match ws[1]? with
    | none => .error 2
    | some z => if plainB z then .ok 2 else if nowB z then (match ws[2]? with
      | none => .error 3
      | some y => if timedB y then .ok 3 else .error 3) else .error 2
  else .error 1
def endK (CB : Addr) (r : Except Nat Nat) (H : Hp) (Q : VK) (E : XK) : Prop := match r with
  | .ok n => ∀ H', Same H H' → Q (.int (n : Int)) H'
  | .error c => Rz CB 1 (c : Int) H E
def spKind (K : PySem.W.Frag) (CB : Addr) : Sp := fun vs H Q E => ∃ (a : Addr) (ws : List Str), vs = [.ref a] ∧ SqL K H a (ws.map V.str) ∧ 1 ≤ ws.length ∧ (∀ p ∈ ws, p.length ≤ 1000000) ∧ endK CB (kindAt ws) H Q E
abbrev nKind : Nm := defNm ["words"] sKind ["is_name", "BadText", "len", "PLAIN", "TIMED"] [0]
theorem at_map {ws : List Str} {i : Nat} {z : Str} (h : ws[i]? = some z) : (ws.map V.str)[i]? = some (V.str z) := by rw [List.getElem?_map, h]; rfl
theorem inV_two (z : Str) : inV (.str z) [.str "now", .str "then"] = nowB z := by
  have e : ∀ y : Str, eqV (.str y) (.str z) = decide (z = y) := fun y => by
    rw [show eqV (.str y) (.str z) = (y == z) from rfl]
    by_cases h : y = z
    · subst h
      simp
    · rw [decide_eq_false fun q => h q.symm]
      simpa using h
  unfold nowB inV
  simp [e]
theorem iteTe {c : Bool} {A B : Prop} (h : c = true) (q : A) : if c = true then A else B := by
  rw [h]
  exact q
theorem iteFe {c : Bool} {A B : Prop} (h : c = false) (q : B) : if c = true then A else B := by
  rw [h]
  exact q
theorem dec_len {α : Type} {ws : List α} {f : α → V} {i : Int} (n : Nat) (h : i = (n : Int) := by rfl) : decide (V.int ((ws.map f).length : Int) = V.int i) = decide (ws.length = n) := by
  subst h
  rw [List.length_map]
  exact dec_iff ⟨fun h => by injection h with h; omega, fun h => by rw [h]⟩
theorem b_kind {X : Cx} {m : Md} {vs : List V} {H : Hp} {Q : VK} {E : XK} {CB : Addr} (T : Txt m) (T2 : Txt2 m CB) (G1 : Df m 1 "is_name" ["value"] spIsName) (C : On X nKind m 2) (B : Bd X E) (h : spKind m.K CB vs H Q E) :
    wB X (defBody sKind) (out Q) (start nKind.N vs) H := by
  obtain ⟨a, ws, rfl, hq, hn, hl, k⟩ := h
  unfold kindAt at k
  obtain ⟨w0, h0⟩ : ∃ w0, ws[0]? = some w0 := ⟨ws[0], List.getElem?_eq_getElem (by omega)⟩
  rw [getD_of' h0] at k
  refine b_cons ?_
  walk_at "go"
  refine w_call C 0 G1 ?_
  walk_at "go"
  refine i_list C hq (atI_nat (j := 0) (at_map h0)) ?_
  walk_at "go"
  refine ⟨w0, rfl, hl _ (List.mem_of_getElem? h0), fun H1 s1 => ?_⟩
  have q1 := s1.seq hq
  walk_at "go"
  refine ite2n (fun h1 => ?_) (fun h1 => ?_)
  · rw [h1] at k
    refine b_one (s_raise C B.tk 1 T2.bad (by decide) ?_)
    walk_at "go"
    exact ⟨rfl, (Rz.mono k s1)⟩
  · rw [h1] at k
    refine b_nil ?_
    refine b_cons ?_
    refine s_if (wT_mono (Q := fun b H2 => Same H1 H2 ∧ b = (decide (ws.length = 1) || (!plainB (ws.getD 1 default) && !nowB (ws.getD 1 default)))) ?_ fun b H2 ⟨s2, e2⟩ => ?_)
    · walk_at "go"
      refine w_lenL C 2 T.len ?_
      walk_at "go"
      refine ⟨a, _, rfl, .inl q1, ?_⟩
      walk_at "go"
      rw [dec_len 1]
      refine ite2b (fun h2 => ?_) (fun h2 => ?_)
      · refine ⟨Same.refl _, ?_⟩
        rw [h2]
        rfl
      · obtain ⟨w1, hw1⟩ : ∃ w1, ws[1]? = some w1 := ⟨ws[1]'(by simp at h2; omega), List.getElem?_eq_getElem _⟩
        rw [h2, getD_of' hw1]
        walk_at "go"
        refine i_list C q1 (atI_nat (j := 1) (at_map hw1)) ?_
        refine n_niTb C 3 T2.plain ?_
        walk_at "go"
        refine ite2n (fun h3 => ?_) (fun h3 => ?_)
        · rw [h3]
          walk_at "go"
          refine i_list C q1 (atI_nat (j := 1) (at_map hw1)) ?_
          refine w_tupN ?_
          walk_at "go"
          refine ⟨szN 2, fun t H2 ht s2 e2 => ?_⟩
          refine o_niS C (.inr (.inl (.inl e2))) rfl rfl ?_
          rw [inV_two]
          exact ⟨_, rfl, s2, rfl⟩
        · rw [h3]
          exact ⟨Same.refl _, rfl⟩
    · subst e2
      have q2 := s2.seq q1
      have s02 := s1.trans s2
      cases hw1 : ws[1]? with
      | none =>
        have hl1 : ws.length = 1 := by
          have := List.getElem?_eq_none_iff.mp hw1
          omega
        rw [hw1] at k
        refine iteTe (by rw [decide_eq_true hl1, Bool.true_or]) ?_
        walk_at "go"
        refine s_raise C B.tk 1 T2.bad (by decide) ?_
        walk_at "go"
        exact ⟨rfl, Rz.mono k s02⟩
      | some w1 =>
        have hlt : 1 < ws.length := (List.getElem?_eq_some_iff.mp hw1).1
        rw [hw1] at k
        rw [getD_of' hw1, decide_eq_false (show ¬ ws.length = 1 by omega), Bool.false_or]
        dsimp only at k
        cases hp : plainB w1 with
        | true =>
          rw [hp] at k
          refine iteFe rfl ?_
          walk_at "go"
          refine i_list C q2 (atI_nat (j := 1) (at_map hw1)) ?_
          refine n_inTb C 3 T2.plain ?_
          rw [hp]
          walk_at "go"
          exact k H2 s02
        | false =>
          rw [hp] at k
          cases hn1 : nowB w1 with
          | false =>
            rw [hn1] at k
            refine iteTe rfl ?_
            walk_at "go"
            refine s_raise C B.tk 1 T2.bad (by decide) ?_
            walk_at "go"
            exact ⟨rfl, Rz.mono k s02⟩
          | true =>
            rw [hn1] at k
            refine iteFe rfl ?_
            walk_at "go"
            refine i_list C q2 (atI_nat (j := 1) (at_map hw1)) ?_
            refine n_inTb C 3 T2.plain ?_
            rw [hp]
            walk_at "go"
            refine w_lenL C 2 T.len ?_
            walk_at "go"
            refine ⟨a, _, rfl, .inl q2, ?_⟩
            walk_at "go"
            rw [dec_len 2]
            cases hw2 : ws[2]? with
            | none =>
              have hl2 : ws.length = 2 := by
                have := List.getElem?_eq_none_iff.mp hw2
                omega
              rw [hw2] at k
              rw [decide_eq_true hl2]
              walk_at "go"
              refine s_raise C B.tk 1 T2.bad (by decide) ?_
              walk_at "go"
              exact ⟨rfl, Rz.mono k s02⟩
            | some w2 =>
              have hlt2 : 2 < ws.length := (List.getElem?_eq_some_iff.mp hw2).1
              rw [hw2] at k
              dsimp only at k
              rw [decide_eq_false (show ¬ ws.length = 2 by omega)]
              walk_at "go"
              refine i_list C q2 (atI_nat (j := 2) (at_map hw2)) ?_
              refine n_niTb C 4 T2.timed ?_
              cases ht : timedB w2 with
              | true =>
                rw [ht] at k
                walk_at "go"
                exact k H2 s02
              | false =>
                rw [ht] at k
                walk_at "go"
                refine s_raise C B.tk 1 T2.bad (by decide) ?_
                walk_at "go"
                exact ⟨rfl, Rz.mono k s02⟩
end K9

set_option Elab.async false
set_option linter.all false
set_option maxRecDepth 100000
set_option maxHeartbeats 4000000
namespace K9
open PySem PySem.Spec PyProof.Rows L2 Wp
local macro_rules | `(tactic| walk_at "go1") => `(tactic| first
  | (with_reducible show wE _ (Expr.Name _ _) _ _ _); (first | refine wv ‹On _ _ _ _› 0 ?_ | refine wv ‹On _ _ _ _› 1 ?_ | refine wv ‹On _ _ _ _› 2 ?_ | refine wv ‹On _ _ _ _› 3 ?_ | refine wv ‹On _ _ _ _› 4 ?_ | refine wv ‹On _ _ _ _› 5 ?_ | refine wv ‹On _ _ _ _› 6 ?_ | refine wv ‹On _ _ _ _› 7 ?_ | refine wv ‹On _ _ _ _› 8 ?_ | refine wv ‹On _ _ _ _› 9 ?_ | refine wv ‹On _ _ _ _› 10 ?_ | refine wv ‹On _ _ _ _› 11 ?_ | refine wv ‹On _ _ _ _› 12 ?_ | refine wv ‹On _ _ _ _› 13 ?_)
  | with_reducible refine w_int ?_
  | with_reducible refine w_str ?_
  | with_reducible refine w_bl ?_
  | with_reducible refine w_non ?_
  | with_reducible refine w_bin ?_
  | (with_reducible show wE _ (Expr.Compare _ [_] [_] _) _ _ _); (refine w_cmp ?_)
  | (with_reducible show wT _ (Expr.Compare _ [_] [_] _) _ _ _); (refine wt_cmp ?_)
  | (with_reducible show wE _ (Expr.Compare _ [_, _] [_, _] _) _ _ _); (refine w_chain ?_)
  | (with_reducible show wT _ (Expr.Compare _ [_, _] [_, _] _) _ _ _); (refine wt_chain ?_)
  | with_reducible refine wt_not ?_
  | (with_reducible show wT _ (Expr.BoolOp _ _ _) _ _ _); (refine wt_w ?_)
  | with_reducible refine ww_and1 ?_
  | with_reducible refine ww_or1 ?_
  | with_reducible refine ww_and ?_
  | with_reducible refine ww_or ?_
  | with_reducible refine w_one ?_
  | with_reducible refine w_and ?_
  | with_reducible refine w_or ?_
  | with_reducible refine w_not ?_
  | with_reducible refine w_ifx ?_
  | (with_reducible show wT _ (Expr.Call _ _ _ _) _ _ _); (refine wt_val ?_)
  | with_reducible refine w_sl ?_
  | with_reducible refine w_slf ?_
  | with_reducible refine w_slt ?_
  | (with_reducible show wE _ (Expr.Subscript _ (Expr.Constant (Const.str _) _ _) _) _ _ _); (refine w_dgN ‹On _ _ _ _› ?_)
  | (with_reducible show DG _ _ _ _); (refine dget_at (by assumption) (by rfl) ?_)
  | (with_reducible show wE _ (Expr.Subscript _ (Expr.Constant _ _ _) _) _ _ _); (refine w_sub ?_)
  | (with_reducible show wE _ (Expr.Subscript _ (Expr.BinOp _ _ _ _) _) _ _ _); (refine w_sub ?_)
  | (with_reducible show wA _ (_ :: _) _ _ _); (refine wa_cons ?_)
  | with_reducible refine wa_nil ?_
  | with_reducible refine o_add ?_
  | with_reducible refine o_sub ?_
  | with_reducible refine o_lt ?_
  | with_reducible refine o_le ?_
  | with_reducible refine o_gt ?_
  | with_reducible refine o_ge ?_
  | with_reducible refine o_is ?_
  | with_reducible refine o_isnt ?_
  | (with_reducible show wO _ (compareOp CmpOp.Eq) _ _ _ _); (refine o_eq ?_)
  | (with_reducible show wO _ (compareOp CmpOp.NotEq) _ _ _ _); (refine o_ne ?_)
  | with_reducible refine b_one ?_
  | with_reducible refine b_nil ?_
  | with_reducible refine b_cons ?_
  | with_reducible refine s_if ?_
  | with_reducible refine s_ret ?_
  | with_reducible refine s_retN ?_
  | with_reducible refine s_pass ?_
  | with_reducible refine s_break ?_
  | with_reducible refine s_cont ?_
  | (with_reducible show wS _ (Stmt.Expr (Expr.Call (Expr.Attribute _ "append" _) [_] [] _) _) _ _ _); (refine s_append ‹On _ _ _ _› ?_)
  | (with_reducible show wS _ (Stmt.Expr _ _) _ _ _); (refine s_expr ?_)
  | (with_reducible show wE _ (Expr.ListComp _ _ _ _) _ _ _); (refine w_ofL ‹On _ _ _ _› ?_)
  | (with_reducible show wS _ (Stmt.Assign [Expr.Name _ _] (Expr.ListComp _ _ _ _) _) _ _ _); (first | refine s_ofL ‹On _ _ _ _› 0 ?_ | refine s_ofL ‹On _ _ _ _› 1 ?_ | refine s_ofL ‹On _ _ _ _› 2 ?_ | refine s_ofL ‹On _ _ _ _› 3 ?_ | refine s_ofL ‹On _ _ _ _› 4 ?_ | refine s_ofL ‹On _ _ _ _› 5 ?_ | refine s_ofL ‹On _ _ _ _› 6 ?_ | refine s_ofL ‹On _ _ _ _› 7 ?_ | refine s_ofL ‹On _ _ _ _› 8 ?_ | refine s_ofL ‹On _ _ _ _› 9 ?_ | refine s_ofL ‹On _ _ _ _› 10 ?_ | refine s_ofL ‹On _ _ _ _› 11 ?_ | refine s_ofL ‹On _ _ _ _› 12 ?_ | refine s_ofL ‹On _ _ _ _› 13 ?_)
  | (with_reducible show wS _ (Stmt.Assign [Expr.Name _ _] _ _) _ _ _); (first | refine s_set ‹On _ _ _ _› 0 ?_ | refine s_set ‹On _ _ _ _› 1 ?_ | refine s_set ‹On _ _ _ _› 2 ?_ | refine s_set ‹On _ _ _ _› 3 ?_ | refine s_set ‹On _ _ _ _› 4 ?_ | refine s_set ‹On _ _ _ _› 5 ?_ | refine s_set ‹On _ _ _ _› 6 ?_ | refine s_set ‹On _ _ _ _› 7 ?_ | refine s_set ‹On _ _ _ _› 8 ?_ | refine s_set ‹On _ _ _ _› 9 ?_ | refine s_set ‹On _ _ _ _› 10 ?_ | refine s_set ‹On _ _ _ _› 11 ?_ | refine s_set ‹On _ _ _ _› 12 ?_ | refine s_set ‹On _ _ _ _› 13 ?_)
  | (with_reducible show wS _ (Stmt.Assign [Expr.Subscript _ (Expr.Constant (Const.str _) _ _) _] _ _) _ _ _); (refine s_dput ‹On _ _ _ _› ?_)
  | (with_reducible show wG _ (Expr.Name _ _) _ _ _ _); (first | refine g_name ‹On _ _ _ _› 0 ?_ | refine g_name ‹On _ _ _ _› 1 ?_ | refine g_name ‹On _ _ _ _› 2 ?_ | refine g_name ‹On _ _ _ _› 3 ?_ | refine g_name ‹On _ _ _ _› 4 ?_ | refine g_name ‹On _ _ _ _› 5 ?_ | refine g_name ‹On _ _ _ _› 6 ?_ | refine g_name ‹On _ _ _ _› 7 ?_ | refine g_name ‹On _ _ _ _› 8 ?_ | refine g_name ‹On _ _ _ _› 9 ?_ | refine g_name ‹On _ _ _ _› 10 ?_ | refine g_name ‹On _ _ _ _› 11 ?_ | refine g_name ‹On _ _ _ _› 12 ?_ | refine g_name ‹On _ _ _ _› 13 ?_)
  | with_reducible refine iteT ?_
  | with_reducible refine iteF ?_
  | with_reducible refine iteNT ?_
  | with_reducible refine iteNF ?_
  | with_reducible refine Exists.intro _ (And.intro rfl ?_))
local macro_rules | `(tactic| walk_at "go") => `(tactic| repeat (walk_at "go1"))
/-! cells_behind -/
def badAt (many : Nat) (rest : List Str) (i : Nat) : Bool := decide (4 * many ≤ i) || !isZ (rest.getD i default).cps.toList
def cellsEnd (ws : List Str) (b many : Nat) : Option Nat :=
  let rest := ws.drop b
  match (List.range rest.length).find? (badAt many rest) with
  | some i => some (b + i + 1)
  | none => if many = 0 then none else if rest.length / many * many = rest.length ∧ 2 ≤ rest.length / many then none else some (ws.length + 1)
def endC (CB : Addr) (r : Option Nat) (H : Hp) (Q : VK) (E : XK) : Prop := match r with
  | none => ∀ v H', Same H H' → Q v H'
  | some c => Rz CB 1 (c : Int) H E
def spCells (K : PySem.W.Frag) (CB : Addr) : Sp := fun vs H Q E => ∃ (a : Addr) (ws : List Str) (b many : Nat), vs = [.ref a, .int (b : Int), .int (many : Int)] ∧ SqL K H a (ws.map V.str) ∧ ws.length ≤ 1000002 ∧ b ≤ 1000 ∧ many ≤ 2 ∧ (∀ p ∈ ws, p.length ≤ 1000000) ∧ endC CB (cellsEnd ws b many) H Q E
abbrev nCells : Nm := defNmC ["words", "begin", "many", "rest", "at", "word", "size", "numbers", "k"] sCells ["enumerate", "is_z", "BadText", "len", "tuple", "range"] [] [8]
theorem find_at {n i : Nat} {p : Nat → Bool} (hi : i < n) (h : p i = true) (hb : ∀ j < i, p j = false) : (List.range n).find? p = some i := by
  rw [List.find?_range_eq_some]
  exact ⟨h, List.mem_range.mpr hi, fun j hj => by rw [hb j hj]; rfl⟩
theorem find_no {n : Nat} {p : Nat → Bool} (hb : ∀ j < n, p j = false) : (List.range n).find? p = none := by
  rw [List.find?_range_eq_none]
  exact fun j hj => by rw [hb j hj]; rfl
theorem b_cells {X : Cx} {m : Md} {vs : List V} {H : Hp} {Q : VK} {E : XK} {CB : Addr} (T : Txt m) (T2 : Txt2 m CB) (G1 : Df m 2 "is_z" ["word"] spIsZ) (C : On X nCells m 2) (B : Bd X E) (h : spCells m.K CB vs H Q E) :
    wB X (defBody sCells) (out Q) (start nCells.N vs) H := by
  obtain ⟨a, ws, b, many, rfl, hq, hw, hb, hm, hl, k⟩ := h
  unfold cellsEnd at k
  dsimp only at k
  refine b_cons ?_
  walk_at "go"
  refine sl_from C hq rfl fun r H1 hr s1 e1 => ?_
  rw [← List.map_drop] at e1
  have hrl : ∀ p ∈ ws.drop b, p.length ≤ 1000000 := fun p hp => hl p (List.mem_of_mem_drop hp)
  have hrn : (ws.drop b).length ≤ 1000002 := by rw [List.length_drop]; omega
  have q1 := s1.seq hq
  generalize hrest : ws.drop b = rest at k e1 hrl hrn
  refine b_cut (fun σ' H' => Same H1 H' ∧ (∀ j < rest.length, badAt many rest j = false) ∧ ∃ x y, σ' = [some (.ref a), some (.int (b : Int)), some (.int (many : Int)), some (.ref r), x, y, none, none, none]) ?_ fun σ2 H2 ⟨s2, hall, x2, y2, e2⟩ => ?_
  · refine s_forE C B.po 0 4 5 T.enumerate ?_
    walk_at "go"
    refine ⟨r, _, rfl, .inl (.inl e1), fun i σ' H' => Same H1 H' ∧ (∀ j < i, badAt many rest j = false) ∧ ∃ x y, σ' = [some (.ref a), some (.int (b : Int)), some (.int (many : Int)), some (.ref r), x, y, none, none, none],
      ⟨Same.refl _, fun j hj => absurd hj (Nat.not_lt_zero _), none, none, rfl⟩, fun i σ' H' _ p => p.1.seq (.inl (.inl e1)), fun i u σ' H' H3 hu p s3 => ?_, fun σ' H' p => ⟨p.1, by rw [List.length_map] at p; exact p.2.1, p.2.2⟩⟩
    obtain ⟨p1, p2, x, y, rfl⟩ := p
    obtain ⟨w, hw2, rfl⟩ := map_at hu
    have hi : i < rest.length := (List.getElem?_eq_some_iff.mp hw2).1
    have eb : badAt many rest i = (decide (4 * many ≤ i) || !isZ w.cps.toList) := by
      unfold badAt
      rw [getD_of' hw2]
    refine b_one ?_
    refine s_if (wT_mono (Q := fun c H4 => Same H3 H4 ∧ c = badAt many rest i) ?_ fun c H4 ⟨s4, e4⟩ => ?_)
    · walk_at "go"
      refine o_mul (.inl (by decide)) ?_
      walk_at "go"
      rw [eb, show decide ((4 : Int) * (many : Int) ≤ (i : Int)) = decide (4 * many ≤ i) from dec_iff (by omega)]
      refine ite2b (fun h2 => ?_) (fun h2 => ?_)
      · exact ⟨Same.refl _, by rw [h2]; rfl⟩
      · walk_at "go"
        refine w_call C 1 G1 ?_
        walk_at "go"
        refine ⟨w, rfl, hrl _ (List.mem_of_getElem? hw2), fun H4 s4 => ?_⟩
        walk_at "go"
        exact ⟨s4, by rw [h2]; rfl⟩
    · subst e4
      refine ite2b (fun h1 => ?_) (fun h1 => ?_)
      · rw [find_at hi h1 p2] at k
        refine b_one (s_raise C B.tk 2 T2.bad (by decide) ?_)
        walk_at "go"
        refine ⟨rfl, Rz.mono ?_ (((s1.trans p1).trans s3).trans s4)⟩
        exact k
      · refine b_nil ⟨(p1.trans s3).trans s4, fun j hj => ?_, _, _, rfl⟩
        by_cases e : j = i
        · rw [e]; exact h1
        · exact p2 j (by omega)
  · subst e2
    rw [find_no hall] at k
    have s02 := s1.trans s2
    have q2 := s2.seq q1
    have qr : SqL m.K H2 r (rest.map V.str) := .inl (.inl (s2 _ _ e1))
    refine b_cons ?_
    walk_at "go"
    rw [show decide (V.int (many : Int) = V.int 0) = decide (many = 0) from dec_iff ⟨fun z => by injection z with z; omega, fun z => by rw [z]; rfl⟩]
    refine ite2b (fun h1 => ?_) (fun h1 => ?_)
    · walk_at "go"
      refine w_tupN ?_
      walk_at "go"
      refine ⟨szN 0, fun t H3 _ s3 _ => ?_⟩
      dsimp only at k
      rw [if_pos (of_decide_eq_true h1)] at k
      exact k _ H3 (s02.trans s3)
    · have hm0 : many ≠ 0 := of_decide_eq_false h1
      dsimp only at k
      rw [if_neg hm0] at k
      refine b_nil ?_
      refine b_cons ?_
      walk_at "go"
      refine w_lenL C 3 T.len ?_
      walk_at "go"
      refine ⟨r, _, rfl, .inl qr, ?_⟩
      walk_at "go"
      refine o_fdiv (by omega) ?_
      rw [List.length_map, show ((rest.length : Int) / (many : Int)) = ((rest.length / many : Nat) : Int) from rfl]
      have hsz : rest.length / many ≤ rest.length := Nat.div_le_self _ _
      generalize hsize : rest.length / many = size at k hsz
      refine b_cons ?_
      refine s_if (wT_mono (Q := fun c H4 => Same H2 H4 ∧ c = !(decide (size * many = rest.length ∧ 2 ≤ size))) ?_ fun c H4 ⟨s4, e4⟩ => ?_)
      · walk_at "go"
        refine o_mul (.inl (by omega)) ?_
        walk_at "go"
        refine w_lenL C 3 T.len ?_
        walk_at "go"
        refine ⟨r, _, rfl, .inl qr, ?_⟩
        walk_at "go"
        rw [List.length_map, show decide (V.int ((size : Int) * (many : Int)) = V.int (rest.length : Int)) = decide (size * many = rest.length) from dec_iff ⟨fun z => by injection z with z; omega, fun z => by rw [← z]; simp⟩]
        refine ite2n (fun h2 => ?_) (fun h2 => ?_)
        · have h2' := of_decide_eq_false h2
          exact ⟨Same.refl _, by rw [decide_eq_false fun z => h2' z.1]; rfl⟩
        · have h2' := of_decide_eq_true h2
          walk_at "go"
          refine ⟨Same.refl _, ?_⟩
          by_cases h3 : 2 ≤ size
          · rw [decide_eq_true (show size * many = rest.length ∧ 2 ≤ size from ⟨h2', h3⟩), decide_eq_false (show ¬ (size : Int) < 2 by omega)]
            rfl
          · rw [decide_eq_false (show ¬ (size * many = rest.length ∧ 2 ≤ size) from fun z => h3 z.2), decide_eq_true (show (size : Int) < 2 by omega)]
            rfl
      · subst e4
        have q4 := s4.seq q2
        have qr4 := s4.seq qr
        have s04 := s02.trans s4
        refine ite2n (fun h2 => ?_) (fun h2 => ?_)
        · rw [if_neg (of_decide_eq_false h2)] at k
          refine b_one (s_raise C B.tk 2 T2.bad (by decide) ?_)
          walk_at "go"
          refine w_lenL C 3 T.len ?_
          walk_at "go"
          refine ⟨a, _, rfl, .inl q4, ?_⟩
          walk_at "go"
          refine ⟨rfl, ?_⟩
          rw [List.length_map]
          exact Rz.mono k s04
        · rw [if_pos (of_decide_eq_true h2)] at k
          refine b_nil ?_
          refine b_cons ?_
          refine s_ofLc C 7 (by decide +kernel) ?_
          refine lcL C 5 ["int"] [5] (by decide +kernel) ?_ (fun _ => rfl)
          walk_at "go"
          have hz : ∀ p ∈ rest, isZ p.cps.toList = true := fun p hp => by
            obtain ⟨i, hi, e⟩ := List.mem_iff_getElem.mp hp
            have z := hall i hi
            unfold badAt at z
            rw [getD_of' (List.getElem?_eq_getElem hi), e] at z
            simp at z
            exact z.2
          refine ⟨r, _, rfl, qr4, by rw [List.length_map]; omega, fun i => .int (intOf (rest.getD i default)), fun i y H5 X2 hy s5 C2 => ?_, fun p H5 hp s5 e5 => ?_⟩
          · obtain ⟨x, hx, rfl⟩ := map_at hy
            refine w_intS C2 0 T.int ?_
            walk_at "go"
            obtain ⟨i1, i2⟩ := isZ_intOf (w := x) (hz x (List.mem_of_getElem? hx))
            refine ⟨x, _, rfl, i1, i2, Same.refl _, ?_⟩
            show V.int _ = V.int (intOf (rest.getD i default))
            rw [getD_of' hx]
          · have q5 : SqL m.K H5 p _ := .inl (.inl e5)
            walk_at "go"
            refine w_tupleL C 4 T.tuple ?_
            walk_at "go"
            refine lcRg C 5 T.range 8 ["tuple"] [6, 7, 8] (by decide +kernel) ?_ (fun _ => rfl)
            walk_at "go"
            refine ⟨by omega, fun Dl hD => ⟨LAny H5 Dl, ⟨hD, same_new hD⟩, fun i H6 X2 acc hi p6 _ d6 C2 => ?_, fun H6 acc p6 _ d6 => ?_⟩⟩
            · refine w_tupleL C2 0 T.tuple ?_
              walk_at "go"
              refine o_mul (.inl (by omega)) ?_
              walk_at "go"
              refine o_mul (.inl (by omega)) ?_
              walk_at "go"
              refine sl_any C2 (p6.2.seq q5) fun l H7 hl s7 e7 => ?_
              refine ⟨l, _, rfl, .inl (.inl e7), fun t H8 ht s8 e8 => ?_⟩
              exact LAny.step p6 (s7.trans s8) d6
            · refine ⟨Dl, acc, rfl, .inl (.inl d6), fun t H7 ht s7 e7 => ?_⟩
              exact k _ H7 (((s04.trans s5).trans p6.2).trans s7)
end K9

set_option Elab.async false
set_option linter.all false
set_option maxRecDepth 100000
set_option maxHeartbeats 4000000
namespace K9
open PySem PySem.Spec PyProof.Rows L2 Wp
local macro_rules | `(tactic| walk_at "go1") => `(tactic| first
  | (with_reducible show wE _ (Expr.Name _ _) _ _ _); (first | refine wv ‹On _ _ _ _› 0 ?_ | refine wv ‹On _ _ _ _› 1 ?_ | refine wv ‹On _ _ _ _› 2 ?_ | refine wv ‹On _ _ _ _› 3 ?_ | refine wv ‹On _ _ _ _› 4 ?_ | refine wv ‹On _ _ _ _› 5 ?_ | refine wv ‹On _ _ _ _› 6 ?_ | refine wv ‹On _ _ _ _› 7 ?_ | refine wv ‹On _ _ _ _› 8 ?_ | refine wv ‹On _ _ _ _› 9 ?_ | refine wv ‹On _ _ _ _› 10 ?_ | refine wv ‹On _ _ _ _› 11 ?_ | refine wv ‹On _ _ _ _› 12 ?_ | refine wv ‹On _ _ _ _› 13 ?_)
  | with_reducible refine w_int ?_
  | with_reducible refine w_str ?_
  | with_reducible refine w_bl ?_
  | with_reducible refine w_non ?_
  | with_reducible refine w_bin ?_
  | (with_reducible show wE _ (Expr.Compare _ [_] [_] _) _ _ _); (refine w_cmp ?_)
  | (with_reducible show wT _ (Expr.Compare _ [_] [_] _) _ _ _); (refine wt_cmp ?_)
  | (with_reducible show wE _ (Expr.Compare _ [_, _] [_, _] _) _ _ _); (refine w_chain ?_)
  | (with_reducible show wT _ (Expr.Compare _ [_, _] [_, _] _) _ _ _); (refine wt_chain ?_)
  | with_reducible refine wt_not ?_
  | (with_reducible show wT _ (Expr.BoolOp _ _ _) _ _ _); (refine wt_w ?_)
  | with_reducible refine ww_and1 ?_
  | with_reducible refine ww_or1 ?_
  | with_reducible refine ww_and ?_
  | with_reducible refine ww_or ?_
  | with_reducible refine w_one ?_
  | with_reducible refine w_and ?_
  | with_reducible refine w_or ?_
  | with_reducible refine w_not ?_
  | with_reducible refine w_ifx ?_
  | (with_reducible show wT _ (Expr.Call _ _ _ _) _ _ _); (refine wt_val ?_)
  | with_reducible refine w_sl ?_
  | with_reducible refine w_slf ?_
  | with_reducible refine w_slt ?_
  | (with_reducible show wE _ (Expr.Subscript _ (Expr.Constant (Const.str _) _ _) _) _ _ _); (refine w_dgN ‹On _ _ _ _› ?_)
  | (with_reducible show DG _ _ _ _); (refine dget_at (by assumption) (by rfl) ?_)
  | (with_reducible show wE _ (Expr.Subscript _ (Expr.Constant _ _ _) _) _ _ _); (refine w_sub ?_)
  | (with_reducible show wE _ (Expr.Subscript _ (Expr.BinOp _ _ _ _) _) _ _ _); (refine w_sub ?_)
  | (with_reducible show wA _ (_ :: _) _ _ _); (refine wa_cons ?_)
  | with_reducible refine wa_nil ?_
  | with_reducible refine o_add ?_
  | with_reducible refine o_sub ?_
  | with_reducible refine o_lt ?_
  | with_reducible refine o_le ?_
  | with_reducible refine o_gt ?_
  | with_reducible refine o_ge ?_
  | with_reducible refine o_is ?_
  | with_reducible refine o_isnt ?_
  | (with_reducible show wO _ (compareOp CmpOp.Eq) _ _ _ _); (refine o_eq ?_)
  | (with_reducible show wO _ (compareOp CmpOp.NotEq) _ _ _ _); (refine o_ne ?_)
  | with_reducible refine b_one ?_
  | with_reducible refine b_nil ?_
  | with_reducible refine b_cons ?_
  | with_reducible refine s_if ?_
  | with_reducible refine s_ret ?_
  | with_reducible refine s_retN ?_
  | with_reducible refine s_pass ?_
  | with_reducible refine s_break ?_
  | with_reducible refine s_cont ?_
  | (with_reducible show wS _ (Stmt.Expr (Expr.Call (Expr.Attribute _ "append" _) [_] [] _) _) _ _ _); (refine s_append ‹On _ _ _ _› ?_)
  | (with_reducible show wS _ (Stmt.Expr _ _) _ _ _); (refine s_expr ?_)
  | (with_reducible show wE _ (Expr.ListComp _ _ _ _) _ _ _); (refine w_ofL ‹On _ _ _ _› ?_)
  | (with_reducible show wS _ (Stmt.Assign [Expr.Name _ _] (Expr.ListComp _ _ _ _) _) _ _ _); (first | refine s_ofL ‹On _ _ _ _› 0 ?_ | refine s_ofL ‹On _ _ _ _› 1 ?_ | refine s_ofL ‹On _ _ _ _› 2 ?_ | refine s_ofL ‹On _ _ _ _› 3 ?_ | refine s_ofL ‹On _ _ _ _› 4 ?_ | refine s_ofL ‹On _ _ _ _› 5 ?_ | refine s_ofL ‹On _ _ _ _› 6 ?_ | refine s_ofL ‹On _ _ _ _› 7 ?_ | refine s_ofL ‹On _ _ _ _› 8 ?_ | refine s_ofL ‹On _ _ _ _› 9 ?_ | refine s_ofL ‹On _ _ _ _› 10 ?_ | refine s_ofL ‹On _ _ _ _› 11 ?_ | refine s_ofL ‹On _ _ _ _› 12 ?_ | refine s_ofL ‹On _ _ _ _› 13 ?_)
  | (with_reducible show wS _ (Stmt.Assign [Expr.Name _ _] _ _) _ _ _); (first | refine s_set ‹On _ _ _ _› 0 ?_ | refine s_set ‹On _ _ _ _› 1 ?_ | refine s_set ‹On _ _ _ _› 2 ?_ | refine s_set ‹On _ _ _ _› 3 ?_ | refine s_set ‹On _ _ _ _› 4 ?_ | refine s_set ‹On _ _ _ _› 5 ?_ | refine s_set ‹On _ _ _ _› 6 ?_ | refine s_set ‹On _ _ _ _› 7 ?_ | refine s_set ‹On _ _ _ _› 8 ?_ | refine s_set ‹On _ _ _ _› 9 ?_ | refine s_set ‹On _ _ _ _› 10 ?_ | refine s_set ‹On _ _ _ _› 11 ?_ | refine s_set ‹On _ _ _ _› 12 ?_ | refine s_set ‹On _ _ _ _› 13 ?_)
  | (with_reducible show wS _ (Stmt.Assign [Expr.Subscript _ (Expr.Constant (Const.str _) _ _) _] _ _) _ _ _); (refine s_dput ‹On _ _ _ _› ?_)
  | (with_reducible show wG _ (Expr.Name _ _) _ _ _ _); (first | refine g_name ‹On _ _ _ _› 0 ?_ | refine g_name ‹On _ _ _ _› 1 ?_ | refine g_name ‹On _ _ _ _› 2 ?_ | refine g_name ‹On _ _ _ _› 3 ?_ | refine g_name ‹On _ _ _ _› 4 ?_ | refine g_name ‹On _ _ _ _› 5 ?_ | refine g_name ‹On _ _ _ _› 6 ?_ | refine g_name ‹On _ _ _ _› 7 ?_ | refine g_name ‹On _ _ _ _› 8 ?_ | refine g_name ‹On _ _ _ _› 9 ?_ | refine g_name ‹On _ _ _ _› 10 ?_ | refine g_name ‹On _ _ _ _› 11 ?_ | refine g_name ‹On _ _ _ _› 12 ?_ | refine g_name ‹On _ _ _ _› 13 ?_)
  | with_reducible refine iteT ?_
  | with_reducible refine iteF ?_
  | with_reducible refine iteNT ?_
  | with_reducible refine iteNF ?_
  | with_reducible refine Exists.intro _ (And.intro rfl ?_))
local macro_rules | `(tactic| walk_at "go") => `(tactic| repeat (walk_at "go1"))
/-! Vow.__init__ -/
def formBad (ws : List Str) (b : Nat) (fs : List Str) (i : Nat) : Bool := decide (ws.length ≤ b + i) || !fitsB (ws.getD (b + i) default) (fs.getD i default)
def formsOf (kind : Str) (b : Nat) : List Str × Nat := if b = 2 then plainF kind else timedF kind
def vowEnd (ws : List Str) : Except Nat Str :=
  match kindAt ws with
  | .error c => .error c
  | .ok b =>
    let kind := ws.getD (b - 1) default
    let f := formsOf kind b
    match (List.range f.1.length).find? (formBad ws b f.1) with
    | some i => .error (b + i + 1)
    | none => match cellsEnd ws (b + f.1.length) f.2 with
      | some c => .error c
      | none => .ok kind
def RzA (a CB : Addr) (l c : Int) (H : Hp) (E : XK) : Prop := ∀ d H', H d = none → Mu a H H' → H' d = some (.xd [("column", .int c), ("line", .int l)]) → E (.ref CB) (some d) H'
theorem RzA.rz {a CB : Addr} {l c : Int} {H H5 : Hp} {E : XK} (h : RzA a CB l c H E) (s : Mu a H H5) (na : H5 a ≠ none) : Rz CB l c H5 E := fun d H' n s1 e => h d H' (by
  cases q : H d with
  | none => rfl
  | some o =>
    have da : d ≠ a := fun z => na (by rw [← z]; exact n)
    rw [s d o da q] at n
    cases n) (s.trans (Mu.of s1)) e
def otherOf (ws : List Str) (kind : Str) : V := if kind = ("like" : Str) then .str (ws.getD 2 default) else .non
def lk (fs : List (Str × V)) (x : Str) : Option V := fs.lookup x
def VowIs (CA : Addr) (t kind : Str) (ws : List Str) (H : Hp) (a : Addr) : Prop := ∃ dx fs, H a = some (.ins CA dx fs) ∧ lk fs "text" = some (.str t) ∧ lk fs "name" = some (.str (ws.getD 0 default)) ∧ lk fs "kind" = some (.str kind) ∧ lk fs "other" = some (otherOf ws kind)
def endV (CA CB a : Addr) (t : Str) (ws : List Str) (H : Hp) (Q : VK) (E : XK) : Except Nat Str → Prop
  | .error c => RzA a CB 1 (c : Int) H E
  | .ok kind => ∀ H', Mu a H H' → VowIs CA t kind ws H' a → Q .non H'
def spVow (K : PySem.W.Frag) (CA CB : Addr) : Sp := fun vs H Q E => ∃ a dx v, vs = [.ref a, v] ∧ H a = some (.ins CA dx []) ∧
  ((∃ T, TyX K H v (.type T) ∧ kitB T "str" = some false ∧ RzA a CB 0 0 H E) ∨ ∃ t, v = .str t ∧ t.length ≤ 1000000 ∧ endV CA CB a t (Txt.split t " ") H Q E (vowEnd (Txt.split t " ")))
abbrev nVow : Nm := defNm ["self", "text", "words", "behind", "kind", "forms", "many", "at", "form"] sVow ["isinstance", "str", "BadText", "kind_at", "PLAIN", "TIMED", "enumerate", "len", "fits", "limit_of", "cells_behind"] [0, 1, 2, 3, 4, 5, 6, 7, 8]
structure VowC (m : Md) (CA : Addr) : Prop where
  cl : Cls m.K CA
  no : ∀ f ∈ (["text", "name", "kind", "other", "when", "limit", "column", "cells"] : List Str), NoAttr m.K CA f
theorem kindAt_ok {ws : List Str} {b : Nat} (h : kindAt ws = .ok b) : (b = 2 ∧ 2 ≤ ws.length ∧ plainB (ws.getD 1 default) = true) ∨ (b = 3 ∧ 3 ≤ ws.length ∧ timedB (ws.getD 2 default) = true ∧ nowB (ws.getD 1 default) = true ∧ plainB (ws.getD 1 default) = false) := by
  unfold kindAt at h
  split at h
  · split at h
    · cases h
    · rename_i z hz
      have l1 : 1 < ws.length := (List.getElem?_eq_some_iff.mp hz).1
      split at h
      · rename_i hp
        cases h
        exact .inl ⟨rfl, l1, by rw [getD_of' hz]; exact hp⟩
      · rename_i hp
        split at h
        · rename_i hn
          split at h
          · cases h
          · rename_i y hy
            have l2 : 2 < ws.length := (List.getElem?_eq_some_iff.mp hy).1
            split at h
            · rename_i ht
              cases h
              exact .inr ⟨rfl, l2, by rw [getD_of' hy]; exact ht, by rw [getD_of' hz]; exact hn, by rw [getD_of' hz]; exact Bool.eq_false_iff.mpr hp⟩
            · cases h
        · cases h
  · cases h
theorem put_lt {f : Str} {v : V} {n : Nat} : ∀ {fs : List (Str × V)}, fs.length < n → (putF f v fs).length < n + 1
  | [], h => by
    show 1 < n + 1
    have h' : 0 < n := h
    omega
  | (g, x) :: r, h => by
    have h' : r.length + 1 < n := h
    unfold putF
    split
    · show r.length + 1 < n + 1
      omega
    · have := put_lt (f := f) (v := v) (n := n - 1) (fs := r) (by omega)
      show (putF f v r).length + 1 < n + 1
      omega
theorem dpStrs {K : PySem.W.Frag} {H : Hp} : ∀ fs : List Str, DpAll K H (fs.map V.str) (fs.map PyData.str)
  | [] => .nil
  | f :: r => .cons (.str f) (dpStrs r)
theorem st_put {a CA dx : Addr} {fs fs' : List (Str × V)} {H4 H0 : Hp} {P : Hp → Prop} (h : H4 a = some (.ins CA dx fs)) (_ : Same H0 H4) (k : ∀ H5, Mu a H4 H5 → H5 a = some (.ins CA dx fs') → P H5) : P (upd H4 a (.ins CA dx fs')) := k _ Mu.upd upd_same
theorem Mu.seq {K : PySem.W.Frag} {a w : Addr} {H H' : Hp} {xs : List V} (h : Mu a H H') (n : w ≠ a) (q : SqL K H w xs) : SqL K H' w xs := by
  rcases q with (q | ⟨o, q⟩) | q
  · exact .inl (.inl (h _ _ n q))
  · exact .inl (.inr ⟨o, h _ _ n q⟩)
  · exact .inr q
theorem b_vow {X : Cx} {m : Md} {vs : List V} {H : Hp} {Q : VK} {E : XK} {CA CB : Addr} (T : Txt m) (T2 : Txt2 m CB) (TC : VowC m CA) (G1 : Df m 3 "kind_at" ["words"] (spKind m.K CB)) (G2 : Df m 3 "fits" ["word", "form"] spFits) (G3 : Df m 3 "limit_of" ["word", "form"] spLimit)
    (G4 : Df m 3 "cells_behind" ["words", "begin", "many"] (spCells m.K CB)) (C : On X nVow m 3) (B : Bd X E) (h : spVow m.K CA CB vs H Q E) :
    wB X (defBody sVow) (out Q) (start nVow.N vs) H := by
  obtain ⟨a, dx, v, rfl, ha, hv⟩ := h
  have na : H a ≠ none := by rw [ha]; simp
  refine b_cons ?_
  rcases hv with ⟨T0, t1, t2, hz⟩ | ⟨t, rfl, ht, k⟩
  · walk_at "go"
    refine w_isi C 0 T.isinstance ?_
    walk_at "go"
    refine wgb C 1 T.str PyProof.Rows.boot_str (v := .ty "str") rfl ?_
    walk_at "go"
    refine ⟨v, T0, "str", false, rfl, t1, t2, ?_⟩
    walk_at "go"
    refine s_raise C B.tk 2 T2.bad (by decide) ?_
    walk_at "go"
    exact ⟨rfl, fun d H' n s e => hz d H' n (Mu.of s) e⟩
  · walk_at "go"
    refine w_isi C 0 T.isinstance ?_
    walk_at "go"
    refine wgb C 1 T.str PyProof.Rows.boot_str (v := .ty "str") rfl ?_
    walk_at "go"
    refine ⟨.str t, "str", "str", true, rfl, isi_str, kit_ss, ?_⟩
    walk_at "go"
    refine w_split ?_
    walk_at "go"
    refine ⟨Nat.le_trans (Nat.add_le_add_right ht 2) (by decide), ?_⟩
    walk_at "go"
    refine ⟨by decide, fun w H1 hw s1 e1 => ?_⟩
    have hps : ∀ p ∈ Txt.split t " ", p.length ≤ 1000000 := fun p hp => Nat.le_trans (PyProof.Rows.part_short hp) ht
    have hpl := split_len (s := " ") ht
    have hpos : 1 ≤ (Txt.split t " ").length := PyProof.Rows.split_pos t " "
    generalize hws : Txt.split t " " = ws at k hps hpl hpos e1
    unfold vowEnd at k
    have q1 : SqL m.K H1 w (ws.map V.str) := .inl (.inl e1)
    have a1 := s1 _ _ ha
    walk_at "go"
    refine w_callX C B.tk 3 G1 ?_
    walk_at "go"
    refine ⟨w, ws, rfl, q1, hpos, hps, ?_⟩
    cases hk : kindAt ws with
    | error c =>
      rw [hk] at k
      exact RzA.rz k (Mu.of s1) (by rw [a1]; simp)
    | ok b =>
      rw [hk] at k
      dsimp only at k
      have hb := kindAt_ok hk
      have hb2 : b = 2 ∨ b = 3 := by rcases hb with z | z; exact .inl z.1; exact .inr z.1
      have hbl : b ≤ ws.length := by
        rcases hb with z | z
        · rw [z.1]; exact z.2.1
        · rw [z.1]; exact z.2.1
      intro H2 s2
      have q2 := s2.seq q1
      have a2 := s2 _ _ a1
      walk_at "go"
      obtain ⟨kd, hkd⟩ : ∃ kd, ws[b - 1]? = some kd := ⟨ws[b - 1]'(by omega), List.getElem?_eq_getElem _⟩
      rw [getD_of' hkd] at k
      refine i_list C q2 (by rw [show ((b : Int) - 1) = ((b - 1 : Nat) : Int) by omega]; exact atI_nat (at_map hkd)) ?_
      walk_at "go"
      refine s_cut (fun σ' H' => H' = H2 ∧ ∃ q, (∀ H, SqT m.K H q ((formsOf kd b).1.map V.str)) ∧ σ' = [some (.ref a), some (.str t), some (.ref w), some (.int (b : Int)), some (.str kd), some (.ref q), some (.int ((formsOf kd b).2 : Int)), none, none]) ?_ fun σ3 H3 ⟨e3, fq, hfq, es3⟩ => ?_
      · refine s_asg ?_
        walk_at "go"
        rw [show decide (V.int (b : Int) = V.int 2) = decide (b = 2) from dec_iff ⟨fun z => by injection z with z; omega, fun z => by rw [z]; rfl⟩]
        refine ite2b (fun hb3 => ?_) (fun hb3 => ?_)
        · refine w_atTb C 4 T2.plain ?_
          walk_at "go"
          have ef : formsOf kd b = plainF kd := by unfold formsOf; rw [if_pos (of_decide_eq_true hb3)]
          have hp : plainB kd = true := by
            rcases hb with z | z
            · have z2 := z.2.2
              rw [← getD_of' hkd, z.1]
              exact z2
            · rw [z.1] at hb3
              exact absurd hb3 (by decide)
          refine ⟨hp, fun u ⟨p, fq, eu, hu⟩ => ?_⟩
          subst eu
          refine g_two C 5 6 (hu H2).1 ⟨rfl, fq, fun H => by rw [ef]; exact (hu H).2, ?_⟩
          rw [ef]
          rfl
        · refine w_atTb C 5 T2.timed ?_
          walk_at "go"
          have ef : formsOf kd b = timedF kd := by unfold formsOf; rw [if_neg (of_decide_eq_false hb3)]
          have hp : timedB kd = true := by
            rcases hb with z | z
            · rw [z.1] at hb3
              exact absurd hb3 (by decide)
            · have z2 := z.2.2.1
              rw [← getD_of' hkd, z.1]
              exact z2
          refine ⟨hp, fun u ⟨p, fq, eu, hu⟩ => ?_⟩
          subst eu
          refine g_two C 5 6 (hu H2).1 ⟨rfl, fq, fun H => by rw [ef]; exact (hu H).2, ?_⟩
          rw [ef]
          rfl
      · subst e3 es3
        have hf1 : (formsOf kd b).1.length ≤ 1 ∧ (formsOf kd b).2 ≤ 2 := by
          unfold formsOf plainF timedF
          repeat' split
          all_goals decide
        have hfb : ∀ f ∈ (formsOf kd b).1, (SeqAt.shaped (.tuple [.str f])) = true := by
          unfold formsOf plainF timedF
          repeat' split
          all_goals simp
          all_goals decide +kernel
        have hlike : kd = ("like" : Str) → b = 2 ∧ (formsOf kd b).1.length = 1 := fun e => by
          rcases hb with z | z
          · rw [z.1, e]
            exact ⟨rfl, by decide +kernel⟩
          · have z2 := z.2.2.1
            have e3 : ws.getD 2 default = kd := by rw [← getD_of' hkd, z.1]
            rw [e3, e] at z2
            exact absurd z2 (by decide +kernel)
        generalize formsOf kd b = fm at k hfq hf1 hfb hlike
        obtain ⟨fs, many⟩ := fm
        dsimp only at k hfq hf1 hfb hlike
        refine b_cut (fun σ' H' => Same H3 H' ∧ (∀ j < fs.length, formBad ws b fs j = false) ∧ ∃ x y, σ' = [some (.ref a), some (.str t), some (.ref w), some (.int (b : Int)), some (.str kd), some (.ref fq), some (.int (many : Int)), x, y]) ?_ fun σ4 H4 ⟨s4, hall, x4, y4, e4⟩ => ?_
        · refine s_forET C B.po 6 7 8 T.enumerate ?_
          walk_at "go"
          refine ⟨fq, _, rfl, hfq _, fun i σ' H' => Same H3 H' ∧ (∀ j < i, formBad ws b fs j = false) ∧ ∃ x y, σ' = [some (.ref a), some (.str t), some (.ref w), some (.int (b : Int)), some (.str kd), some (.ref fq), some (.int (many : Int)), x, y],
            ⟨Same.refl _, fun j hj => absurd hj (Nat.not_lt_zero _), none, none, rfl⟩, fun i σ' H' _ _ => hfq _, fun i u σ' H' H5 hu p s5 => ?_, fun σ' H' p => ⟨p.1, by rw [List.length_map] at p; exact p.2.1, p.2.2⟩⟩
          obtain ⟨p1, p2, x, y, rfl⟩ := p
          obtain ⟨f, hf2, rfl⟩ := map_at hu
          have hi : i < fs.length := (List.getElem?_eq_some_iff.mp hf2).1
          have s35 := p1.trans s5
          have q5 := s35.seq q2
          refine b_one ?_
          refine s_if (wT_mono (Q := fun c H6 => Same H5 H6 ∧ c = formBad ws b fs i) ?_ fun c H6 ⟨s6, e6⟩ => ?_)
          · walk_at "go"
            refine w_lenL C 7 T.len ?_
            walk_at "go"
            refine ⟨w, _, rfl, .inl q5, ?_⟩
            walk_at "go"
            unfold formBad
            rw [List.length_map, getD_of' hf2, show decide ((ws.length : Int) ≤ (b : Int) + (i : Int)) = decide (ws.length ≤ b + i) from dec_iff (by omega)]
            refine ite2b (fun h2 => ?_) (fun h2 => ?_)
            · exact ⟨Same.refl _, by rw [h2]; rfl⟩
            · walk_at "go"
              refine w_call C 8 G2 ?_
              walk_at "go"
              have hlt : b + i < ws.length := by simpa using h2
              have hw2 := List.getElem?_eq_getElem hlt
              refine i_list C q5 (by rw [show ((b : Int) + (i : Int)) = ((b + i : Nat) : Int) by omega]; exact atI_nat (at_map hw2)) ?_
              walk_at "go"
              refine ⟨_, f, rfl, hps _ (List.mem_of_getElem? hw2), fun H6 s6 => ?_⟩
              walk_at "go"
              exact ⟨s6, by rw [h2, getD_of' hw2]; rfl⟩
          · subst e6
            refine ite2b (fun h1 => ?_) (fun h1 => ?_)
            · rw [find_at hi h1 p2] at k
              refine b_one (s_raise C B.tk 2 T2.bad (by decide) ?_)
              walk_at "go"
              refine ⟨rfl, ?_⟩
              have z : RzA a CB 1 ((b + i + 1 : Nat) : Int) H E := k
              refine RzA.rz z (Mu.of (((s1.trans s2).trans s35).trans s6)) ?_
              rw [s6 _ _ (s35 _ _ a2)]
              simp
            · refine b_nil ⟨s35.trans s6, fun j hj => ?_, _, _, rfl⟩
              by_cases e : j = i
              · rw [e]; exact h1
              · exact p2 j (by omega)
        · subst e4
          rw [find_no hall] at k
          dsimp only at k
          have q4 := s4.seq q2
          have a4 := s4 _ _ a2
          have m4 : Mu a H H4 := Mu.of ((s1.trans s2).trans s4)
          have w0 : w ≠ a := fun z => by
            rw [z] at hw
            exact na hw
          obtain ⟨n1, n2, n3, n4, n5, n6, n7, n8⟩ : NoAttr m.K CA "text" ∧ NoAttr m.K CA "name" ∧ NoAttr m.K CA "kind" ∧ NoAttr m.K CA "other" ∧ NoAttr m.K CA "when" ∧ NoAttr m.K CA "limit" ∧ NoAttr m.K CA "column" ∧ NoAttr m.K CA "cells" :=
            ⟨TC.no _ (by simp), TC.no _ (by simp), TC.no _ (by simp), TC.no _ (by simp), TC.no _ (by simp), TC.no _ (by simp), TC.no _ (by simp), TC.no _ (by simp)⟩
          refine b_cons (s_fld C TC.cl n1 ?_)
          walk_at "go"
          refine ⟨a, dx, _, rfl, a4, Nat.zero_lt_succ _, ?_⟩
          refine st_put a4 (s4.trans (Same.refl _)) fun H5 u5 a5 => ?_
          refine b_cons (s_fld C TC.cl n2 ?_)
          walk_at "go"
          obtain ⟨x0, hx0⟩ : ∃ x0, ws[0]? = some x0 := ⟨ws[0]'(by omega), List.getElem?_eq_getElem _⟩
          refine i_list C (Mu.seq u5 w0 q4) (atI_nat (j := 0) (at_map hx0)) ?_
          walk_at "go"
          refine ⟨a, dx, _, rfl, a5, by (refine Nat.lt_of_lt_of_le (m := 20) ?_ (by decide)); (repeat' refine put_lt ?_); (exact Nat.zero_lt_succ _), ?_⟩
          refine st_put a5 (Same.refl _) fun H6 u6' a6 => ?_
          have u6 := u5.trans u6'
          clear u6'
          refine b_cons (s_fld C TC.cl n3 ?_)
          walk_at "go"
          refine ⟨a, dx, _, rfl, a6, by (refine Nat.lt_of_lt_of_le (m := 20) ?_ (by decide)); (repeat' refine put_lt ?_); (exact Nat.zero_lt_succ _), ?_⟩
          refine st_put a6 (Same.refl _) fun H7 u7' a7 => ?_
          have u7 := u6.trans u7'
          clear u7'
          refine b_cons (s_fld C TC.cl n4 ?_)
          refine wE_mono (Q := fun v H' => H' = H7 ∧ v = otherOf ws kd) ?_ fun v8 H8 ⟨e8, ev8⟩ => ?_
          · walk_at "go"
            rw [dec_strS]
            unfold otherOf
            refine ite2b (fun h2 => ?_) (fun h2 => ?_)
            · walk_at "go"
              have hlt : 2 < ws.length := by
                obtain ⟨l1, l2⟩ := hlike (of_decide_eq_true h2)
                have l3 := hall 0 (by omega)
                unfold formBad at l3
                simp at l3
                omega
              refine i_list C (Mu.seq u7 w0 q4) (atI_nat (j := 2) (at_map (List.getElem?_eq_getElem hlt))) ?_
              rw [if_pos (of_decide_eq_true h2), getD_of' (List.getElem?_eq_getElem hlt)]
              exact ⟨rfl, rfl⟩
            · walk_at "go"
              rw [if_neg (of_decide_eq_false h2)]
              exact ⟨rfl, rfl⟩
          · subst e8 ev8
            walk_at "go"
            refine ⟨a, dx, _, rfl, a7, by (refine Nat.lt_of_lt_of_le (m := 20) ?_ (by decide)); (repeat' refine put_lt ?_); (exact Nat.zero_lt_succ _), ?_⟩
            refine st_put a7 (Same.refl _) fun H9 u9' a9 => ?_
            have u9 := u7.trans u9'
            clear u9'
            refine b_cons (s_fld C TC.cl n5 ?_)
            walk_at "go"
            obtain ⟨x1, hx1⟩ : ∃ x1, ws[1]? = some x1 := ⟨ws[1]'(by omega), List.getElem?_eq_getElem _⟩
            refine i_list C (Mu.seq u9 w0 q4) (atI_nat (j := 1) (at_map hx1)) ?_
            walk_at "go"
            refine ⟨a, dx, _, rfl, a9, by (refine Nat.lt_of_lt_of_le (m := 20) ?_ (by decide)); (repeat' refine put_lt ?_); (exact Nat.zero_lt_succ _), ?_⟩
            refine st_put a9 (Same.refl _) fun H10 u10' a10 => ?_
            have u10 := u9.trans u10'
            clear u10'
            refine b_cons (s_fld C TC.cl n6 ?_)
            refine wE_mono (Q := fun v H' => Same H10 H') ?_ fun v11 H11 s11 => ?_
            · walk_at "go"
              refine w_tupN ?_
              walk_at "go"
              refine ⟨szN 0, fun t0 H11 _ s11 e11 => ?_⟩
              match fs, hf1, hall, hfb with
              | [], _, _, _ =>
                refine o_neD C (d := .tuple []) (e := .tuple []) (.tup (hfq _) .nil) (.tup (.inl (.inl e11)) .nil) (by decide +kernel) (by decide +kernel) ?_
                refine ⟨false, by rw [show (!PyData.eqv (.tuple []) (.tuple [])) = false by decide +kernel], ?_⟩
                walk_at "go"
                exact s11
              | [f], _, hall, hfb =>
                refine o_neD C (d := .tuple [.str f]) (e := .tuple []) (.tup (hfq _) (.cons (.str f) .nil)) (.tup (.inl (.inl e11)) .nil) (hfb f (List.mem_singleton.mpr rfl)) (by decide +kernel) ?_
                refine ⟨true, by rw [show (!PyData.eqv (.tuple [.str f]) (.tuple [])) = true by simp [PyData.eqv, PyData.eqvAll]], ?_⟩
                walk_at "go"
                have l3 := hall 0 (Nat.lt_succ_self 0)
                unfold formBad at l3
                simp at l3
                obtain ⟨l4, l5⟩ := l3
                refine w_call C 9 G3 ?_
                walk_at "go"
                refine w_sub ?_
                walk_at "go"
                refine i_list C (s11.seq (Mu.seq u10 w0 q4)) (atI_nat (j := b) (at_map (List.getElem?_eq_getElem l4))) ?_
                walk_at "go"
                refine i_tup C (hfq _) (atI_nat (j := 0) rfl) ?_
                walk_at "go"
                refine ⟨_, f, rfl, hps _ (List.getElem_mem l4), ?_, fun v H12 s12 => s11.trans s12⟩
                rw [List.getElem?_eq_getElem l4] at l5
                exact l5
            · have a11 := s11 _ _ a10
              have u11 := u10.trans (Mu.of s11)
              walk_at "go"
              refine ⟨a, dx, _, rfl, a11, by (refine Nat.lt_of_lt_of_le (m := 20) ?_ (by decide)); (repeat' refine put_lt ?_); (exact Nat.zero_lt_succ _), ?_⟩
              refine st_put a11 (Same.refl _) fun H12 u12' a12 => ?_
              have u12 := u11.trans u12'
              clear u12'
              refine b_cons (s_fld C TC.cl n7 ?_)
              walk_at "go"
              refine w_lenL C 7 T.len ?_
              walk_at "go"
              refine ⟨fq, _, rfl, .inr (hfq _), ?_⟩
              walk_at "go"
              refine ⟨a, dx, _, rfl, a12, by (refine Nat.lt_of_lt_of_le (m := 20) ?_ (by decide)); (repeat' refine put_lt ?_); (exact Nat.zero_lt_succ _), ?_⟩
              refine st_put a12 (Same.refl _) fun H13 u13' a13 => ?_
              have u13 := u12.trans u13'
              clear u13'
              refine b_one (s_fld C TC.cl n8 ?_)
              have m13 : Mu a H H13 := m4.trans u13
              refine w_callX C B.tk 10 G4 ?_
              walk_at "go"
              refine w_lenL C 7 T.len ?_
              walk_at "go"
              refine ⟨fq, _, rfl, .inr (hfq _), ?_⟩
              walk_at "go"
              rw [List.length_map]
              refine ⟨w, ws, b + fs.length, many, rfl, Mu.seq u13 w0 q4, hpl, by omega, hf1.2, hps, ?_⟩
              cases hc : cellsEnd ws (b + fs.length) many with
              | some c =>
                rw [hc] at k
                have z : RzA a CB 1 (c : Int) H E := k
                exact RzA.rz z m13 (by rw [a13]; simp)
              | none =>
                rw [hc] at k
                intro v14 H14 s14
                walk_at "go"
                have a14 := s14 _ _ a13
                refine ⟨a, dx, _, rfl, a14, by (refine Nat.lt_of_lt_of_le (m := 20) ?_ (by decide)); (repeat' refine put_lt ?_); (exact Nat.zero_lt_succ _), ?_⟩
                refine k _ ((m13.trans (Mu.of s14)).trans Mu.upd) ⟨dx, _, upd_same, ?_, ?_, ?_, ?_⟩
                · exact rfl
                · rw [getD_of' hx0]
                  exact rfl
                · exact rfl
                · exact rfl
end K9

set_option Elab.async false
set_option linter.all false
set_option maxRecDepth 100000
set_option maxHeartbeats 4000000
namespace K9
open PySem PySem.Spec PyProof.Rows L2 Wp
local macro_rules | `(tactic| walk_at "go1") => `(tactic| first
  | (with_reducible show wE _ (Expr.Name _ _) _ _ _); (first | refine wv ‹On _ _ _ _› 0 ?_ | refine wv ‹On _ _ _ _› 1 ?_ | refine wv ‹On _ _ _ _› 2 ?_ | refine wv ‹On _ _ _ _› 3 ?_ | refine wv ‹On _ _ _ _› 4 ?_ | refine wv ‹On _ _ _ _› 5 ?_ | refine wv ‹On _ _ _ _› 6 ?_ | refine wv ‹On _ _ _ _› 7 ?_ | refine wv ‹On _ _ _ _› 8 ?_ | refine wv ‹On _ _ _ _› 9 ?_ | refine wv ‹On _ _ _ _› 10 ?_ | refine wv ‹On _ _ _ _› 11 ?_ | refine wv ‹On _ _ _ _› 12 ?_ | refine wv ‹On _ _ _ _› 13 ?_)
  | with_reducible refine w_int ?_
  | with_reducible refine w_str ?_
  | with_reducible refine w_bl ?_
  | with_reducible refine w_non ?_
  | with_reducible refine w_bin ?_
  | (with_reducible show wE _ (Expr.Compare _ [_] [_] _) _ _ _); (refine w_cmp ?_)
  | (with_reducible show wT _ (Expr.Compare _ [_] [_] _) _ _ _); (refine wt_cmp ?_)
  | (with_reducible show wE _ (Expr.Compare _ [_, _] [_, _] _) _ _ _); (refine w_chain ?_)
  | (with_reducible show wT _ (Expr.Compare _ [_, _] [_, _] _) _ _ _); (refine wt_chain ?_)
  | with_reducible refine wt_not ?_
  | (with_reducible show wT _ (Expr.BoolOp _ _ _) _ _ _); (refine wt_w ?_)
  | with_reducible refine ww_and1 ?_
  | with_reducible refine ww_or1 ?_
  | with_reducible refine ww_and ?_
  | with_reducible refine ww_or ?_
  | with_reducible refine w_one ?_
  | with_reducible refine w_and ?_
  | with_reducible refine w_or ?_
  | with_reducible refine w_not ?_
  | with_reducible refine w_ifx ?_
  | (with_reducible show wT _ (Expr.Call _ _ _ _) _ _ _); (refine wt_val ?_)
  | with_reducible refine w_sl ?_
  | with_reducible refine w_slf ?_
  | with_reducible refine w_slt ?_
  | (with_reducible show wE _ (Expr.Subscript _ (Expr.Constant (Const.str _) _ _) _) _ _ _); (refine w_dgN ‹On _ _ _ _› ?_)
  | (with_reducible show DG _ _ _ _); (refine dget_at (by assumption) (by rfl) ?_)
  | (with_reducible show wE _ (Expr.Subscript _ (Expr.Constant _ _ _) _) _ _ _); (refine w_sub ?_)
  | (with_reducible show wE _ (Expr.Subscript _ (Expr.BinOp _ _ _ _) _) _ _ _); (refine w_sub ?_)
  | (with_reducible show wA _ (_ :: _) _ _ _); (refine wa_cons ?_)
  | with_reducible refine wa_nil ?_
  | with_reducible refine o_add ?_
  | with_reducible refine o_sub ?_
  | with_reducible refine o_lt ?_
  | with_reducible refine o_le ?_
  | with_reducible refine o_gt ?_
  | with_reducible refine o_ge ?_
  | with_reducible refine o_is ?_
  | with_reducible refine o_isnt ?_
  | (with_reducible show wO _ (compareOp CmpOp.Eq) _ _ _ _); (refine o_eq ?_)
  | (with_reducible show wO _ (compareOp CmpOp.NotEq) _ _ _ _); (refine o_ne ?_)
  | with_reducible refine b_one ?_
  | with_reducible refine b_nil ?_
  | with_reducible refine b_cons ?_
  | with_reducible refine s_if ?_
  | with_reducible refine s_ret ?_
  | with_reducible refine s_retN ?_
  | with_reducible refine s_pass ?_
  | with_reducible refine s_break ?_
  | with_reducible refine s_cont ?_
  | (with_reducible show wS _ (Stmt.Expr (Expr.Call (Expr.Attribute _ "append" _) [_] [] _) _) _ _ _); (refine s_append ‹On _ _ _ _› ?_)
  | (with_reducible show wS _ (Stmt.Expr _ _) _ _ _); (refine s_expr ?_)
  | (with_reducible show wE _ (Expr.ListComp _ _ _ _) _ _ _); (refine w_ofL ‹On _ _ _ _› ?_)
  | (with_reducible show wS _ (Stmt.Assign [Expr.Name _ _] (Expr.ListComp _ _ _ _) _) _ _ _); (first | refine s_ofL ‹On _ _ _ _› 0 ?_ | refine s_ofL ‹On _ _ _ _› 1 ?_ | refine s_ofL ‹On _ _ _ _› 2 ?_ | refine s_ofL ‹On _ _ _ _› 3 ?_ | refine s_ofL ‹On _ _ _ _› 4 ?_ | refine s_ofL ‹On _ _ _ _› 5 ?_ | refine s_ofL ‹On _ _ _ _› 6 ?_ | refine s_ofL ‹On _ _ _ _› 7 ?_ | refine s_ofL ‹On _ _ _ _› 8 ?_ | refine s_ofL ‹On _ _ _ _› 9 ?_ | refine s_ofL ‹On _ _ _ _› 10 ?_ | refine s_ofL ‹On _ _ _ _› 11 ?_ | refine s_ofL ‹On _ _ _ _› 12 ?_ | refine s_ofL ‹On _ _ _ _› 13 ?_)
  | (with_reducible show wS _ (Stmt.Assign [Expr.Name _ _] _ _) _ _ _); (first | refine s_set ‹On _ _ _ _› 0 ?_ | refine s_set ‹On _ _ _ _› 1 ?_ | refine s_set ‹On _ _ _ _› 2 ?_ | refine s_set ‹On _ _ _ _› 3 ?_ | refine s_set ‹On _ _ _ _› 4 ?_ | refine s_set ‹On _ _ _ _› 5 ?_ | refine s_set ‹On _ _ _ _› 6 ?_ | refine s_set ‹On _ _ _ _› 7 ?_ | refine s_set ‹On _ _ _ _› 8 ?_ | refine s_set ‹On _ _ _ _› 9 ?_ | refine s_set ‹On _ _ _ _› 10 ?_ | refine s_set ‹On _ _ _ _› 11 ?_ | refine s_set ‹On _ _ _ _› 12 ?_ | refine s_set ‹On _ _ _ _› 13 ?_)
  | (with_reducible show wS _ (Stmt.Assign [Expr.Subscript _ (Expr.Constant (Const.str _) _ _) _] _ _) _ _ _); (refine s_dput ‹On _ _ _ _› ?_)
  | (with_reducible show wG _ (Expr.Name _ _) _ _ _ _); (first | refine g_name ‹On _ _ _ _› 0 ?_ | refine g_name ‹On _ _ _ _› 1 ?_ | refine g_name ‹On _ _ _ _› 2 ?_ | refine g_name ‹On _ _ _ _› 3 ?_ | refine g_name ‹On _ _ _ _› 4 ?_ | refine g_name ‹On _ _ _ _› 5 ?_ | refine g_name ‹On _ _ _ _› 6 ?_ | refine g_name ‹On _ _ _ _› 7 ?_ | refine g_name ‹On _ _ _ _› 8 ?_ | refine g_name ‹On _ _ _ _› 9 ?_ | refine g_name ‹On _ _ _ _› 10 ?_ | refine g_name ‹On _ _ _ _› 11 ?_ | refine g_name ‹On _ _ _ _› 12 ?_ | refine g_name ‹On _ _ _ _› 13 ?_)
  | with_reducible refine iteT ?_
  | with_reducible refine iteF ?_
  | with_reducible refine iteNT ?_
  | with_reducible refine iteNF ?_
  | with_reducible refine Exists.intro _ (And.intro rfl ?_))
local macro_rules | `(tactic| walk_at "go") => `(tactic| repeat (walk_at "go1"))
/-! the pen -/
def penD (c : Addr) (at_ dg cn fo : Int) : List (Key × V) := [(.inr "cells", .ref c), (.inr "at", .int at_), (.inr "digits", .int dg), (.inr "count", .int cn), (.inr "fold", .int fo)]
def PenP (K : PySem.W.Frag) (p c : Addr) (n : Nat) (H : Hp) : Prop := ∃ (xs : List Int) (at_ dg cn fo : Int), H p = some (.dK (penD c at_ dg cn fo)) ∧ SqL K H c (xs.map V.int) ∧ c ≠ p ∧ 0 ≤ at_ ∧ 0 ≤ dg ∧ (0 ≤ cn ∧ cn ≤ (n : Int)) ∧ 0 ≤ fo ∧ fo < 4294967296
theorem PenP.mono {K : PySem.W.Frag} {p c : Addr} {n n' : Nat} {H : Hp} (h : PenP K p c n H) (l : n ≤ n') : PenP K p c n' H := by
  obtain ⟨xs, at_, dg, cn, fo, h1, h2, h3, h4, h5, h6, h7⟩ := h
  exact ⟨xs, at_, dg, cn, fo, h1, h2, h3, h4, h5, ⟨h6.1, by omega⟩, h7⟩
theorem PenP.keep {K : PySem.W.Frag} {p c : Addr} {n : Nat} {H H' : Hp} (h : PenP K p c n H) (s : Same H H') : PenP K p c n H' := by
  obtain ⟨xs, at_, dg, cn, fo, h1, h2, h3⟩ := h
  exact ⟨xs, at_, dg, cn, fo, s _ _ h1, s.seq h2, h3⟩
theorem PenP.ne {K : PySem.W.Frag} {p c : Addr} {n : Nat} {H : Hp} (h : PenP K p c n H) : H p ≠ none := by
  obtain ⟨xs, at_, dg, cn, fo, h1, _⟩ := h
  rw [h1]
  simp
/-- what is written at a place that was empty leaves a pen -/
theorem PenP.lay {K : PySem.W.Frag} {p c Dl : Addr} {n n' : Nat} {H H' : Hp} {o : HO} (h0 : PenP K p c n H) (hD : H Dl = none) (h : PenP K p c n' H') : PenP K p c n' (upd H' Dl o) := by
  have hdp : Dl ≠ p := fun z => h0.ne (by rw [← z]; exact hD)
  obtain ⟨xs0, _, _, _, _, _, g2, _⟩ := h0
  obtain ⟨xs, at_, dg, cn, fo, h1, h2, h3⟩ := h
  by_cases hc : c = Dl
  · refine ⟨xs0, at_, dg, cn, fo, by rw [upd_ne hdp.symm]; exact h1, ?_, h3⟩
    rcases g2 with (g2 | ⟨o, g2⟩) | g2
    · rw [hc, hD] at g2; cases g2
    · rw [hc, hD] at g2; cases g2
    · exact .inr g2
  · exact ⟨xs, at_, dg, cn, fo, by rw [upd_ne hdp.symm]; exact h1, Mu.seq (a := Dl) Mu.upd hc h2, h3⟩
def spPen (K : PySem.W.Frag) : Sp := fun vs H Q _ => ∃ (a : Addr) (xs : List Int), vs = [.ref a] ∧ SqL K H a (xs.map V.int) ∧ ∀ p c H', H p = none → Same H H' → PenP K p c 0 H' → Q (.ref p) H'
abbrev nPen : Nm := defNm ["script", "fold", "cell"] sPen ["int", "list"] [0, 1, 2]
theorem b_pen {X : Cx} {m : Md} {vs : List V} {H : Hp} {Q : VK} {E : XK} (T : Txt m) (C : On X nPen m 0) (B : Bd X E) (h : spPen m.K vs H Q E) : wB X (defBody sPen) (out Q) (start nPen.N vs) H := by
  obtain ⟨a, xs, rfl, hq, k⟩ := h
  refine b_cons ?_
  walk_at "go"
  refine s_cut (fun σ' H' => H' = H ∧ ∃ (fo : Int) (x : Option V), 0 ≤ fo ∧ fo < 4294967296 ∧ σ' = [some (.ref a), some (.int fo), x]) ?_ fun σ1 H1 ⟨e1, fo, x, l1, l2, e2⟩ => ?_
  · refine s_forL C B.po ?_
    walk_at "go"
    refine ⟨a, _, rfl, hq, fun i σ' H' => H' = H ∧ ∃ (fo : Int) (x : Option V), 0 ≤ fo ∧ fo < 4294967296 ∧ σ' = [some (.ref a), some (.int fo), x], ⟨rfl, 1013, none, by decide, by decide, rfl⟩, fun i σ' H' _ p => by rw [p.1]; exact hq, fun i u σ' H' hu p => ?_, fun σ' H' p => p⟩
    obtain ⟨e0, fo, x, l1, l2, rfl⟩ := p
    subst e0
    rw [List.getElem?_map] at hu
    obtain ⟨z, hz, rfl⟩ := Option.map_eq_some_iff.mp hu
    walk_at "go"
    refine w_intI C 0 T.int ?_
    walk_at "go"
    refine o_mul (.inr (by decide)) ?_
    walk_at "go"
    refine o_mod (by decide) ?_
    exact ⟨rfl, _, _, Int.emod_nonneg _ (by decide), Int.lt_trans (Int.emod_lt_of_pos _ (by decide)) (by decide), rfl⟩
  · subst e1 e2
    walk_at "go"
    refine w_disp (l := [(_, _), (_, _), (_, _), (_, _), (_, _)]) rfl rfl (by simp) (by simp) fun p H2 hp s2 e2 => ?_
    unfold wPs
    walk_at "go"
    refine w_listL C 1 T.list ?_
    walk_at "go"
    refine ⟨a, _, rfl, .inl (s2.seq hq), fun c H3 hc s3 e3 => ?_⟩
    have ep := s3 _ _ e2
    have hcp : c ≠ p := fun z => by rw [z, e2] at hc; cases hc
    unfold wPs
    walk_at "go"
    unfold wPs
    walk_at "go"
    unfold wPs
    walk_at "go"
    unfold wPs
    walk_at "go"
    unfold wPs
    refine ⟨ep, [(.inr "cells", .ref c), (.inr "at", .int 0), (.inr "digits", .int 0), (.inr "count", .int 0), (.inr "fold", .int fo)], rfl, by simp, fun H4 u4 e4 => ?_⟩
    refine k p c H4 hp (fun b o q => u4 b o (ne_of_none q hp) (s3 _ _ (s2 _ _ q))) ⟨xs, 0, 0, 0, fo, ?_, .inl (.inl (u4 _ _ hcp e3)), hcp, by decide, by decide, by decide, l1, l2⟩
    rw [e4]
    rfl
theorem penLen {c : Addr} {at_ dg cn fo : Int} : (penD c at_ dg cn fo).length < sizeLine := by show 5 < sizeLine; decide
/-! a draw -/
def spDraw (K : PySem.W.Frag) : Sp := fun vs H Q _ => ∃ (p c : Addr) (many : Int) (n : Nat), vs = [.ref p, .int many] ∧ PenP K p c n H ∧ n ≤ 1000000 ∧ 0 < many ∧ many < 1073741824 ∧ ∀ r H', Mu p H H' → PenP K p c (n + 1) H' → 0 ≤ r → r < many → Q (.int r) H'
abbrev nDraw : Nm := defNm ["pen", "many", "cell", "digit", "blend"] sDraw ["len", "int"] [0, 1, 2, 3, 4]
theorem b_draw {X : Cx} {m : Md} {vs : List V} {H : Hp} {Q : VK} {E : XK} (T : Txt m) (C : On X nDraw m 0) (B : Bd X E) (h : spDraw m.K vs H Q E) : wB X (defBody sDraw) (out Q) (start nDraw.N vs) H := by
  obtain ⟨p, c, many, n, rfl, hp, hn, hm1, hm2, k⟩ := h
  obtain ⟨xs, at_, dg, cn, fo, h1, h2, h3, h4, h5, h6, h7⟩ := hp
  refine b_cons ?_
  walk_at "go"
  refine dput_at h1 penLen fun H1 u1 e1 => ?_
  replace e1 : H1 p = some (.dK (penD c at_ dg (cn + 1) fo)) := e1
  have q1 : SqL m.K H1 c (xs.map V.int) := Mu.seq u1 h3 h2
  refine b_cut (fun σ' H' => ∃ x, σ' = [some (.ref p), some (.int many), x, none, none] ∧ Mu p H H' ∧ PenP m.K p c (n + 1) H') ?_ fun σ2 H2 ⟨x2, e2, u2, p2⟩ => ?_
  · refine s_if (wT_mono (Q := fun b H2 => H2 = H1 ∧ (b = true → at_ < (xs.length : Int))) ?_ fun b H2 ⟨eH, eb⟩ => ?_)
    · walk_at "go"
      refine ite2b (fun h8 => ?_) (fun h8 => ?_)
      · walk_at "go"
        refine w_lenL C 0 T.len ?_
        walk_at "go"
        refine ⟨c, _, rfl, .inl q1, ?_⟩
        walk_at "go"
        rw [List.length_map]
        exact ⟨rfl, fun z => of_decide_eq_true z⟩
      · exact ⟨rfl, fun z => by cases z⟩
    · subst eH
      refine ite2b (fun h8 => ?_) (fun h8 => ?_)
      · have hlt := eb h8
        obtain ⟨cell, hcell⟩ : ∃ cell, xs[at_.toNat]? = some cell := ⟨xs[at_.toNat]'(by omega), List.getElem?_eq_getElem _⟩
        refine b_cons ?_
        walk_at "go"
        refine w_subN ?_
        walk_at "go"
        refine i_list C q1 (v := .int cell) (by
          have e9 : at_ = (at_.toNat : Int) := by omega
          rw [e9]
          exact atI_nat (by rw [List.getElem?_map, hcell]; rfl)) ?_
        walk_at "go"
        refine dput_at e1 penLen fun H3 u3 e3 => ?_
        replace e3 : H3 p = some (.dK (penD c (at_ + 1) dg (cn + 1) fo)) := e3
        have u13 := u1.trans u3
        have q3 := Mu.seq u3 h3 q1
        walk_at "go"
        refine o_pow (by decide) ?_
        walk_at "go"
        refine ite2b (fun h9 => ?_) (fun h9 => ?_)
        · walk_at "go"
          refine o_pow (by decide) ?_
          walk_at "go"
          refine dput_at e3 penLen fun H4 u4 e4 => ?_
          replace e4 : H4 p = some (.dK (penD c (at_ + 1) (cell - 10 ^ 18) (cn + 1) fo)) := e4
          refine ⟨_, rfl, u13.trans u4, xs, _, _, _, _, e4, Mu.seq u4 h3 q3, h3, by omega, ?_, by omega, h7⟩
          have h9' := of_decide_eq_true h9
          have e18 : ((10 : Int) ^ ((18 : Int).toNat)) = 10 ^ 18 := rfl
          rw [e18] at h9'
          omega
        · walk_at "go"
          refine w_intI C 1 T.int ?_
          walk_at "go"
          refine o_mul (.inr (by decide)) ?_
          walk_at "go"
          refine o_mod (by decide) ?_
          walk_at "go"
          refine dput_at e3 penLen fun H4 u4 e4 => ?_
          replace e4 : H4 p = some (.dK (penD c (at_ + 1) dg (cn + 1) ((fo * 69997 + cell) % 2147483563))) := e4
          refine ⟨_, rfl, u13.trans u4, xs, _, _, _, _, e4, Mu.seq u4 h3 q3, h3, by omega, h5, by omega, Int.emod_nonneg _ (by decide), Int.lt_trans (Int.emod_lt_of_pos _ (by decide)) (by decide)⟩
      · walk_at "go"
        exact ⟨u1, xs, _, _, _, _, e1, q1, h3, h4, h5, by omega, h7⟩
  · subst e2
    clear h1 h2 h3 h4 h5 h6 h7 e1 q1
    obtain ⟨xs, at_, dg, cn, fo, h1, h2, h3, h4, h5, h6, h7⟩ := p2
    refine b_cons ?_
    walk_at "go"
    refine ite2b (fun h8 => ?_) (fun h8 => ?_)
    · walk_at "go"
      refine w_intI C 1 T.int ?_
      walk_at "go"
      refine o_mod hm1 ?_
      walk_at "go"
      refine o_fdiv ⟨hm1, hm2⟩ ?_
      walk_at "go"
      refine dput_at h1 penLen fun H3 u3 e3 => ?_
      replace e3 : H3 p = some (.dK (penD c at_ (dg / many) cn fo)) := e3
      walk_at "go"
      refine k _ H3 (u2.trans u3) ⟨xs, _, _, _, _, e3, Mu.seq u3 h3 h2, h3, h4, Int.ediv_nonneg h5 (by omega), h6, h7⟩ (Int.emod_nonneg _ (by omega)) (Int.emod_lt_of_pos _ hm1)
    · walk_at "go"
      refine o_mul (.inr (by decide)) ?_
      walk_at "go"
      refine w_intI C 1 T.int ?_
      walk_at "go"
      refine o_pow ⟨by decide, by decide, by omega⟩ ?_
      walk_at "go"
      refine o_mod (by decide) ?_
      walk_at "go"
      refine o_fdiv (by decide) ?_
      walk_at "go"
      refine o_mod hm1 ?_
      exact k _ H2 u2 ⟨xs, _, _, _, _, h1, h2, h3, h4, h5, h6, h7⟩ (Int.emod_nonneg _ (by omega)) (Int.emod_lt_of_pos _ hm1)
theorem at_int {α : Type} {xs : List α} {r : Int} (h : 0 ≤ r) (hlt : r.toNat < xs.length) : atI xs r = some xs[r.toNat] := by
  have e := atI_nat (xs := xs) (j := r.toNat) (List.getElem?_eq_getElem hlt)
  rw [Int.toNat_of_nonneg h] at e
  exact e
/-! a pick -/
def spPick (K : PySem.W.Frag) : Sp := fun vs H Q _ => ∃ (p c l : Addr) (n : Nat) (xs : List V), vs = [.ref p, .ref l] ∧ PenP K p c n H ∧ n ≤ 1000000 ∧ SqL K H l xs ∧ l ≠ p ∧ xs ≠ [] ∧ xs.length < 1000000 ∧ ∀ v H', Mu p H H' → PenP K p c (n + 1) H' → v ∈ xs → Q v H'
abbrev nPick : Nm := defNm ["pen", "some"] sPick ["_law_draw", "len"] [0, 1]
theorem b_pick {X : Cx} {m : Md} {vs : List V} {H : Hp} {Q : VK} {E : XK} (T : Txt m) (G1 : Df m 1 "_law_draw" ["pen", "many"] (spDraw m.K)) (C : On X nPick m 1) (B : Bd X E) (h : spPick m.K vs H Q E) : wB X (defBody sPick) (out Q) (start nPick.N vs) H := by
  obtain ⟨p, c, l, n, xs, rfl, hp, hn, hq, hlp, hne, hl, k⟩ := h
  have hpos : 0 < xs.length := List.length_pos_iff.mpr hne
  refine b_one ?_
  walk_at "go"
  refine w_subN ?_
  walk_at "go"
  refine w_call C 0 G1 ?_
  walk_at "go"
  refine w_lenL C 1 T.len ?_
  walk_at "go"
  refine ⟨l, _, rfl, .inl hq, ?_⟩
  walk_at "go"
  refine ⟨p, c, _, n, rfl, hp, hn, by omega, by omega, fun r H' u p' r1 r2 => ?_⟩
  have hlt : r.toNat < xs.length := by omega
  refine i_list C (Mu.seq u hlp hq) (at_int r1 hlt) ?_
  exact k _ H' u p' (List.getElem_mem hlt)
end K9

set_option Elab.async false
set_option linter.all false
set_option maxRecDepth 100000
set_option maxHeartbeats 4000000
namespace K9
open PySem PySem.Spec PyProof.Rows L2 Wp
local macro_rules | `(tactic| walk_at "go1") => `(tactic| first
  | (with_reducible show wE _ (Expr.Name _ _) _ _ _); (first | refine wv ‹On _ _ _ _› 0 ?_ | refine wv ‹On _ _ _ _› 1 ?_ | refine wv ‹On _ _ _ _› 2 ?_ | refine wv ‹On _ _ _ _› 3 ?_ | refine wv ‹On _ _ _ _› 4 ?_ | refine wv ‹On _ _ _ _› 5 ?_ | refine wv ‹On _ _ _ _› 6 ?_ | refine wv ‹On _ _ _ _› 7 ?_ | refine wv ‹On _ _ _ _› 8 ?_ | refine wv ‹On _ _ _ _› 9 ?_ | refine wv ‹On _ _ _ _› 10 ?_ | refine wv ‹On _ _ _ _› 11 ?_ | refine wv ‹On _ _ _ _› 12 ?_ | refine wv ‹On _ _ _ _› 13 ?_)
  | with_reducible refine w_int ?_
  | with_reducible refine w_str ?_
  | with_reducible refine w_bl ?_
  | with_reducible refine w_non ?_
  | with_reducible refine w_bin ?_
  | (with_reducible show wE _ (Expr.Compare _ [_] [_] _) _ _ _); (refine w_cmp ?_)
  | (with_reducible show wT _ (Expr.Compare _ [_] [_] _) _ _ _); (refine wt_cmp ?_)
  | (with_reducible show wE _ (Expr.Compare _ [_, _] [_, _] _) _ _ _); (refine w_chain ?_)
  | (with_reducible show wT _ (Expr.Compare _ [_, _] [_, _] _) _ _ _); (refine wt_chain ?_)
  | with_reducible refine wt_not ?_
  | (with_reducible show wT _ (Expr.BoolOp _ _ _) _ _ _); (refine wt_w ?_)
  | with_reducible refine ww_and1 ?_
  | with_reducible refine ww_or1 ?_
  | with_reducible refine ww_and ?_
  | with_reducible refine ww_or ?_
  | with_reducible refine w_one ?_
  | with_reducible refine w_and ?_
  | with_reducible refine w_or ?_
  | with_reducible refine w_not ?_
  | with_reducible refine w_ifx ?_
  | (with_reducible show wT _ (Expr.Call _ _ _ _) _ _ _); (refine wt_val ?_)
  | with_reducible refine w_sl ?_
  | with_reducible refine w_slf ?_
  | with_reducible refine w_slt ?_
  | (with_reducible show wE _ (Expr.Subscript _ (Expr.Constant (Const.str _) _ _) _) _ _ _); (refine w_dgN ‹On _ _ _ _› ?_)
  | (with_reducible show DG _ _ _ _); (refine dget_at (by assumption) (by rfl) ?_)
  | (with_reducible show wE _ (Expr.Subscript _ (Expr.Constant _ _ _) _) _ _ _); (refine w_sub ?_)
  | (with_reducible show wE _ (Expr.Subscript _ (Expr.BinOp _ _ _ _) _) _ _ _); (refine w_sub ?_)
  | (with_reducible show wA _ (_ :: _) _ _ _); (refine wa_cons ?_)
  | with_reducible refine wa_nil ?_
  | with_reducible refine o_add ?_
  | with_reducible refine o_sub ?_
  | with_reducible refine o_lt ?_
  | with_reducible refine o_le ?_
  | with_reducible refine o_gt ?_
  | with_reducible refine o_ge ?_
  | with_reducible refine o_is ?_
  | with_reducible refine o_isnt ?_
  | (with_reducible show wO _ (compareOp CmpOp.Eq) _ _ _ _); (refine o_eq ?_)
  | (with_reducible show wO _ (compareOp CmpOp.NotEq) _ _ _ _); (refine o_ne ?_)
  | with_reducible refine b_one ?_
  | with_reducible refine b_nil ?_
  | with_reducible refine b_cons ?_
  | with_reducible refine s_if ?_
  | with_reducible refine s_ret ?_
  | with_reducible refine s_retN ?_
  | with_reducible refine s_pass ?_
  | with_reducible refine s_break ?_
  | with_reducible refine s_cont ?_
  | (with_reducible show wS _ (Stmt.Expr (Expr.Call (Expr.Attribute _ "append" _) [_] [] _) _) _ _ _); (refine s_append ‹On _ _ _ _› ?_)
  | (with_reducible show wS _ (Stmt.Expr _ _) _ _ _); (refine s_expr ?_)
  | (with_reducible show wE _ (Expr.ListComp _ _ _ _) _ _ _); (refine w_ofL ‹On _ _ _ _› ?_)
  | (with_reducible show wS _ (Stmt.Assign [Expr.Name _ _] (Expr.ListComp _ _ _ _) _) _ _ _); (first | refine s_ofL ‹On _ _ _ _› 0 ?_ | refine s_ofL ‹On _ _ _ _› 1 ?_ | refine s_ofL ‹On _ _ _ _› 2 ?_ | refine s_ofL ‹On _ _ _ _› 3 ?_ | refine s_ofL ‹On _ _ _ _› 4 ?_ | refine s_ofL ‹On _ _ _ _› 5 ?_ | refine s_ofL ‹On _ _ _ _› 6 ?_ | refine s_ofL ‹On _ _ _ _› 7 ?_ | refine s_ofL ‹On _ _ _ _› 8 ?_ | refine s_ofL ‹On _ _ _ _› 9 ?_ | refine s_ofL ‹On _ _ _ _› 10 ?_ | refine s_ofL ‹On _ _ _ _› 11 ?_ | refine s_ofL ‹On _ _ _ _› 12 ?_ | refine s_ofL ‹On _ _ _ _› 13 ?_)
  | (with_reducible show wS _ (Stmt.Assign [Expr.Name _ _] _ _) _ _ _); (first | refine s_set ‹On _ _ _ _› 0 ?_ | refine s_set ‹On _ _ _ _› 1 ?_ | refine s_set ‹On _ _ _ _› 2 ?_ | refine s_set ‹On _ _ _ _› 3 ?_ | refine s_set ‹On _ _ _ _› 4 ?_ | refine s_set ‹On _ _ _ _› 5 ?_ | refine s_set ‹On _ _ _ _› 6 ?_ | refine s_set ‹On _ _ _ _› 7 ?_ | refine s_set ‹On _ _ _ _› 8 ?_ | refine s_set ‹On _ _ _ _› 9 ?_ | refine s_set ‹On _ _ _ _› 10 ?_ | refine s_set ‹On _ _ _ _› 11 ?_ | refine s_set ‹On _ _ _ _› 12 ?_ | refine s_set ‹On _ _ _ _› 13 ?_)
  | (with_reducible show wS _ (Stmt.Assign [Expr.Subscript _ (Expr.Constant (Const.str _) _ _) _] _ _) _ _ _); (refine s_dput ‹On _ _ _ _› ?_)
  | (with_reducible show wG _ (Expr.Name _ _) _ _ _ _); (first | refine g_name ‹On _ _ _ _› 0 ?_ | refine g_name ‹On _ _ _ _› 1 ?_ | refine g_name ‹On _ _ _ _› 2 ?_ | refine g_name ‹On _ _ _ _› 3 ?_ | refine g_name ‹On _ _ _ _› 4 ?_ | refine g_name ‹On _ _ _ _› 5 ?_ | refine g_name ‹On _ _ _ _› 6 ?_ | refine g_name ‹On _ _ _ _› 7 ?_ | refine g_name ‹On _ _ _ _› 8 ?_ | refine g_name ‹On _ _ _ _› 9 ?_ | refine g_name ‹On _ _ _ _› 10 ?_ | refine g_name ‹On _ _ _ _› 11 ?_ | refine g_name ‹On _ _ _ _› 12 ?_ | refine g_name ‹On _ _ _ _› 13 ?_)
  | with_reducible refine iteT ?_
  | with_reducible refine iteF ?_
  | with_reducible refine iteNT ?_
  | with_reducible refine iteNF ?_
  | with_reducible refine Exists.intro _ (And.intro rfl ?_))
local macro_rules | `(tactic| walk_at "go") => `(tactic| repeat (walk_at "go1"))
/-! the law's readers of words -/
theorem clAll {ds : List PyData} (h : ∀ d ∈ ds, d.canLay0 = true ∧ d.depth ≤ 10) : PyData.canLayAll0 ds = true ∧ PyData.depthAll ds ≤ 10 := by
  induction ds with
  | nil => exact ⟨by simp [PyData.canLayAll0], by simp [PyData.depthAll]⟩
  | cons d r ih =>
    obtain ⟨a, b⟩ := ih fun x hx => h x (List.mem_cons_of_mem _ hx)
    obtain ⟨c, e⟩ := h d List.mem_cons_self
    exact ⟨by simp [PyData.canLayAll0, a, c], by simp [PyData.depthAll]; omega⟩
theorem shp {ds : List PyData} (h : ∀ d ∈ ds, d.canLay0 = true ∧ d.depth ≤ 10) : SeqAt.shaped (.list ds) = true := by
  obtain ⟨a, b⟩ := clAll h
  unfold SeqAt.shaped
  simp [PyData.canLay0, PyData.depth, a]
  omega
def chOk (w : Str) : Prop := ∀ c ∈ w.cps.toList, c < 128
theorem clStr {w : Str} (h : chOk w) : (PyData.str w).canLay0 = true ∧ (PyData.str w).depth ≤ 10 := by
  refine ⟨?_, by simp [PyData.depth]⟩
  simp only [PyData.canLay0]
  unfold PyData.strOk
  rw [Array.all_eq_true_iff_forall_mem]
  intro c hc
  have := h c (by simpa using hc)
  simp
  omega
section
variable {X : Cx} {S : Nm} {m : Md} {k n : Nat} {H : Hp} {Q : VK} {a b : Addr}
theorem o_eqNil (C : On X S m n) {x : V} {ds : List PyData} (hx : Dp m.K H x (.list ds)) (hs : ∀ d ∈ ds, d.canLay0 = true ∧ d.depth ≤ 10) (hb : H b = some (.lst [])) (q : Q (.bl (ds.isEmpty)) H) : wO X (compareOp .Eq) x (.ref b) H Q := by
  refine o_eqD C hx (e := .list []) (.lst (.inl (.inl hb)) .nil) (shp hs) (by decide +kernel) ?_
  rw [show PyData.eqv (.list ds) (.list []) = ds.isEmpty by cases ds <;> simp [PyData.eqv, PyData.eqvAll]]
  exact q
theorem o_neNil (C : On X S m n) {x : V} {ds : List PyData} (hx : Dp m.K H x (.list ds)) (hs : ∀ d ∈ ds, d.canLay0 = true ∧ d.depth ≤ 10) (hb : H b = some (.lst [])) (q : Q (.bl (!ds.isEmpty)) H) : wO X (compareOp .NotEq) x (.ref b) H Q := by
  refine o_neD C hx (e := .list []) (.lst (.inl (.inl hb)) .nil) (shp hs) (by decide +kernel) ?_
  rw [show PyData.eqv (.list ds) (.list []) = ds.isEmpty by cases ds <;> simp [PyData.eqv, PyData.eqvAll]]
  exact q
end
theorem dpOnes {K : PySem.W.Frag} {H : Hp} : ∀ k : Nat, DpAll K H (List.replicate k (V.int 1)) (List.replicate k (PyData.int 1))
  | 0 => .nil
  | k + 1 => by
    rw [List.replicate_succ, List.replicate_succ]
    exact .cons (.int 1) (dpOnes k)
/-- how many do not meet p -/
def cntN (p : Nat → Bool) : List Nat → Nat
  | [] => 0
  | c :: r => (if p c then 0 else 1) + cntN p r
theorem cntN_cons {p : Nat → Bool} {c : Nat} {r : List Nat} : cntN p (c :: r) = (if p c then 0 else 1) + cntN p r := rfl
theorem cntN_zero {p : Nat → Bool} : ∀ l : List Nat, decide (cntN p l = 0) = l.all p
  | [] => rfl
  | c :: r => by
    rw [List.all_cons, ← cntN_zero r, cntN_cons]
    cases p c with
    | true => simp
    | false => simp
theorem fm_ones {p : Nat → Bool} : ∀ l : List Nat, (List.range l.length).filterMap (fun i => if p (l.getD i 0) then none else some (V.int 1)) = List.replicate (cntN p l) (V.int 1)
  | [] => rfl
  | c :: r => by
    rw [List.length_cons, List.range_succ_eq_map, List.filterMap_cons, List.filterMap_map]
    have ih := fm_ones (p := p) r
    have e : ((fun i => if p ((c :: r).getD i 0) then none else some (V.int 1)) ∘ Nat.succ) = fun i => if p (r.getD i 0) then none else some (V.int 1) := rfl
    rw [e, ih, cntN_cons]
    cases hp : p c with
    | true => simp [hp]
    | false => simp [hp, List.replicate_succ, Nat.add_comm]
theorem emp_rep {α : Type} {k : Nat} {x : α} : (List.replicate k x).isEmpty = decide (k = 0) := by cases k <;> simp [List.replicate_succ]
theorem ones_ok {k : Nat} : ∀ d ∈ List.replicate k (PyData.int 1), d.canLay0 = true ∧ d.depth ≤ 10 := fun d hd => by
  rw [List.eq_of_mem_replicate hd]
  exact ⟨by simp [PyData.canLay0], by simp [PyData.depth]⟩
/-! _law_is_n -/
abbrev nLN : Nm := defNmC ["word", "sign"] sLN ["len"] [] [1]
theorem b_LN {X : Cx} {m : Md} {vs : List V} {H : Hp} {Q : VK} {E : XK} (T : Txt m) (C : On X nLN m 0) (B : Bd X E) (h : spIsN vs H Q E) : wB X (defBody sLN) (out Q) (start nLN.N vs) H := by
  obtain ⟨w, rfl, hw, k⟩ := h
  generalize hl : w.cps.toList = l at k
  have hlen : w.length = l.length := by rw [str_len, hl]
  have hz : w.length ≤ sizeLine := Nat.le_trans hw (by decide)
  refine b_cons ?_
  refine s_if (wT_mono (Q := fun b H1 => Same H H1 ∧ b = !figsOk l) ?_ fun b H1 ⟨s1, e1⟩ => ?_)
  · walk_at "go"
    refine w_lenS C 0 T.len ?_
    walk_at "go"
    refine ⟨hz, ?_⟩
    walk_at "go"
    rw [hlen]
    refine ite2b (fun h1 => ?_) (fun h1 => ?_)
    · refine ⟨Same.refl _, ?_⟩
      unfold figsOk
      simp at h1 ⊢
      exact .inl (.inl (by cases l; rfl; simp at h1; omega))
    · walk_at "go"
      refine w_lenS C 0 T.len ?_
      walk_at "go"
      refine ⟨hz, ?_⟩
      walk_at "go"
      rw [hlen]
      refine ite2b (fun h2 => ?_) (fun h2 => ?_)
      · refine ⟨Same.refl _, ?_⟩
        unfold figsOk
        simp at h1 h2 ⊢
        exact .inl (.inr (by omega))
      · walk_at "go"
        refine lcSIf C 1 [] [1] (by decide +kernel) ?_ (fun _ => rfl)
        walk_at "go"
        refine ⟨by omega, fun i => if decide (l.getD i 0 ∈ figs) then none else some (V.int 1), fun i c H2 X2 hc s2 C2 => ?_, fun p H2 hp s2 e2 => ?_⟩
        · walk_at "go"
          refine o_ninsign ?_
          have ec : l.getD i 0 = c := getD_of (by rw [← hl, ← cps_list]; exact hc)
          refine ⟨_, rfl, ?_⟩
          dsimp only
          rw [figs_eq, ec]
          refine ite2n (fun h3 => ?_) (fun h3 => ?_)
          · intro X4 C4
            walk_at "go"
            rw [h3]
            exact ⟨Same.refl _, rfl⟩
          · rw [h3]
            exact ⟨Same.refl _, rfl⟩
        · refine w_lstN ?_
          walk_at "go"
          refine ⟨szN 0, fun b H3 _ s3 e3 => ?_⟩
          have hsz : w.cps.size = l.length := by rw [← hlen]; rfl
          replace e2 : H2 p = some (.lst (List.replicate (cntN (fun c => decide (c ∈ figs)) l) (V.int 1))) := by rw [e2, hsz, ← fm_ones (p := fun c => decide (c ∈ figs))]
          refine o_neNil C (.lst (.inl (.inl (s3 _ _ e2))) (dpOnes _)) ones_ok e3 ?_
          rw [emp_rep, cntN_zero]
          refine ⟨_, rfl, s2.trans s3, ?_⟩
          simp at h1 h2
          have a1 : 1 ≤ l.length := by omega
          have a2 : l.length ≤ 6 := by omega
          unfold figsOk
          simp [a1, a2]
  · subst e1
    refine ite2n (fun h1 => ?_) (fun h1 => ?_)
    · walk_at "go"
      have e : isN l = false := by unfold isN; rw [h1]; rfl
      exact e ▸ k H1 s1
    · walk_at "go"
      have e : isN l = (decide (l = [48]) || !decide (l.head? = some 48)) := by unfold isN; rw [h1]; rfl
      rw [e] at k
      rw [dec_str2 hl (show ("0" : Str).cps.toList = [48] by decide +kernel)]
      refine ite2b (fun h3 => ?_) (fun h3 => ?_)
      · rw [h3] at k
        exact k H1 s1
      · walk_at "go"
        rw [h3] at k
        cases l with
        | nil => exact absurd h1 (by decide)
        | cons a r =>
          refine i_str hz (c := a) (by rw [hl]; exact atI_nat (j := 0) rfl) ?_
          walk_at "go"
          rw [dec_str2 (l := [a]) rfl (show ("0" : Str).cps.toList = [48] by decide +kernel)]
          have e2 : decide ([a] = [48]) = decide ((a :: r).head? = some 48) := dec_iff (by simp)
          rw [e2]
          exact k H1 s1
/-! _law_is_z -/
abbrev nLZ : Nm := defNm ["word"] sLZ ["_law_is_n"] [0]
theorem b_LZ {X : Cx} {m : Md} {vs : List V} {H : Hp} {Q : VK} {E : XK} (G : Df m 1 "_law_is_n" ["word"] spIsN) (C : On X nLZ m 1) (B : Bd X E) (h : spIsZ vs H Q E) : wB X (defBody sLZ) (out Q) (start nLZ.N vs) H := by
  obtain ⟨w, rfl, hw, k⟩ := h
  generalize hl : w.cps.toList = l at k
  have hlen : w.length = l.length := by rw [str_len, hl]
  have hz : w.length ≤ sizeLine := Nat.le_trans hw (by decide)
  refine b_one ?_
  walk_at "go"
  refine w_call C 0 G ?_
  walk_at "go"
  refine ⟨w, rfl, hw, fun H1 s1 => ?_⟩
  rw [hl]
  walk_at "go"
  unfold isZ at k
  refine ite2b (fun h1 => ?_) (fun h1 => ?_)
  · rw [h1] at k
    exact k H1 s1
  · rw [h1] at k
    walk_at "go"
    refine sl_s hz ?_
    walk_at "go"
    rw [dec_str2 (by rw [cutS_to, hl]) (show ("-" : Str).cps.toList = [45] by decide +kernel)]
    refine ite2b (fun h2 => ?_) (fun h2 => ?_)
    · rw [h2] at k
      walk_at "go"
      rw [dec_str2 hl (show ("-0" : Str).cps.toList = [45, 48] by decide +kernel)]
      refine ite2b (fun h3 => ?_) (fun h3 => ?_)
      · rw [h3] at k
        walk_at "go"
        refine w_call C 0 G ?_
        walk_at "go"
        refine sl_s hz ?_
        walk_at "go"
        have e : (cutS w (some 1) none).cps.toList = l.drop 1 := by rw [cutS_from, hl]
        refine ⟨_, rfl, ?_, fun H2 s2 => ?_⟩
        · rw [str_len, e, List.length_drop, ← hlen]; omega
        · rw [e]
          exact k H2 (s1.trans s2)
      · rw [h3] at k
        exact k H1 s1
    · rw [h2] at k
      exact k H1 s1
/-! _law_is_name -/
abbrev nLName : Nm := defNmC ["thing", "letters", "sign"] sLName ["isinstance", "str", "len"] [] [2]
theorem b_LName {X : Cx} {m : Md} {vs : List V} {H : Hp} {Q : VK} {E : XK} (T : Txt m) (C : On X nLName m 0) (B : Bd X E) (h : spIsName vs H Q E) : wB X (defBody sLName) (out Q) (start nLName.N vs) H := by
  obtain ⟨w, rfl, hw, k⟩ := h
  generalize hl : w.cps.toList = l at k
  have hlen : w.length = l.length := by rw [str_len, hl]
  have hz : w.length ≤ sizeLine := Nat.le_trans hw (by decide)
  refine b_cons ?_
  walk_at "go"
  refine w_isi C 0 T.isinstance ?_
  walk_at "go"
  refine wgb C 1 T.str PyProof.Rows.boot_str (v := .ty "str") rfl ?_
  walk_at "go"
  refine ⟨.str w, "str", "str", true, rfl, isi_str, kit_ss, ?_⟩
  walk_at "go"
  refine w_lenS C 2 T.len ?_
  walk_at "go"
  refine ⟨hz, ?_⟩
  walk_at "go"
  rw [hlen]
  refine ite2b (fun h1 => ?_) (fun h1 => ?_)
  · walk_at "go"
    have e : isName l = false := by
      unfold isName
      simp at h1
      cases l
      · rfl
      · simp at h1; omega
    exact e ▸ k H (Same.refl H)
  · walk_at "go"
    refine w_lenS C 2 T.len ?_
    walk_at "go"
    refine ⟨hz, ?_⟩
    walk_at "go"
    rw [hlen]
    refine ite2b (fun h2 => ?_) (fun h2 => ?_)
    · walk_at "go"
      have e : isName l = false := by
        unfold isName
        simp at h2
        rw [decide_eq_false (show ¬ l.length ≤ 12 by omega)]
        simp
      exact e ▸ k H (Same.refl H)
    · walk_at "go"
      cases l with
      | nil => simp at h1
      | cons a r =>
        refine i_str hz (c := a) (by rw [hl]; exact atI_nat (j := 0) rfl) ?_
        walk_at "go"
        refine o_insign ?_
        refine ⟨_, rfl, ?_⟩
        simp at h1 h2
        have e : isName (a :: r) = (decide (a ∈ ("abcdefghijklmnopqrstuvwxyz" : Str).cps.toList) && (a :: r).all fun c => decide (c ∈ signL)) := by
          unfold isName headIn smalls
          rw [decide_eq_true (show 1 ≤ (a :: r).length by simp), decide_eq_true (show (a :: r).length ≤ 12 by simp; omega)]
          rfl
        rw [e] at k
        refine ite2b (fun h3 => ?_) (fun h3 => ?_)
        · rw [h3] at k
          walk_at "go"
          refine lcSIf C 2 [] [1, 2] (by decide +kernel) ?_ (fun _ => rfl)
          walk_at "go"
          refine ⟨by omega, fun i => if decide ((a :: r).getD i 0 ∈ signL) then none else some (V.int 1), fun i c H2 X2 hc s2 C2 => ?_, fun p H2 hp s2 e2 => ?_⟩
          · walk_at "go"
            refine o_adds (by decide +kernel) ?_
            refine o_ninsign ?_
            have ec : (a :: r).getD i 0 = c := getD_of (by rw [← hl, ← cps_list]; exact hc)
            refine ⟨_, rfl, ?_⟩
            dsimp only
            rw [ec, show (Str.ofString "abcdefghijklmnopqrstuvwxyz" ++ Str.ofString "0123456789").cps.toList = signL by decide +kernel]
            refine ite2n (fun h4 => ?_) (fun h4 => ?_)
            · intro X4 C4
              walk_at "go"
              rw [h4]
              exact ⟨Same.refl _, rfl⟩
            · rw [h4]
              exact ⟨Same.refl _, rfl⟩
          · refine w_lstN ?_
            walk_at "go"
            refine ⟨szN 0, fun b H3 _ s3 e3 => ?_⟩
            have hsz : w.cps.size = (a :: r).length := by rw [← hlen]; rfl
            replace e2 : H2 p = some (.lst (List.replicate (cntN (fun c => decide (c ∈ signL)) (a :: r)) (V.int 1))) := by rw [e2, hsz, ← fm_ones (p := fun c => decide (c ∈ signL))]
            refine o_eqNil C (.lst (.inl (.inl (s3 _ _ e2))) (dpOnes _)) ones_ok e3 ?_
            rw [emp_rep, cntN_zero]
            exact k _ (s2.trans s3)
        · rw [h3] at k
          exact k _ (Same.refl H)
end K9

set_option Elab.async false
set_option linter.all false
set_option maxRecDepth 100000
set_option maxHeartbeats 4000000
namespace K9
open PySem PySem.Spec PyProof.Rows L2 Wp
local macro_rules | `(tactic| walk_at "go1") => `(tactic| first
  | (with_reducible show wE _ (Expr.Name _ _) _ _ _); (first | refine wv ‹On _ _ _ _› 0 ?_ | refine wv ‹On _ _ _ _› 1 ?_ | refine wv ‹On _ _ _ _› 2 ?_ | refine wv ‹On _ _ _ _› 3 ?_ | refine wv ‹On _ _ _ _› 4 ?_ | refine wv ‹On _ _ _ _› 5 ?_ | refine wv ‹On _ _ _ _› 6 ?_ | refine wv ‹On _ _ _ _› 7 ?_ | refine wv ‹On _ _ _ _› 8 ?_ | refine wv ‹On _ _ _ _› 9 ?_ | refine wv ‹On _ _ _ _› 10 ?_ | refine wv ‹On _ _ _ _› 11 ?_ | refine wv ‹On _ _ _ _› 12 ?_ | refine wv ‹On _ _ _ _› 13 ?_)
  | with_reducible refine w_int ?_
  | with_reducible refine w_str ?_
  | with_reducible refine w_bl ?_
  | with_reducible refine w_non ?_
  | with_reducible refine w_bin ?_
  | (with_reducible show wE _ (Expr.Compare _ [_] [_] _) _ _ _); (refine w_cmp ?_)
  | (with_reducible show wT _ (Expr.Compare _ [_] [_] _) _ _ _); (refine wt_cmp ?_)
  | (with_reducible show wE _ (Expr.Compare _ [_, _] [_, _] _) _ _ _); (refine w_chain ?_)
  | (with_reducible show wT _ (Expr.Compare _ [_, _] [_, _] _) _ _ _); (refine wt_chain ?_)
  | with_reducible refine wt_not ?_
  | (with_reducible show wT _ (Expr.BoolOp _ _ _) _ _ _); (refine wt_w ?_)
  | with_reducible refine ww_and1 ?_
  | with_reducible refine ww_or1 ?_
  | with_reducible refine ww_and ?_
  | with_reducible refine ww_or ?_
  | with_reducible refine w_one ?_
  | with_reducible refine w_and ?_
  | with_reducible refine w_or ?_
  | with_reducible refine w_not ?_
  | with_reducible refine w_ifx ?_
  | (with_reducible show wT _ (Expr.Call _ _ _ _) _ _ _); (refine wt_val ?_)
  | with_reducible refine w_sl ?_
  | with_reducible refine w_slf ?_
  | with_reducible refine w_slt ?_
  | (with_reducible show wE _ (Expr.Subscript _ (Expr.Constant (Const.str _) _ _) _) _ _ _); (refine w_dgN ‹On _ _ _ _› ?_)
  | (with_reducible show DG _ _ _ _); (refine dget_at (by assumption) (by rfl) ?_)
  | (with_reducible show wE _ (Expr.Subscript _ (Expr.Constant _ _ _) _) _ _ _); (refine w_sub ?_)
  | (with_reducible show wE _ (Expr.Subscript _ (Expr.BinOp _ _ _ _) _) _ _ _); (refine w_sub ?_)
  | (with_reducible show wA _ (_ :: _) _ _ _); (refine wa_cons ?_)
  | with_reducible refine wa_nil ?_
  | with_reducible refine o_add ?_
  | with_reducible refine o_sub ?_
  | with_reducible refine o_lt ?_
  | with_reducible refine o_le ?_
  | with_reducible refine o_gt ?_
  | with_reducible refine o_ge ?_
  | with_reducible refine o_is ?_
  | with_reducible refine o_isnt ?_
  | (with_reducible show wO _ (compareOp CmpOp.Eq) _ _ _ _); (refine o_eq ?_)
  | (with_reducible show wO _ (compareOp CmpOp.NotEq) _ _ _ _); (refine o_ne ?_)
  | with_reducible refine b_one ?_
  | with_reducible refine b_nil ?_
  | with_reducible refine b_cons ?_
  | with_reducible refine s_if ?_
  | with_reducible refine s_ret ?_
  | with_reducible refine s_retN ?_
  | with_reducible refine s_pass ?_
  | with_reducible refine s_break ?_
  | with_reducible refine s_cont ?_
  | (with_reducible show wS _ (Stmt.Expr (Expr.Call (Expr.Attribute _ "append" _) [_] [] _) _) _ _ _); (refine s_append ‹On _ _ _ _› ?_)
  | (with_reducible show wS _ (Stmt.Expr _ _) _ _ _); (refine s_expr ?_)
  | (with_reducible show wE _ (Expr.ListComp _ _ _ _) _ _ _); (refine w_ofL ‹On _ _ _ _› ?_)
  | (with_reducible show wS _ (Stmt.Assign [Expr.Name _ _] (Expr.ListComp _ _ _ _) _) _ _ _); (first | refine s_ofL ‹On _ _ _ _› 0 ?_ | refine s_ofL ‹On _ _ _ _› 1 ?_ | refine s_ofL ‹On _ _ _ _› 2 ?_ | refine s_ofL ‹On _ _ _ _› 3 ?_ | refine s_ofL ‹On _ _ _ _› 4 ?_ | refine s_ofL ‹On _ _ _ _› 5 ?_ | refine s_ofL ‹On _ _ _ _› 6 ?_ | refine s_ofL ‹On _ _ _ _› 7 ?_ | refine s_ofL ‹On _ _ _ _› 8 ?_ | refine s_ofL ‹On _ _ _ _› 9 ?_ | refine s_ofL ‹On _ _ _ _› 10 ?_ | refine s_ofL ‹On _ _ _ _› 11 ?_ | refine s_ofL ‹On _ _ _ _› 12 ?_ | refine s_ofL ‹On _ _ _ _› 13 ?_)
  | (with_reducible show wS _ (Stmt.Assign [Expr.Name _ _] _ _) _ _ _); (first | refine s_set ‹On _ _ _ _› 0 ?_ | refine s_set ‹On _ _ _ _› 1 ?_ | refine s_set ‹On _ _ _ _› 2 ?_ | refine s_set ‹On _ _ _ _› 3 ?_ | refine s_set ‹On _ _ _ _› 4 ?_ | refine s_set ‹On _ _ _ _› 5 ?_ | refine s_set ‹On _ _ _ _› 6 ?_ | refine s_set ‹On _ _ _ _› 7 ?_ | refine s_set ‹On _ _ _ _› 8 ?_ | refine s_set ‹On _ _ _ _› 9 ?_ | refine s_set ‹On _ _ _ _› 10 ?_ | refine s_set ‹On _ _ _ _› 11 ?_ | refine s_set ‹On _ _ _ _› 12 ?_ | refine s_set ‹On _ _ _ _› 13 ?_)
  | (with_reducible show wS _ (Stmt.Assign [Expr.Subscript _ (Expr.Constant (Const.str _) _ _) _] _ _) _ _ _); (refine s_dput ‹On _ _ _ _› ?_)
  | (with_reducible show wG _ (Expr.Name _ _) _ _ _ _); (first | refine g_name ‹On _ _ _ _› 0 ?_ | refine g_name ‹On _ _ _ _› 1 ?_ | refine g_name ‹On _ _ _ _› 2 ?_ | refine g_name ‹On _ _ _ _› 3 ?_ | refine g_name ‹On _ _ _ _› 4 ?_ | refine g_name ‹On _ _ _ _› 5 ?_ | refine g_name ‹On _ _ _ _› 6 ?_ | refine g_name ‹On _ _ _ _› 7 ?_ | refine g_name ‹On _ _ _ _› 8 ?_ | refine g_name ‹On _ _ _ _› 9 ?_ | refine g_name ‹On _ _ _ _› 10 ?_ | refine g_name ‹On _ _ _ _› 11 ?_ | refine g_name ‹On _ _ _ _› 12 ?_ | refine g_name ‹On _ _ _ _› 13 ?_)
  | with_reducible refine iteT ?_
  | with_reducible refine iteF ?_
  | with_reducible refine iteNT ?_
  | with_reducible refine iteNF ?_
  | with_reducible refine Exists.intro _ (And.intro rfl ?_))
local macro_rules | `(tactic| walk_at "go") => `(tactic| repeat (walk_at "go1"))
/-! the signs of parts -/
theorem joinL_ch {S : List Nat} : ∀ ps : List (List Nat), (∀ c ∈ S, c < 128) → (∀ p ∈ ps, ∀ c ∈ p, c < 128) → ∀ c ∈ TL.joinL S ps, c < 128
  | [], _, _, c, h => by cases h
  | [p], _, hp, c, h => hp p List.mem_cons_self c h
  | p :: q :: r, hS, hp, c, h => by
    have h' : c ∈ p ++ (S ++ TL.joinL S (q :: r)) := h
    rw [List.mem_append, List.mem_append] at h'
    rcases h' with h' | h' | h'
    · exact hp p List.mem_cons_self c h'
    · exact hS c h'
    · exact joinL_ch (q :: r) hS (fun z hz => hp z (List.mem_cons_of_mem _ hz)) c h'
theorem ch_joinL {S : List Nat} : ∀ ps : List (List Nat), (∀ c ∈ TL.joinL S ps, c < 128) → ∀ p ∈ ps, ∀ c ∈ p, c < 128
  | [], _, p, hp, _, _ => by cases hp
  | [q], h, p, hp, c, hc => by
    rw [List.mem_singleton.mp hp] at hc
    exact h c hc
  | p :: q :: r, h, x, hx, c, hc => by
    have h' : ∀ c ∈ p ++ (S ++ TL.joinL S (q :: r)), c < 128 := h
    rcases List.mem_cons.mp hx with e | hx
    · rw [e] at hc
      exact h' c (List.mem_append_left _ hc)
    · exact ch_joinL (q :: r) (fun z hz => h' z (List.mem_append_right _ (List.mem_append_right _ hz))) x hx c hc
theorem join_ch {y : Str} {ps : List Str} (hy : chOk y) (hp : ∀ p ∈ ps, chOk p) : chOk (Txt.join y ps) := by
  rw [TL.join_eq]
  intro c hc
  have e : (Str.join y ps).cps.toList = TL.joinL y.cps.toList (ps.map fun p => p.cps.toList) := TL.tl_join y ps
  rw [e] at hc
  refine joinL_ch _ hy (fun p h => ?_) c hc
  obtain ⟨z, hz, rfl⟩ := List.mem_map.mp h
  exact hp z hz
theorem split_ch {x y : Str} (h : chOk x) : ∀ p ∈ Txt.split x y, chOk p := by
  intro p hp c hc
  have e : (Str.join y (Txt.split x y)).cps.toList = TL.joinL y.cps.toList ((Txt.split x y).map fun p => p.cps.toList) := TL.tl_join y _
  rw [PySem.StrLaws.join_split] at e
  refine ch_joinL _ (fun c hc => h c (by rw [e]; exact hc)) p.cps.toList (List.mem_map_of_mem (f := fun p : Str => p.cps.toList) hp) c hc
/-! _law_fits -/
def lawFits (w f : Str) : Bool := if decide (f = ("name" : Str)) then isName w.cps.toList else if decide (f = ("n" : Str)) then isNS w else if decide (f = ("z" : Str)) then isZ w.cps.toList else if decide (f = ("v" : Str)) then isV w else decide (w = f)
def spLFits : Sp := fun vs H Q _ => ∃ w f : Str, vs = [.str w, .str f] ∧ w.length ≤ 1000000 ∧ chOk w ∧ ∀ H', Same H H' → Q (.bl (lawFits w f)) H'
abbrev nLFits : Nm := defNmC ["word", "form", "parts", "part"] sLFits ["_law_is_name", "_law_is_n", "_law_is_z", "len"] [] [3]
theorem fm_filter {α β : Type} [Inhabited α] {p : α → Bool} {g : α → β} : ∀ l : List α, (List.range l.length).filterMap (fun i => if p (l.getD i default) then some (g (l.getD i default)) else none) = (l.filter p).map g
  | [] => rfl
  | c :: r => by
    rw [List.length_cons, List.range_succ_eq_map, List.filterMap_cons, List.filterMap_map]
    have ih := fm_filter (p := p) (g := g) r
    have e : ((fun i => if p ((c :: r).getD i default) then some (g ((c :: r).getD i default)) else none) ∘ Nat.succ) = fun i => if p (r.getD i default) then some (g (r.getD i default)) else none := rfl
    rw [e, ih, List.filter_cons]
    cases hp : p c with
    | true => simp [hp]
    | false => simp [hp]
theorem strs_ok {ws : List Str} (h : ∀ w ∈ ws, chOk w) : ∀ d ∈ ws.map PyData.str, d.canLay0 = true ∧ d.depth ≤ 10 := fun d hd => by
  obtain ⟨w, hw, rfl⟩ := List.mem_map.mp hd
  exact clStr (h w hw)
theorem emp_map {α β : Type} {f : α → β} {l : List α} : (l.map f).isEmpty = l.isEmpty := by cases l <;> rfl
theorem filt_emp {ps : List Str} {p : Str → Bool} : (ps.filter fun x => !p x).isEmpty = ps.all p := by
  induction ps with
  | nil => rfl
  | cons a r ih =>
    rw [List.filter_cons, List.all_cons]
    cases hp : p a with
    | true => simpa [hp] using ih
    | false => simp [hp]
theorem eqv_zero {ps : List Str} (h1 : 1 ≤ ps.length) (h2 : ps.length ≤ 2) : (!PyData.eqv (.list ((ps.drop 1).map .str)) (.list [.str "0"])) = (decide (ps.length = 1) || !decide (ps[1]? = some ("0" : Str))) := by
  match ps, h1, h2 with
  | [a], _, _ => simp [PyData.eqv, PyData.eqvAll]
  | [a, b], _, _ =>
    have e : (b == ("0" : Str)) = decide (b = ("0" : Str)) := by
      by_cases h : b = ("0" : Str)
      · rw [h]; decide +kernel
      · rw [decide_eq_false h]
        simpa using h
    simp [PyData.eqv, PyData.eqvAll, e]
theorem b_LFits {X : Cx} {m : Md} {vs : List V} {H : Hp} {Q : VK} {E : XK} (T : Txt m) (G1 : Df m 2 "_law_is_name" ["thing"] spIsName) (G2 : Df m 2 "_law_is_n" ["word"] spIsN) (G3 : Df m 2 "_law_is_z" ["word"] spIsZ) (C : On X nLFits m 2) (B : Bd X E) (h : spLFits vs H Q E) :
    wB X (defBody sLFits) (out Q) (start nLFits.N vs) H := by
  obtain ⟨w, f, rfl, hw, hch, k⟩ := h
  unfold lawFits at k
  refine b_cons ?_
  walk_at "go"
  rw [dec_strS]
  refine ite2b (fun h1 => ?_) (fun h1 => ?_)
  · rw [h1] at k
    walk_at "go"
    refine w_call C 0 G1 ?_
    walk_at "go"
    exact ⟨w, rfl, hw, fun H1 s1 => k H1 s1⟩
  · rw [h1] at k
    walk_at "go"
    rw [dec_strS]
    refine ite2b (fun h2 => ?_) (fun h2 => ?_)
    · rw [h2] at k
      walk_at "go"
      refine w_call C 1 G2 ?_
      walk_at "go"
      exact ⟨w, rfl, hw, fun H1 s1 => k H1 s1⟩
    · rw [h2] at k
      walk_at "go"
      rw [dec_strS]
      refine ite2b (fun h3 => ?_) (fun h3 => ?_)
      · rw [h3] at k
        walk_at "go"
        refine w_call C 2 G3 ?_
        walk_at "go"
        exact ⟨w, rfl, hw, fun H1 s1 => k H1 s1⟩
      · rw [h3] at k
        walk_at "go"
        rw [dec_strS]
        refine ite2b (fun h4 => ?_) (fun h4 => ?_)
        · rw [h4] at k
          replace k : ∀ H', Same H H' → Q (.bl (isVs (Txt.split w "/"))) H' := k
          have hps : ∀ p ∈ Txt.split w "/", p.length ≤ 1000000 := fun p hp => Nat.le_trans (PyProof.Rows.part_short hp) hw
          have hpc := split_ch (y := "/") hch
          have hpl := split_len (s := "/") hw
          have hpos : 1 ≤ (Txt.split w "/").length := PyProof.Rows.split_pos w "/"
          walk_at "go"
          refine w_split ?_
          walk_at "go"
          refine ⟨Nat.le_trans (Nat.add_le_add_right hw 2) (by decide), ?_⟩
          walk_at "go"
          refine ⟨by decide, fun a H1 ha s1 e1 => ?_⟩
          generalize Txt.split w "/" = ps at k hps hpl hpos e1 hpc
          have q1 : SqL m.K H1 a (ps.map V.str) := .inl (.inl e1)
          walk_at "go"
          refine w_lenL C 3 T.len ?_
          walk_at "go"
          refine ⟨a, _, rfl, .inl q1, ?_⟩
          walk_at "go"
          rw [List.length_map]
          unfold isVs at k
          refine ite2b (fun h5 => ?_) (fun h5 => ?_)
          · have hl2 : ps.length ≤ 2 := by simp at h5; omega
            rw [decide_eq_true hl2] at k
            walk_at "go"
            refine lcLIf C 3 ["_law_is_n"] [3] (by decide +kernel) ?_ (fun _ => rfl)
            walk_at "go"
            refine ⟨a, _, rfl, q1, by rw [List.length_map]; omega, fun i => if !isNS (ps.getD i default) then some (V.str (ps.getD i default)) else none, fun i y H2 X2 hy s2 C2 => ?_, fun p H2 hp s2 e2 => ?_⟩
            · obtain ⟨x, hx, rfl⟩ := map_at hy
              walk_at "go"
              refine w_call C2 0 G2 ?_
              walk_at "go"
              refine ⟨x, rfl, hps x (List.mem_of_getElem? hx), fun H4 s4 => ?_⟩
              refine ⟨_, rfl, ?_⟩
              dsimp only
              rw [getD_of' hx]
              refine ite2n (fun h6 => ?_) (fun h6 => ?_)
              · intro X4 C4
                walk_at "go"
                refine ⟨s4, ?_⟩
                rw [show isNS x = false from h6]
                rfl
              · refine ⟨s4, ?_⟩
                rw [show isNS x = true from h6]
                rfl
            · refine w_lstN ?_
              walk_at "go"
              refine ⟨szN 0, fun b H3 _ s3 e3 => ?_⟩
              replace e2 : H2 p = some (.lst ((ps.filter fun x => !isNS x).map V.str)) := by rw [e2, List.length_map, ← fm_filter (p := fun x => !isNS x)]
              refine o_eqNil C (.lst (.inl (.inl (s3 _ _ e2))) (dpStrs _)) (strs_ok fun z hz => hpc z (List.mem_filter.mp hz).1) e3 ?_
              rw [emp_map, filt_emp]
              refine ⟨_, rfl, ?_⟩
              have s13 := s2.trans s3
              refine ite2b (fun h6 => ?_) (fun h6 => ?_)
              · rw [h6] at k
                walk_at "go"
                refine sl_from C (b' := 1) (s13.seq q1) rfl fun l H4 hl s4 e4 => ?_
                refine w_lstN ?_
                walk_at "go"
                refine ⟨szN 1, fun b2 H5 _ s5 e5 => ?_⟩
                rw [← List.map_drop] at e4
                refine o_neD C (d := .list ((ps.drop 1).map .str)) (e := .list [.str "0"]) (.lst (.inl (.inl (s5 _ _ e4))) (dpStrs _)) (.lst (.inl (.inl e5)) (.cons (.str _) .nil)) (shp (strs_ok fun z hz => hpc z (List.mem_of_mem_drop hz))) (by decide +kernel) ?_
                rw [eqv_zero hpos hl2]
                exact k _ (((s1.trans s13).trans s4).trans s5)
              · rw [h6] at k
                exact k _ (s1.trans s13)
          · have hl2 : ¬ ps.length ≤ 2 := by simp at h5; omega
            rw [decide_eq_false hl2] at k
            exact k _ s1
        · rw [h4] at k
          walk_at "go"
          rw [dec_strS]
          exact k _ (Same.refl H)
end K9

set_option Elab.async false
set_option linter.all false
set_option maxRecDepth 100000
set_option maxHeartbeats 4000000
namespace K9
open PySem PySem.Spec PyProof.Rows L2 Wp
local macro_rules | `(tactic| walk_at "go1") => `(tactic| first
  | (with_reducible show wE _ (Expr.Name _ _) _ _ _); (first | refine wv ‹On _ _ _ _› 0 ?_ | refine wv ‹On _ _ _ _› 1 ?_ | refine wv ‹On _ _ _ _› 2 ?_ | refine wv ‹On _ _ _ _› 3 ?_ | refine wv ‹On _ _ _ _› 4 ?_ | refine wv ‹On _ _ _ _› 5 ?_ | refine wv ‹On _ _ _ _› 6 ?_ | refine wv ‹On _ _ _ _› 7 ?_ | refine wv ‹On _ _ _ _› 8 ?_ | refine wv ‹On _ _ _ _› 9 ?_ | refine wv ‹On _ _ _ _› 10 ?_ | refine wv ‹On _ _ _ _› 11 ?_ | refine wv ‹On _ _ _ _› 12 ?_ | refine wv ‹On _ _ _ _› 13 ?_)
  | with_reducible refine w_int ?_
  | with_reducible refine w_str ?_
  | with_reducible refine w_bl ?_
  | with_reducible refine w_non ?_
  | with_reducible refine w_bin ?_
  | (with_reducible show wE _ (Expr.Compare _ [_] [_] _) _ _ _); (refine w_cmp ?_)
  | (with_reducible show wT _ (Expr.Compare _ [_] [_] _) _ _ _); (refine wt_cmp ?_)
  | (with_reducible show wE _ (Expr.Compare _ [_, _] [_, _] _) _ _ _); (refine w_chain ?_)
  | (with_reducible show wT _ (Expr.Compare _ [_, _] [_, _] _) _ _ _); (refine wt_chain ?_)
  | with_reducible refine wt_not ?_
  | (with_reducible show wT _ (Expr.BoolOp _ _ _) _ _ _); (refine wt_w ?_)
  | with_reducible refine ww_and1 ?_
  | with_reducible refine ww_or1 ?_
  | with_reducible refine ww_and ?_
  | with_reducible refine ww_or ?_
  | with_reducible refine w_one ?_
  | with_reducible refine w_and ?_
  | with_reducible refine w_or ?_
  | with_reducible refine w_not ?_
  | with_reducible refine w_ifx ?_
  | (with_reducible show wT _ (Expr.Call _ _ _ _) _ _ _); (refine wt_val ?_)
  | with_reducible refine w_sl ?_
  | with_reducible refine w_slf ?_
  | with_reducible refine w_slt ?_
  | (with_reducible show wE _ (Expr.Subscript _ (Expr.Constant (Const.str _) _ _) _) _ _ _); (refine w_dgN ‹On _ _ _ _› ?_)
  | (with_reducible show DG _ _ _ _); (refine dget_at (by assumption) (by rfl) ?_)
  | (with_reducible show wE _ (Expr.Subscript _ (Expr.Constant _ _ _) _) _ _ _); (refine w_sub ?_)
  | (with_reducible show wE _ (Expr.Subscript _ (Expr.BinOp _ _ _ _) _) _ _ _); (refine w_sub ?_)
  | (with_reducible show wA _ (_ :: _) _ _ _); (refine wa_cons ?_)
  | with_reducible refine wa_nil ?_
  | with_reducible refine o_add ?_
  | with_reducible refine o_sub ?_
  | with_reducible refine o_lt ?_
  | with_reducible refine o_le ?_
  | with_reducible refine o_gt ?_
  | with_reducible refine o_ge ?_
  | with_reducible refine o_is ?_
  | with_reducible refine o_isnt ?_
  | (with_reducible show wO _ (compareOp CmpOp.Eq) _ _ _ _); (refine o_eq ?_)
  | (with_reducible show wO _ (compareOp CmpOp.NotEq) _ _ _ _); (refine o_ne ?_)
  | with_reducible refine b_one ?_
  | with_reducible refine b_nil ?_
  | with_reducible refine b_cons ?_
  | with_reducible refine s_if ?_
  | with_reducible refine s_ret ?_
  | with_reducible refine s_retN ?_
  | with_reducible refine s_pass ?_
  | with_reducible refine s_break ?_
  | with_reducible refine s_cont ?_
  | (with_reducible show wS _ (Stmt.Expr (Expr.Call (Expr.Attribute _ "append" _) [_] [] _) _) _ _ _); (refine s_append ‹On _ _ _ _› ?_)
  | (with_reducible show wS _ (Stmt.Expr _ _) _ _ _); (refine s_expr ?_)
  | (with_reducible show wE _ (Expr.ListComp _ _ _ _) _ _ _); (refine w_ofL ‹On _ _ _ _› ?_)
  | (with_reducible show wS _ (Stmt.Assign [Expr.Name _ _] (Expr.ListComp _ _ _ _) _) _ _ _); (first | refine s_ofL ‹On _ _ _ _› 0 ?_ | refine s_ofL ‹On _ _ _ _› 1 ?_ | refine s_ofL ‹On _ _ _ _› 2 ?_ | refine s_ofL ‹On _ _ _ _› 3 ?_ | refine s_ofL ‹On _ _ _ _› 4 ?_ | refine s_ofL ‹On _ _ _ _› 5 ?_ | refine s_ofL ‹On _ _ _ _› 6 ?_ | refine s_ofL ‹On _ _ _ _› 7 ?_ | refine s_ofL ‹On _ _ _ _› 8 ?_ | refine s_ofL ‹On _ _ _ _› 9 ?_ | refine s_ofL ‹On _ _ _ _› 10 ?_ | refine s_ofL ‹On _ _ _ _› 11 ?_ | refine s_ofL ‹On _ _ _ _› 12 ?_ | refine s_ofL ‹On _ _ _ _› 13 ?_)
  | (with_reducible show wS _ (Stmt.Assign [Expr.Name _ _] _ _) _ _ _); (first | refine s_set ‹On _ _ _ _› 0 ?_ | refine s_set ‹On _ _ _ _› 1 ?_ | refine s_set ‹On _ _ _ _› 2 ?_ | refine s_set ‹On _ _ _ _› 3 ?_ | refine s_set ‹On _ _ _ _› 4 ?_ | refine s_set ‹On _ _ _ _› 5 ?_ | refine s_set ‹On _ _ _ _› 6 ?_ | refine s_set ‹On _ _ _ _› 7 ?_ | refine s_set ‹On _ _ _ _› 8 ?_ | refine s_set ‹On _ _ _ _› 9 ?_ | refine s_set ‹On _ _ _ _› 10 ?_ | refine s_set ‹On _ _ _ _› 11 ?_ | refine s_set ‹On _ _ _ _› 12 ?_ | refine s_set ‹On _ _ _ _› 13 ?_)
  | (with_reducible show wS _ (Stmt.Assign [Expr.Subscript _ (Expr.Constant (Const.str _) _ _) _] _ _) _ _ _); (refine s_dput ‹On _ _ _ _› ?_)
  | (with_reducible show wG _ (Expr.Name _ _) _ _ _ _); (first | refine g_name ‹On _ _ _ _› 0 ?_ | refine g_name ‹On _ _ _ _› 1 ?_ | refine g_name ‹On _ _ _ _› 2 ?_ | refine g_name ‹On _ _ _ _› 3 ?_ | refine g_name ‹On _ _ _ _› 4 ?_ | refine g_name ‹On _ _ _ _› 5 ?_ | refine g_name ‹On _ _ _ _› 6 ?_ | refine g_name ‹On _ _ _ _› 7 ?_ | refine g_name ‹On _ _ _ _› 8 ?_ | refine g_name ‹On _ _ _ _› 9 ?_ | refine g_name ‹On _ _ _ _› 10 ?_ | refine g_name ‹On _ _ _ _› 11 ?_ | refine g_name ‹On _ _ _ _› 12 ?_ | refine g_name ‹On _ _ _ _› 13 ?_)
  | with_reducible refine iteT ?_
  | with_reducible refine iteF ?_
  | with_reducible refine iteNT ?_
  | with_reducible refine iteNF ?_
  | with_reducible refine Exists.intro _ (And.intro rfl ?_))
local macro_rules | `(tactic| walk_at "go") => `(tactic| repeat (walk_at "go1"))
/-! _law_vow_forms -/
def zs (n : Nat) : List Str := List.replicate n "z"
def fSize (w : Str) (s : Nat) : List (List Str) := [(["name", w, "free"] : List Str) ++ zs s, (["name", w, "hangs"] : List Str) ++ zs (2 * s), (["name", w, "holds", "n"] : List Str) ++ zs s]
def fBlock (w : Str) : List (List Str) := ["name", w, "strong", "v"] :: ([2, 3, 4] : List Nat).flatMap (fSize w)
def forms4 : List (List Str) := [["name", "within", "n"], ["name", "beyond", "n"], ["name", "allowed"], ["name", "like", "name"]]
def formsL : List (List Str) := forms4 ++ (["now", "then"] : List Str).flatMap fBlock
/-- the list at f, of lists of texts -/
def Fd (H0 : Hp) (f : Addr) (L : List (List Str)) (H : Hp) : Prop := H0 f = none ∧ Same H0 H ∧ ∃ l : List (Addr × List Str), H f = some (.lst (l.map fun z => V.ref z.1)) ∧ (∀ z ∈ l, z.1 ≠ f ∧ H z.1 = some (.lst (z.2.map V.str))) ∧ l.map (·.2) = L
theorem Fd.keep {H0 H H' : Hp} {f : Addr} {L : List (List Str)} (h : Fd H0 f L H) (s : Same H H') : Fd H0 f L H' := by
  obtain ⟨h1, h2, l, h3, h4, h5⟩ := h
  exact ⟨h1, h2.trans s, l, s _ _ h3, fun z hz => ⟨(h4 z hz).1, s _ _ (h4 z hz).2⟩, h5⟩
theorem Fd.add {H0 H : Hp} {f r : Addr} {L : List (List Str)} {x : List Str} (h : Fd H0 f L H) (hr : H r = some (.lst (x.map V.str))) (hf : r ≠ f) (hl : L.length < 1000) : ∃ acc, H f = some (.lst acc) ∧ acc.length < sizeLine ∧ Fd H0 f (L ++ [x]) (upd H f (.lst (acc ++ [V.ref r]))) := by
  obtain ⟨h1, h2, l, h3, h4, h5⟩ := h
  refine ⟨_, h3, ?_, h1, fun b o q => ?_, l ++ [(r, x)], ?_, fun z hz => ?_, ?_⟩
  · rw [List.length_map]
    have : l.length = L.length := by rw [← h5, List.length_map]
    exact Nat.lt_of_lt_of_le (show l.length < 1000 by omega) (by decide)
  · rw [upd_ne (ne_of_none q h1)]
    exact h2 _ _ q
  · rw [upd_same, List.map_append]
    rfl
  · rcases List.mem_append.mp hz with hz | hz
    · obtain ⟨a, b⟩ := h4 z hz
      exact ⟨a, by rw [upd_ne a]; exact b⟩
    · rw [List.mem_singleton.mp hz]
      exact ⟨hf, by rw [upd_ne hf]; exact hr⟩
  · rw [List.map_append, h5]
    rfl
theorem Fd.sq {K : PySem.W.Frag} {H0 H : Hp} {f : Addr} {L : List (List Str)} (h : Fd H0 f L H) : ∃ ys, SqL K H f ys := by
  obtain ⟨h1, h2, l, h3, h4, h5⟩ := h
  exact ⟨_, .inl (.inl h3)⟩
theorem Fd.ne {H0 H : Hp} {f r : Addr} {L : List (List Str)} (h : Fd H0 f L H) (n : H r = none) : r ≠ f := by
  obtain ⟨h1, h2, l, h3, h4, h5⟩ := h
  exact fun z => by rw [z, h3] at n; cases n
/-- forms as they are handed on -/
def FormsAt (K : PySem.W.Frag) (H : Hp) (f : Addr) (L : List (List Str)) : Prop := ∃ l : List (Addr × List Str), SqL K H f (l.map fun z => V.ref z.1) ∧ (∀ z ∈ l, SqL K H z.1 (z.2.map V.str)) ∧ l.map (·.2) = L
theorem Fd.at {K : PySem.W.Frag} {H0 H : Hp} {f : Addr} {L : List (List Str)} (h : Fd H0 f L H) : FormsAt K H f L := by
  obtain ⟨h1, h2, l, h3, h4, h5⟩ := h
  exact ⟨l, .inl (.inl h3), fun z hz => .inl (.inl (h4 z hz).2), h5⟩
theorem FormsAt.keep {K : PySem.W.Frag} {H H' : Hp} {f : Addr} {L : List (List Str)} (h : FormsAt K H f L) (s : Same H H') : FormsAt K H' f L := by
  obtain ⟨l, h1, h2, h3⟩ := h
  exact ⟨l, s.seq h1, fun z hz => s.seq (h2 z hz), h3⟩
def spForms (K : PySem.W.Frag) : Sp := fun vs H Q _ => vs = [] ∧ ∀ f H', H f = none → Same H H' → FormsAt K H' f formsL → Q (.ref f) H'
abbrev nForms : Nm := defNm ["found", "when", "size"] sForms [] [0, 1, 2]
theorem rep_flat {x : V} : ∀ n : Nat, (List.replicate n [x]).flatten = List.replicate n x
  | 0 => rfl
  | n + 1 => by
    rw [List.replicate_succ, List.flatten_cons, rep_flat n, List.replicate_succ]
    rfl
theorem zs_map (n : Nat) : (zs n).map V.str = List.replicate n (V.str "z") := by
  unfold zs
  rw [List.map_replicate]
theorem o_zs {X : Cx} {S : Nm} {m : Md} {k : Nat} {H : Hp} {Q : VK} {z1 : Addr} {n : Nat} {i : Int} (h : H z1 = some (.lst [V.str "z"])) (e : i = (n : Int)) (hn : n < 100) (q : NewL ((zs n).map V.str) H Q) : wO X (binaryOp .Mult) (.ref z1) (.int i) H Q := by
  subst e
  refine o_rep h (by omega) (by simp; omega) ?_
  rw [Int.toNat_natCast, rep_flat, ← zs_map]
  exact q
theorem b_forms {X : Cx} {m : Md} {vs : List V} {H : Hp} {Q : VK} {E : XK} (C : On X nForms m 0) (B : Bd X E) (h : spForms m.K vs H Q E) : wB X (defBody sForms) (out Q) (start nForms.N vs) H := by
  obtain ⟨rfl, k⟩ := h
  refine b_cons ?_
  walk_at "go"
  refine w_lstN ?_
  refine wa_cons ?_
  refine w_lstN ?_
  walk_at "go"
  refine ⟨szN 3, fun r1 H1 n1 s1 e1 => ?_⟩
  refine wa_cons ?_
  refine w_lstN ?_
  walk_at "go"
  refine ⟨szN 3, fun r2 H2 n2 s2 e2 => ?_⟩
  refine wa_cons ?_
  refine w_lstN ?_
  walk_at "go"
  refine ⟨szN 2, fun r3 H3 n3 s3 e3 => ?_⟩
  refine wa_cons ?_
  refine w_lstN ?_
  walk_at "go"
  refine ⟨szN 3, fun r4 H4 n4 s4 e4 => ?_⟩
  walk_at "go"
  refine ⟨szN 4, fun f H5 nf s5 e5 => ?_⟩
  have F0 : Fd H4 f forms4 H5 := by
    have g1 := s4 _ _ (s3 _ _ (s2 _ _ e1))
    have g2 := s4 _ _ (s3 _ _ e2)
    have g3 := s4 _ _ e3
    refine ⟨nf, s5, [(r1, ["name", "within", "n"]), (r2, ["name", "beyond", "n"]), (r3, ["name", "allowed"]), (r4, ["name", "like", "name"])], e5, fun z hz => ?_, rfl⟩
    simp only [List.mem_cons, List.not_mem_nil, or_false] at hz
    rcases hz with rfl | rfl | rfl | rfl
    · exact ⟨ne_of_none g1 nf, s5 _ _ g1⟩
    · exact ⟨ne_of_none g2 nf, s5 _ _ g2⟩
    · exact ⟨ne_of_none g3 nf, s5 _ _ g3⟩
    · exact ⟨ne_of_none e4 nf, s5 _ _ e4⟩
  have s04 := ((s1.trans s2).trans s3).trans s4
  have nf0 : H f = none := same_none s04 nf
  clear e1 e2 e3 e4 e5 s5 n1 n2 n3 n4
  refine b_cut (fun σ' H' => Fd H4 f formsL H' ∧ ∃ x y, σ' = [some (.ref f), x, y]) ?_ fun σ6 H6 ⟨F6, x6, y6, e6⟩ => ?_
  · refine s_forL C B.po ?_
    refine w_lstN ?_
    walk_at "go"
    refine ⟨szN 2, fun wl H6 n6 s6 e6 => ?_⟩
    have q6 : SqL m.K H6 wl _ := .inl (.inl e6)
    have nwl : wl ≠ f := F0.ne n6
    refine ⟨wl, (["now", "then"] : List Str).map V.str, rfl, q6, fun i σ' H' => Fd H4 f (forms4 ++ ((["now", "then"] : List Str).take i).flatMap fBlock) H' ∧ Mu f H6 H' ∧ ∃ x y, σ' = [some (.ref f), x, y], ⟨F0.keep s6, fun _ _ _ e => e, none, none, rfl⟩, fun i σ' H' _ p => Mu.seq p.2.1 nwl q6, fun i u σ' H' hu p => ?_, fun σ' H' p => ⟨p.1, p.2.2⟩⟩
    obtain ⟨F, u6, x, y, rfl⟩ := p
    obtain ⟨w, hw, rfl⟩ := map_at hu
    have hi : i < 2 := (List.getElem?_eq_some_iff.mp hw).1
    have hL : (forms4 ++ ((["now", "then"] : List Str).take i).flatMap fBlock).length < 50 := by
      rcases (show i = 0 ∨ i = 1 by omega) with rfl | rfl <;> decide +kernel
    have eL : forms4 ++ ((["now", "then"] : List Str).take (i + 1)).flatMap fBlock = (forms4 ++ ((["now", "then"] : List Str).take i).flatMap fBlock) ++ fBlock w := by
      rw [List.take_add_one, hw, List.flatMap_append, List.append_assoc]
      simp
    generalize forms4 ++ ((["now", "then"] : List Str).take i).flatMap fBlock = L at F hL eL
    walk_at "go"
    refine ⟨F.sq, ?_⟩
    refine w_lstN ?_
    walk_at "go"
    refine ⟨szN 4, fun r H7 n7 s7 e7 => ?_⟩
    obtain ⟨acc, a1, a2, F7⟩ := (F.keep s7).add (x := ["name", w, "strong", "v"]) e7 (F.ne n7) (by omega)
    refine ⟨acc, a1, a2, ?_⟩
    have u7 : Mu f H6 (upd H7 f (.lst (acc ++ [V.ref r]))) := (u6.trans (Mu.of s7)).trans Mu.upd
    generalize upd H7 f (.lst (acc ++ [V.ref r])) = H8 at F7 u7
    clear a1 a2 e7 s7 n7
    have hL7 : (L ++ [(["name", w, "strong", "v"] : List Str)]).length < 51 := by rw [List.length_append]; simp; omega
    have eB : L ++ fBlock w = (L ++ [(["name", w, "strong", "v"] : List Str)]) ++ ([2, 3, 4] : List Nat).flatMap (fSize w) := by
      rw [List.append_assoc]
      rfl
    generalize L ++ [(["name", w, "strong", "v"] : List Str)] = L7 at F7 hL7 eB
    refine b_one ?_
    refine s_forL C B.po ?_
    refine w_lstN ?_
    walk_at "go"
    refine ⟨szN 3, fun sl H9 n9 s9 e9 => ?_⟩
    have q9 : SqL m.K H9 sl _ := .inl (.inl e9)
    have nsl : sl ≠ f := F7.ne n9
    refine ⟨sl, ([2, 3, 4] : List Nat).map (fun n : Nat => V.int (n : Int)), rfl, q9, fun j σ' H' => Fd H4 f (L7 ++ (([2, 3, 4] : List Nat).take j).flatMap (fSize w)) H' ∧ Mu f H9 H' ∧ ∃ y, σ' = [some (.ref f), some (.str w), y], ⟨by simpa using F7.keep s9, fun _ _ _ e => e, y, rfl⟩, fun i σ' H' _ p => Mu.seq p.2.1 nsl q9, fun j u σ' H' hu p => ?_, fun σ' H' p => ?_⟩
    · obtain ⟨F, u9, y, rfl⟩ := p
      obtain ⟨s, hs, rfl⟩ := map_at hu
      have hj : j < 3 := (List.getElem?_eq_some_iff.mp hs).1
      have hs5 : s < 5 := by
        have := List.mem_of_getElem? hs
        simp at this
        omega
      have hLj : (L7 ++ (([2, 3, 4] : List Nat).take j).flatMap (fSize w)).length < 70 := by
        rw [List.length_append]
        have : ((([2, 3, 4] : List Nat).take j).flatMap (fSize w)).length < 10 := by
          rcases (show j = 0 ∨ j = 1 ∨ j = 2 by omega) with rfl | rfl | rfl <;> simp [fSize]
        omega
      have eL7 : L7 ++ (([2, 3, 4] : List Nat).take (j + 1)).flatMap (fSize w) = (L7 ++ (([2, 3, 4] : List Nat).take j).flatMap (fSize w)) ++ fSize w s := by
        rw [List.take_add_one, hs, List.flatMap_append, List.append_assoc]
        simp
      generalize L7 ++ (([2, 3, 4] : List Nat).take j).flatMap (fSize w) = L8 at F hLj eL7
      walk_at "go"
      refine ⟨F.sq, ?_⟩
      walk_at "go"
      refine w_lstN ?_
      walk_at "go"
      refine ⟨szN 3, fun r1 G1 n1 s1 e1 => ?_⟩
      walk_at "go"
      refine w_lstN ?_
      walk_at "go"
      refine ⟨szN 1, fun r2 G2 n2 s2 e2 => ?_⟩
      walk_at "go"
      refine o_zs (n := s) (m := m) (S := nForms) (k := 0) e2 rfl (by omega) fun r3 G3 n3 s3 e3 => ?_
      refine o_cat (s3 _ _ (s2 _ _ e1)) e3 (by simp [zs]; exact Nat.le_trans (show 3 + s ≤ 1000 by omega) (szN 1000)) fun r4 G4 n4 s4 e4 => ?_
      have s14 := ((s1.trans s2).trans s3).trans s4
      have F4 := F.keep s14
      have n4' : r4 ≠ f := (F.keep ((s1.trans s2).trans s3)).ne n4
      obtain ⟨acc, a1, a2, F5⟩ := F4.add (x := (["name", w, "free"] : List Str) ++ zs s) (by rw [e4, List.map_append]; rfl) n4' (by omega)
      refine ⟨acc, a1, a2, ?_⟩
      have u5 : Mu f H9 (upd G4 f (.lst (acc ++ [V.ref r4]))) := (u9.trans (Mu.of s14)).trans Mu.upd
      generalize upd G4 f (.lst (acc ++ [V.ref r4])) = G5 at F5 u5
      clear a1 a2 e1 e2 e3 e4 n1 n2 n3 n4 s1 s2 s3 s4 s14 F4 n4'
      walk_at "go"
      refine ⟨F5.sq, ?_⟩
      walk_at "go"
      refine w_lstN ?_
      walk_at "go"
      refine ⟨szN 3, fun r1 G1 n1 s1 e1 => ?_⟩
      walk_at "go"
      refine w_lstN ?_
      walk_at "go"
      refine ⟨szN 1, fun r2 G2 n2 s2 e2 => ?_⟩
      walk_at "go"
      refine o_mul (.inl (by decide)) ?_
      refine o_zs (n := 2 * s) (m := m) (S := nForms) (k := 0) e2 (by omega) (by omega) fun r3 G3 n3 s3 e3 => ?_
      refine o_cat (s3 _ _ (s2 _ _ e1)) e3 (by simp [zs]; exact Nat.le_trans (show 3 + 2 * s ≤ 1000 by omega) (szN 1000)) fun r4 G4 n4 s4 e4 => ?_
      have s14 := ((s1.trans s2).trans s3).trans s4
      have F4 := F5.keep s14
      have n4' : r4 ≠ f := (F5.keep ((s1.trans s2).trans s3)).ne n4
      obtain ⟨acc, a1, a2, F6⟩ := F4.add (x := (["name", w, "hangs"] : List Str) ++ zs (2 * s)) (by rw [e4, List.map_append]; rfl) n4' (by rw [List.length_append]; simp; omega)
      refine ⟨acc, a1, a2, ?_⟩
      have u6' : Mu f H9 (upd G4 f (.lst (acc ++ [V.ref r4]))) := (u5.trans (Mu.of s14)).trans Mu.upd
      generalize upd G4 f (.lst (acc ++ [V.ref r4])) = G6 at F6 u6'
      clear a1 a2 e1 e2 e3 e4 n1 n2 n3 n4 s1 s2 s3 s4 s14 F4 n4'
      refine b_one ?_
      walk_at "go"
      refine ⟨F6.sq, ?_⟩
      walk_at "go"
      refine w_lstN ?_
      walk_at "go"
      refine ⟨szN 4, fun r1 G1 n1 s1 e1 => ?_⟩
      walk_at "go"
      refine w_lstN ?_
      walk_at "go"
      refine ⟨szN 1, fun r2 G2 n2 s2 e2 => ?_⟩
      walk_at "go"
      refine o_zs (n := s) (m := m) (S := nForms) (k := 0) e2 rfl (by omega) fun r3 G3 n3 s3 e3 => ?_
      refine o_cat (s3 _ _ (s2 _ _ e1)) e3 (by simp [zs]; exact Nat.le_trans (show 4 + s ≤ 1000 by omega) (szN 1000)) fun r4 G4 n4 s4 e4 => ?_
      have s14 := ((s1.trans s2).trans s3).trans s4
      have F4 := F6.keep s14
      have n4' : r4 ≠ f := (F6.keep ((s1.trans s2).trans s3)).ne n4
      obtain ⟨acc, a1, a2, F7⟩ := F4.add (x := (["name", w, "holds", "n"] : List Str) ++ zs s) (by rw [e4, List.map_append]; rfl) n4' (by rw [List.length_append, List.length_append]; simp; omega)
      refine ⟨acc, a1, a2, ?_, (u6'.trans (Mu.of s14)).trans Mu.upd, _, rfl⟩
      have e8 : L8 ++ fSize w s = ((L8 ++ [(["name", w, "free"] : List Str) ++ zs s]) ++ [(["name", w, "hangs"] : List Str) ++ zs (2 * s)]) ++ [(["name", w, "holds", "n"] : List Str) ++ zs s] := by
        rw [List.append_assoc, List.append_assoc]
        rfl
      rw [eL7, e8]
      exact F7
    · obtain ⟨F, u9, y, rfl⟩ := p
      exact ⟨by rw [eL, eB]; exact F, (u7.trans (Mu.of s9)).trans u9, _, _, rfl⟩
  · subst e6
    walk_at "go"
    exact k f H6 nf0 (s04.trans F6.2.1) F6.at
end K9

set_option Elab.async false
set_option linter.all false
set_option maxRecDepth 100000
set_option maxHeartbeats 4000000
namespace K9
open PySem PySem.Spec PyProof.Rows L2 Wp
local macro_rules | `(tactic| walk_at "go1") => `(tactic| first
  | (with_reducible show wE _ (Expr.Name _ _) _ _ _); (first | refine wv ‹On _ _ _ _› 0 ?_ | refine wv ‹On _ _ _ _› 1 ?_ | refine wv ‹On _ _ _ _› 2 ?_ | refine wv ‹On _ _ _ _› 3 ?_ | refine wv ‹On _ _ _ _› 4 ?_ | refine wv ‹On _ _ _ _› 5 ?_ | refine wv ‹On _ _ _ _› 6 ?_ | refine wv ‹On _ _ _ _› 7 ?_ | refine wv ‹On _ _ _ _› 8 ?_ | refine wv ‹On _ _ _ _› 9 ?_ | refine wv ‹On _ _ _ _› 10 ?_ | refine wv ‹On _ _ _ _› 11 ?_ | refine wv ‹On _ _ _ _› 12 ?_ | refine wv ‹On _ _ _ _› 13 ?_)
  | with_reducible refine w_int ?_
  | with_reducible refine w_str ?_
  | with_reducible refine w_bl ?_
  | with_reducible refine w_non ?_
  | with_reducible refine w_bin ?_
  | (with_reducible show wE _ (Expr.Compare _ [_] [_] _) _ _ _); (refine w_cmp ?_)
  | (with_reducible show wT _ (Expr.Compare _ [_] [_] _) _ _ _); (refine wt_cmp ?_)
  | (with_reducible show wE _ (Expr.Compare _ [_, _] [_, _] _) _ _ _); (refine w_chain ?_)
  | (with_reducible show wT _ (Expr.Compare _ [_, _] [_, _] _) _ _ _); (refine wt_chain ?_)
  | with_reducible refine wt_not ?_
  | (with_reducible show wT _ (Expr.BoolOp _ _ _) _ _ _); (refine wt_w ?_)
  | with_reducible refine ww_and1 ?_
  | with_reducible refine ww_or1 ?_
  | with_reducible refine ww_and ?_
  | with_reducible refine ww_or ?_
  | with_reducible refine w_one ?_
  | with_reducible refine w_and ?_
  | with_reducible refine w_or ?_
  | with_reducible refine w_not ?_
  | with_reducible refine w_ifx ?_
  | (with_reducible show wT _ (Expr.Call _ _ _ _) _ _ _); (refine wt_val ?_)
  | with_reducible refine w_sl ?_
  | with_reducible refine w_slf ?_
  | with_reducible refine w_slt ?_
  | (with_reducible show wE _ (Expr.Subscript _ (Expr.Constant (Const.str _) _ _) _) _ _ _); (refine w_dgN ‹On _ _ _ _› ?_)
  | (with_reducible show DG _ _ _ _); (refine dget_at (by assumption) (by rfl) ?_)
  | (with_reducible show wE _ (Expr.Subscript _ (Expr.Constant _ _ _) _) _ _ _); (refine w_sub ?_)
  | (with_reducible show wE _ (Expr.Subscript _ (Expr.BinOp _ _ _ _) _) _ _ _); (refine w_sub ?_)
  | (with_reducible show wA _ (_ :: _) _ _ _); (refine wa_cons ?_)
  | with_reducible refine wa_nil ?_
  | with_reducible refine o_add ?_
  | with_reducible refine o_sub ?_
  | with_reducible refine o_lt ?_
  | with_reducible refine o_le ?_
  | with_reducible refine o_gt ?_
  | with_reducible refine o_ge ?_
  | with_reducible refine o_is ?_
  | with_reducible refine o_isnt ?_
  | (with_reducible show wO _ (compareOp CmpOp.Eq) _ _ _ _); (refine o_eq ?_)
  | (with_reducible show wO _ (compareOp CmpOp.NotEq) _ _ _ _); (refine o_ne ?_)
  | with_reducible refine b_one ?_
  | with_reducible refine b_nil ?_
  | with_reducible refine b_cons ?_
  | with_reducible refine s_if ?_
  | with_reducible refine s_ret ?_
  | with_reducible refine s_retN ?_
  | with_reducible refine s_pass ?_
  | with_reducible refine s_break ?_
  | with_reducible refine s_cont ?_
  | (with_reducible show wS _ (Stmt.Expr (Expr.Call (Expr.Attribute _ "append" _) [_] [] _) _) _ _ _); (refine s_append ‹On _ _ _ _› ?_)
  | (with_reducible show wS _ (Stmt.Expr _ _) _ _ _); (refine s_expr ?_)
  | (with_reducible show wE _ (Expr.ListComp _ _ _ _) _ _ _); (refine w_ofL ‹On _ _ _ _› ?_)
  | (with_reducible show wS _ (Stmt.Assign [Expr.Name _ _] (Expr.ListComp _ _ _ _) _) _ _ _); (first | refine s_ofL ‹On _ _ _ _› 0 ?_ | refine s_ofL ‹On _ _ _ _› 1 ?_ | refine s_ofL ‹On _ _ _ _› 2 ?_ | refine s_ofL ‹On _ _ _ _› 3 ?_ | refine s_ofL ‹On _ _ _ _› 4 ?_ | refine s_ofL ‹On _ _ _ _› 5 ?_ | refine s_ofL ‹On _ _ _ _› 6 ?_ | refine s_ofL ‹On _ _ _ _› 7 ?_ | refine s_ofL ‹On _ _ _ _› 8 ?_ | refine s_ofL ‹On _ _ _ _› 9 ?_ | refine s_ofL ‹On _ _ _ _› 10 ?_ | refine s_ofL ‹On _ _ _ _› 11 ?_ | refine s_ofL ‹On _ _ _ _› 12 ?_ | refine s_ofL ‹On _ _ _ _› 13 ?_)
  | (with_reducible show wS _ (Stmt.Assign [Expr.Name _ _] _ _) _ _ _); (first | refine s_set ‹On _ _ _ _› 0 ?_ | refine s_set ‹On _ _ _ _› 1 ?_ | refine s_set ‹On _ _ _ _› 2 ?_ | refine s_set ‹On _ _ _ _› 3 ?_ | refine s_set ‹On _ _ _ _› 4 ?_ | refine s_set ‹On _ _ _ _› 5 ?_ | refine s_set ‹On _ _ _ _› 6 ?_ | refine s_set ‹On _ _ _ _› 7 ?_ | refine s_set ‹On _ _ _ _› 8 ?_ | refine s_set ‹On _ _ _ _› 9 ?_ | refine s_set ‹On _ _ _ _› 10 ?_ | refine s_set ‹On _ _ _ _› 11 ?_ | refine s_set ‹On _ _ _ _› 12 ?_ | refine s_set ‹On _ _ _ _› 13 ?_)
  | (with_reducible show wS _ (Stmt.Assign [Expr.Subscript _ (Expr.Constant (Const.str _) _ _) _] _ _) _ _ _); (refine s_dput ‹On _ _ _ _› ?_)
  | (with_reducible show wG _ (Expr.Name _ _) _ _ _ _); (first | refine g_name ‹On _ _ _ _› 0 ?_ | refine g_name ‹On _ _ _ _› 1 ?_ | refine g_name ‹On _ _ _ _› 2 ?_ | refine g_name ‹On _ _ _ _› 3 ?_ | refine g_name ‹On _ _ _ _› 4 ?_ | refine g_name ‹On _ _ _ _› 5 ?_ | refine g_name ‹On _ _ _ _› 6 ?_ | refine g_name ‹On _ _ _ _› 7 ?_ | refine g_name ‹On _ _ _ _› 8 ?_ | refine g_name ‹On _ _ _ _› 9 ?_ | refine g_name ‹On _ _ _ _› 10 ?_ | refine g_name ‹On _ _ _ _› 11 ?_ | refine g_name ‹On _ _ _ _› 12 ?_ | refine g_name ‹On _ _ _ _› 13 ?_)
  | with_reducible refine iteT ?_
  | with_reducible refine iteF ?_
  | with_reducible refine iteNT ?_
  | with_reducible refine iteNF ?_
  | with_reducible refine Exists.intro _ (And.intro rfl ?_))
local macro_rules | `(tactic| walk_at "go") => `(tactic| repeat (walk_at "go1"))
/-! _law_vow_due -/
def keepsAt (ws : List Str) (k : Nat) (f : List Str) : Bool := decide (k < f.length) && lawFits (ws.getD k default) (f.getD k default)
def aliveAt (ws : List Str) : Nat → List (List Str)
  | 0 => formsL
  | k + 1 => (aliveAt ws k).filter (keepsAt ws k)
def kindF (f : List Str) : Str := if nowB (f.getD 1 default) then f.getD 2 default else f.getD 1 default
def dueEnd (ws : List Str) : Except Nat Str :=
  match (List.range ws.length).find? (fun k => (aliveAt ws (k + 1)).isEmpty) with
  | some k => .error (k + 1)
  | none => match (aliveAt ws ws.length).filter (fun f => decide (f.length = ws.length)) with
    | [] => .error (ws.length + 1)
    | f :: _ => .ok (kindF f)
theorem alive_sub {ws : List Str} : ∀ (k : Nat) (f : List Str), f ∈ aliveAt ws k → f ∈ formsL
  | 0, f, h => h
  | k + 1, f, h => alive_sub k f (List.mem_filter.mp h).1
theorem alive_len {ws : List Str} : ∀ k : Nat, (aliveAt ws k).length ≤ 24
  | 0 => by show formsL.length ≤ 24; decide +kernel
  | k + 1 => Nat.le_trans (List.length_filter_le _ _) (alive_len k)
def DueV (K : PySem.W.Frag) (t : Str) (ws : List Str) (H : Hp) (v : V) : Except Nat Str → Prop
  | .error c => ∃ a, v = .ref a ∧ H a = some (.tup [.str "text", .int 1, .int (c : Int)])
  | .ok kind => ∃ a b, v = .ref a ∧ H a = some (.tup [.str "told", .ref b]) ∧ H b = some (.tup [.str t, .str (ws.getD 0 default), .str kind, otherOf ws kind])
def spDue (K : PySem.W.Frag) : Sp := fun vs H Q _ => ∃ t : Str, vs = [.str t] ∧ t.length ≤ 1000000 ∧ chOk t ∧ ∀ v H', Same H H' → DueV K t (Txt.split t " ") H' v (dueEnd (Txt.split t " ")) → Q v H'
abbrev nDue : Nm := defNmC ["text", "words", "alive", "k", "form", "kind"] sDue ["isinstance", "str", "_law_vow_forms", "range", "len"] [2] [4]
theorem formsL_ok : formsL.all (fun f => decide (2 ≤ f.length) && ((!nowB (f.getD 1 default) || decide (3 ≤ f.length)) && (!decide (kindF f = ("like" : Str)) || decide (f.length = 3)) && f.all fun z => z.cps.all (· < 128))) = true := by decide +kernel
theorem forms_ok {f : List Str} (h : f ∈ formsL) : 2 ≤ f.length ∧ (nowB (f.getD 1 default) = true → 3 ≤ f.length) ∧ (kindF f = ("like" : Str) → 3 ≤ f.length) ∧ ∀ z ∈ f, chOk z := by
  have e := List.all_eq_true.mp formsL_ok f h
  simp only [Bool.and_eq_true, decide_eq_true_eq, Bool.or_eq_true, Bool.not_eq_true', List.all_eq_true] at e
  obtain ⟨e1, ⟨e2, e3⟩, e4⟩ := e
  refine ⟨e1, fun z => ?_, fun z => ?_, fun z hz c hc => ?_⟩
  · rcases e2 with e2 | e2
    · rw [z] at e2; cases e2
    · exact e2
  · rcases e3 with e3 | e3
    · exact absurd z (of_decide_eq_false e3)
    · omega
  · have := e4 z hz
    rw [Array.all_eq_true_iff_forall_mem] at this
    have h2 := this c (by simpa using hc)
    simpa using h2
theorem alive_ok {K : PySem.W.Frag} {H : Hp} : ∀ {l : List (Addr × List Str)}, (∀ z ∈ l, SqL K H z.1 (z.2.map V.str)) → DpAll K H (l.map fun z => V.ref z.1) (l.map fun z => PyData.list (z.2.map .str))
  | [], _ => .nil
  | z :: r, h => .cons (.lst (h z List.mem_cons_self) (dpStrs _)) (alive_ok fun x hx => h x (List.mem_cons_of_mem _ hx))
theorem lists_ok {l : List (Addr × List Str)} (h : ∀ z ∈ l, z.2 ∈ formsL) : ∀ d ∈ l.map (fun z => PyData.list (z.2.map .str)), d.canLay0 = true ∧ d.depth ≤ 10 := fun d hd => by
  obtain ⟨z, hz, rfl⟩ := List.mem_map.mp hd
  have h1 := (forms_ok (h z hz)).2.2.2
  have a := shp (strs_ok h1)
  unfold SeqAt.shaped at a
  simp only [Bool.and_eq_true, decide_eq_true_eq] at a
  refine ⟨a.1, ?_⟩
  have b : ∀ ws : List Str, PyData.depthAll (ws.map .str) = 0 := by
    intro ws
    induction ws with
    | nil => simp [PyData.depthAll]
    | cons w r ih => simp [PyData.depthAll, PyData.depth, ih]
  simp [PyData.depth, b]
theorem b_due {X : Cx} {m : Md} {vs : List V} {H : Hp} {Q : VK} {E : XK} (T : Txt m) (G1 : Df m 3 "_law_vow_forms" [] (spForms m.K)) (G2 : Df m 3 "_law_fits" ["word", "form"] spLFits) (C : On X nDue m 3) (B : Bd X E) (h : spDue m.K vs H Q E) :
    wB X (defBody sDue) (out Q) (start nDue.N vs) H := by
  obtain ⟨t, rfl, ht, hch, k⟩ := h
  refine b_cons ?_
  walk_at "go"
  refine w_isi C 0 T.isinstance ?_
  walk_at "go"
  refine wgb C 1 T.str PyProof.Rows.boot_str (v := .ty "str") rfl ?_
  walk_at "go"
  refine ⟨.str t, "str", "str", true, rfl, isi_str, kit_ss, ?_⟩
  walk_at "go"
  refine s_asg (hw := sw2c C.kind (by rw [C.hsc]; decide +kernel) (by rfl)) ?_
  refine w_tupN ?_
  walk_at "go"
  refine w_split ?_
  walk_at "go"
  refine ⟨Nat.le_trans (Nat.add_le_add_right ht 2) (by decide), ?_⟩
  walk_at "go"
  refine ⟨by decide, fun w H1 hw s1 e1 => ?_⟩
  have hps : ∀ p ∈ Txt.split t " ", p.length ≤ 1000000 := fun p hp => Nat.le_trans (PyProof.Rows.part_short hp) ht
  have hpc := split_ch (y := " ") hch
  have hpl := split_len (s := " ") ht
  have hpos : 1 ≤ (Txt.split t " ").length := PyProof.Rows.split_pos t " "
  generalize hws : Txt.split t " " = ws at k hps hpl hpos e1 hpc
  have q1 : SqL m.K H1 w (ws.map V.str) := .inl (.inl e1)
  walk_at "go"
  refine w_call0 C 2 G1 ⟨rfl, fun f H2' nf s2' F2' => ?_⟩
  walk_at "go"
  refine ⟨szN 2, fun tp H2 _ s2'' e2'' => ?_⟩
  have s2 := s2'.trans s2''
  have F2 := F2'.keep s2''
  have q2 := s2.seq q1
  unfold dueEnd at k
  refine g_two C 1 2 (.inl (.inl e2'')) ?_
  refine b_cons ?_
  refine s_cut (fun σ' H' => Same H2 H' ∧ (∀ j < ws.length, (aliveAt ws (j + 1)).isEmpty = false) ∧ ∃ al x y, FormsAt m.K H' al (aliveAt ws ws.length) ∧ σ' = [some (.str t), some (.ref w), some (.ref al), x, y, none]) ?_ fun σ3 H3 ⟨s3, hall, al, x3, y3, F3, e3⟩ => ?_
  · refine s_forR C B.po 3 T.range ?_
    refine w_lenL C 4 T.len ?_
    walk_at "go"
    refine ⟨w, _, rfl, .inl q2, ?_⟩
    rw [List.length_map]
    refine ⟨_, rfl, ⟨by omega, by omega⟩, fun i σ' H' => Same H2 H' ∧ (∀ j < i, (aliveAt ws (j + 1)).isEmpty = false) ∧ ∃ al x y, FormsAt m.K H' al (aliveAt ws i) ∧ σ' = [some (.str t), some (.ref w), some (.ref al), x, y, none], ⟨Same.refl _, fun j hj => absurd hj (Nat.not_lt_zero _), f, none, none, F2, rfl⟩, fun i σ' H' hi p => ?_, fun σ' H' p => ?_⟩
    · obtain ⟨s3, hall, al, x, y, F, rfl⟩ := p
      have hi' : i < ws.length := by simpa using hi
      obtain ⟨l, l1, l2, l3⟩ := F
      have q3 := s3.seq q2
      have hwi := List.getElem?_eq_getElem hi'
      walk_at "go"
      refine lcLIf C 4 ["len", "_law_fits"] [1, 3, 4] (by decide +kernel) ?_ (fun _ => rfl)
      walk_at "go"
      have hll : l.length ≤ 1000 := by
        have h1 := alive_len (ws := ws) i
        rw [← l3, List.length_map] at h1
        omega
      refine ⟨al, _, rfl, l1, by rw [List.length_map]; omega, fun j => if keepsAt ws i (l.getD j default).2 then some (V.ref (l.getD j default).1) else none, fun j u H4 X2 hu s4 C2 => ?_, fun p H4 hp s4 e4 => ?_⟩
      · rw [List.getElem?_map] at hu
        obtain ⟨z, hz, rfl⟩ := Option.map_eq_some_iff.mp hu
        have qz := s4.seq (l2 z (List.mem_of_getElem? hz))
        dsimp only
        rw [getD_of' hz]
        walk_at "go"
        refine w_lenL C2 0 T.len ?_
        walk_at "go"
        refine ⟨z.1, _, rfl, .inl qz, ?_⟩
        walk_at "go"
        rw [List.length_map, show decide ((i : Int) < (z.2.length : Int)) = decide (i < z.2.length) from dec_iff (by omega)]
        unfold keepsAt
        refine ite2b (fun h1 => ?_) (fun h1 => ?_)
        · have hlt : i < z.2.length := of_decide_eq_true h1
          walk_at "go"
          refine w_call C2 1 G2 ?_
          walk_at "go"
          refine w_subN ?_
          walk_at "go"
          refine i_list C2 (s4.seq q3) (atI_nat (j := i) (at_map hwi)) ?_
          walk_at "go"
          refine w_subN ?_
          walk_at "go"
          refine i_list C2 qz (atI_nat (j := i) (at_map (List.getElem?_eq_getElem hlt))) ?_
          walk_at "go"
          refine ⟨_, _, rfl, hps _ (List.getElem_mem hi'), hpc _ (List.getElem_mem hi'), fun H5 s5 => ?_⟩
          refine ⟨_, rfl, ?_⟩
          rw [h1, getD_of' hwi, getD_of' (List.getElem?_eq_getElem hlt)]
          refine ite2b (fun h2 => ?_) (fun h2 => ?_)
          · intro X4 C4
            rw [h2]
            walk_at "go"
            exact ⟨s5, rfl⟩
          · rw [h2]
            exact ⟨s5, rfl⟩
        · rw [h1]
          exact ⟨Same.refl _, rfl⟩
      · replace e4 : H4 p = some (.lst ((l.filter fun z => keepsAt ws i z.2).map fun z => V.ref z.1)) := by
          rw [e4, List.length_map, ← fm_filter (p := fun z : Addr × List Str => keepsAt ws i z.2) (g := fun z => V.ref z.1)]
        have al1 : (l.filter fun z => keepsAt ws i z.2).map (·.2) = aliveAt ws (i + 1) := by
          show _ = (aliveAt ws i).filter (keepsAt ws i)
          rw [← l3, List.filter_map]
          rfl
        have ok4 : ∀ z ∈ l.filter fun z => keepsAt ws i z.2, SqL m.K H4 z.1 (z.2.map V.str) := fun z hz => s4.seq (l2 z (List.mem_filter.mp hz).1)
        have sub4 : ∀ z ∈ l.filter fun z => keepsAt ws i z.2, z.2 ∈ formsL := fun z hz => alive_sub (i + 1) z.2 (by rw [← al1]; exact List.mem_map_of_mem hz)
        generalize (l.filter fun z => keepsAt ws i z.2) = l' at e4 al1 ok4 sub4
        walk_at "go"
        refine w_lstN ?_
        walk_at "go"
        refine ⟨szN 0, fun b H5 _ s5 e5 => ?_⟩
        refine o_eqNil C (.lst (.inl (.inl (s5 _ _ e4))) (alive_ok fun z hz => s5.seq (ok4 z hz))) (lists_ok sub4) e5 ?_
        have eE : (l'.map fun z => PyData.list (z.2.map .str)).isEmpty = (aliveAt ws (i + 1)).isEmpty := by
          rw [emp_map, ← al1, emp_map]
        rw [eE]
        refine ⟨_, rfl, ?_⟩
        refine ite2b (fun h1 => ?_) (fun h1 => ?_)
        · walk_at "go"
          refine w_tupN ?_
          walk_at "go"
          refine ⟨szN 3, fun r H6 _ s6 e6 => ?_⟩
          rw [find_at (p := fun k => (aliveAt ws (k + 1)).isEmpty) hi' h1 hall] at k
          refine k _ H6 (((((s1.trans s2).trans s3).trans s4).trans s5).trans s6) ⟨r, rfl, e6⟩
        · walk_at "go"
          refine ⟨(s3.trans s4).trans s5, fun j hj => ?_, p, _, _, ⟨l', .inl (.inl (s5 _ _ e4)), fun z hz => s5.seq (ok4 z hz), al1⟩, rfl⟩
          by_cases e : j = i
          · rw [e]; exact h1
          · exact hall j (by omega)
    · obtain ⟨s3, hall, al, x, y, F, rfl⟩ := p
      have e0 : ((ws.length : Int)).toNat = ws.length := Int.toNat_natCast _
      rw [e0] at hall F
      exact ⟨s3, hall, al, x, y, F, rfl⟩
  · subst e3
    rw [find_no hall] at k
    dsimp only at k
    obtain ⟨l, l1, l2, l3⟩ := F3
    have hll : l.length ≤ 1000 := by
      have h1 := alive_len (ws := ws) ws.length
      rw [← l3, List.length_map] at h1
      omega
    have q3 := s3.seq q2
    walk_at "go"
    refine lcLIf C 4 ["len"] [1, 4] (by decide +kernel) ?_ (fun _ => rfl)
    walk_at "go"
    refine ⟨al, _, rfl, l1, by rw [List.length_map]; omega, fun j => if decide ((l.getD j default).2.length = ws.length) then some (V.ref (l.getD j default).1) else none, fun j u H4 X2 hu s4 C2 => ?_, fun p H4 hp s4 e4 => ?_⟩
    · rw [List.getElem?_map] at hu
      obtain ⟨z, hz, rfl⟩ := Option.map_eq_some_iff.mp hu
      have qz := s4.seq (l2 z (List.mem_of_getElem? hz))
      dsimp only
      rw [getD_of' hz]
      walk_at "go"
      refine w_lenL C2 0 T.len ?_
      walk_at "go"
      refine ⟨z.1, _, rfl, .inl qz, ?_⟩
      walk_at "go"
      refine w_lenL C2 0 T.len ?_
      walk_at "go"
      refine ⟨w, _, rfl, .inl (s4.seq q3), ?_⟩
      walk_at "go"
      rw [dec_len ws.length (by rw [List.length_map])]
      refine ite2b (fun h2 => ?_) (fun h2 => ?_)
      · intro X4 C4
        rw [h2]
        walk_at "go"
        exact ⟨Same.refl _, rfl⟩
      · rw [h2]
        exact ⟨Same.refl _, rfl⟩
    · replace e4 : H4 p = some (.lst ((l.filter fun z => decide (z.2.length = ws.length)).map fun z => V.ref z.1)) := by
        rw [e4, List.length_map, ← fm_filter (p := fun z : Addr × List Str => decide (z.2.length = ws.length)) (g := fun z => V.ref z.1)]
      have al1 : (l.filter fun z => decide (z.2.length = ws.length)).map (·.2) = (aliveAt ws ws.length).filter fun f => decide (f.length = ws.length) := by
        rw [← l3, List.filter_map]
        rfl
      have ok4 : ∀ z ∈ l.filter fun z => decide (z.2.length = ws.length), SqL m.K H4 z.1 (z.2.map V.str) := fun z hz => s4.seq (l2 z (List.mem_filter.mp hz).1)
      have sub4 : ∀ z ∈ l.filter fun z => decide (z.2.length = ws.length), z.2 ∈ formsL ∧ z.2.length = ws.length := fun z hz =>
        ⟨alive_sub ws.length z.2 (by rw [← l3]; exact List.mem_map_of_mem (List.mem_filter.mp hz).1), of_decide_eq_true (List.mem_filter.mp hz).2⟩
      generalize (l.filter fun z => decide (z.2.length = ws.length)) = l' at e4 al1 ok4 sub4
      walk_at "go"
      refine w_lstN ?_
      walk_at "go"
      refine ⟨szN 0, fun b H5 _ s5 e5 => ?_⟩
      refine o_eqNil C (.lst (.inl (.inl (s5 _ _ e4))) (alive_ok fun z hz => s5.seq (ok4 z hz))) (lists_ok fun z hz => (sub4 z hz).1) e5 ?_
      rw [emp_map]
      refine ⟨_, rfl, ?_⟩
      rw [← al1] at k
      have s05 := ((((s1.trans s2).trans s3).trans s4).trans s5)
      match l', e4, al1, ok4, sub4, k with
      | [], e4, al1, ok4, sub4, k =>
        refine iteTe rfl ?_
        walk_at "go"
        refine w_tupN ?_
        walk_at "go"
        refine w_lenL C 4 T.len ?_
        walk_at "go"
        refine ⟨w, _, rfl, .inl ((s4.trans s5).seq q3), ?_⟩
        walk_at "go"
        rw [List.length_map]
        refine ⟨szN 3, fun r H6 _ s6 e6 => ?_⟩
        exact k _ H6 (s05.trans s6) ⟨r, rfl, e6⟩
      | z :: l', e4, al1, ok4, sub4, k =>
        refine iteFe rfl ?_
        obtain ⟨sz1, sz2⟩ := sub4 z List.mem_cons_self
        obtain ⟨g1, g2, g3, g4⟩ := forms_ok sz1
        have q5 := (s4.trans s5).seq q3
        have qa : SqL m.K H5 p _ := .inl (.inl (s5 _ _ e4))
        have qz := s5.seq (ok4 z List.mem_cons_self)
        have h1 := List.getElem?_eq_getElem (show 1 < z.2.length by omega)
        refine b_nil ?_
        refine b_cons ?_
        refine s_set C 5 ?_
        refine wE_mono (Q := fun v H6 => Same H5 H6 ∧ v = V.str (kindF z.2)) ?_ fun v H6 ⟨s6, ev⟩ => ?_
        · walk_at "go"
          refine i_list C qa (atI_nat (j := 0) rfl) ?_
          walk_at "go"
          refine i_list C qz (atI_nat (j := 1) (at_map h1)) ?_
          walk_at "go"
          refine w_lstN ?_
          walk_at "go"
          refine ⟨szN 2, fun r H6 _ s6 e6 => ?_⟩
          refine o_inS C (.inl (.inl (.inl e6))) rfl rfl ?_
          rw [inV_two]
          refine ⟨_, rfl, ?_⟩
          unfold kindF
          rw [getD_of' h1]
          refine ite2b (fun h2 => ?_) (fun h2 => ?_)
          · rw [h2]
            have hz2 := List.getElem?_eq_getElem (show 2 < z.2.length by exact g2 (by rw [getD_of' h1]; exact h2))
            rw [getD_of' hz2]
            walk_at "go"
            refine i_list C (s6.seq qa) (atI_nat (j := 0) rfl) ?_
            walk_at "go"
            refine i_list C (s6.seq qz) (atI_nat (j := 2) (at_map hz2)) ?_
            exact ⟨s6, rfl⟩
          · rw [h2]
            walk_at "go"
            refine i_list C (s6.seq qa) (atI_nat (j := 0) rfl) ?_
            walk_at "go"
            refine i_list C (s6.seq qz) (atI_nat (j := 1) (at_map h1)) ?_
            exact ⟨s6, rfl⟩
        · subst ev
          have q6 := s6.seq q5
          obtain ⟨x0, hx0⟩ : ∃ x0, ws[0]? = some x0 := ⟨ws[0]'(by omega), List.getElem?_eq_getElem _⟩
          walk_at "go"
          refine w_tupN ?_
          walk_at "go"
          refine w_tupN ?_
          walk_at "go"
          refine i_list C q6 (atI_nat (j := 0) (at_map hx0)) ?_
          walk_at "go"
          rw [dec_strS]
          have fin : ∀ v, v = otherOf ws (kindF z.2) → (fun xs H1 => xs.length ≤ sizeLine ∧ NewT xs H1 fun x H7 => wA X [] [some (.str t), some (.ref w), some (.ref p), x3, y3, some (.str (kindF z.2))] H7 fun xs H8 => (V.str "told" :: x :: xs).length ≤ sizeLine ∧ NewT (V.str "told" :: x :: xs) H8 Q) [.str t, .str x0, .str (kindF z.2), v] H6 := fun v ev => by
            refine ⟨szN 4, fun b1 H7 _ s7 e7 => ?_⟩
            walk_at "go"
            refine ⟨szN 2, fun b2 H8 _ s8 e8 => ?_⟩
            refine k _ H8 (((s05.trans s6).trans s7).trans s8) ⟨b2, b1, rfl, e8, ?_⟩
            rw [s8 _ _ e7, ev, getD_of' hx0]
          refine ite2b (fun h2 => ?_) (fun h2 => ?_)
          · have hl3 := g3 (of_decide_eq_true h2)
            have hx2 := List.getElem?_eq_getElem (show 2 < ws.length by omega)
            walk_at "go"
            refine i_list C q6 (atI_nat (j := 2) (at_map hx2)) ?_
            walk_at "go"
            exact fin _ (by unfold otherOf; rw [if_pos (of_decide_eq_true h2), getD_of' hx2])
          · walk_at "go"
            exact fin _ (by unfold otherOf; rw [if_neg (of_decide_eq_false h2)])
end K9

set_option Elab.async false
set_option linter.all false
set_option maxRecDepth 100000
set_option maxHeartbeats 4000000
namespace K9
open PySem PySem.Spec PyProof.Rows L2 Wp
local macro_rules | `(tactic| walk_at "go1") => `(tactic| first
  | (with_reducible show wE _ (Expr.Name _ _) _ _ _); (first | refine wv ‹On _ _ _ _› 0 ?_ | refine wv ‹On _ _ _ _› 1 ?_ | refine wv ‹On _ _ _ _› 2 ?_ | refine wv ‹On _ _ _ _› 3 ?_ | refine wv ‹On _ _ _ _› 4 ?_ | refine wv ‹On _ _ _ _› 5 ?_ | refine wv ‹On _ _ _ _› 6 ?_ | refine wv ‹On _ _ _ _› 7 ?_ | refine wv ‹On _ _ _ _› 8 ?_ | refine wv ‹On _ _ _ _› 9 ?_ | refine wv ‹On _ _ _ _› 10 ?_ | refine wv ‹On _ _ _ _› 11 ?_ | refine wv ‹On _ _ _ _› 12 ?_ | refine wv ‹On _ _ _ _› 13 ?_)
  | with_reducible refine w_int ?_
  | with_reducible refine w_str ?_
  | with_reducible refine w_bl ?_
  | with_reducible refine w_non ?_
  | with_reducible refine w_bin ?_
  | (with_reducible show wE _ (Expr.Compare _ [_] [_] _) _ _ _); (refine w_cmp ?_)
  | (with_reducible show wT _ (Expr.Compare _ [_] [_] _) _ _ _); (refine wt_cmp ?_)
  | (with_reducible show wE _ (Expr.Compare _ [_, _] [_, _] _) _ _ _); (refine w_chain ?_)
  | (with_reducible show wT _ (Expr.Compare _ [_, _] [_, _] _) _ _ _); (refine wt_chain ?_)
  | with_reducible refine wt_not ?_
  | (with_reducible show wT _ (Expr.BoolOp _ _ _) _ _ _); (refine wt_w ?_)
  | with_reducible refine ww_and1 ?_
  | with_reducible refine ww_or1 ?_
  | with_reducible refine ww_and ?_
  | with_reducible refine ww_or ?_
  | with_reducible refine w_one ?_
  | with_reducible refine w_and ?_
  | with_reducible refine w_or ?_
  | with_reducible refine w_not ?_
  | with_reducible refine w_ifx ?_
  | (with_reducible show wT _ (Expr.Call _ _ _ _) _ _ _); (refine wt_val ?_)
  | with_reducible refine w_sl ?_
  | with_reducible refine w_slf ?_
  | with_reducible refine w_slt ?_
  | (with_reducible show wE _ (Expr.Subscript _ (Expr.Constant (Const.str _) _ _) _) _ _ _); (refine w_dgN ‹On _ _ _ _› ?_)
  | (with_reducible show DG _ _ _ _); (refine dget_at (by assumption) (by rfl) ?_)
  | (with_reducible show wE _ (Expr.Subscript _ (Expr.Constant _ _ _) _) _ _ _); (refine w_sub ?_)
  | (with_reducible show wE _ (Expr.Subscript _ (Expr.BinOp _ _ _ _) _) _ _ _); (refine w_sub ?_)
  | (with_reducible show wA _ (_ :: _) _ _ _); (refine wa_cons ?_)
  | with_reducible refine wa_nil ?_
  | with_reducible refine o_add ?_
  | with_reducible refine o_sub ?_
  | with_reducible refine o_lt ?_
  | with_reducible refine o_le ?_
  | with_reducible refine o_gt ?_
  | with_reducible refine o_ge ?_
  | with_reducible refine o_is ?_
  | with_reducible refine o_isnt ?_
  | (with_reducible show wO _ (compareOp CmpOp.Eq) _ _ _ _); (refine o_eq ?_)
  | (with_reducible show wO _ (compareOp CmpOp.NotEq) _ _ _ _); (refine o_ne ?_)
  | with_reducible refine b_one ?_
  | with_reducible refine b_nil ?_
  | with_reducible refine b_cons ?_
  | with_reducible refine s_if ?_
  | with_reducible refine s_ret ?_
  | with_reducible refine s_retN ?_
  | with_reducible refine s_pass ?_
  | with_reducible refine s_break ?_
  | with_reducible refine s_cont ?_
  | (with_reducible show wS _ (Stmt.Expr (Expr.Call (Expr.Attribute _ "append" _) [_] [] _) _) _ _ _); (refine s_append ‹On _ _ _ _› ?_)
  | (with_reducible show wS _ (Stmt.Expr _ _) _ _ _); (refine s_expr ?_)
  | (with_reducible show wE _ (Expr.ListComp _ _ _ _) _ _ _); (refine w_ofL ‹On _ _ _ _› ?_)
  | (with_reducible show wS _ (Stmt.Assign [Expr.Name _ _] (Expr.ListComp _ _ _ _) _) _ _ _); (first | refine s_ofL ‹On _ _ _ _› 0 ?_ | refine s_ofL ‹On _ _ _ _› 1 ?_ | refine s_ofL ‹On _ _ _ _› 2 ?_ | refine s_ofL ‹On _ _ _ _› 3 ?_ | refine s_ofL ‹On _ _ _ _› 4 ?_ | refine s_ofL ‹On _ _ _ _› 5 ?_ | refine s_ofL ‹On _ _ _ _› 6 ?_ | refine s_ofL ‹On _ _ _ _› 7 ?_ | refine s_ofL ‹On _ _ _ _› 8 ?_ | refine s_ofL ‹On _ _ _ _› 9 ?_ | refine s_ofL ‹On _ _ _ _› 10 ?_ | refine s_ofL ‹On _ _ _ _› 11 ?_ | refine s_ofL ‹On _ _ _ _› 12 ?_ | refine s_ofL ‹On _ _ _ _› 13 ?_)
  | (with_reducible show wS _ (Stmt.Assign [Expr.Name _ _] _ _) _ _ _); (first | refine s_set ‹On _ _ _ _› 0 ?_ | refine s_set ‹On _ _ _ _› 1 ?_ | refine s_set ‹On _ _ _ _› 2 ?_ | refine s_set ‹On _ _ _ _› 3 ?_ | refine s_set ‹On _ _ _ _› 4 ?_ | refine s_set ‹On _ _ _ _› 5 ?_ | refine s_set ‹On _ _ _ _› 6 ?_ | refine s_set ‹On _ _ _ _› 7 ?_ | refine s_set ‹On _ _ _ _› 8 ?_ | refine s_set ‹On _ _ _ _› 9 ?_ | refine s_set ‹On _ _ _ _› 10 ?_ | refine s_set ‹On _ _ _ _› 11 ?_ | refine s_set ‹On _ _ _ _› 12 ?_ | refine s_set ‹On _ _ _ _› 13 ?_)
  | (with_reducible show wS _ (Stmt.Assign [Expr.Subscript _ (Expr.Constant (Const.str _) _ _) _] _ _) _ _ _); (refine s_dput ‹On _ _ _ _› ?_)
  | (with_reducible show wG _ (Expr.Name _ _) _ _ _ _); (first | refine g_name ‹On _ _ _ _› 0 ?_ | refine g_name ‹On _ _ _ _› 1 ?_ | refine g_name ‹On _ _ _ _› 2 ?_ | refine g_name ‹On _ _ _ _› 3 ?_ | refine g_name ‹On _ _ _ _› 4 ?_ | refine g_name ‹On _ _ _ _› 5 ?_ | refine g_name ‹On _ _ _ _› 6 ?_ | refine g_name ‹On _ _ _ _› 7 ?_ | refine g_name ‹On _ _ _ _› 8 ?_ | refine g_name ‹On _ _ _ _› 9 ?_ | refine g_name ‹On _ _ _ _› 10 ?_ | refine g_name ‹On _ _ _ _› 11 ?_ | refine g_name ‹On _ _ _ _› 12 ?_ | refine g_name ‹On _ _ _ _› 13 ?_)
  | with_reducible refine iteT ?_
  | with_reducible refine iteF ?_
  | with_reducible refine iteNT ?_
  | with_reducible refine iteNF ?_
  | with_reducible refine Exists.intro _ (And.intro rfl ?_))
local macro_rules | `(tactic| walk_at "go") => `(tactic| repeat (walk_at "go1"))
/-! _law_shown -/
structure VowI (m : Md) (CA : Addr) : Prop where
  cl : Cls m.K CA
  g : m.mg "Vow" = some (.ref CA)
  ha : PySem.W.findIn m.K (.ref CA) "__class__" = some (some (.builtin "object.__class__"))
  hn : PySem.W.specialIn m.K (.builtin "object.__class__") "__get__" = some (some (.builtin "getset_descriptor.__get__"))
  htk : PySem.W.takesIn m.K (.builtin "object.__class__") = some true
  hm : PySem.W.mroIn m.K CA (.type "object") = some true
  no : ∀ f ∈ (["text", "name", "kind", "other"] : List Str), NoAttr m.K CA f
def spShown (CA : Addr) : Sp := fun vs H Q _ => ∃ (a : Addr) (t kind : Str) (ws : List Str), vs = [.ref a] ∧ VowIs CA t kind ws H a ∧ ∀ r H', Same H H' → H' r = some (.tup [.str t, .str (ws.getD 0 default), .str kind, otherOf ws kind]) → Q (.ref r) H'
abbrev nShown : Nm := defNm ["vow"] sShown ["isinstance", "Vow"] [0]
theorem b_shown {X : Cx} {m : Md} {vs : List V} {H : Hp} {Q : VK} {E : XK} {CA : Addr} (T : Txt m) (I : VowI m CA) (C : On X nShown m 0) (B : Bd X E) (h : spShown CA vs H Q E) : wB X (defBody sShown) (out Q) (start nShown.N vs) H := by
  obtain ⟨a, t, kind, ws, rfl, ⟨dx, fs, ha, f1, f2, f3, f4⟩, k⟩ := h
  refine b_cons ?_
  refine s_if ?_
  refine wt_not ?_
  refine wt_val ?_
  refine w_cb C 0 call_isi T.isinstance PyProof.Rows.boot_isinstance ?_
  walk_at "go"
  refine wg C 1 I.g (v := .ref CA) rfl ?_
  walk_at "go"
  have kk : PySem.W.kitOne m.K (.ref CA) (.ref CA) = some true := by
    unfold PySem.W.kitOne
    rw [if_pos (by simp)]
  refine ⟨.ref a, .ref CA, .ref CA, .ref CA, true, rfl, .own CA, .base (.ins ha (by rw [C.K]; exact I.cl) (by rw [C.K]; exact I.ha) (by rw [C.K]; exact I.hn) (by rw [C.K]; exact I.htk) (by rw [C.K]; exact I.hm)), by rw [C.K]; exact kk, ?_⟩
  walk_at "go"
  refine w_tupN ?_
  walk_at "go"
  refine w_fld C I.cl (I.no _ (by simp)) ?_
  walk_at "go"
  refine ⟨a, dx, fs, _, rfl, ha, f1, ?_⟩
  walk_at "go"
  refine w_fld C I.cl (I.no _ (by simp)) ?_
  walk_at "go"
  refine ⟨a, dx, fs, _, rfl, ha, f2, ?_⟩
  walk_at "go"
  refine w_fld C I.cl (I.no _ (by simp)) ?_
  walk_at "go"
  refine ⟨a, dx, fs, _, rfl, ha, f3, ?_⟩
  walk_at "go"
  refine w_fld C I.cl (I.no _ (by simp)) ?_
  walk_at "go"
  refine ⟨a, dx, fs, _, rfl, ha, f4, ?_⟩
  walk_at "go"
  exact ⟨szN 4, fun r H' _ s e => k r H' s e⟩
/-! _law_met -/
abbrev nMet : Nm := defNm ["call", "e"] sMet ["BadText", "BadName", "NoName", "TakenName", "BadNumber", "BadLand", "NotThere", "BadArrangement", "Unlike", "NotKept", "NothingToUndo", "NothingToRedo"] [0, 1]
structure MetC (m : Md) (CB : Addr) : Prop where
  gB : m.mg "BadText" = some (.ref CB)
  ex : PySem.W.exmOne m.K (.ref CB) (.ref CB) = some true
  xf : XfC m.K CB
  nl : PySem.W.findIn m.K (.ref CB) "line" = some none
  nc : PySem.W.findIn m.K (.ref CB) "column" = some none
  oth : ∀ x ∈ (["BadName", "NoName", "TakenName", "BadNumber", "BadLand", "NotThere", "BadArrangement", "Unlike", "NotKept", "NothingToUndo", "NothingToRedo"] : List Str), ∃ v, m.mg x = some v
/-- what _law_met makes of its call: tl, the call's reading -/
def TMet (CB : Addr) : (XK → Hp → VK → Prop) → Hp → VK → Prop := fun tl H Q =>
  tl (fun cls d H' => cls = .ref CB ∧ ∃ dd l c, d = some dd ∧ H' dd = some (.xd [("column", .int c), ("line", .int l)]) ∧ ∀ r H'', Same H' H'' → H'' r = some (.tup [.str "text", .int l, .int c]) → Q (.ref r) H'') H
    fun v H' => ([V.str "told", v]).length ≤ sizeLine ∧ ∀ p, H' p = none → Q (.ref p) (upd H' p (.tup [.str "told", v]))
theorem never {X : Cx} {sts : List Stmt} : PSs X sts (fun _ _ _ => False) := ⟨fun _ _ _ _ _ _ h => False.elim h⟩
theorem met_gives {X : Cx} {m : Md} {g CB : Addr} {cdg : Value} {q : Str} (hm : md X = m) (hr : Room 2 X.A) (F : MetC m CB) : LamX.GivesTo X nMet.N "_law_met" (defScope sMet) g cdg (defBody sMet) "call" q (TMet CB) := by
  intro f c' s H Q tl act hc h
  have ok : nMet.okB true = true := by decide +kernel
  have C0 := on_of (X := (cxOf C8.CX0 X.prog X.w X.K X.mg X.base nMet.N "_law_met" (defScope sMet) g cdg X.A X.stack s H C8.E0).nox) (k := 0) ok rfl rfl (fun _ _ => rfl) rfl ((hr.mono (by decide : 1 ≤ 2)).deeper _)
  have hm2 : md (cxOf C8.CX0 X.prog X.w X.K X.mg X.base nMet.N "_law_met" (defScope sMet) g cdg X.A X.stack s H C8.E0).nox = m := hm
  rw [hm2] at C0
  generalize hZ : (cxOf C8.CX0 X.prog X.w X.K X.mg X.base nMet.N "_law_met" (defScope sMet) g cdg X.A X.stack s H C8.E0) = Z at act C0 ⊢
  have hs : Z.stack = Z.env :: Z.outer := by rw [← hZ]; rfl
  have hf : Z.env.frame = some Z.env.locals := by rw [← hZ]; rfl
  have hk : Z.env.kindOf "e" = some .local := C0.lcl 1 (by decide) "e" rfl
  have nm : ∀ (j : Nat) (x : Str) (v : Value), nMet.gs[j]? = some x → m.mg x = some v → Names Z.nox x v := fun j x v hj hv => ⟨(C0.gl j x hj).1, (C0.gl j x hj).2, .inl (by rw [C0.mg]; exact hv)⟩
  obtain ⟨v1, g1⟩ := F.oth "BadName" (by simp)
  obtain ⟨v2, g2⟩ := F.oth "NoName" (by simp)
  obtain ⟨v3, g3⟩ := F.oth "TakenName" (by simp)
  obtain ⟨v4, g4⟩ := F.oth "BadNumber" (by simp)
  obtain ⟨v5, g5⟩ := F.oth "BadLand" (by simp)
  obtain ⟨v6, g6⟩ := F.oth "NotThere" (by simp)
  obtain ⟨v7, g7⟩ := F.oth "BadArrangement" (by simp)
  obtain ⟨v8, g8⟩ := F.oth "Unlike" (by simp)
  obtain ⟨v9, g9⟩ := F.oth "NotKept" (by simp)
  obtain ⟨v10, g10⟩ := F.oth "NothingToUndo" (by simp)
  obtain ⟨v11, g11⟩ := F.oth "NothingToRedo" (by simp)
  refine ⟨_, pss_one (try_as (X := Z.nox) (i := 1) (n := "e")
    (tb := fun W D σ H => ∃ Ech : XK, (∀ cls d σ' H', Ech cls d H' → W cls d σ' H') ∧ σ[0]? = some (some (.ref f)) ∧ H c' = some (LamX.CodeO c' q) ∧ tl Ech H fun v H' => ([V.str "told", v]).length ≤ sizeLine ∧ ∀ p, H' p = none → D.rt (.ref p) (upd H' p (.tup [.str "told", v])))
    hs hf (by rw [C0.hN]; exact C0.nd) (by rw [C0.hN]; rfl) hk LamX.takes0 (fun W pn xe tk po => ?_)
    (.cons (ts := fun a cls d D σ H => cls = .ref CB ∧ (∃ σ0 : L2.St, σ = σ0.set 1 (some (.ref a))) ∧ ∃ dd l c, d = some dd ∧ H dd = some (.xd [("column", .int c), ("line", .int l)]) ∧ ∀ r H'', Same H H'' → H'' r = some (.tup [.str "text", .int l, .int c]) → D.rt (.ref r) H'')
      (nm 0 _ _ rfl F.gB) (fun a oe cls d pn hz hf => ?_)
      (.cons (ts := fun _ _ _ _ _ _ => False) (nm 1 _ _ rfl g1) (fun _ _ _ _ _ _ _ => never) (.cons (ts := fun _ _ _ _ _ _ => False) (nm 2 _ _ rfl g2) (fun _ _ _ _ _ _ _ => never) (.cons (ts := fun _ _ _ _ _ _ => False) (nm 3 _ _ rfl g3) (fun _ _ _ _ _ _ _ => never)
      (.cons (ts := fun _ _ _ _ _ _ => False) (nm 4 _ _ rfl g4) (fun _ _ _ _ _ _ _ => never) (.cons (ts := fun _ _ _ _ _ _ => False) (nm 5 _ _ rfl g5) (fun _ _ _ _ _ _ _ => never) (.cons (ts := fun _ _ _ _ _ _ => False) (nm 6 _ _ rfl g6) (fun _ _ _ _ _ _ _ => never)
      (.cons (ts := fun _ _ _ _ _ _ => False) (nm 7 _ _ rfl g7) (fun _ _ _ _ _ _ _ => never) (.cons (ts := fun _ _ _ _ _ _ => False) (nm 8 _ _ rfl g8) (fun _ _ _ _ _ _ _ => never) (.cons (ts := fun _ _ _ _ _ _ => False) (nm 9 _ _ rfl g9) (fun _ _ _ _ _ _ _ => never)
      (.cons (ts := fun _ _ _ _ _ _ => False) (nm 10 _ _ rfl g10) (fun _ _ _ _ _ _ _ => never) (.cons (ts := fun _ _ _ _ _ _ => False) (nm 11 _ _ rfl g11) (fun _ _ _ _ _ _ _ => never) .nil))))))))))))), ?_⟩
  · refine ⟨fun pins s' σ H' D I h' => ?_⟩
    obtain ⟨Ech, hW, h1, h2, h3⟩ := h'
    have hp := fun p1 p2 => act W pn xe Ech p1 p2 tk hW
    exact (pss_one (ps_ret (pe_tup (pa_cons pe_str (pa_cons (hp _ _) pa_nil))))).run pins s' σ H' D I ⟨h1, h2, h3⟩
  · refine ⟨fun pins s' σ H' D I h' => ?_⟩
    obtain ⟨ec, ⟨σ0, es⟩, dd, l, c, ed, h2, k⟩ := h'
    have h1 : σ[1]? = some (some (.ref a)) := by
      have e1 : σ.length = Z.nox.N.length := I.len
      rw [C0.hN, es, List.length_set] at e1
      have e2 : σ0.length = 2 := e1
      rw [es, List.getElem?_set_self (by omega)]
    have xf : XfC Z.nox.K CB := by rw [C0.K]; exact F.xf
    have nl : PySem.W.findIn Z.nox.K (.ref CB) "line" = some none := by rw [C0.K]; exact F.nl
    have nc : PySem.W.findIn Z.nox.K (.ref CB) "column" = some none := by rw [C0.K]; exact F.nc
    obtain ⟨w1, w2, w3⟩ := C0.vis 1 (by decide) "e" rfl
    have he : ∀ (p : Pos) (H1 : Hp) (Q1 : VK), Q1 (.ref a) H1 → wE (Z.nox.suite a ((a, oe) :: pn)) (.Name "e" p) σ H1 Q1 := fun p H1 Q1 q => ofE (pe_var (X := Z.nox.suite a ((a, oe) :: pn)) (i := 1) (by show Z.nox.N[1]? = some ("e" : Str); rw [C0.hN]; rfl) w1 w2 w3) ⟨_, h1, q⟩
    refine (show wB (Z.nox.suite a ((a, oe) :: pn)) _ D σ H' from ?_) pins s' I
    refine b_one (s_ret (w_tupN (wa_cons (w_str (wa_cons (ofE (pe_xf (X := Z.nox) (cls := cls) (d := d) xf nl hz hf pE) (he _ _ _ ⟨rfl, ec, dd, _, _, ed, h2, rfl, ?_⟩)))))))
    refine wa_cons (ofE (pe_xf (X := Z.nox) (cls := cls) (d := d) xf nc hz hf pE) (he _ _ _ ⟨rfl, ec, dd, _, _, ed, h2, rfl, ?_⟩))
    refine wa_nil ⟨szN 3, fun r H2 _ s2 e2 => k r H2 s2 e2⟩
  · refine ⟨_, fun cls d σ' H' hE => .inl ⟨?_, fun a ha => ?_⟩, rfl, hc, h⟩
    · rw [hE.1, show Z.nox.K = m.K from C0.K]
      exact F.ex
    · obtain ⟨e1, dd, l, c, e2, e3, e4⟩ := hE
      exact ⟨e1, ⟨σ', rfl⟩, dd, l, c, e2, e3, e4⟩
end K9

set_option Elab.async false
set_option linter.all false
set_option maxRecDepth 100000
set_option maxHeartbeats 4000000
namespace K9
open PySem PySem.Spec PyProof.Rows L2 Wp
local macro_rules | `(tactic| walk_at "go1") => `(tactic| first
  | (with_reducible show wE _ (Expr.Name _ _) _ _ _); (first | refine wv ‹On _ _ _ _› 0 ?_ | refine wv ‹On _ _ _ _› 1 ?_ | refine wv ‹On _ _ _ _› 2 ?_ | refine wv ‹On _ _ _ _› 3 ?_ | refine wv ‹On _ _ _ _› 4 ?_ | refine wv ‹On _ _ _ _› 5 ?_ | refine wv ‹On _ _ _ _› 6 ?_ | refine wv ‹On _ _ _ _› 7 ?_ | refine wv ‹On _ _ _ _› 8 ?_ | refine wv ‹On _ _ _ _› 9 ?_ | refine wv ‹On _ _ _ _› 10 ?_ | refine wv ‹On _ _ _ _› 11 ?_ | refine wv ‹On _ _ _ _› 12 ?_ | refine wv ‹On _ _ _ _› 13 ?_)
  | with_reducible refine w_int ?_
  | with_reducible refine w_str ?_
  | with_reducible refine w_bl ?_
  | with_reducible refine w_non ?_
  | with_reducible refine w_bin ?_
  | (with_reducible show wE _ (Expr.Compare _ [_] [_] _) _ _ _); (refine w_cmp ?_)
  | (with_reducible show wT _ (Expr.Compare _ [_] [_] _) _ _ _); (refine wt_cmp ?_)
  | (with_reducible show wE _ (Expr.Compare _ [_, _] [_, _] _) _ _ _); (refine w_chain ?_)
  | (with_reducible show wT _ (Expr.Compare _ [_, _] [_, _] _) _ _ _); (refine wt_chain ?_)
  | with_reducible refine wt_not ?_
  | (with_reducible show wT _ (Expr.BoolOp _ _ _) _ _ _); (refine wt_w ?_)
  | with_reducible refine ww_and1 ?_
  | with_reducible refine ww_or1 ?_
  | with_reducible refine ww_and ?_
  | with_reducible refine ww_or ?_
  | with_reducible refine w_one ?_
  | with_reducible refine w_and ?_
  | with_reducible refine w_or ?_
  | with_reducible refine w_not ?_
  | with_reducible refine w_ifx ?_
  | (with_reducible show wT _ (Expr.Call _ _ _ _) _ _ _); (refine wt_val ?_)
  | with_reducible refine w_sl ?_
  | with_reducible refine w_slf ?_
  | with_reducible refine w_slt ?_
  | (with_reducible show wE _ (Expr.Subscript _ (Expr.Constant (Const.str _) _ _) _) _ _ _); (refine w_dgN ‹On _ _ _ _› ?_)
  | (with_reducible show DG _ _ _ _); (refine dget_at (by assumption) (by rfl) ?_)
  | (with_reducible show wE _ (Expr.Subscript _ (Expr.Constant _ _ _) _) _ _ _); (refine w_sub ?_)
  | (with_reducible show wE _ (Expr.Subscript _ (Expr.BinOp _ _ _ _) _) _ _ _); (refine w_sub ?_)
  | (with_reducible show wA _ (_ :: _) _ _ _); (refine wa_cons ?_)
  | with_reducible refine wa_nil ?_
  | with_reducible refine o_add ?_
  | with_reducible refine o_sub ?_
  | with_reducible refine o_lt ?_
  | with_reducible refine o_le ?_
  | with_reducible refine o_gt ?_
  | with_reducible refine o_ge ?_
  | with_reducible refine o_is ?_
  | with_reducible refine o_isnt ?_
  | (with_reducible show wO _ (compareOp CmpOp.Eq) _ _ _ _); (refine o_eq ?_)
  | (with_reducible show wO _ (compareOp CmpOp.NotEq) _ _ _ _); (refine o_ne ?_)
  | with_reducible refine b_one ?_
  | with_reducible refine b_nil ?_
  | with_reducible refine b_cons ?_
  | with_reducible refine s_if ?_
  | with_reducible refine s_ret ?_
  | with_reducible refine s_retN ?_
  | with_reducible refine s_pass ?_
  | with_reducible refine s_break ?_
  | with_reducible refine s_cont ?_
  | (with_reducible show wS _ (Stmt.Expr (Expr.Call (Expr.Attribute _ "append" _) [_] [] _) _) _ _ _); (refine s_append ‹On _ _ _ _› ?_)
  | (with_reducible show wS _ (Stmt.Expr _ _) _ _ _); (refine s_expr ?_)
  | (with_reducible show wE _ (Expr.ListComp _ _ _ _) _ _ _); (refine w_ofL ‹On _ _ _ _› ?_)
  | (with_reducible show wS _ (Stmt.Assign [Expr.Name _ _] (Expr.ListComp _ _ _ _) _) _ _ _); (first | refine s_ofL ‹On _ _ _ _› 0 ?_ | refine s_ofL ‹On _ _ _ _› 1 ?_ | refine s_ofL ‹On _ _ _ _› 2 ?_ | refine s_ofL ‹On _ _ _ _› 3 ?_ | refine s_ofL ‹On _ _ _ _› 4 ?_ | refine s_ofL ‹On _ _ _ _› 5 ?_ | refine s_ofL ‹On _ _ _ _› 6 ?_ | refine s_ofL ‹On _ _ _ _› 7 ?_ | refine s_ofL ‹On _ _ _ _› 8 ?_ | refine s_ofL ‹On _ _ _ _› 9 ?_ | refine s_ofL ‹On _ _ _ _› 10 ?_ | refine s_ofL ‹On _ _ _ _› 11 ?_ | refine s_ofL ‹On _ _ _ _› 12 ?_ | refine s_ofL ‹On _ _ _ _› 13 ?_)
  | (with_reducible show wS _ (Stmt.Assign [Expr.Name _ _] _ _) _ _ _); (first | refine s_set ‹On _ _ _ _› 0 ?_ | refine s_set ‹On _ _ _ _› 1 ?_ | refine s_set ‹On _ _ _ _› 2 ?_ | refine s_set ‹On _ _ _ _› 3 ?_ | refine s_set ‹On _ _ _ _› 4 ?_ | refine s_set ‹On _ _ _ _› 5 ?_ | refine s_set ‹On _ _ _ _› 6 ?_ | refine s_set ‹On _ _ _ _› 7 ?_ | refine s_set ‹On _ _ _ _› 8 ?_ | refine s_set ‹On _ _ _ _› 9 ?_ | refine s_set ‹On _ _ _ _› 10 ?_ | refine s_set ‹On _ _ _ _› 11 ?_ | refine s_set ‹On _ _ _ _› 12 ?_ | refine s_set ‹On _ _ _ _› 13 ?_)
  | (with_reducible show wS _ (Stmt.Assign [Expr.Subscript _ (Expr.Constant (Const.str _) _ _) _] _ _) _ _ _); (refine s_dput ‹On _ _ _ _› ?_)
  | (with_reducible show wG _ (Expr.Name _ _) _ _ _ _); (first | refine g_name ‹On _ _ _ _› 0 ?_ | refine g_name ‹On _ _ _ _› 1 ?_ | refine g_name ‹On _ _ _ _› 2 ?_ | refine g_name ‹On _ _ _ _› 3 ?_ | refine g_name ‹On _ _ _ _› 4 ?_ | refine g_name ‹On _ _ _ _› 5 ?_ | refine g_name ‹On _ _ _ _› 6 ?_ | refine g_name ‹On _ _ _ _› 7 ?_ | refine g_name ‹On _ _ _ _› 8 ?_ | refine g_name ‹On _ _ _ _› 9 ?_ | refine g_name ‹On _ _ _ _› 10 ?_ | refine g_name ‹On _ _ _ _› 11 ?_ | refine g_name ‹On _ _ _ _› 12 ?_ | refine g_name ‹On _ _ _ _› 13 ?_)
  | with_reducible refine iteT ?_
  | with_reducible refine iteF ?_
  | with_reducible refine iteNT ?_
  | with_reducible refine iteNF ?_
  | with_reducible refine Exists.intro _ (And.intro rfl ?_))
local macro_rules | `(tactic| walk_at "go") => `(tactic| repeat (walk_at "go1"))
/-! _law_names -/
theorem signs_eq : ("abcdefghijklmnopqrstuvwxyz0123456789" : Str).cps.toList = signL := rfl
theorem signs_len : signL.length = 36 := by decide +kernel
theorem smalls_take : signL.take 26 = smalls := by decide +kernel
theorem sign_mem {j : Nat} (h : j < 36) : signL.getD j 0 ∈ signL := by
  have h2 : j < signL.length := by rw [signs_len]; exact h
  rw [List.getD_eq_getElem?_getD, List.getElem?_eq_getElem h2]
  exact List.getElem_mem h2
theorem small_mem {j : Nat} (h : j < 26) : signL.getD j 0 ∈ smalls := by
  have h2 : j < signL.length := by rw [signs_len]; omega
  rw [List.getD_eq_getElem?_getD, List.getElem?_eq_getElem h2, ← smalls_take]
  rw [List.mem_iff_getElem]
  exact ⟨j, by rw [List.length_take, signs_len]; omega, by rw [List.getElem_take]; rfl⟩
theorem small_sub {c : Nat} (h : c ∈ smalls) : c ∈ signL := by
  rw [← smalls_take] at h
  exact List.mem_of_mem_take h
theorem sign_lt {c : Nat} (h : c ∈ signL) : c < 128 := by
  have e : signL.all (fun c => decide (c < 128)) = true := by decide +kernel
  exact of_decide_eq_true (List.all_eq_true.mp e c h)
theorem nm_at {r : Int} (h0 : 0 ≤ r) (h1 : r < 36) : atI ("abcdefghijklmnopqrstuvwxyz0123456789" : Str).cps.toList r = some (signL.getD r.toNat 0) := by
  rw [signs_eq]
  have h2 : r.toNat < signL.length := by rw [signs_len]; omega
  rw [at_int h0 h2, List.getD_eq_getElem?_getD, List.getElem?_eq_getElem h2]
  rfl
def oneSign (y : Str) : Prop := ∃ c ∈ signL, y.cps.toList = [c]
theorem joinL_ones : ∀ ys : List Str, (∀ y ∈ ys, oneSign y) → (Str.join "" ys).cps.toList.length = ys.length ∧ ∀ c ∈ (Str.join "" ys).cps.toList, c ∈ signL := by
  intro ys h
  have e : (Str.join "" ys).cps.toList = TL.joinL (("" : Str).cps.toList) (ys.map fun p => p.cps.toList) := TL.tl_join "" ys
  rw [e, show ("" : Str).cps.toList = [] from rfl]
  clear e
  induction ys with
  | nil => exact ⟨rfl, fun c hc => by cases hc⟩
  | cons a r ih =>
    obtain ⟨c, hc, ec⟩ := h a List.mem_cons_self
    obtain ⟨i1, i2⟩ := ih fun y hy => h y (List.mem_cons_of_mem _ hy)
    have e : TL.joinL [] ((a :: r).map fun p => p.cps.toList) = c :: TL.joinL [] (r.map fun p => p.cps.toList) := by
      cases r with
      | nil => exact ec
      | cons b s =>
        show a.cps.toList ++ ([] ++ _) = _
        rw [ec]
        rfl
    rw [e]
    refine ⟨by rw [List.length_cons, i1]; rfl, fun x hx => ?_⟩
    rcases List.mem_cons.mp hx with z | z
    · rw [z]; exact hc
    · exact i2 x z
theorem ones_len {ys : List Str} (h : ∀ y ∈ ys, oneSign y) : (ys.map (·.length)).sum = ys.length := by
  induction ys with
  | nil => rfl
  | cons a r ih =>
    obtain ⟨c, hc, ec⟩ := h a List.mem_cons_self
    rw [List.map_cons, List.sum_cons, ih fun y hy => h y (List.mem_cons_of_mem _ hy), str_len, ec, List.length_cons]
    simp
    omega
theorem app_cps (x y : Str) : (x ++ y).cps.toList = x.cps.toList ++ y.cps.toList := by
  show (x.cps ++ y.cps).toList = _
  simp
theorem cutS_leI {z : Str} {r : Int} (h : 0 ≤ r) : (cutS z none (some r)).cps.toList = z.cps.toList.take r.toNat := by
  obtain ⟨k, rfl⟩ := Int.eq_ofNat_of_zero_le h
  exact cutS_le z k
theorem cutS_geI {z : Str} {r : Int} (h : 0 ≤ r) : (cutS z (some r) none).cps.toList = z.cps.toList.drop r.toNat := by
  obtain ⟨k, rfl⟩ := Int.eq_ofNat_of_zero_le h
  exact cutS_ge z k
theorem name_ok {B : List Nat} {a c L : Nat} (h1 : B.length ≤ 12) (ha : a < B.length) (hc : c ∈ signL) (hB : ∀ x ∈ B, x ∈ signL) (h0 : headIn B smalls = true) (hc0 : a = 0 → c ∈ smalls) : isName (B.take a ++ ([c] ++ (B.drop (a + 1)).take L)) = true := by
  unfold isName
  have l1 : (B.take a ++ ([c] ++ (B.drop (a + 1)).take L)).length ≤ 12 := by
    simp only [List.length_append, List.length_take, List.length_drop, List.length_cons, List.length_nil]
    omega
  have l2 : 1 ≤ (B.take a ++ ([c] ++ (B.drop (a + 1)).take L)).length := by
    simp only [List.length_append, List.length_cons, List.length_nil]
    omega
  rw [decide_eq_true l1, decide_eq_true l2]
  have hd : headIn (B.take a ++ ([c] ++ (B.drop (a + 1)).take L)) smalls = true := by
    cases a with
    | zero =>
      show decide (c ∈ smalls) = true
      exact decide_eq_true (hc0 rfl)
    | succ a =>
      cases B with
      | nil => exact absurd ha (Nat.not_lt_zero _)
      | cons b r => exact h0
  rw [hd]
  simp only [Bool.true_and, List.all_eq_true, decide_eq_true_eq]
  intro x hx
  rcases List.mem_append.mp hx with z | z
  · exact hB x (List.mem_of_mem_take z)
  · rcases List.mem_append.mp z with z | z
    · rw [List.mem_singleton.mp z]; exact hc
    · exact hB x (List.mem_of_mem_drop (List.mem_of_mem_take z))
def spNames (K : PySem.W.Frag) : Sp := fun vs H Q _ => ∃ (p c : Addr) (n : Nat), vs = [.ref p, .int 1] ∧ PenP K p c n H ∧ n + 20 ≤ 1000000 ∧ ∀ l H' nm, Mu p H H' → PenP K p c (n + 20) H' → H' l = some (.lst [.str nm]) → isName nm.cps.toList = true → Q (.ref l) H'
abbrev nNames : Nm := defNmC ["pen", "many", "signs", "size", "base", "at", "first", "cut", "by", "found", "k", "sign"] sNames ["_law_draw", "range", "_law_pick", "int"] [5, 6, 7, 8, 9] []
theorem b_names {X : Cx} {m : Md} {vs : List V} {H : Hp} {Q : VK} {E : XK} (T : Txt m) (G1 : Df m 2 "_law_draw" ["pen", "many"] (spDraw m.K)) (G2 : Df m 2 "_law_pick" ["pen", "some"] (spPick m.K)) (C : On X nNames m 2) (B : Bd X E) (h : spNames m.K vs H Q E) :
    wB X (defBody sNames) (out Q) (start nNames.N vs) H := by
  obtain ⟨p, c, n, rfl, hp, hn, k⟩ := h
  refine b_cons ?_
  walk_at "go"
  refine w_call C 0 G1 ?_
  walk_at "go"
  refine ⟨p, c, 12, n, rfl, hp, by omega, by decide, by decide, fun r1 H1 u1 p1 a1 b1 => ?_⟩
  walk_at "go"
  refine w_subN ?_
  walk_at "go"
  refine w_call C 0 G1 ?_
  walk_at "go"
  refine ⟨p, c, 26, n + 1, rfl, p1, by omega, by decide, by decide, fun r2 H2 u2 p2 a2 b2 => ?_⟩
  refine i_str (by decide +kernel) (nm_at a2 (by omega)) ?_
  walk_at "go"
  refine w_join C ?_
  walk_at "go"
  refine lcRg C 1 T.range 10 ["_law_draw"] [0, 2] (by decide +kernel) ?_ (fun _ => rfl)
  walk_at "go"
  refine ⟨⟨by omega, by omega⟩, fun Dl hD => ⟨fun i H' acc => H2 Dl = none ∧ Mu p H2 H' ∧ PenP m.K p c (n + 2 + i) H' ∧ ∃ ys : List Str, acc = ys.map V.str ∧ ∀ y ∈ ys, oneSign y, ⟨hD, Mu.of (same_new hD), p2.keep (same_new hD), [], rfl, fun y hy => by cases hy⟩, fun i H3 X2 acc hi ⟨_, u3, p3, ys, ea, hys⟩ hl d3 C2 => ?_, fun H3 acc ⟨_, u3, p3, ys, ea, hys⟩ hl d3 => ?_⟩⟩
  · walk_at "go"
    refine w_subN ?_
    walk_at "go"
    refine w_call C2 0 G1 ?_
    walk_at "go"
    refine ⟨p, c, 36, n + 2 + i, rfl, p3, by omega, by decide, by decide, fun r4 H4 u4 p4 a4 b4 => ?_⟩
    refine i_str (by decide +kernel) (nm_at a4 b4) ?_
    have hdp : Dl ≠ p := fun z => by rw [z] at hD; exact p2.ne hD
    have d4 := u4 _ _ hdp d3
    refine ⟨d4, hD, fun b o hb e => ?_, p2.lay hD p4, ys ++ [⟨#[signL.getD r4.toNat 0]⟩], by rw [ea, List.map_append]; rfl, fun y hy => ?_⟩
    · rw [upd_ne (ne_of_none e hD)]
      exact u4 _ _ hb (u3 _ _ hb e)
    · rcases List.mem_append.mp hy with z | z
      · exact hys y z
      · rw [List.mem_singleton.mp z]
        exact ⟨_, sign_mem (by omega), rfl⟩
  · obtain ⟨j1, j2⟩ := joinL_ones ys hys
    have hlen : ys.length = r1.toNat := by
      rw [ea, List.length_map] at hl
      omega
    refine ⟨Dl, ys, rfl, .inl (.inl (.inl (by rw [d3, ea]))), ?_, ?_⟩
    · rw [ones_len hys, show ("" : Str).length = 0 from rfl]
      omega
    have lJ : (Str.join "" ys).length ≤ 12 := by rw [str_len, j1]; omega
    refine o_adds ?_ ?_
    · rw [TL.join_eq]
      exact Nat.le_trans (show 1 + (Str.join "" ys).length ≤ 13 by omega) (szN 13)
    have p3' : PenP m.K p c (n + 2 + r1.toNat) H3 := by
      have e : (1 + r1 - 1).toNat = r1.toNat := by omega
      rw [e] at p3
      exact p3
    have u03 := (u1.trans u2).trans u3
    rw [TL.join_eq]
    generalize hJ : Str.join "" ys = J at j1 j2 lJ
    generalize hB : ((⟨#[signL.getD r2.toNat 0]⟩ : Str) ++ J) = base
    have eB : base.cps.toList = signL.getD r2.toNat 0 :: J.cps.toList := by
      rw [← hB, app_cps]
      rfl
    have lB : base.cps.toList.length = r1.toNat + 1 := by rw [eB, List.length_cons, j1, hlen]
    have lBz : base.length ≤ sizeLine := by rw [str_len, lB]; exact szN _ (by omega)
    walk_at "go"
    refine s_par3 C 5 6 7 ?_
    walk_at "go"
    refine w_call C 0 G1 ?_
    walk_at "go"
    refine ⟨p, c, 1 + r1, n + 2 + r1.toNat, rfl, p3', by omega, by omega, by omega, fun ra H4 u4 p4 a4 b4 => ?_⟩
    walk_at "go"
    refine w_call C 0 G1 ?_
    walk_at "go"
    refine ⟨p, c, 26, _, rfl, p4, by omega, by decide, by decide, fun rf H5 u5 p5 a5 b5 => ?_⟩
    walk_at "go"
    refine w_call C 0 G1 ?_
    walk_at "go"
    refine ⟨p, c, 3, _, rfl, p5, by omega, by decide, by decide, fun rc H6 u6 p6 a6 b6 => ?_⟩
    walk_at "go"
    refine ⟨_, _, _, rfl, ?_⟩
    walk_at "go"
    refine s_par C 8 9 ?_
    walk_at "go"
    refine w_call C 2 G2 ?_
    walk_at "go"
    refine w_lstN ?_
    walk_at "go"
    refine ⟨szN 8, fun bl H7 n7 s7 e7 => ?_⟩
    walk_at "go"
    refine ⟨p, c, bl, _, _, rfl, p6.keep s7, by omega, .inl (.inl e7), fun z => p6.ne (by rw [← z]; exact n7), by simp, by simp, fun v H8 u8 p8 hv => ?_⟩
    obtain ⟨by_, rfl, hby⟩ : ∃ b : Int, v = .int b ∧ True := by
      simp only [List.mem_cons, List.not_mem_nil, or_false] at hv
      rcases hv with rfl | rfl | rfl | rfl | rfl | rfl | rfl | rfl <;> exact ⟨_, rfl, trivial⟩
    walk_at "go"
    refine w_lstN ?_
    walk_at "go"
    refine ⟨szN 0, fun f H9 n9 s9 e9 => ?_⟩
    walk_at "go"
    refine ⟨_, _, rfl, ?_⟩
    have hB1 : ∀ x ∈ base.cps.toList, x ∈ signL := fun x hx => by
      rw [eB] at hx
      rcases List.mem_cons.mp hx with z | z
      · rw [z]; exact sign_mem (by omega)
      · exact j2 x z
    have hB0 : headIn base.cps.toList smalls = true := by
      rw [eB]
      exact decide_eq_true (small_mem (by omega))
    have p9 := p8.keep s9
    have nfp : f ≠ p := fun z => p8.ne (by rw [← z]; exact n9)
    have u09 : Mu p H H9 := (((((u03.trans u4).trans u5).trans u6).trans (Mu.of s7)).trans u8).trans (Mu.of s9)
    refine b_cut (fun σ' H' => Mu p H H' ∧ PenP m.K p c (n + 20) H' ∧ ∃ nm, H' f = some (.lst [.str nm]) ∧ isName nm.cps.toList = true ∧ σ'[9]? = some (some (.ref f))) ?_ fun σ' H' ⟨u, pp, nm, h1, h2, h3⟩ => ?_
    · refine s_forR C B.po 1 T.range ?_
      walk_at "go"
      refine ⟨by decide, fun i σ' H' => (i = 0 ∧ H' = H9 ∧ σ' = [some (.ref p), some (.int 1), some (.str "abcdefghijklmnopqrstuvwxyz0123456789"), some (.int (1 + r1)), some (.str base), some (.int ra), some (.int rf), some (.int rc), some (.int by_), some (.ref f), none, none]) ∨ (i = 1 ∧ Mu p H H' ∧ PenP m.K p c (n + 20) H' ∧ ∃ nm, H' f = some (.lst [.str nm]) ∧ isName nm.cps.toList = true ∧ σ'[9]? = some (some (.ref f))),
        .inl ⟨rfl, rfl, rfl⟩, fun i σ' H' hi q => ?_, fun σ' H' q => ?_⟩
      · rcases q with ⟨rfl, rfl, rfl⟩ | ⟨rfl, _⟩
        · refine g_name C 10 ?_
          refine b_cons ?_
          refine s_set C 11 ?_
          refine wE_mono (Q := fun v H1 => H1 = H' ∧ ∃ sg, v = .str ⟨#[sg]⟩ ∧ sg ∈ signL ∧ (ra = 0 → sg ∈ smalls)) ?_ fun v H1 ⟨eH, sg, ev, g1, g2⟩ => ?_
          · walk_at "go"
            refine w_intI C 3 T.int ?_
            walk_at "go"
            refine o_mul (.inr (by decide)) ?_
            walk_at "go"
            rw [show decide (V.int ra = V.int 0) = decide (ra = 0) from dec_iff ⟨fun z => by injection z, fun z => by rw [z]⟩]
            refine ite2b (fun hz => ?_) (fun hz => ?_)
            · walk_at "go"
              refine o_mod (by decide) ?_
              have m1 := Int.emod_nonneg (rf + by_ * ((0 : Nat) : Int)) (show (26 : Int) ≠ 0 by decide)
              have m2 := Int.emod_lt_of_pos (rf + by_ * ((0 : Nat) : Int)) (show (0 : Int) < 26 by decide)
              refine i_str (by decide +kernel) (nm_at m1 (by omega)) ?_
              exact ⟨rfl, _, rfl, sign_mem (by omega), fun _ => small_mem (by omega)⟩
            · walk_at "go"
              refine o_mod (by decide) ?_
              have m1 := Int.emod_nonneg (rf + by_ * ((0 : Nat) : Int)) (show (36 : Int) ≠ 0 by decide)
              have m2 := Int.emod_lt_of_pos (rf + by_ * ((0 : Nat) : Int)) (show (0 : Int) < 36 by decide)
              refine i_str (by decide +kernel) (nm_at m1 (by omega)) ?_
              exact ⟨rfl, _, rfl, sign_mem (by omega), fun z => absurd z (of_decide_eq_false hz)⟩
          · subst eH ev
            have hz1 : (1 : Nat) ≤ sizeLine := szN 1
            walk_at "go"
            refine ⟨⟨_, .inl (.inl e9)⟩, ?_⟩
            refine wE_mono (Q := fun v H3 => H3 = H1 ∧ ∃ nm : Str, v = .str nm ∧ isName nm.cps.toList = true) ?_ fun v H3 ⟨e3, nm, ev, hnm⟩ => ?_
            · walk_at "go"
              refine sl_s lBz ?_
              walk_at "go"
              have tk : (cutS base none (some ra)).cps.toList = base.cps.toList.take ra.toNat := cutS_leI a4
              refine o_adds ?_ ?_
              · rw [str_len, str_len, tk]
                simp only [List.length_take]
                exact Nat.le_trans (show min ra.toNat base.cps.toList.length + 1 ≤ 100 by omega) (szN 100)
              walk_at "go"
              refine sl_s lBz ?_
              walk_at "go"
              have dp : (cutS base (some (ra + 1)) none).cps.toList = base.cps.toList.drop (ra.toNat + 1) := by
                rw [cutS_geI (by omega), show (ra + 1).toNat = ra.toNat + 1 by omega]
              have lD : (cutS base (some (ra + 1)) none).length ≤ sizeLine := by
                rw [str_len, dp, List.length_drop]
                exact szN _ (by omega)
              have fin : ∀ (L : Int) (L' : Nat), L = (L' : Int) → wSl X (.str (cutS base (some (ra + 1)) none)) none (some L) H1 fun y H2 => wO X (binaryOp .Add) (.str (cutS base none (some ra) ++ ⟨#[sg]⟩)) y H2 fun v H3 => H3 = H1 ∧ ∃ nm : Str, v = .str nm ∧ isName nm.cps.toList = true := fun L L' e => by
                subst e
                refine sl_s lD ?_
                refine o_adds ?_ ?_
                · rw [str_len, str_len, app_cps, tk, cutS_le, dp]
                  simp only [List.length_append, List.length_take, List.length_drop]
                  exact Nat.le_trans (show min ra.toNat base.cps.toList.length + 1 + min L' (base.cps.toList.length - (ra.toNat + 1)) ≤ 100 by omega) (szN 100)
                · refine ⟨rfl, _, rfl, ?_⟩
                  rw [app_cps, app_cps, tk, cutS_le, dp, List.append_assoc]
                  exact name_ok (by omega) (by omega) g1 hB1 hB0 fun z => g2 (by omega)
              refine ite2b (fun hz => ?_) (fun hz => ?_)
              · walk_at "go"
                exact fin 12 12 rfl
              · walk_at "go"
                refine o_mod (by decide) ?_
                walk_at "go"
                exact fin _ 0 rfl
            · subst e3 ev
              have u08 : Mu p H H8 := ((((u03.trans u4).trans u5).trans u6).trans (Mu.of s7)).trans u8
              refine ⟨[], e9, by decide, .inr ⟨rfl, fun b o hb e => ?_, (p8.lay n9 p9).mono (by omega), nm, ?_, hnm, rfl⟩⟩
              · by_cases hbf : b = f
                · have := u08 b o hb e
                  rw [hbf, n9] at this
                  cases this
                · rw [upd_ne hbf]
                  exact u09 b o hb e
              · rw [upd_same]
                rfl
        · exact absurd hi (by decide)
      · rcases q with ⟨h, _⟩ | ⟨_, q⟩
        · exact absurd h (by decide)
        · exact q
    · refine b_one (s_ret ?_)
      refine wv C 9 (k f H' nm u pp h1 h2) h3
end K9

set_option Elab.async false
set_option linter.all false
set_option maxRecDepth 100000
set_option maxHeartbeats 4000000
namespace K9
open PySem PySem.Spec PyProof.Rows L2 Wp
local macro_rules | `(tactic| walk_at "go1") => `(tactic| first
  | (with_reducible show wE _ (Expr.Name _ _) _ _ _); (first | refine wv ‹On _ _ _ _› 0 ?_ | refine wv ‹On _ _ _ _› 1 ?_ | refine wv ‹On _ _ _ _› 2 ?_ | refine wv ‹On _ _ _ _› 3 ?_ | refine wv ‹On _ _ _ _› 4 ?_ | refine wv ‹On _ _ _ _› 5 ?_ | refine wv ‹On _ _ _ _› 6 ?_ | refine wv ‹On _ _ _ _› 7 ?_ | refine wv ‹On _ _ _ _› 8 ?_ | refine wv ‹On _ _ _ _› 9 ?_ | refine wv ‹On _ _ _ _› 10 ?_ | refine wv ‹On _ _ _ _› 11 ?_ | refine wv ‹On _ _ _ _› 12 ?_ | refine wv ‹On _ _ _ _› 13 ?_)
  | with_reducible refine w_int ?_
  | with_reducible refine w_str ?_
  | with_reducible refine w_bl ?_
  | with_reducible refine w_non ?_
  | with_reducible refine w_bin ?_
  | (with_reducible show wE _ (Expr.Compare _ [_] [_] _) _ _ _); (refine w_cmp ?_)
  | (with_reducible show wT _ (Expr.Compare _ [_] [_] _) _ _ _); (refine wt_cmp ?_)
  | (with_reducible show wE _ (Expr.Compare _ [_, _] [_, _] _) _ _ _); (refine w_chain ?_)
  | (with_reducible show wT _ (Expr.Compare _ [_, _] [_, _] _) _ _ _); (refine wt_chain ?_)
  | with_reducible refine wt_not ?_
  | (with_reducible show wT _ (Expr.BoolOp _ _ _) _ _ _); (refine wt_w ?_)
  | with_reducible refine ww_and1 ?_
  | with_reducible refine ww_or1 ?_
  | with_reducible refine ww_and ?_
  | with_reducible refine ww_or ?_
  | with_reducible refine w_one ?_
  | with_reducible refine w_and ?_
  | with_reducible refine w_or ?_
  | with_reducible refine w_not ?_
  | with_reducible refine w_ifx ?_
  | (with_reducible show wT _ (Expr.Call _ _ _ _) _ _ _); (refine wt_val ?_)
  | with_reducible refine w_sl ?_
  | with_reducible refine w_slf ?_
  | with_reducible refine w_slt ?_
  | (with_reducible show wE _ (Expr.Subscript _ (Expr.Constant (Const.str _) _ _) _) _ _ _); (refine w_dgN ‹On _ _ _ _› ?_)
  | (with_reducible show DG _ _ _ _); (refine dget_at (by assumption) (by rfl) ?_)
  | (with_reducible show wE _ (Expr.Subscript _ (Expr.Constant _ _ _) _) _ _ _); (refine w_sub ?_)
  | (with_reducible show wE _ (Expr.Subscript _ (Expr.BinOp _ _ _ _) _) _ _ _); (refine w_sub ?_)
  | (with_reducible show wA _ (_ :: _) _ _ _); (refine wa_cons ?_)
  | with_reducible refine wa_nil ?_
  | with_reducible refine o_add ?_
  | with_reducible refine o_sub ?_
  | with_reducible refine o_lt ?_
  | with_reducible refine o_le ?_
  | with_reducible refine o_gt ?_
  | with_reducible refine o_ge ?_
  | with_reducible refine o_is ?_
  | with_reducible refine o_isnt ?_
  | (with_reducible show wO _ (compareOp CmpOp.Eq) _ _ _ _); (refine o_eq ?_)
  | (with_reducible show wO _ (compareOp CmpOp.NotEq) _ _ _ _); (refine o_ne ?_)
  | with_reducible refine b_one ?_
  | with_reducible refine b_nil ?_
  | with_reducible refine b_cons ?_
  | with_reducible refine s_if ?_
  | with_reducible refine s_ret ?_
  | with_reducible refine s_retN ?_
  | with_reducible refine s_pass ?_
  | with_reducible refine s_break ?_
  | with_reducible refine s_cont ?_
  | (with_reducible show wS _ (Stmt.Expr (Expr.Call (Expr.Attribute _ "append" _) [_] [] _) _) _ _ _); (refine s_append ‹On _ _ _ _› ?_)
  | (with_reducible show wS _ (Stmt.Expr _ _) _ _ _); (refine s_expr ?_)
  | (with_reducible show wE _ (Expr.ListComp _ _ _ _) _ _ _); (refine w_ofL ‹On _ _ _ _› ?_)
  | (with_reducible show wS _ (Stmt.Assign [Expr.Name _ _] (Expr.ListComp _ _ _ _) _) _ _ _); (first | refine s_ofL ‹On _ _ _ _› 0 ?_ | refine s_ofL ‹On _ _ _ _› 1 ?_ | refine s_ofL ‹On _ _ _ _› 2 ?_ | refine s_ofL ‹On _ _ _ _› 3 ?_ | refine s_ofL ‹On _ _ _ _› 4 ?_ | refine s_ofL ‹On _ _ _ _› 5 ?_ | refine s_ofL ‹On _ _ _ _› 6 ?_ | refine s_ofL ‹On _ _ _ _› 7 ?_ | refine s_ofL ‹On _ _ _ _› 8 ?_ | refine s_ofL ‹On _ _ _ _› 9 ?_ | refine s_ofL ‹On _ _ _ _› 10 ?_ | refine s_ofL ‹On _ _ _ _› 11 ?_ | refine s_ofL ‹On _ _ _ _› 12 ?_ | refine s_ofL ‹On _ _ _ _› 13 ?_)
  | (with_reducible show wS _ (Stmt.Assign [Expr.Name _ _] _ _) _ _ _); (first | refine s_set ‹On _ _ _ _› 0 ?_ | refine s_set ‹On _ _ _ _› 1 ?_ | refine s_set ‹On _ _ _ _› 2 ?_ | refine s_set ‹On _ _ _ _› 3 ?_ | refine s_set ‹On _ _ _ _› 4 ?_ | refine s_set ‹On _ _ _ _› 5 ?_ | refine s_set ‹On _ _ _ _› 6 ?_ | refine s_set ‹On _ _ _ _› 7 ?_ | refine s_set ‹On _ _ _ _› 8 ?_ | refine s_set ‹On _ _ _ _› 9 ?_ | refine s_set ‹On _ _ _ _› 10 ?_ | refine s_set ‹On _ _ _ _› 11 ?_ | refine s_set ‹On _ _ _ _› 12 ?_ | refine s_set ‹On _ _ _ _› 13 ?_)
  | (with_reducible show wS _ (Stmt.Assign [Expr.Subscript _ (Expr.Constant (Const.str _) _ _) _] _ _) _ _ _); (refine s_dput ‹On _ _ _ _› ?_)
  | (with_reducible show wG _ (Expr.Name _ _) _ _ _ _); (first | refine g_name ‹On _ _ _ _› 0 ?_ | refine g_name ‹On _ _ _ _› 1 ?_ | refine g_name ‹On _ _ _ _› 2 ?_ | refine g_name ‹On _ _ _ _› 3 ?_ | refine g_name ‹On _ _ _ _› 4 ?_ | refine g_name ‹On _ _ _ _› 5 ?_ | refine g_name ‹On _ _ _ _› 6 ?_ | refine g_name ‹On _ _ _ _› 7 ?_ | refine g_name ‹On _ _ _ _› 8 ?_ | refine g_name ‹On _ _ _ _› 9 ?_ | refine g_name ‹On _ _ _ _› 10 ?_ | refine g_name ‹On _ _ _ _› 11 ?_ | refine g_name ‹On _ _ _ _› 12 ?_ | refine g_name ‹On _ _ _ _› 13 ?_)
  | with_reducible refine iteT ?_
  | with_reducible refine iteF ?_
  | with_reducible refine iteNT ?_
  | with_reducible refine iteNF ?_
  | with_reducible refine Exists.intro _ (And.intro rfl ?_))
local macro_rules | `(tactic| walk_at "go") => `(tactic| repeat (walk_at "go1"))
/-! numbers as texts -/
def nTx (n : Nat) : Str := Str.ofString (toString ((n : Nat) : Int))
theorem nTx_l (n : Nat) : (nTx n).cps.toList = TL.numL n := TL.tl_num n
theorem dig_figs {c : Nat} (h : 48 ≤ c ∧ c ≤ 57) : c ∈ figs := by
  unfold figs
  simp
  omega
theorem num_head : ∀ n : Nat, n ≠ 0 → (TL.numL n).head? ≠ some 48 := by
  intro n
  induction n using Nat.strongRecOn with
  | _ n ih =>
    intro h0 e
    by_cases h : n < 10
    · rw [TL.numL_lt h] at e
      have e2 : 48 + n = 48 := Option.some.inj e
      omega
    · rw [TL.numL_step (by omega)] at e
      have hne := TL.numL_ne (n / 10)
      refine ih (n / 10) (by omega) (by omega) ?_
      cases hl : TL.numL (n / 10) with
      | nil => exact absurd hl hne
      | cons a r => rw [hl] at e; exact e
theorem num_isN {n : Nat} (h : n < 1000000) : isN (TL.numL n) = true := by
  unfold isN figsOk
  have l1 : (TL.numL n).length ≤ 6 := TL.numL_len (by decide) (by omega)
  have l2 : 1 ≤ (TL.numL n).length := List.length_pos_iff.mpr (TL.numL_ne n)
  rw [decide_eq_true l1, decide_eq_true l2]
  have a : (TL.numL n).all (fun c => decide (c ∈ figs)) = true := List.all_eq_true.mpr fun c hc => decide_eq_true (dig_figs (TL.numL_digits n c hc))
  rw [a]
  by_cases h0 : n = 0
  · subst h0
    decide +kernel
  · rw [decide_eq_false (num_head n h0)]
    simp
theorem num_free {n s : Nat} (h : s < 48 ∨ 57 < s) : s ∉ TL.numL n := TL.numL_free h
theorem num_zero {n : Nat} (h : TL.numL n = [48]) : n = 0 := TL.numL_inj (h.trans (by decide +kernel : [48] = TL.numL 0))
theorem nTx_len {n : Nat} (h : n < 1000000) : (nTx n).length ≤ 6 := by
  rw [str_len, nTx_l]
  exact TL.numL_len (by decide) (by omega)
theorem nTx_ch (n : Nat) : chOk (nTx n) := fun c hc => by
  rw [nTx_l] at hc
  have := TL.numL_digits n c hc
  omega
/-! _law_vow_word -/
def okW (w : Str) : Prop := chOk w ∧ 32 ∉ w.cps.toList ∧ w.length ≤ 20
def spWord (K : PySem.W.Frag) : Sp := fun vs H Q _ => ∃ (p c : Addr) (n : Nat) (f : Str), vs = [.ref p, .str f] ∧ PenP K p c n H ∧ n + 30 ≤ 1000000 ∧ okW f ∧ ∀ w H', Mu p H H' → PenP K p c (n + 30) H' → lawFits w f = true → okW w → Q (.str w) H'
abbrev nWord : Nm := defNm ["pen", "form", "number"] sWord ["_law_names", "str", "_law_pick", "_law_draw"] [0, 1, 2]
theorem name_okW {nm : Str} (h : isName nm.cps.toList = true) : okW nm := by
  unfold isName at h
  simp only [Bool.and_eq_true, decide_eq_true_eq, List.all_eq_true] at h
  obtain ⟨⟨h1, h2⟩, _, h3⟩ := h
  refine ⟨fun c hc => sign_lt (h3 c hc), fun z => ?_, by rw [str_len]; omega⟩
  have := h3 32 z
  exact absurd this (by decide +kernel)
theorem num_okW {n : Nat} (h : n < 1000000) : okW (nTx n) := ⟨nTx_ch n, by rw [nTx_l]; exact num_free (.inl (by decide)), Nat.le_trans (nTx_len h) (by decide)⟩
theorem fits_num {n : Nat} (h : n < 1000000) (f : Str) (hf : f = ("n" : Str) ∨ f = ("z" : Str) ∨ f = ("v" : Str)) : lawFits (nTx n) f = true := by
  have e : isN (nTx n).cps.toList = true := by rw [nTx_l]; exact num_isN h
  rcases hf with rfl | rfl | rfl
  · show isNS (nTx n) = true
    exact e
  · show isZ (nTx n).cps.toList = true
    unfold isZ
    rw [e]
    rfl
  · show isV (nTx n) = true
    unfold isV
    rw [split_one (by rw [nTx_l]; exact num_free (.inl (by decide)))]
    have e1 : isNS (nTx n) = true := e
    unfold isVs
    simp [e1]
theorem fits_neg {n : Nat} (h : n < 1000000) (h0 : n ≠ 0) : lawFits (("-" : Str) ++ nTx n) "z" = true ∧ okW (("-" : Str) ++ nTx n) := by
  have ec : ((("-" : Str) ++ nTx n)).cps.toList = 45 :: TL.numL n := by
    rw [app_cps, nTx_l]
    rfl
  constructor
  · show isZ _ = true
    unfold isZ
    rw [ec, show (45 :: TL.numL n).drop 1 = TL.numL n from rfl, num_isN h, decide_eq_true (show (45 :: TL.numL n).take 1 = [45] from rfl), decide_eq_false (show ¬ 45 :: TL.numL n = [45, 48] from fun z => h0 (num_zero (by injection z)))]
    simp
  · refine ⟨fun c hc => ?_, fun z => ?_, ?_⟩
    · rw [ec] at hc
      rcases List.mem_cons.mp hc with z | z
      · omega
      · have := TL.numL_digits n c z
        omega
    · rw [ec] at z
      rcases List.mem_cons.mp z with z | z
      · omega
      · exact num_free (.inl (by decide)) z
    · rw [str_len, ec, List.length_cons]
      have := TL.numL_len (n := n) (k := 6) (by decide) (by omega)
      omega
theorem fits_frac {n d : Nat} (h : n < 1000000) (h1 : d < 1000000) (h0 : d ≠ 0) : lawFits ((nTx n ++ ("/" : Str)) ++ nTx d) "v" = true ∧ okW ((nTx n ++ ("/" : Str)) ++ nTx d) := by
  have ec : ((nTx n ++ ("/" : Str)) ++ nTx d).cps.toList = TL.numL n ++ ([47] ++ TL.numL d) := by
    rw [app_cps, app_cps, nTx_l, nTx_l, List.append_assoc]
    rfl
  constructor
  · show isV _ = true
    unfold isV
    have ej : (nTx n ++ ("/" : Str)) ++ nTx d = Txt.join "/" [nTx n, nTx d] := by
      rw [TL.join_eq]
      rfl
    have es : Txt.split (Txt.join "/" [nTx n, nTx d]) "/" = [nTx n, nTx d] := TL.split_join (y := "/") (s := 47) (S := []) (by decide +kernel) (by decide +kernel) (by simp) (fun p hp => by
      simp only [List.mem_cons, List.not_mem_nil, or_false] at hp
      rcases hp with rfl | rfl
      · show 47 ∉ (nTx n).cps.toList
        rw [nTx_l]
        exact num_free (.inl (by decide))
      · show 47 ∉ (nTx d).cps.toList
        rw [nTx_l]
        exact num_free (.inl (by decide)))
    rw [ej, es]
    have e1 : isNS (nTx n) = true := by unfold isNS; rw [nTx_l]; exact num_isN h
    have e2 : isNS (nTx d) = true := by unfold isNS; rw [nTx_l]; exact num_isN h1
    have e3 : nTx d ≠ ("0" : Str) := fun z => h0 (num_zero (by rw [← nTx_l, z]; decide +kernel))
    unfold isVs
    simp [e1, e2, e3]
  · refine ⟨fun c hc => ?_, fun z => ?_, ?_⟩
    · rw [ec] at hc
      simp only [List.mem_append, List.mem_singleton] at hc
      rcases hc with z | z | z
      · have := TL.numL_digits n c z
        omega
      · omega
      · have := TL.numL_digits d c z
        omega
    · rw [ec] at z
      simp only [List.mem_append, List.mem_singleton] at z
      rcases z with z | z | z
      · exact num_free (.inl (by decide)) z
      · omega
      · exact num_free (.inl (by decide)) z
    · rw [str_len, ec]
      have := TL.numL_len (n := n) (k := 6) (by decide) (by omega)
      have := TL.numL_len (n := d) (k := 6) (by decide) (by omega)
      simp only [List.length_append, List.length_cons, List.length_nil]
      omega
theorem b_word {X : Cx} {m : Md} {vs : List V} {H : Hp} {Q : VK} {E : XK} (T : Txt m) (G1 : Df m 3 "_law_names" ["pen", "many"] (spNames m.K)) (G2 : Df m 3 "_law_pick" ["pen", "some"] (spPick m.K)) (G3 : Df m 3 "_law_draw" ["pen", "many"] (spDraw m.K)) (C : On X nWord m 3) (B : Bd X E) (h : spWord m.K vs H Q E) :
    wB X (defBody sWord) (out Q) (start nWord.N vs) H := by
  obtain ⟨p, c, n, f, rfl, hp, hn, hf, k⟩ := h
  refine b_cons ?_
  walk_at "go"
  rw [dec_strS]
  refine ite2b (fun h1 => ?_) (fun h1 => ?_)
  · walk_at "go"
    refine w_call C 0 G1 ?_
    walk_at "go"
    refine ⟨p, c, n, rfl, hp, by omega, fun l H1 nm u1 p1 e1 hnm => ?_⟩
    walk_at "go"
    refine i_list C (.inl (.inl e1)) (atI_nat (j := 0) rfl) ?_
    refine k nm H1 u1 (p1.mono (by omega)) ?_ (name_okW hnm)
    unfold lawFits
    rw [h1]
    exact hnm
  · walk_at "go"
    refine w_strI C 1 T.str ?_
    refine w_call C 2 G2 ?_
    walk_at "go"
    refine w_lstN ?_
    walk_at "go"
    refine w_call C 3 G3 ?_
    walk_at "go"
    refine ⟨p, c, 1000000, n, rfl, hp, by omega, by decide, by decide, fun r1 H1 u1 p1 a1 b1 => ?_⟩
    walk_at "go"
    refine ⟨szN 6, fun l H2 n2 s2 e2 => ?_⟩
    walk_at "go"
    refine ⟨p, c, l, n + 1, _, rfl, p1.keep s2, by omega, .inl (.inl e2), fun z => p1.ne (by rw [← z]; exact n2), by simp, by simp, fun v H3 u3 p3 hv => ?_⟩
    obtain ⟨i, rfl, hi⟩ : ∃ i : Nat, v = .int (i : Int) ∧ i < 1000000 := by
      simp only [List.mem_cons, List.not_mem_nil, or_false] at hv
      rcases hv with rfl | rfl | rfl | rfl | rfl | rfl
      · exact ⟨0, rfl, by decide⟩
      · exact ⟨1, rfl, by decide⟩
      · exact ⟨7, rfl, by decide⟩
      · exact ⟨10, rfl, by decide⟩
      · exact ⟨999999, rfl, by decide⟩
      · exact ⟨r1.toNat, by rw [show ((r1.toNat : Nat) : Int) = r1 by omega], by omega⟩
    refine ⟨(i : Int), rfl, ?_, ?_⟩
    · rw [show ((i : Int)).natAbs = i from rfl]
      by_cases h0 : i = 0
      · rw [h0]
        decide
      · exact Nat.lt_of_lt_of_le ((Nat.log2_lt h0).mpr (show i < 2 ^ 20 by omega)) (by decide)
    rw [show Str.ofString (toString ((i : Nat) : Int)) = nTx i from rfl]
    have u13 : Mu p H H3 := (u1.trans (Mu.of s2)).trans u3
    have hN := num_okW hi
    have fin : ∀ (a b : Str) (H4 H5 : Hp) (l : Addr), Mu p H H4 → PenP m.K p c (n + 5) H4 → H4 l = none → Same H4 H5 → H5 l = some (.lst [.str a, .str b]) → (lawFits a f = true ∧ okW a) → (lawFits b f = true ∧ okW b) → spPick m.K [V.ref p, V.ref l] H5 Q fun _ _ _ => False :=
      fun a b H4 H5 l u4 p4 n5 s5 e5 ha hb => ⟨p, c, l, n + 5, _, rfl, p4.keep s5, by omega, .inl (.inl e5), fun z => p4.ne (by rw [← z]; exact n5), by simp, by simp, fun v H6 u6 p6 hv => by
        simp only [List.mem_cons, List.not_mem_nil, or_false] at hv
        rcases hv with rfl | rfl
        · exact k _ H6 ((u4.trans (Mu.of s5)).trans u6) (p6.mono (by omega)) ha.1 ha.2
        · exact k _ H6 ((u4.trans (Mu.of s5)).trans u6) (p6.mono (by omega)) hb.1 hb.2⟩
    walk_at "go"
    rw [dec_strS]
    refine ite2b (fun h2 => ?_) (fun h2 => ?_)
    · walk_at "go"
      refine k _ H3 u13 (p3.mono (by omega)) ?_ hN
      exact fits_num hi f (.inl (of_decide_eq_true h2))
    · walk_at "go"
      rw [dec_strS]
      refine ite2b (fun h3 => ?_) (fun h3 => ?_)
      · walk_at "go"
        refine w_call C 2 G2 ?_
        walk_at "go"
        have fz := of_decide_eq_true h3
        refine w_lstN ?_
        walk_at "go"
        rw [dec_strS]
        have hfn : lawFits (nTx i) f = true := fits_num hi f (.inr (.inl fz))
        refine ite2n (fun h5 => ?_) (fun h5 => ?_)
        · have h0 : i ≠ 0 := fun z => of_decide_eq_false h5 (by rw [z]; decide +kernel)
          obtain ⟨g1, g2⟩ := fits_neg hi h0
          walk_at "go"
          refine o_adds ?_ ?_
          · have := nTx_len hi
            exact Nat.le_trans (show 1 + (nTx i).length ≤ 10 by omega) (szN 10)
          walk_at "go"
          refine ⟨szN 2, fun l H5 n5 s5 e5 => ?_⟩
          walk_at "go"
          exact fin _ _ H3 H5 l u13 (p3.mono (by omega)) n5 s5 e5 ⟨hfn, hN⟩ ⟨by rw [fz]; exact g1, g2⟩
        · walk_at "go"
          refine ⟨szN 2, fun l H5 n5 s5 e5 => ?_⟩
          walk_at "go"
          refine fin _ _ H3 H5 l u13 (p3.mono (by omega)) n5 s5 e5 ⟨hfn, hN⟩ ?_
          have ez : ("0" : Str) = nTx 0 := by decide +kernel
          rw [ez]
          exact ⟨fits_num (by decide) f (.inr (.inl fz)), num_okW (by decide)⟩
      · walk_at "go"
        rw [dec_strS]
        refine ite2b (fun h4 => ?_) (fun h4 => ?_)
        · walk_at "go"
          refine w_call C 2 G2 ?_
          walk_at "go"
          have fv := of_decide_eq_true h4
          refine w_lstN ?_
          walk_at "go"
          refine o_adds ?_ ?_
          · have := nTx_len hi
            exact Nat.le_trans (show (nTx i).length + 1 ≤ 10 by omega) (szN 10)
          refine w_strI C 1 T.str ?_
          walk_at "go"
          refine w_call C 3 G3 ?_
          walk_at "go"
          refine ⟨p, c, 999999, n + 2, rfl, p3, by omega, by decide, by decide, fun r4 H4 u4 p4 a4 b4 => ?_⟩
          walk_at "go"
          have e4 : (1 + r4 : Int) = ((1 + r4.toNat : Nat) : Int) := by omega
          refine ⟨?_, ?_⟩
          · rw [e4, show (((1 + r4.toNat : Nat) : Int)).natAbs = 1 + r4.toNat from rfl]
            exact Nat.lt_of_lt_of_le ((Nat.log2_lt (by omega)).mpr (show 1 + r4.toNat < 2 ^ 20 by omega)) (by decide)
          rw [e4, show Str.ofString (toString (((1 + r4.toNat : Nat)) : Int)) = nTx (1 + r4.toNat) from rfl]
          have hd : 1 + r4.toNat < 1000000 := by omega
          obtain ⟨g1, g2⟩ := fits_frac hi hd (by omega)
          refine o_adds ?_ ?_
          · have := nTx_len hi
            have := nTx_len hd
            have e5 : ((nTx i) ++ ("/" : Str)).length = (nTx i).length + 1 := by rw [str_len, app_cps, List.length_append, ← str_len]; rfl
            exact Nat.le_trans (show (nTx i ++ Str.ofString "/").length + (nTx (1 + r4.toNat)).length ≤ 20 by omega) (szN 20)
          walk_at "go"
          refine ⟨szN 2, fun l H5 n5 s5 e5 => ?_⟩
          walk_at "go"
          exact fin _ _ H4 H5 l (u13.trans u4) (p4.mono (by omega)) n5 s5 e5 ⟨fits_num hi f (.inr (.inr fv)), hN⟩ ⟨by rw [fv]; exact g1, g2⟩
        · walk_at "go"
          refine k f H3 u13 (p3.mono (by omega)) ?_ hf
          unfold lawFits
          rw [h1, h2, h3, h4]
          simp
end K9

set_option Elab.async false
set_option linter.all false
set_option maxRecDepth 100000
set_option maxHeartbeats 4000000
namespace K9
open PySem PySem.Spec PyProof.Rows L2 Wp
local macro_rules | `(tactic| walk_at "go1") => `(tactic| first
  | (with_reducible show wE _ (Expr.Name _ _) _ _ _); (first | refine wv ‹On _ _ _ _› 0 ?_ | refine wv ‹On _ _ _ _› 1 ?_ | refine wv ‹On _ _ _ _› 2 ?_ | refine wv ‹On _ _ _ _› 3 ?_ | refine wv ‹On _ _ _ _› 4 ?_ | refine wv ‹On _ _ _ _› 5 ?_ | refine wv ‹On _ _ _ _› 6 ?_ | refine wv ‹On _ _ _ _› 7 ?_ | refine wv ‹On _ _ _ _› 8 ?_ | refine wv ‹On _ _ _ _› 9 ?_ | refine wv ‹On _ _ _ _› 10 ?_ | refine wv ‹On _ _ _ _› 11 ?_ | refine wv ‹On _ _ _ _› 12 ?_ | refine wv ‹On _ _ _ _› 13 ?_)
  | with_reducible refine w_int ?_
  | with_reducible refine w_str ?_
  | with_reducible refine w_bl ?_
  | with_reducible refine w_non ?_
  | with_reducible refine w_bin ?_
  | (with_reducible show wE _ (Expr.Compare _ [_] [_] _) _ _ _); (refine w_cmp ?_)
  | (with_reducible show wT _ (Expr.Compare _ [_] [_] _) _ _ _); (refine wt_cmp ?_)
  | (with_reducible show wE _ (Expr.Compare _ [_, _] [_, _] _) _ _ _); (refine w_chain ?_)
  | (with_reducible show wT _ (Expr.Compare _ [_, _] [_, _] _) _ _ _); (refine wt_chain ?_)
  | with_reducible refine wt_not ?_
  | (with_reducible show wT _ (Expr.BoolOp _ _ _) _ _ _); (refine wt_w ?_)
  | with_reducible refine ww_and1 ?_
  | with_reducible refine ww_or1 ?_
  | with_reducible refine ww_and ?_
  | with_reducible refine ww_or ?_
  | with_reducible refine w_one ?_
  | with_reducible refine w_and ?_
  | with_reducible refine w_or ?_
  | with_reducible refine w_not ?_
  | with_reducible refine w_ifx ?_
  | (with_reducible show wT _ (Expr.Call _ _ _ _) _ _ _); (refine wt_val ?_)
  | with_reducible refine w_sl ?_
  | with_reducible refine w_slf ?_
  | with_reducible refine w_slt ?_
  | (with_reducible show wE _ (Expr.Subscript _ (Expr.Constant (Const.str _) _ _) _) _ _ _); (refine w_dgN ‹On _ _ _ _› ?_)
  | (with_reducible show DG _ _ _ _); (refine dget_at (by assumption) (by rfl) ?_)
  | (with_reducible show wE _ (Expr.Subscript _ (Expr.Constant _ _ _) _) _ _ _); (refine w_sub ?_)
  | (with_reducible show wE _ (Expr.Subscript _ (Expr.BinOp _ _ _ _) _) _ _ _); (refine w_sub ?_)
  | (with_reducible show wA _ (_ :: _) _ _ _); (refine wa_cons ?_)
  | with_reducible refine wa_nil ?_
  | with_reducible refine o_add ?_
  | with_reducible refine o_sub ?_
  | with_reducible refine o_lt ?_
  | with_reducible refine o_le ?_
  | with_reducible refine o_gt ?_
  | with_reducible refine o_ge ?_
  | with_reducible refine o_is ?_
  | with_reducible refine o_isnt ?_
  | (with_reducible show wO _ (compareOp CmpOp.Eq) _ _ _ _); (refine o_eq ?_)
  | (with_reducible show wO _ (compareOp CmpOp.NotEq) _ _ _ _); (refine o_ne ?_)
  | with_reducible refine b_one ?_
  | with_reducible refine b_nil ?_
  | with_reducible refine b_cons ?_
  | with_reducible refine s_if ?_
  | with_reducible refine s_ret ?_
  | with_reducible refine s_retN ?_
  | with_reducible refine s_pass ?_
  | with_reducible refine s_break ?_
  | with_reducible refine s_cont ?_
  | (with_reducible show wS _ (Stmt.Expr (Expr.Call (Expr.Attribute _ "append" _) [_] [] _) _) _ _ _); (refine s_append ‹On _ _ _ _› ?_)
  | (with_reducible show wS _ (Stmt.Expr _ _) _ _ _); (refine s_expr ?_)
  | (with_reducible show wE _ (Expr.ListComp _ _ _ _) _ _ _); (refine w_ofL ‹On _ _ _ _› ?_)
  | (with_reducible show wS _ (Stmt.Assign [Expr.Name _ _] (Expr.ListComp _ _ _ _) _) _ _ _); (first | refine s_ofL ‹On _ _ _ _› 0 ?_ | refine s_ofL ‹On _ _ _ _› 1 ?_ | refine s_ofL ‹On _ _ _ _› 2 ?_ | refine s_ofL ‹On _ _ _ _› 3 ?_ | refine s_ofL ‹On _ _ _ _› 4 ?_ | refine s_ofL ‹On _ _ _ _› 5 ?_ | refine s_ofL ‹On _ _ _ _› 6 ?_ | refine s_ofL ‹On _ _ _ _› 7 ?_ | refine s_ofL ‹On _ _ _ _› 8 ?_ | refine s_ofL ‹On _ _ _ _› 9 ?_ | refine s_ofL ‹On _ _ _ _› 10 ?_ | refine s_ofL ‹On _ _ _ _› 11 ?_ | refine s_ofL ‹On _ _ _ _› 12 ?_ | refine s_ofL ‹On _ _ _ _› 13 ?_)
  | (with_reducible show wS _ (Stmt.Assign [Expr.Name _ _] _ _) _ _ _); (first | refine s_set ‹On _ _ _ _› 0 ?_ | refine s_set ‹On _ _ _ _› 1 ?_ | refine s_set ‹On _ _ _ _› 2 ?_ | refine s_set ‹On _ _ _ _› 3 ?_ | refine s_set ‹On _ _ _ _› 4 ?_ | refine s_set ‹On _ _ _ _› 5 ?_ | refine s_set ‹On _ _ _ _› 6 ?_ | refine s_set ‹On _ _ _ _› 7 ?_ | refine s_set ‹On _ _ _ _› 8 ?_ | refine s_set ‹On _ _ _ _› 9 ?_ | refine s_set ‹On _ _ _ _› 10 ?_ | refine s_set ‹On _ _ _ _› 11 ?_ | refine s_set ‹On _ _ _ _› 12 ?_ | refine s_set ‹On _ _ _ _› 13 ?_)
  | (with_reducible show wS _ (Stmt.Assign [Expr.Subscript _ (Expr.Constant (Const.str _) _ _) _] _ _) _ _ _); (refine s_dput ‹On _ _ _ _› ?_)
  | (with_reducible show wG _ (Expr.Name _ _) _ _ _ _); (first | refine g_name ‹On _ _ _ _› 0 ?_ | refine g_name ‹On _ _ _ _› 1 ?_ | refine g_name ‹On _ _ _ _› 2 ?_ | refine g_name ‹On _ _ _ _› 3 ?_ | refine g_name ‹On _ _ _ _› 4 ?_ | refine g_name ‹On _ _ _ _› 5 ?_ | refine g_name ‹On _ _ _ _› 6 ?_ | refine g_name ‹On _ _ _ _› 7 ?_ | refine g_name ‹On _ _ _ _› 8 ?_ | refine g_name ‹On _ _ _ _› 9 ?_ | refine g_name ‹On _ _ _ _› 10 ?_ | refine g_name ‹On _ _ _ _› 11 ?_ | refine g_name ‹On _ _ _ _› 12 ?_ | refine g_name ‹On _ _ _ _› 13 ?_)
  | with_reducible refine iteT ?_
  | with_reducible refine iteF ?_
  | with_reducible refine iteNT ?_
  | with_reducible refine iteNF ?_
  | with_reducible refine Exists.intro _ (And.intro rfl ?_))
local macro_rules | `(tactic| walk_at "go") => `(tactic| repeat (walk_at "go1"))
/-! _law_bent_vow -/
def wt (ws : List Str) : Nat := (ws.map (·.length)).sum + ws.length
theorem wt_app (a b : List Str) : wt (a ++ b) = wt a + wt b := by
  unfold wt
  rw [List.map_append, List.sum_append, List.length_append]
  omega
theorem wt_cons (x : Str) (b : List Str) : wt (x :: b) = x.length + 1 + wt b := by
  unfold wt
  rw [List.map_cons, List.sum_cons, List.length_cons]
  omega
theorem wt_nil : wt [] = 0 := rfl
theorem wt_take (ws : List Str) (k : Nat) : wt (ws.take k) + wt (ws.drop k) = wt ws := by
  rw [← wt_app, List.take_append_drop]
theorem wt_mem {ws : List Str} {x : Str} (h : x ∈ ws) : x.length + 1 ≤ wt ws := by
  induction ws with
  | nil => cases h
  | cons a r ih =>
    rw [wt_cons]
    rcases List.mem_cons.mp h with e | h
    · rw [e]; omega
    · have := ih h
      omega
theorem wt_split (t : Str) : wt (Txt.split t " ") ≤ t.length + 1 := PyProof.Rows.split_weight t " " (by decide +kernel)
theorem len_wt (ws : List Str) : ws.length ≤ wt ws := by unfold wt; omega
theorem join_wt (ws : List Str) : (Txt.join " " ws).length ≤ wt ws := by
  rw [TL.join_eq]
  have := PySem.StrLaws.join_length_le " " ws
  rw [show (" " : Str).length = 1 from by decide +kernel] at this
  unfold wt
  omega
def okO (w : Str) : Prop := chOk w ∧ w.length ≤ 20
def okOB (w : Str) : Bool := w.cps.all (fun c => decide (c < 128)) && decide (w.length ≤ 20)
theorem okO_of {w : Str} (h : okOB w = true) : okO w := by
  unfold okOB at h
  simp only [Bool.and_eq_true, decide_eq_true_eq] at h
  refine ⟨fun c hc => ?_, h.2⟩
  have := h.1
  rw [Array.all_eq_true_iff_forall_mem] at this
  exact of_decide_eq_true (this c (by simpa using hc))
def spBent (K : PySem.W.Frag) : Sp := fun vs H Q _ => ∃ (p c : Addr) (n : Nat) (t : Str), vs = [.ref p, .str t] ∧ PenP K p c n H ∧ n + 10 ≤ 1000000 ∧ t.length ≤ 10000 ∧ chOk t ∧ ∀ t' H', Mu p H H' → PenP K p c (n + 10) H' → t'.length ≤ 2 * t.length + 40 → chOk t' → Q (.str t') H'
abbrev nBent : Nm := defNm ["pen", "text", "words", "k", "way", "some", "odd"] sBent ["_law_draw", "len", "_law_pick"] [0, 1, 2, 3, 4, 5, 6]
def odds1 : List Str := ["", "now", "then", "free", "hangs", "holds", "strong", "within", "beyond", "allowed", "like", "a", "A"]
def odds2 : List Str := ["1a", "0", "00", "-0", "-5", "3/2", "3/0", "0/5", "1/2/3", "/2", "3/", "-1/2", "1000000", "-1000000"]
def odds3 : List Str := "a\n" ::
  "abcdefghijkl" :: "abcdefghijklm" :: "1_0" :: "+5" :: "5.0" :: "x y" :: []
theorem odds_ok : ∀ w ∈ odds1 ++ odds2 ++ odds3, okO w := by
  have e : (odds1 ++ odds2 ++ odds3).all okOB = true := by decide +kernel
  exact fun w hw => okO_of (List.all_eq_true.mp e w hw)
theorem b_bent {X : Cx} {m : Md} {vs : List V} {H : Hp} {Q : VK} {E : XK} (T : Txt m) (G2 : Df m 2 "_law_pick" ["pen", "some"] (spPick m.K)) (G3 : Df m 2 "_law_draw" ["pen", "many"] (spDraw m.K)) (C : On X nBent m 2) (B : Bd X E) (h : spBent m.K vs H Q E) :
    wB X (defBody sBent) (out Q) (start nBent.N vs) H := by
  obtain ⟨p, c, n, t, rfl, hp, hn, ht, hch, k⟩ := h
  refine b_cons ?_
  walk_at "go"
  refine w_split ?_
  walk_at "go"
  refine ⟨Nat.le_trans (show t.length + 2 ≤ 100000 by omega) (by decide), ?_⟩
  walk_at "go"
  refine ⟨by decide, fun w H1 hw s1 e1 => ?_⟩
  have hpc := split_ch (y := " ") hch
  have hwt := wt_split t
  have hpos : 1 ≤ (Txt.split t " ").length := PyProof.Rows.split_pos t " "
  generalize hws : Txt.split t " " = ws at hpc hwt hpos e1
  have hlw := len_wt ws
  have q1 : SqL m.K H1 w (ws.map V.str) := .inl (.inl e1)
  have p1 := hp.keep s1
  have nwp : w ≠ p := fun z => hp.ne (by rw [← z]; exact hw)
  walk_at "go"
  refine s_par C 3 4 ?_
  walk_at "go"
  refine w_call C 0 G3 ?_
  walk_at "go"
  refine w_lenL C 1 T.len ?_
  walk_at "go"
  refine ⟨w, _, rfl, .inl q1, ?_⟩
  walk_at "go"
  rw [List.length_map]
  refine ⟨p, c, _, n, rfl, p1, by omega, by omega, by omega, fun kk H2 u2 p2 a2 b2 => ?_⟩
  walk_at "go"
  refine w_call C 0 G3 ?_
  walk_at "go"
  refine ⟨p, c, 7, _, rfl, p2, by omega, by decide, by decide, fun way H3 u3 p3 a3 b3 => ?_⟩
  walk_at "go"
  refine ⟨_, _, rfl, ?_⟩
  walk_at "go"
  refine w_lstN ?_
  walk_at "go"
  refine ⟨szN 13, fun l1 H4 n4 s4 e4 => ?_⟩
  walk_at "go"
  refine w_lstN ?_
  walk_at "go"
  refine ⟨szN 14, fun l2 H5 n5 s5 e5 => ?_⟩
  refine o_cat (s5 _ _ e4) e5 (by simp; exact szN 27) fun l3 H6 n6 s6 e6 => ?_
  walk_at "go"
  refine w_lstN ?_
  walk_at "go"
  refine ⟨szN 7, fun l4 H7 n7 s7 e7 => ?_⟩
  refine o_cat (s7 _ _ e6) e7 (by simp; exact szN 34) fun l5 H8 n8 s8 e8 => ?_
  have s38 := (((s4.trans s5).trans s6).trans s7).trans s8
  have p8 := p3.keep s38
  have w8 : H8 w = some (.lst (ws.map V.str)) := s38 _ _ (u3 _ _ nwp (u2 _ _ nwp e1))
  have u8 : Mu p H H8 := ((Mu.of s1).trans (u2.trans u3)).trans (Mu.of s38)
  replace e8 : H8 l5 = some (.lst ((odds1 ++ odds2 ++ odds3).map V.str)) := e8
  have nl5 : l5 ≠ p := fun z => (p3.keep (((s4.trans s5).trans s6).trans s7)).ne (by rw [← z]; exact n8)
  clear e4 e5 e6 e7 n4 n5 n6 n7 s4 s5 s6 s7 s8 s38
  walk_at "go"
  refine w_call C 2 G2 ?_
  walk_at "go"
  refine ⟨p, c, l5, _, _, rfl, p8, by omega, .inl (.inl e8), nl5, by simp [odds1], by simp [odds1, odds2, odds3], fun v H9 u9 p9 hv => ?_⟩
  obtain ⟨odd, hodd, rfl⟩ := List.mem_map.mp hv
  have oo := odds_ok odd hodd
  clear e8 hv hodd
  have w9 : H9 w = some (.lst (ws.map V.str)) := u9 _ _ nwp w8
  have q9 : SqL m.K H9 w (ws.map V.str) := .inl (.inl w9)
  have u09 := u8.trans u9
  have hkk : kk.toNat < ws.length := by omega
  have ekk : kk = (kk.toNat : Int) := by omega
  have hkm : ws[kk.toNat] ∈ ws := List.getElem_mem hkk
  refine b_cut (fun σ' H' => ∃ (al : Addr) (ws' : List Str), σ'[2]? = some (some (.ref al)) ∧ H' al = some (.lst (ws'.map V.str)) ∧ wt ws' ≤ 2 * wt ws + 30 ∧ (∀ z ∈ ws', chOk z) ∧ Mu p H H' ∧ PenP m.K p c (n + 10) H') ?_ fun σ' H' ⟨al, ws', g1, g2, g3, g4, g5, g6⟩ => ?_
  · have lt := wt_take ws kk.toNat
    have lt1 := wt_take ws (kk.toNat + 1)
    have lm := wt_mem hkm
    refine s_if ?_
    walk_at "go"
    refine ite2b (fun h1 => ?_) (fun h1 => ?_)
    · refine b_one (s_lput ?_)
      walk_at "go"
      refine ⟨w, ws.map V.str, kk, kk.toNat, rfl, rfl, w9, ?_, ?_⟩
      · unfold ixN
        rw [if_pos a2, if_pos (by rw [List.length_map]; omega)]
      · refine ⟨w, ws.set kk.toNat odd, rfl, by rw [upd_same, List.map_set], ?_, fun z hz => ?_, ?_, ?_⟩
        · rw [List.set_eq_take_append_cons_drop, if_pos hkk, wt_app, wt_cons]
          have := oo.2
          omega
        · rcases List.mem_or_eq_of_mem_set hz with z1 | z1
          · exact hpc z z1
          · rw [z1]; exact oo.1
        · intro b o hb e
          rw [upd_ne (ne_of_none e hw)]
          exact u09 b o hb e
        · exact (hp.lay hw p9).mono (by omega)
    · walk_at "go"
      rw [show decide (V.int way = V.int 3) = decide (way = 3) from dec_iff ⟨fun z => by injection z, fun z => by rw [z]⟩]
      refine ite2b (fun h2 => ?_) (fun h2 => ?_)
      · walk_at "go"
        refine sl_to C q9 ekk fun x1 G1 m1 t1 f1 => ?_
        walk_at "go"
        refine sl_from C (b' := kk.toNat + 1) (t1.seq q9) (by omega) fun x2 G2 m2 t2 f2 => ?_
        rw [← List.map_take] at f1
        rw [← List.map_drop] at f2
        refine o_cat (t2 _ _ f1) f2 (by simp only [List.length_map, List.length_take, List.length_drop]; exact Nat.le_trans (show _ ≤ 100000 by omega) (by decide)) fun x3 G3 m3 t3 f3 => ?_
        refine ⟨x3, ws.take kk.toNat ++ ws.drop (kk.toNat + 1), rfl, by rw [f3, List.map_append], by rw [wt_app]; omega, fun z hz => ?_, u09.trans (Mu.of ((t1.trans t2).trans t3)), (p9.keep ((t1.trans t2).trans t3)).mono (by omega)⟩
        rcases List.mem_append.mp hz with z1 | z1
        · exact hpc z (List.mem_of_mem_take z1)
        · exact hpc z (List.mem_of_mem_drop z1)
      · walk_at "go"
        rw [show decide (V.int way = V.int 4) = decide (way = 4) from dec_iff ⟨fun z => by injection z, fun z => by rw [z]⟩]
        refine ite2b (fun h3 => ?_) (fun h3 => ?_)
        · walk_at "go"
          refine sl_to C q9 ekk fun x1 G1 m1 t1 f1 => ?_
          rw [← List.map_take] at f1
          walk_at "go"
          refine w_lstN ?_
          refine wa_cons ?_
          refine w_call C 2 G2 ?_
          walk_at "go"
          refine w_lstN ?_
          walk_at "go"
          refine w_subN ?_
          walk_at "go"
          refine i_list C (t1.seq q9) (by rw [ekk]; exact atI_nat (at_map (List.getElem?_eq_getElem hkk))) ?_
          walk_at "go"
          refine ⟨szN 2, fun x2 G2' m2 t2 f2 => ?_⟩
          walk_at "go"
          have t12 := t1.trans t2
          refine ⟨p, c, x2, _, _, rfl, p9.keep t12, by omega, .inl (.inl f2), fun z => (p9.keep t1).ne (by rw [← z]; exact m2), by simp, by simp, fun v G3 v3 pp3 hv => ?_⟩
          obtain ⟨y, rfl, hy, ly⟩ : ∃ y : Str, v = .str y ∧ chOk y ∧ y.length ≤ wt ws + 20 := by
            simp only [List.mem_cons, List.not_mem_nil, or_false] at hv
            rcases hv with rfl | rfl
            · exact ⟨_, rfl, oo.1, by have := oo.2; omega⟩
            · exact ⟨_, rfl, hpc _ hkm, by omega⟩
          have nx1 : x1 ≠ p := fun z => p9.ne (by rw [← z]; exact m1)
          have f1' := v3 _ _ nx1 (t2 _ _ f1)
          walk_at "go"
          refine ⟨szN 1, fun x3 G4 m4 t4 f4 => ?_⟩
          refine o_cat (t4 _ _ f1') f4 (by simp only [List.length_map, List.length_take, List.length_cons, List.length_nil]; exact Nat.le_trans (show _ ≤ 100000 by omega) (by decide)) fun x4 G5 m5 t5 f5 => ?_
          walk_at "go"
          have w5 : SqL m.K G5 w (ws.map V.str) := (t4.trans t5).seq (.inl (.inl (v3 _ _ nwp (t12 _ _ w9))))
          refine sl_from C (b' := kk.toNat) w5 ekk fun x5 G6 m6 t6 f6 => ?_
          rw [← List.map_drop] at f6
          refine o_cat (t6 _ _ f5) f6 (by simp only [List.length_append, List.length_map, List.length_take, List.length_drop, List.length_cons, List.length_nil]; exact Nat.le_trans (show _ ≤ 100000 by omega) (by decide)) fun x6 G7 m7 t7 f7 => ?_
          have tt := ((t4.trans t5).trans t6).trans t7
          refine ⟨x6, (ws.take kk.toNat ++ [y]) ++ ws.drop kk.toNat, rfl, by rw [f7, List.map_append, List.map_append]; rfl, by rw [wt_app, wt_app, wt_cons, wt_nil]; omega, fun z hz => ?_, ((u09.trans (Mu.of t12)).trans v3).trans (Mu.of tt), (pp3.keep tt).mono (by omega)⟩
          rcases List.mem_append.mp hz with z1 | z1
          · rcases List.mem_append.mp z1 with z1 | z1
            · exact hpc z (List.mem_of_mem_take z1)
            · rw [List.mem_singleton.mp z1]; exact hy
          · exact hpc z (List.mem_of_mem_drop z1)
        · walk_at "go"
          rw [show decide (V.int way = V.int 5) = decide (way = 5) from dec_iff ⟨fun z => by injection z, fun z => by rw [z]⟩]
          refine ite2b (fun h4 => ?_) (fun h4 => ?_)
          · walk_at "go"
            refine w_lstN ?_
            refine wa_cons ?_
            refine w_call C 2 G2 ?_
            walk_at "go"
            refine w_lstN ?_
            walk_at "go"
            have hlast : ws.length - 1 < ws.length := by omega
            have hlm : ws[ws.length - 1] ∈ ws := List.getElem_mem hlast
            have lm2 := wt_mem hlm
            refine w_subN ?_
            walk_at "go"
            refine w_neg (i := 0) ?_
            walk_at "go"
            refine i_list C q9 (v := .str ws[ws.length - 1]) (by
              unfold atI ixN
              rw [if_neg (by decide), if_pos (by rw [List.length_map]; omega), List.length_map]
              show (ws.map V.str)[((-1 : Int) + (ws.length : Int)).toNat]? = _
              rw [show ((-1 : Int) + (ws.length : Int)).toNat = ws.length - 1 by omega]
              exact at_map (List.getElem?_eq_getElem hlast)) ?_
            walk_at "go"
            refine ⟨szN 3, fun x2 G2' m2 t2 f2 => ?_⟩
            walk_at "go"
            refine ⟨p, c, x2, _, _, rfl, p9.keep t2, by omega, .inl (.inl f2), fun z => p9.ne (by rw [← z]; exact m2), by simp, by simp, fun v G3 v3 pp3 hv => ?_⟩
            obtain ⟨y, rfl, hy, ly⟩ : ∃ y : Str, v = .str y ∧ chOk y ∧ y.length ≤ wt ws + 20 := by
              simp only [List.mem_cons, List.not_mem_nil, or_false] at hv
              rcases hv with rfl | rfl | rfl
              · exact ⟨_, rfl, oo.1, by have := oo.2; omega⟩
              · exact ⟨_, rfl, hpc _ hlm, by omega⟩
              · have o1 := odds_ok "0" (by decide +kernel)
                exact ⟨_, rfl, (okO_of (by decide +kernel : okOB "1" = true)).1, by rw [show ("1" : Str).length = 1 from by decide +kernel]; omega⟩
            walk_at "go"
            refine ⟨szN 1, fun x3 G4 m4 t4 f4 => ?_⟩
            refine o_cat (t4 _ _ (v3 _ _ nwp (t2 _ _ w9))) f4 (by simp only [List.length_map, List.length_cons, List.length_nil]; exact Nat.le_trans (show _ ≤ 100000 by omega) (by decide)) fun x6 G7 m7 t7 f7 => ?_
            have tt := t4.trans t7
            refine ⟨x6, ws ++ [y], rfl, by rw [f7, List.map_append]; rfl, by rw [wt_app, wt_cons, wt_nil]; omega, fun z hz => ?_, ((u09.trans (Mu.of t2)).trans v3).trans (Mu.of tt), (pp3.keep tt).mono (by omega)⟩
            rcases List.mem_append.mp hz with z1 | z1
            · exact hpc z z1
            · rw [List.mem_singleton.mp z1]; exact hy
          · walk_at "go"
            refine sl_to C q9 ekk fun x1 G1 m1 t1 f1 => ?_
            rw [← List.map_take] at f1
            exact ⟨x1, ws.take kk.toNat, rfl, f1, by omega, fun z hz => hpc z (List.mem_of_mem_take hz), u09.trans (Mu.of t1), (p9.keep t1).mono (by omega)⟩
  · refine b_one (s_ret ?_)
    refine w_join C ?_
    walk_at "go"
    refine wv C 2 ?_ g1
    have jw := join_wt ws'
    refine ⟨al, ws', rfl, .inl (.inl (.inl g2)), ?_, ?_⟩
    · rw [show (" " : Str).length = 1 from by decide +kernel]
      unfold wt at g3
      unfold wt at hwt
      omega
    · exact k _ H' g5 g6 (by omega) (join_ch (okO_of (by decide +kernel : okOB " " = true)).1 g4)
end K9

set_option Elab.async false
set_option linter.all false
set_option maxRecDepth 100000
set_option maxHeartbeats 4000000
namespace K9
open PySem PySem.Spec PyProof.Rows L2 Wp
/-! the plain law: the forms that stay alive answer as the program does -/
def stepD (w : Str) (z : List Str × List Str) : Option (List Str × List Str) := match z.2 with
  | [] => none
  | a :: r => if lawFits w a then some (z.1, r) else none
def runD : List (List Str × List Str) → List Str → Nat → Except Nat Str
  | L, [], pos => (match L.filter (fun z => z.2.isEmpty) with
    | [] => .error (pos + 1)
    | z :: _ => .ok (kindF z.1))
  | L, w :: ws, pos => if (L.filterMap (stepD w)).isEmpty then .error (pos + 1) else runD (L.filterMap (stepD w)) ws (pos + 1)
def pairsAt (ws : List Str) (k : Nat) : List (List Str × List Str) := (aliveAt ws k).map fun f => (f, f.drop k)
theorem alive_long {ws : List Str} : ∀ {k : Nat} {f : List Str}, f ∈ aliveAt ws k → k ≤ f.length
  | 0, f, _ => Nat.zero_le _
  | k + 1, f, h => by
    have h2 := (List.mem_filter.mp h).2
    unfold keepsAt at h2
    simp only [Bool.and_eq_true, decide_eq_true_eq] at h2
    exact h2.1
theorem fm_if {α β : Type} {p : α → Bool} {g : α → β} {h : α → Option β} : ∀ l : List α, (∀ x ∈ l, h x = if p x then some (g x) else none) → l.filterMap h = (l.filter p).map g
  | [], _ => rfl
  | a :: r, hh => by
    rw [List.filterMap_cons, List.filter_cons, hh a List.mem_cons_self, fm_if r fun x hx => hh x (List.mem_cons_of_mem _ hx)]
    cases p a <;> simp
theorem step_pairs {ws : List Str} {k : Nat} (hk : k < ws.length) : (pairsAt ws k).filterMap (stepD ws[k]) = pairsAt ws (k + 1) := by
  unfold pairsAt
  rw [List.filterMap_map]
  show _ = ((aliveAt ws k).filter (keepsAt ws k)).map _
  refine fm_if _ fun f _ => ?_
  unfold keepsAt stepD
  show (match f.drop k with
    | [] => none
    | a :: r => if lawFits ws[k] a then some (f, r) else none) = _
  rw [getD_of' (List.getElem?_eq_getElem hk)]
  by_cases h : k < f.length
  · rw [List.drop_eq_getElem_cons h, decide_eq_true h, getD_of' (List.getElem?_eq_getElem h)]
    rfl
  · rw [List.drop_of_length_le (by omega), decide_eq_false h]
    rfl
theorem run_of {ws : List Str} : ∀ (n k : Nat), ws.length - k = n → k ≤ ws.length → (∀ j < k, (aliveAt ws (j + 1)).isEmpty = false) → dueEnd ws = runD (pairsAt ws k) (ws.drop k) k
  | 0, k, hn, hk, hj => by
    have e : k = ws.length := by omega
    subst e
    unfold dueEnd
    rw [find_no hj, List.drop_length]
    unfold runD pairsAt
    rw [List.filter_map]
    have e2 : (aliveAt ws ws.length).filter ((fun z : List Str × List Str => z.2.isEmpty) ∘ fun f => (f, f.drop ws.length)) = (aliveAt ws ws.length).filter fun f => decide (f.length = ws.length) := by
      refine List.filter_congr fun f hf => ?_
      have hl := alive_long hf
      show (f.drop ws.length).isEmpty = _
      by_cases h : f.length = ws.length
      · rw [decide_eq_true h, ← h, List.drop_length]
        rfl
      · rw [decide_eq_false h, List.drop_eq_getElem_cons (by omega)]
        rfl
    rw [e2]
    cases (aliveAt ws ws.length).filter fun f => decide (f.length = ws.length) <;> rfl
  | n + 1, k, hn, hk, hj => by
    have hlt : k < ws.length := by omega
    rw [List.drop_eq_getElem_cons hlt]
    unfold runD
    rw [step_pairs hlt]
    have e : (pairsAt ws (k + 1)).isEmpty = (aliveAt ws (k + 1)).isEmpty := emp_map
    rw [e]
    cases h : (aliveAt ws (k + 1)).isEmpty with
    | true =>
      rw [if_pos rfl]
      unfold dueEnd
      rw [find_at (p := fun k => (aliveAt ws (k + 1)).isEmpty) hlt h hj]
    | false =>
      rw [if_neg Bool.false_ne_true]
      refine run_of n (k + 1) (by omega) hlt fun j hjk => ?_
      by_cases e : j = k
      · rw [e]; exact h
      · exact hj j (by omega)
theorem due_run (ws : List Str) : dueEnd ws = runD (formsL.map fun f => (f, f)) ws 0 := run_of ws.length 0 rfl (Nat.zero_le _) fun j hj => absurd hj (Nat.not_lt_zero _)
/-! tails of numbers -/
def tailsOf (P : List (List Str × Nat)) : List (List Str × List Str) := P.map fun q => (q.1, zs q.2)
def badZ (P : List (List Str × Nat)) (ws : List Str) (i : Nat) : Bool := P.all (fun q => decide (q.2 ≤ i)) || !isZ (ws.getD i default).cps.toList
def downP (P : List (List Str × Nat)) : List (List Str × Nat) := P.filterMap fun q => match q.2 with
  | 0 => none
  | n + 1 => some (q.1, n)
theorem step_tails {w : Str} (h : isZ w.cps.toList = true) : ∀ P : List (List Str × Nat), (tailsOf P).filterMap (stepD w) = tailsOf (downP P)
  | [] => rfl
  | (f, 0) :: r => by
    have ih := step_tails h r
    show (tailsOf r).filterMap (stepD w) = tailsOf (downP r)
    exact ih
  | (f, n + 1) :: r => by
    have ih := step_tails h r
    have e : stepD w (f, zs (n + 1)) = some (f, zs n) := by
      show (if lawFits w "z" then some (f, zs n) else none) = _
      rw [if_pos (show lawFits w "z" = true from h)]
    show List.filterMap (stepD w) ((f, zs (n + 1)) :: tailsOf r) = (f, zs n) :: tailsOf (downP r)
    rw [List.filterMap_cons, e, ih]
theorem step_tailsN {w : Str} (h : isZ w.cps.toList = false) : ∀ P : List (List Str × Nat), (tailsOf P).filterMap (stepD w) = []
  | [] => rfl
  | (f, 0) :: r => step_tailsN h r
  | (f, n + 1) :: r => by
    have e : stepD w (f, zs (n + 1)) = none := by
      show (if lawFits w "z" then some (f, zs n) else none) = _
      rw [if_neg (by rw [show lawFits w "z" = false from h]; simp)]
    show List.filterMap (stepD w) ((f, zs (n + 1)) :: tailsOf r) = []
    rw [List.filterMap_cons, e]
    exact step_tailsN h r
theorem down_all (i : Nat) : ∀ P : List (List Str × Nat), (downP P).all (fun q => decide (q.2 ≤ i)) = P.all fun q => decide (q.2 ≤ i + 1)
  | [] => rfl
  | (f, 0) :: r => by
    show (downP r).all _ = (true && r.all _)
    rw [down_all i r, Bool.true_and]
  | (f, n + 1) :: r => by
    show (decide (n ≤ i) && (downP r).all _) = (decide (n + 1 ≤ i + 1) && r.all _)
    rw [down_all i r]
    congr 1
    exact dec_iff (by omega)
theorem down_emp : ∀ P : List (List Str × Nat), (downP P).isEmpty = P.all fun q => decide (q.2 ≤ 0)
  | [] => rfl
  | (f, 0) :: r => by
    show (downP r).isEmpty = (true && r.all _)
    rw [down_emp r, Bool.true_and]
  | (f, n + 1) :: r => by
    show false = (decide (n + 1 ≤ 0) && r.all _)
    rw [decide_eq_false (by omega)]
    rfl
theorem down_any (k : Nat) : ∀ P : List (List Str × Nat), (downP P).any (fun q => decide (q.2 = k)) = P.any fun q => decide (q.2 = k + 1)
  | [] => rfl
  | (f, 0) :: r => by
    show (downP r).any _ = (decide (0 = k + 1) || r.any _)
    rw [down_any k r, decide_eq_false (by omega), Bool.false_or]
  | (f, n + 1) :: r => by
    show (decide (n = k) || (downP r).any _) = (decide (n + 1 = k + 1) || r.any _)
    rw [down_any k r]
    congr 1
    exact dec_iff (by omega)
theorem down_kind {kd : Str} {P : List (List Str × Nat)} (h : ∀ q ∈ P, kindF q.1 = kd) : ∀ q ∈ downP P, kindF q.1 = kd := by
  intro q hq
  obtain ⟨x, hx, e⟩ := List.mem_filterMap.mp hq
  match x, e with
  | (f, 0), e => cases e
  | (f, n + 1), e =>
    have e2 := Option.some.inj e
    rw [← e2]
    exact h (f, n + 1) hx
def endZ (P : List (List Str × Nat)) (kd : Str) (ws : List Str) (pos : Nat) : Except Nat Str :=
  match (List.range ws.length).find? (badZ P ws) with
  | some i => .error (pos + i + 1)
  | none => if P.any (fun q => decide (q.2 = ws.length)) then .ok kd else .error (pos + ws.length + 1)
theorem run_tails {kd : Str} : ∀ (ws : List Str) (P : List (List Str × Nat)) (pos : Nat), (∀ q ∈ P, kindF q.1 = kd) → runD (tailsOf P) ws pos = endZ P kd ws pos
  | [], P, pos, hk => by
    unfold runD endZ
    show _ = (if P.any (fun q => decide (q.2 = 0)) then Except.ok kd else Except.error (pos + 0 + 1) : Except Nat Str)
    induction P with
    | nil => rfl
    | cons q r ih =>
      obtain ⟨f, n⟩ := q
      have ih' := ih fun q hq => hk q (List.mem_cons_of_mem _ hq)
      cases n with
      | zero =>
        show Except.ok (kindF f) = _
        rw [hk (f, 0) List.mem_cons_self]
        rfl
      | succ n => exact ih'
  | w :: r, P, pos, hk => by
    unfold runD endZ
    rw [List.length_cons, List.range_succ_eq_map, List.find?_cons, List.find?_map]
    cases hz : isZ w.cps.toList with
    | false =>
      rw [step_tailsN hz]
      have e : badZ P (w :: r) 0 = true := by
        unfold badZ
        rw [show ((w :: r).getD 0 default) = w from rfl, hz]
        simp
      rw [e]
      rfl
    | true =>
      rw [step_tails hz]
      have e0 : badZ P (w :: r) 0 = P.all fun q => decide (q.2 ≤ 0) := by
        unfold badZ
        rw [show ((w :: r).getD 0 default) = w from rfl, hz]
        simp
      have ee : (tailsOf (downP P)).isEmpty = P.all fun q => decide (q.2 ≤ 0) := by rw [← down_emp]; exact emp_map
      rw [e0, ee]
      cases ha : P.all fun q => decide (q.2 ≤ 0) with
      | true => rfl
      | false =>
        rw [if_neg Bool.false_ne_true, run_tails r (downP P) (pos + 1) (down_kind hk)]
        unfold endZ
        have eb : (badZ P (w :: r) ∘ Nat.succ) = badZ (downP P) r := by
          funext i
          show badZ P (w :: r) (i + 1) = _
          unfold badZ
          rw [down_all i P]
          rfl
        rw [eb, down_any]
        cases (List.range r.length).find? (badZ (downP P) r) with
        | none =>
          show _ = if _ then _ else Except.error (pos + (r.length + 1) + 1)
          rw [show pos + 1 + r.length + 1 = pos + (r.length + 1) + 1 by omega]
        | some i =>
          show Except.error (pos + 1 + i + 1) = Except.error (pos + (i + 1) + 1)
          rw [show pos + 1 + i + 1 = pos + (i + 1) + 1 by omega]
end K9

set_option Elab.async false
set_option linter.all false
set_option maxRecDepth 100000
set_option maxHeartbeats 4000000
namespace K9
open PySem PySem.Spec PyProof.Rows L2 Wp
/-! the plain law: by cases on the first words -/
def vowTail (ws : List Str) (b : Nat) (fs : List Str) (many : Nat) (kd : Str) : Except Nat Str :=
  match (List.range fs.length).find? (formBad ws b fs) with
  | some i => .error (b + i + 1)
  | none => match cellsEnd ws (b + fs.length) many with
    | some c => .error c
    | none => .ok kd
def tailE (kd : Str) : Option Nat → Except Nat Str
  | some c => .error c
  | none => .ok kd
theorem vow_err {ws : List Str} {c : Nat} (h : kindAt ws = .error c) : vowEnd ws = .error c := by
  unfold vowEnd
  rw [h]
theorem vow_ok {ws : List Str} {b : Nat} {kd : Str} (h : kindAt ws = .ok b) (hk : ws.getD (b - 1) default = kd) : vowEnd ws = vowTail ws b (formsOf kd b).1 (formsOf kd b).2 kd := by
  unfold vowEnd
  rw [h]
  dsimp only
  rw [hk]
  rfl
theorem vt_nil {ws : List Str} {b many : Nat} {kd : Str} : vowTail ws b [] many kd = tailE kd (cellsEnd ws b many) := by
  unfold vowTail
  show (match cellsEnd ws b many with
    | some c => Except.error c
    | none => .ok kd) = _
  cases cellsEnd ws b many <;> rfl
def restOne (e : Except Nat Str) (k : Str → Except Nat Str) : List Str → Except Nat Str
  | [] => e
  | w :: _ => k w
theorem vt_one {ws rest : List Str} {b many : Nat} {a kd : Str} (hd : ws.drop b = rest) : vowTail ws b [a] many kd = restOne (.error (b + 1)) (fun w => if fitsB w a then tailE kd (cellsEnd ws (b + 1) many) else .error (b + 1)) rest := by
  unfold vowTail
  show (match (List.range 1).find? (formBad ws b [a]) with
    | some i => Except.error (b + i + 1)
    | none => _) = _
  cases rest with
  | nil =>
    have hl : ws.length ≤ b := List.drop_eq_nil_iff.mp hd
    have e : formBad ws b [a] 0 = true := by
      unfold formBad
      rw [decide_eq_true (show ws.length ≤ b + 0 from hl)]
      rfl
    rw [find_at (show 0 < 1 by decide) e fun j hj => absurd hj (Nat.not_lt_zero _)]
    rfl
  | cons w r =>
    have hl : b < ws.length := by
      have := congrArg List.length hd
      rw [List.length_drop, List.length_cons] at this
      omega
    have hw : ws.getD (b + 0) default = w := by
      rw [Nat.add_zero, getD_of' (List.getElem?_eq_getElem hl)]
      rw [List.drop_eq_getElem_cons hl] at hd
      injection hd
    have e : formBad ws b [a] 0 = !fitsB w a := by
      unfold formBad
      rw [decide_eq_false (show ¬ ws.length ≤ b + 0 by omega), hw]
      rfl
    cases hf : fitsB w a with
    | false =>
      rw [hf] at e
      rw [find_at (show 0 < 1 by decide) e fun j hj => absurd hj (Nat.not_lt_zero _)]
      show _ = (if fitsB w a = true then _ else _)
      rw [hf]
      rfl
    | true =>
      rw [hf] at e
      rw [find_no (n := 1) fun j hj => by rw [show j = 0 by omega]; exact e]
      show (match cellsEnd ws (b + 1) many with
        | some c => Except.error c
        | none => .ok kd) = (if fitsB w a = true then _ else _)
      rw [hf, if_pos rfl]
      cases cellsEnd ws (b + 1) many <;> rfl
theorem cells_zero {ws rest : List Str} {b : Nat} {kd : Str} (hd : ws.drop b = rest) : tailE kd (cellsEnd ws b 0) = restOne (.ok kd) (fun _ => .error (b + 1)) rest := by
  unfold cellsEnd
  dsimp only
  rw [hd]
  cases rest with
  | nil => rfl
  | cons w r =>
    rw [find_at (p := badAt 0 (w :: r)) (show 0 < (w :: r).length by simp) (by unfold badAt; simp) fun j hj => absurd hj (Nat.not_lt_zero _)]
    rfl
theorem lf_tok {w a : Str} (h : a ∉ (["name", "n", "z", "v"] : List Str)) : lawFits w a = decide (w = a) := by
  simp only [List.mem_cons, List.not_mem_nil, or_false, not_or] at h
  unfold lawFits
  rw [decide_eq_false h.1, decide_eq_false h.2.1, decide_eq_false h.2.2.1, decide_eq_false h.2.2.2]
  rfl
theorem lf_name {w : Str} : lawFits w "name" = isName w.cps.toList := rfl
theorem none_step {w : Str} : ∀ {L : List (List Str × List Str)}, (∀ z ∈ L, ∃ a r, z.2 = a :: r ∧ lawFits w a = false) → L.filterMap (stepD w) = []
  | [], _ => rfl
  | z :: L, h => by
    obtain ⟨a, r, e1, e2⟩ := h z List.mem_cons_self
    rw [List.filterMap_cons]
    have e : stepD w z = none := by
      unfold stepD
      rw [e1]
      show (if lawFits w a then some (z.1, r) else none) = none
      rw [e2]
      rfl
    rw [e]
    exact none_step fun x hx => h x (List.mem_cons_of_mem _ hx)
/-- every suffix begins with one of the words ts -/
def headsB (ts : List Str) (L : List (List Str × List Str)) : Bool := L.all fun z => match z.2 with
  | [] => false
  | a :: _ => decide (a ∈ ts)
theorem none_heads {w : Str} {ts : List Str} {L : List (List Str × List Str)} (h : headsB ts L = true) (hn : ∀ a ∈ ts, lawFits w a = false) : L.filterMap (stepD w) = [] := by
  refine none_step fun z hz => ?_
  have e := List.all_eq_true.mp h z hz
  match hz2 : z.2, e with
  | a :: r, e => exact ⟨a, r, rfl, hn a (of_decide_eq_true e)⟩
  | [], e => cases e
def L1 : List (List Str × List Str) := formsL.map fun f => (f, f.drop 1)
theorem step_all {w a : Str} (h : lawFits w a = true) : ∀ {L : List (List Str × List Str)}, headsB [a] L = true → L.filterMap (stepD w) = L.map fun z => (z.1, z.2.drop 1)
  | [], _ => rfl
  | (f, s) :: L, hh => by
    unfold headsB at hh
    rw [List.all_cons, Bool.and_eq_true] at hh
    obtain ⟨h1, h2⟩ := hh
    rw [List.filterMap_cons, List.map_cons]
    match s, h1 with
    | b :: r, h1 =>
      have eb : b = a := List.mem_singleton.mp (of_decide_eq_true h1)
      have e : stepD w (f, b :: r) = some (f, r) := by
        show (if lawFits w b then some (f, r) else none) = _
        rw [eb, h]
        rfl
      rw [e, step_all h h2]
      rfl
theorem first_step {w : Str} (h : isName w.cps.toList = true) : (formsL.map fun f => (f, f)).filterMap (stepD w) = L1 := by
  rw [step_all (a := "name") h (by decide +kernel), List.map_map]
  rfl
theorem first_none {w : Str} (h : isName w.cps.toList = false) : (formsL.map fun f => (f, f)).filterMap (stepD w) = [] := by
  refine none_heads (ts := ["name"]) (by decide +kernel) fun a ha => ?_
  rw [List.mem_singleton.mp ha]
  exact h
theorem run_cons {L : List (List Str × List Str)} {w : Str} {ws : List Str} {pos : Nat} : runD L (w :: ws) pos = if (L.filterMap (stepD w)).isEmpty then .error (pos + 1) else runD (L.filterMap (stepD w)) ws (pos + 1) := rfl
/-- one form, one word more -/
def oneR (a kd : Str) (pos : Nat) : List Str → Except Nat Str
  | [] => .error (pos + 1)
  | w :: r => if fitsB w a then restOne (.ok kd) (fun _ => .error (pos + 1 + 1)) r else .error (pos + 1)
theorem run_one {f : List Str} {a : Str} {rest : List Str} {pos : Nat} (ha : ∀ w, lawFits w a = fitsB w a) : runD [(f, [a])] rest pos = oneR a (kindF f) pos rest := by
  cases rest with
  | nil => rfl
  | cons w r =>
    rw [run_cons]
    have e : [(f, [a])].filterMap (stepD w) = if fitsB w a then [(f, [])] else [] := by
      show List.filterMap (stepD w) [(f, [a])] = _
      rw [List.filterMap_cons]
      have e1 : stepD w (f, [a]) = if fitsB w a then some (f, []) else none := by
        rw [← ha]
        rfl
      rw [e1]
      cases fitsB w a <;> rfl
    rw [e]
    show _ = (if fitsB w a = true then restOne (.ok (kindF f)) (fun _ => .error (pos + 1 + 1)) r else .error (pos + 1))
    cases fitsB w a with
    | false => rfl
    | true =>
      cases r with
      | nil => rfl
      | cons x r => rfl
/-- numbers to the end -/
theorem end_cells {ws rest : List Str} {pos many : Nat} {kd : Str} {f g h : List Str} (hd : ws.drop pos = rest) (hp : pos ≤ ws.length) (hm : many = 1 ∨ many = 2) :
    endZ [(f, 2 * many), (g, 3 * many), (h, 4 * many)] kd rest pos = tailE kd (cellsEnd ws pos many) := by
  unfold endZ cellsEnd
  dsimp only
  rw [hd]
  have hl : ws.length = pos + rest.length := by
    rw [← hd, List.length_drop]
    omega
  have eb : badZ [(f, 2 * many), (g, 3 * many), (h, 4 * many)] rest = badAt many rest := by
    funext i
    unfold badZ badAt
    congr 1
    show (decide (2 * many ≤ i) && (decide (3 * many ≤ i) && (decide (4 * many ≤ i) && true))) = decide (4 * many ≤ i)
    by_cases h4 : 4 * many ≤ i
    · rw [decide_eq_true h4, decide_eq_true (show 2 * many ≤ i by omega), decide_eq_true (show 3 * many ≤ i by omega)]
      rfl
    · rw [decide_eq_false h4]
      simp
  rw [eb]
  cases hf : (List.range rest.length).find? (badAt many rest) with
  | some i => rfl
  | none =>
    have hr : rest.length ≤ 4 * many := by
      refine Nat.le_of_not_lt fun z => ?_
      have := List.find?_range_eq_none.mp hf (4 * many) z
      unfold badAt at this
      simp at this
    have hm0 : many ≠ 0 := by omega
    have key : (decide (2 * many = rest.length) || (decide (3 * many = rest.length) || (decide (4 * many = rest.length) || false))) = decide (rest.length / many * many = rest.length ∧ 2 ≤ rest.length / many) := by
      rcases hm with rfl | rfl
      · generalize rest.length = r at hr
        have hr5 : r < 5 := by omega
        revert hr5
        clear hr hl hp hd eb hf
        revert r
        decide
      · generalize rest.length = r at hr
        have hr5 : r < 9 := by omega
        revert hr5
        clear hr hl hp hd eb hf
        revert r
        decide
    show (if (decide (2 * many = rest.length) || (decide (3 * many = rest.length) || (decide (4 * many = rest.length) || false))) = true then Except.ok kd else Except.error (pos + rest.length + 1)) = tailE kd (if many = 0 then none else if rest.length / many * many = rest.length ∧ 2 ≤ rest.length / many then none else some (ws.length + 1))
    rw [key, if_neg hm0, hl]
    by_cases hq : rest.length / many * many = rest.length ∧ 2 ≤ rest.length / many
    · rw [decide_eq_true hq, if_pos hq, if_pos rfl]
      rfl
    · rw [decide_eq_false hq, if_neg hq, if_neg Bool.false_ne_true]
      rfl
end K9

set_option Elab.async false
set_option linter.all false
set_option maxRecDepth 100000
set_option maxHeartbeats 4000000
namespace K9
open PySem PySem.Spec PyProof.Rows L2 Wp
/-! the plain law: the law's answer is the program's -/
section
variable {w0 w1 w2 : Str} {r : List Str}
theorem k_name (h : isName w0.cps.toList = false) : kindAt (w0 :: r) = .error 1 := by
  unfold kindAt
  rw [show (w0 :: r).getD 0 default = w0 from rfl, h]
  rfl
theorem k_one (h : isName w0.cps.toList = true) : kindAt [w0] = .error 2 := by
  unfold kindAt
  rw [show ([w0] : List Str).getD 0 default = w0 from rfl, h]
  rfl
theorem k_bad (h : isName w0.cps.toList = true) (h1 : plainB w1 = false) (h2 : nowB w1 = false) : kindAt (w0 :: w1 :: r) = .error 2 := by
  unfold kindAt
  rw [show (w0 :: w1 :: r).getD 0 default = w0 from rfl, h]
  show (if plainB w1 = true then _ else if nowB w1 = true then _ else Except.error 2) = _
  rw [h1, h2]
  rfl
theorem k_plain (h : isName w0.cps.toList = true) (h1 : plainB w1 = true) : kindAt (w0 :: w1 :: r) = .ok 2 := by
  unfold kindAt
  rw [show (w0 :: w1 :: r).getD 0 default = w0 from rfl, h]
  show (if plainB w1 = true then Except.ok 2 else _) = _
  rw [h1]
  rfl
theorem k_two (h : isName w0.cps.toList = true) (h1 : plainB w1 = false) (h2 : nowB w1 = true) : kindAt [w0, w1] = .error 3 := by
  unfold kindAt
  rw [show ([w0, w1] : List Str).getD 0 default = w0 from rfl, h]
  show (if plainB w1 = true then _ else if nowB w1 = true then Except.error 3 else Except.error 2) = _
  rw [h1, h2]
  rfl
theorem k_three (h : isName w0.cps.toList = true) (h1 : plainB w1 = false) (h2 : nowB w1 = true) : kindAt (w0 :: w1 :: w2 :: r) = if timedB w2 then .ok 3 else .error 3 := by
  unfold kindAt
  rw [show (w0 :: w1 :: w2 :: r).getD 0 default = w0 from rfl, h]
  show (if plainB w1 = true then _ else if nowB w1 = true then (if timedB w2 = true then Except.ok 3 else Except.error 3) else Except.error 2) = _
  rw [h1, h2]
  rfl
end
theorem one_eq {ws rest : List Str} {a kd : Str} {b : Nat} (hd : ws.drop b = rest) : vowTail ws b [a] 0 kd = oneR a kd b rest := by
  rw [vt_one hd]
  cases rest with
  | nil => rfl
  | cons w r =>
    show (if fitsB w a = true then tailE kd (cellsEnd ws (b + 1) 0) else Except.error (b + 1)) = if fitsB w a = true then restOne (.ok kd) (fun _ => .error (b + 1 + 1)) r else .error (b + 1)
    rw [cells_zero (rest := r) (by rw [← List.tail_drop, hd]; rfl)]
theorem fits_n {w : Str} : lawFits w "n" = fitsB w "n" := rfl
theorem fits_name {w : Str} : lawFits w "name" = fitsB w "name" := rfl
theorem fits_v {w : Str} : lawFits w "v" = fitsB w "v" := rfl
theorem plain_one {w0 w1 : Str} {r f : List Str} {a : Str} (h : isName w0.cps.toList = true) (hp : plainB w1 = true) (hs : L1.filterMap (stepD w1) = [(f, [a])]) (hf : formsOf w1 2 = ([a], 0)) (hk : kindF f = w1) (ha : ∀ w, lawFits w a = fitsB w a) :
    runD L1 (w1 :: r) 1 = vowEnd (w0 :: w1 :: r) := by
  rw [vow_ok (k_plain h hp) (kd := w1) rfl, hf, run_cons, hs]
  show runD [(f, [a])] r 2 = _
  rw [run_one ha, hk, one_eq (rest := r) rfl]
structure TmF (w1 : Str) : Prop where
  free : (L1.filterMap (stepD w1)).filterMap (stepD "free") = tailsOf [((["name", w1, "free"] : List Str) ++ zs 2, 2 * 1), ((["name", w1, "free"] : List Str) ++ zs 3, 3 * 1), ((["name", w1, "free"] : List Str) ++ zs 4, 4 * 1)]
  hangs : (L1.filterMap (stepD w1)).filterMap (stepD "hangs") = tailsOf [((["name", w1, "hangs"] : List Str) ++ zs 4, 2 * 2), ((["name", w1, "hangs"] : List Str) ++ zs 6, 3 * 2), ((["name", w1, "hangs"] : List Str) ++ zs 8, 4 * 2)]
  holds : (L1.filterMap (stepD w1)).filterMap (stepD "holds") = [((["name", w1, "holds", "n"] : List Str) ++ zs 2, ("n" : Str) :: zs 2), ((["name", w1, "holds", "n"] : List Str) ++ zs 3, ("n" : Str) :: zs 3), ((["name", w1, "holds", "n"] : List Str) ++ zs 4, ("n" : Str) :: zs 4)]
  strong : (L1.filterMap (stepD w1)).filterMap (stepD "strong") = [((["name", w1, "strong", "v"] : List Str), (["v"] : List Str))]
  heads : headsB ["free", "hangs", "holds", "strong"] (L1.filterMap (stepD w1)) = true
  ne : (L1.filterMap (stepD w1)).isEmpty = false
  fin : (L1.filterMap (stepD w1)).filter (fun z => z.2.isEmpty) = []
  now : nowB w1 = true
  pl : plainB w1 = false
theorem kd_now {w1 k : Str} {l : List Str} (h : nowB w1 = true) : kindF ("name" :: w1 :: k :: l) = k := by
  unfold kindF
  rw [show ((("name" : Str) :: w1 :: k :: l).getD 1 default) = w1 from rfl, h]
  rfl
theorem timed {w0 w1 : Str} {r : List Str} (h : isName w0.cps.toList = true) (F : TmF w1) : runD L1 (w1 :: r) 1 = vowEnd (w0 :: w1 :: r) := by
  rw [run_cons, F.ne, if_neg Bool.false_ne_true]
  cases r with
  | nil =>
    rw [vow_err (k_two h F.pl F.now)]
    unfold runD
    rw [F.fin]
  | cons w2 r =>
    rw [run_cons]
    have kt := k_three (r := r) (w2 := w2) h F.pl F.now
    by_cases e1 : w2 = ("free" : Str)
    · subst e1
      rw [vow_ok (b := 3) (kd := "free") kt rfl, F.free]
      show runD (tailsOf _) r 3 = vowTail _ 3 [] 1 "free"
      rw [vt_nil, run_tails (kd := "free") r _ 3 (fun q hq => by
        simp only [List.mem_cons, List.not_mem_nil, or_false] at hq
        rcases hq with rfl | rfl | rfl <;> exact kd_now F.now), end_cells (ws := w0 :: w1 :: "free" :: r) (pos := 3) (rest := r) rfl (by simp) (.inl rfl)]
    · by_cases e2 : w2 = ("hangs" : Str)
      · subst e2
        rw [vow_ok (b := 3) (kd := "hangs") kt rfl, F.hangs]
        show runD (tailsOf _) r 3 = vowTail _ 3 [] 2 "hangs"
        rw [vt_nil, run_tails (kd := "hangs") r _ 3 (fun q hq => by
          simp only [List.mem_cons, List.not_mem_nil, or_false] at hq
          rcases hq with rfl | rfl | rfl <;> exact kd_now F.now), end_cells (ws := w0 :: w1 :: "hangs" :: r) (pos := 3) (rest := r) rfl (by simp) (.inr rfl)]
      · by_cases e3 : w2 = ("holds" : Str)
        · subst e3
          rw [vow_ok (b := 3) (kd := "holds") kt rfl, F.holds]
          show runD _ r 3 = vowTail _ 3 ["n"] 1 "holds"
          rw [vt_one (rest := r) rfl]
          cases r with
          | nil => rfl
          | cons w3 r =>
            rw [run_cons]
            show _ = if fitsB w3 "n" = true then tailE "holds" (cellsEnd _ (3 + 1) 1) else Except.error (3 + 1)
            cases hn : fitsB w3 "n" with
            | false =>
              rw [none_heads (ts := ["n"]) rfl fun a ha => by rw [List.mem_singleton.mp ha, fits_n]; exact hn]
              rfl
            | true =>
              rw [step_all (a := "n") (by rw [fits_n]; exact hn) rfl, if_pos rfl]
              show runD (tailsOf [((["name", w1, "holds", "n"] : List Str) ++ zs 2, 2 * 1), ((["name", w1, "holds", "n"] : List Str) ++ zs 3, 3 * 1), ((["name", w1, "holds", "n"] : List Str) ++ zs 4, 4 * 1)]) r 4 = _
              rw [run_tails (kd := "holds") r _ 4 (fun q hq => by
                simp only [List.mem_cons, List.not_mem_nil, or_false] at hq
                rcases hq with rfl | rfl | rfl <;> exact kd_now F.now), end_cells (ws := w0 :: w1 :: "holds" :: w3 :: r) (pos := 4) (rest := r) rfl (by simp) (.inl rfl)]
        · by_cases e4 : w2 = ("strong" : Str)
          · subst e4
            rw [vow_ok (b := 3) (kd := "strong") kt rfl, F.strong]
            show runD [((["name", w1, "strong", "v"] : List Str), (["v"] : List Str))] r 3 = vowTail _ 3 ["v"] 0 "strong"
            rw [run_one (fun w => fits_v), one_eq (rest := r) rfl, kd_now F.now]
          · have ht : timedB w2 = false := by
              unfold timedB
              simp [e1, e2, e3, e4]
            rw [ht] at kt
            rw [vow_err kt, none_heads F.heads fun a ha => by
              simp only [List.mem_cons, List.not_mem_nil, or_false] at ha
              rcases ha with rfl | rfl | rfl | rfl
              · rw [lf_tok (by decide +kernel)]; exact decide_eq_false e1
              · rw [lf_tok (by decide +kernel)]; exact decide_eq_false e2
              · rw [lf_tok (by decide +kernel)]; exact decide_eq_false e3
              · rw [lf_tok (by decide +kernel)]; exact decide_eq_false e4]
            rfl
theorem tm_now : TmF "now" := ⟨by decide +kernel, by decide +kernel, by decide +kernel, by decide +kernel, by decide +kernel, by decide +kernel, by decide +kernel, by decide +kernel, by decide +kernel⟩
theorem tm_then : TmF "then" := ⟨by decide +kernel, by decide +kernel, by decide +kernel, by decide +kernel, by decide +kernel, by decide +kernel, by decide +kernel, by decide +kernel, by decide +kernel⟩
theorem due_vow {ws : List Str} (hl : 1 ≤ ws.length) : dueEnd ws = vowEnd ws := by
  rw [due_run]
  cases ws with
  | nil => simp at hl
  | cons w0 r =>
    rw [run_cons]
    cases h : isName w0.cps.toList with
    | false =>
      rw [first_none h, vow_err (k_name h)]
      rfl
    | true =>
      rw [first_step h, show L1.isEmpty = false by decide +kernel, if_neg Bool.false_ne_true]
      cases r with
      | nil =>
        rw [vow_err (k_one h)]
        unfold runD
        rw [show L1.filter (fun z => z.2.isEmpty) = [] by decide +kernel]
      | cons w1 r =>
        by_cases e1 : w1 = ("within" : Str)
        · subst e1
          exact plain_one (f := ["name", "within", "n"]) (a := "n") h (by decide +kernel) (by decide +kernel) (by decide +kernel) (by decide +kernel) fun w => fits_n
        · by_cases e2 : w1 = ("beyond" : Str)
          · subst e2
            exact plain_one (f := ["name", "beyond", "n"]) (a := "n") h (by decide +kernel) (by decide +kernel) (by decide +kernel) (by decide +kernel) fun w => fits_n
          · by_cases e3 : w1 = ("like" : Str)
            · subst e3
              exact plain_one (f := ["name", "like", "name"]) (a := "name") h (by decide +kernel) (by decide +kernel) (by decide +kernel) (by decide +kernel) fun w => fits_name
            · by_cases e4 : w1 = ("allowed" : Str)
              · subst e4
                have kp := k_plain (w1 := ("allowed" : Str)) (r := r) h (by decide +kernel)
                rw [vow_ok kp (kd := "allowed") rfl, show formsOf "allowed" 2 = ([], 0) by decide +kernel, run_cons, show L1.filterMap (stepD "allowed") = [((["name", "allowed"] : List Str), ([] : List Str))] by decide +kernel]
                show runD [((["name", "allowed"] : List Str), ([] : List Str))] r 2 = vowTail _ 2 [] 0 "allowed"
                rw [vt_nil, cells_zero (rest := r) rfl]
                cases r with
                | nil => rfl
                | cons x r => rfl
              · by_cases e5 : w1 = ("now" : Str)
                · subst e5
                  exact timed h tm_now
                · by_cases e6 : w1 = ("then" : Str)
                  · subst e6
                    exact timed h tm_then
                  · have hp : plainB w1 = false := by
                      unfold plainB
                      simp [e1, e2, e3, e4]
                    have hn : nowB w1 = false := by
                      unfold nowB
                      simp [e5, e6]
                    rw [vow_err (k_bad h hp hn), run_cons, none_heads (ts := ["within", "beyond", "like", "allowed", "now", "then"]) (by decide +kernel) fun a ha => by
                      simp only [List.mem_cons, List.not_mem_nil, or_false] at ha
                      rcases ha with rfl | rfl | rfl | rfl | rfl | rfl
                      · rw [lf_tok (by decide +kernel)]; exact decide_eq_false e1
                      · rw [lf_tok (by decide +kernel)]; exact decide_eq_false e2
                      · rw [lf_tok (by decide +kernel)]; exact decide_eq_false e3
                      · rw [lf_tok (by decide +kernel)]; exact decide_eq_false e4
                      · rw [lf_tok (by decide +kernel)]; exact decide_eq_false e5
                      · rw [lf_tok (by decide +kernel)]; exact decide_eq_false e6]
                    rfl
/-- words that fit a form are told -/
theorem due_told {ws f : List Str} (hf : f ∈ formsL) (hl : ws.length = f.length) (hw : ∀ (k : Nat) (h : k < ws.length), lawFits ws[k] (f.getD k default) = true) : ∃ kind, dueEnd ws = .ok kind := by
  have mem : ∀ k, k ≤ ws.length → f ∈ aliveAt ws k := by
    intro k
    induction k with
    | zero => exact fun _ => hf
    | succ k ih =>
      intro hk
      refine List.mem_filter.mpr ⟨ih (by omega), ?_⟩
      unfold keepsAt
      rw [decide_eq_true (show k < f.length by omega), getD_of' (List.getElem?_eq_getElem (show k < ws.length by omega)), hw k (by omega)]
      rfl
  unfold dueEnd
  rw [find_no fun j hj => by
    have := mem (j + 1) hj
    cases he : aliveAt ws (j + 1) with
    | nil => rw [he] at this; cases this
    | cons a r => rfl]
  have hm : f ∈ (aliveAt ws ws.length).filter fun f => decide (f.length = ws.length) := List.mem_filter.mpr ⟨mem _ (Nat.le_refl _), decide_eq_true hl.symm⟩
  cases he : (aliveAt ws ws.length).filter fun f => decide (f.length = ws.length) with
  | nil => rw [he] at hm; cases hm
  | cons a r => exact ⟨_, rfl⟩
end K9

set_option Elab.async false
set_option linter.all false
set_option maxRecDepth 100000
set_option maxHeartbeats 4000000
namespace K9
open PySem PySem.Spec PyProof.Rows L2 Wp
local macro_rules | `(tactic| walk_at "go1") => `(tactic| first
  | (with_reducible show wE _ (Expr.Name _ _) _ _ _); (first | refine wv ‹On _ _ _ _› 0 ?_ | refine wv ‹On _ _ _ _› 1 ?_ | refine wv ‹On _ _ _ _› 2 ?_ | refine wv ‹On _ _ _ _› 3 ?_ | refine wv ‹On _ _ _ _› 4 ?_ | refine wv ‹On _ _ _ _› 5 ?_ | refine wv ‹On _ _ _ _› 6 ?_ | refine wv ‹On _ _ _ _› 7 ?_ | refine wv ‹On _ _ _ _› 8 ?_ | refine wv ‹On _ _ _ _› 9 ?_ | refine wv ‹On _ _ _ _› 10 ?_ | refine wv ‹On _ _ _ _› 11 ?_ | refine wv ‹On _ _ _ _› 12 ?_ | refine wv ‹On _ _ _ _› 13 ?_)
  | with_reducible refine w_int ?_
  | with_reducible refine w_str ?_
  | with_reducible refine w_bl ?_
  | with_reducible refine w_non ?_
  | with_reducible refine w_bin ?_
  | (with_reducible show wE _ (Expr.Compare _ [_] [_] _) _ _ _); (refine w_cmp ?_)
  | (with_reducible show wT _ (Expr.Compare _ [_] [_] _) _ _ _); (refine wt_cmp ?_)
  | (with_reducible show wE _ (Expr.Compare _ [_, _] [_, _] _) _ _ _); (refine w_chain ?_)
  | (with_reducible show wT _ (Expr.Compare _ [_, _] [_, _] _) _ _ _); (refine wt_chain ?_)
  | with_reducible refine wt_not ?_
  | (with_reducible show wT _ (Expr.BoolOp _ _ _) _ _ _); (refine wt_w ?_)
  | with_reducible refine ww_and1 ?_
  | with_reducible refine ww_or1 ?_
  | with_reducible refine ww_and ?_
  | with_reducible refine ww_or ?_
  | with_reducible refine w_one ?_
  | with_reducible refine w_and ?_
  | with_reducible refine w_or ?_
  | with_reducible refine w_not ?_
  | with_reducible refine w_ifx ?_
  | (with_reducible show wT _ (Expr.Call _ _ _ _) _ _ _); (refine wt_val ?_)
  | with_reducible refine w_sl ?_
  | with_reducible refine w_slf ?_
  | with_reducible refine w_slt ?_
  | (with_reducible show wE _ (Expr.Subscript _ (Expr.Constant (Const.str _) _ _) _) _ _ _); (refine w_dgN ‹On _ _ _ _› ?_)
  | (with_reducible show DG _ _ _ _); (refine dget_at (by assumption) (by rfl) ?_)
  | (with_reducible show wE _ (Expr.Subscript _ (Expr.Constant _ _ _) _) _ _ _); (refine w_sub ?_)
  | (with_reducible show wE _ (Expr.Subscript _ (Expr.BinOp _ _ _ _) _) _ _ _); (refine w_sub ?_)
  | (with_reducible show wA _ (_ :: _) _ _ _); (refine wa_cons ?_)
  | with_reducible refine wa_nil ?_
  | with_reducible refine o_add ?_
  | with_reducible refine o_sub ?_
  | with_reducible refine o_lt ?_
  | with_reducible refine o_le ?_
  | with_reducible refine o_gt ?_
  | with_reducible refine o_ge ?_
  | with_reducible refine o_is ?_
  | with_reducible refine o_isnt ?_
  | (with_reducible show wO _ (compareOp CmpOp.Eq) _ _ _ _); (refine o_eq ?_)
  | (with_reducible show wO _ (compareOp CmpOp.NotEq) _ _ _ _); (refine o_ne ?_)
  | with_reducible refine b_one ?_
  | with_reducible refine b_nil ?_
  | with_reducible refine b_cons ?_
  | with_reducible refine s_if ?_
  | with_reducible refine s_ret ?_
  | with_reducible refine s_retN ?_
  | with_reducible refine s_pass ?_
  | with_reducible refine s_break ?_
  | with_reducible refine s_cont ?_
  | (with_reducible show wS _ (Stmt.Expr (Expr.Call (Expr.Attribute _ "append" _) [_] [] _) _) _ _ _); (refine s_append ‹On _ _ _ _› ?_)
  | (with_reducible show wS _ (Stmt.Expr _ _) _ _ _); (refine s_expr ?_)
  | (with_reducible show wE _ (Expr.ListComp _ _ _ _) _ _ _); (refine w_ofL ‹On _ _ _ _› ?_)
  | (with_reducible show wS _ (Stmt.Assign [Expr.Name _ _] (Expr.ListComp _ _ _ _) _) _ _ _); (first | refine s_ofL ‹On _ _ _ _› 0 ?_ | refine s_ofL ‹On _ _ _ _› 1 ?_ | refine s_ofL ‹On _ _ _ _› 2 ?_ | refine s_ofL ‹On _ _ _ _› 3 ?_ | refine s_ofL ‹On _ _ _ _› 4 ?_ | refine s_ofL ‹On _ _ _ _› 5 ?_ | refine s_ofL ‹On _ _ _ _› 6 ?_ | refine s_ofL ‹On _ _ _ _› 7 ?_ | refine s_ofL ‹On _ _ _ _› 8 ?_ | refine s_ofL ‹On _ _ _ _› 9 ?_ | refine s_ofL ‹On _ _ _ _› 10 ?_ | refine s_ofL ‹On _ _ _ _› 11 ?_ | refine s_ofL ‹On _ _ _ _› 12 ?_ | refine s_ofL ‹On _ _ _ _› 13 ?_)
  | (with_reducible show wS _ (Stmt.Assign [Expr.Name _ _] _ _) _ _ _); (first | refine s_set ‹On _ _ _ _› 0 ?_ | refine s_set ‹On _ _ _ _› 1 ?_ | refine s_set ‹On _ _ _ _› 2 ?_ | refine s_set ‹On _ _ _ _› 3 ?_ | refine s_set ‹On _ _ _ _› 4 ?_ | refine s_set ‹On _ _ _ _› 5 ?_ | refine s_set ‹On _ _ _ _› 6 ?_ | refine s_set ‹On _ _ _ _› 7 ?_ | refine s_set ‹On _ _ _ _› 8 ?_ | refine s_set ‹On _ _ _ _› 9 ?_ | refine s_set ‹On _ _ _ _› 10 ?_ | refine s_set ‹On _ _ _ _› 11 ?_ | refine s_set ‹On _ _ _ _› 12 ?_ | refine s_set ‹On _ _ _ _› 13 ?_)
  | (with_reducible show wS _ (Stmt.Assign [Expr.Subscript _ (Expr.Constant (Const.str _) _ _) _] _ _) _ _ _); (refine s_dput ‹On _ _ _ _› ?_)
  | (with_reducible show wG _ (Expr.Name _ _) _ _ _ _); (first | refine g_name ‹On _ _ _ _› 0 ?_ | refine g_name ‹On _ _ _ _› 1 ?_ | refine g_name ‹On _ _ _ _› 2 ?_ | refine g_name ‹On _ _ _ _› 3 ?_ | refine g_name ‹On _ _ _ _› 4 ?_ | refine g_name ‹On _ _ _ _› 5 ?_ | refine g_name ‹On _ _ _ _› 6 ?_ | refine g_name ‹On _ _ _ _› 7 ?_ | refine g_name ‹On _ _ _ _› 8 ?_ | refine g_name ‹On _ _ _ _› 9 ?_ | refine g_name ‹On _ _ _ _› 10 ?_ | refine g_name ‹On _ _ _ _› 11 ?_ | refine g_name ‹On _ _ _ _› 12 ?_ | refine g_name ‹On _ _ _ _› 13 ?_)
  | with_reducible refine iteT ?_
  | with_reducible refine iteF ?_
  | with_reducible refine iteNT ?_
  | with_reducible refine iteNF ?_
  | with_reducible refine Exists.intro _ (And.intro rfl ?_))
local macro_rules | `(tactic| walk_at "go") => `(tactic| repeat (walk_at "go1"))
/-! a lambda handed to _law_met -/
def lamNm (S : Nm) (scope : Scope) (gs : List Str) (v : List Nat) : Nm := ⟨S.N, scope, gs, v, [], []⟩
/-- what a lambda's body is asked, wherever it is called -/
def tLamB (S2 : Nm) (m : Md) (k : Nat) (body : Expr) (σ : L2.St) : XK → Hp → VK → Prop := fun E H Q => ∀ X2, On X2 S2 m k → Takes X2 (fun cls d _ H => E cls d H) → wE X2 body σ H Q
structure LamP (X : Cx) (m : Md) (CB g : Addr) (c P : Addr) : Prop where
  tb : LamX.TabB X.base X.mg c P
  code : X.env.code = .ref c
  met : ∃ fd, FnP m "_law_met" "_law_met" sMet g fd
  mg : m.mg "_law_met" = some (.ref g)
  F : MetC m CB
def TL' (X : Cx) (P : Addr) : List (Addr × Str) := [(P, X.env.qual ++ "<lambda>")]
section
variable {X : Cx} {S : Nm} {m : Md} {n k : Nat} {σ : L2.St} {H : Hp} {Q : VK} {CB g c P : Addr} {params : Arguments} {body : Expr} {scope : Scope} {p lpos pos : Pos}
theorem w_lam (C : On X S m n) (j : Nat) (L : LamP X m CB g c P) (gs : List Str) (v : List Nat) (hn : 7 ≤ n) (hB : (lamNm S scope gs v).okB false = true) (hL : LamX.lamSB S.sc scope = true) (hdef : defaultsOf params X.env = ([], []))
    (hbind : ∀ (q : Str) (cl : List (Str × Addr)) (pm cv ctv : Value), bindArgs (PySem.W.kla_fn "<lambda>" q params body scope cl pm cv ctv) ⟨[], []⟩ = pure [])
    (q : LamX.Tabs (TL' X P) H ∧ ∀ H1, LamX.ExtN H H1 → LamX.Tabs (TL' X P) H1 → TMet CB (tLamB (lamNm S scope gs v) m 5 body σ) H1 Q)
    (hi : S.gs[j]? = some ("_law_met" : Str) := by rfl) : wE X (.Call (.Name "_law_met" p) [.Lambda params body scope lpos] [] pos) σ H Q := by
  obtain ⟨fd, F⟩ := L.met
  obtain ⟨oc, od, dV, kV, doc, pm, an, cdv, ct, osl, rfl, lk, hcd, _, _⟩ := id F.ex
  have hr := C.room.mono hn
  have Sg : FnScope nMet.N ["call"] (defScope sMet) := fs_of (S := nMet) (by decide +kernel) (by decide +kernel)
  have hb := F.bindsN (ps := ["call"]) fun _ _ _ _ _ _ us hl => match us, hl with | [_], _ => rfl
  have hK : X.K = m.K := C.K
  refine ofE (LamX.pe_lamcall (T := TL' X P) (TT := TMet CB) (a := "call") (k := 5) (Ng := nMet.N) (t := fun E σ H Q => tLamB (lamNm S scope gs v) m 5 body σ E H Q) (C.gl j _ hi).1 (by rw [C.mg]; exact L.mg) (by rw [hK]; exact F.kp) (by rw [hK]; exact lk) (by rw [hK]; exact hcd) (by rw [hK]; exact hb) Sg rfl
    (by exact .inl (by decide +kernel)) (met_gives C.hm (hr.mono (by decide)) L.F) L.tb L.code (List.mem_singleton.mpr rfl) (fun p hp _ => by rw [List.mem_singleton.mp hp]) hr (LamX.lamS_by (by rw [C.hsc]; exact hL)) hdef hbind
    (fun A outer s H E f c' hr2 => ⟨fun pins s' σ' H' Q' I h => ?_⟩)) ?_
  · have O := on_of (X := LamX.lamCx X A outer s H E scope f c') (S := lamNm S scope gs v) (k := 5) hB C.hN rfl (fun z => nomatch z) rfl hr2
    have e : md (LamX.lamCx X A outer s H E scope f c') = m := C.hm
    rw [e] at O
    exact h _ O (takes_of (X := LamX.lamCx X A outer s H E scope f c') rfl rfl rfl rfl) pins s' I
  · exact q
end
end K9

set_option Elab.async false
set_option linter.all false
set_option maxRecDepth 100000
set_option maxHeartbeats 4000000
namespace K9
open PySem PySem.Spec PyProof.Rows L2 Wp
local macro_rules | `(tactic| walk_at "go1") => `(tactic| first
  | (with_reducible show wE _ (Expr.Name _ _) _ _ _); (first | refine wv ‹On _ _ _ _› 0 ?_ | refine wv ‹On _ _ _ _› 1 ?_ | refine wv ‹On _ _ _ _› 2 ?_ | refine wv ‹On _ _ _ _› 3 ?_ | refine wv ‹On _ _ _ _› 4 ?_ | refine wv ‹On _ _ _ _› 5 ?_ | refine wv ‹On _ _ _ _› 6 ?_ | refine wv ‹On _ _ _ _› 7 ?_ | refine wv ‹On _ _ _ _› 8 ?_ | refine wv ‹On _ _ _ _› 9 ?_ | refine wv ‹On _ _ _ _› 10 ?_ | refine wv ‹On _ _ _ _› 11 ?_ | refine wv ‹On _ _ _ _› 12 ?_ | refine wv ‹On _ _ _ _› 13 ?_)
  | with_reducible refine w_int ?_
  | with_reducible refine w_str ?_
  | with_reducible refine w_bl ?_
  | with_reducible refine w_non ?_
  | with_reducible refine w_bin ?_
  | (with_reducible show wE _ (Expr.Compare _ [_] [_] _) _ _ _); (refine w_cmp ?_)
  | (with_reducible show wT _ (Expr.Compare _ [_] [_] _) _ _ _); (refine wt_cmp ?_)
  | (with_reducible show wE _ (Expr.Compare _ [_, _] [_, _] _) _ _ _); (refine w_chain ?_)
  | (with_reducible show wT _ (Expr.Compare _ [_, _] [_, _] _) _ _ _); (refine wt_chain ?_)
  | with_reducible refine wt_not ?_
  | (with_reducible show wT _ (Expr.BoolOp _ _ _) _ _ _); (refine wt_w ?_)
  | with_reducible refine ww_and1 ?_
  | with_reducible refine ww_or1 ?_
  | with_reducible refine ww_and ?_
  | with_reducible refine ww_or ?_
  | with_reducible refine w_one ?_
  | with_reducible refine w_and ?_
  | with_reducible refine w_or ?_
  | with_reducible refine w_not ?_
  | with_reducible refine w_ifx ?_
  | (with_reducible show wT _ (Expr.Call _ _ _ _) _ _ _); (refine wt_val ?_)
  | with_reducible refine w_sl ?_
  | with_reducible refine w_slf ?_
  | with_reducible refine w_slt ?_
  | (with_reducible show wE _ (Expr.Subscript _ (Expr.Constant (Const.str _) _ _) _) _ _ _); (refine w_dgN ‹On _ _ _ _› ?_)
  | (with_reducible show DG _ _ _ _); (refine dget_at (by assumption) (by rfl) ?_)
  | (with_reducible show wE _ (Expr.Subscript _ (Expr.Constant _ _ _) _) _ _ _); (refine w_sub ?_)
  | (with_reducible show wE _ (Expr.Subscript _ (Expr.BinOp _ _ _ _) _) _ _ _); (refine w_sub ?_)
  | (with_reducible show wA _ (_ :: _) _ _ _); (refine wa_cons ?_)
  | with_reducible refine wa_nil ?_
  | with_reducible refine o_add ?_
  | with_reducible refine o_sub ?_
  | with_reducible refine o_lt ?_
  | with_reducible refine o_le ?_
  | with_reducible refine o_gt ?_
  | with_reducible refine o_ge ?_
  | with_reducible refine o_is ?_
  | with_reducible refine o_isnt ?_
  | (with_reducible show wO _ (compareOp CmpOp.Eq) _ _ _ _); (refine o_eq ?_)
  | (with_reducible show wO _ (compareOp CmpOp.NotEq) _ _ _ _); (refine o_ne ?_)
  | with_reducible refine b_one ?_
  | with_reducible refine b_nil ?_
  | with_reducible refine b_cons ?_
  | with_reducible refine s_if ?_
  | with_reducible refine s_ret ?_
  | with_reducible refine s_retN ?_
  | with_reducible refine s_pass ?_
  | with_reducible refine s_break ?_
  | with_reducible refine s_cont ?_
  | (with_reducible show wS _ (Stmt.Expr (Expr.Call (Expr.Attribute _ "append" _) [_] [] _) _) _ _ _); (refine s_append ‹On _ _ _ _› ?_)
  | (with_reducible show wS _ (Stmt.Expr _ _) _ _ _); (refine s_expr ?_)
  | (with_reducible show wE _ (Expr.ListComp _ _ _ _) _ _ _); (refine w_ofL ‹On _ _ _ _› ?_)
  | (with_reducible show wS _ (Stmt.Assign [Expr.Name _ _] (Expr.ListComp _ _ _ _) _) _ _ _); (first | refine s_ofL ‹On _ _ _ _› 0 ?_ | refine s_ofL ‹On _ _ _ _› 1 ?_ | refine s_ofL ‹On _ _ _ _› 2 ?_ | refine s_ofL ‹On _ _ _ _› 3 ?_ | refine s_ofL ‹On _ _ _ _› 4 ?_ | refine s_ofL ‹On _ _ _ _› 5 ?_ | refine s_ofL ‹On _ _ _ _› 6 ?_ | refine s_ofL ‹On _ _ _ _› 7 ?_ | refine s_ofL ‹On _ _ _ _› 8 ?_ | refine s_ofL ‹On _ _ _ _› 9 ?_ | refine s_ofL ‹On _ _ _ _› 10 ?_ | refine s_ofL ‹On _ _ _ _› 11 ?_ | refine s_ofL ‹On _ _ _ _› 12 ?_ | refine s_ofL ‹On _ _ _ _› 13 ?_)
  | (with_reducible show wS _ (Stmt.Assign [Expr.Name _ _] _ _) _ _ _); (first | refine s_set ‹On _ _ _ _› 0 ?_ | refine s_set ‹On _ _ _ _› 1 ?_ | refine s_set ‹On _ _ _ _› 2 ?_ | refine s_set ‹On _ _ _ _› 3 ?_ | refine s_set ‹On _ _ _ _› 4 ?_ | refine s_set ‹On _ _ _ _› 5 ?_ | refine s_set ‹On _ _ _ _› 6 ?_ | refine s_set ‹On _ _ _ _› 7 ?_ | refine s_set ‹On _ _ _ _› 8 ?_ | refine s_set ‹On _ _ _ _› 9 ?_ | refine s_set ‹On _ _ _ _› 10 ?_ | refine s_set ‹On _ _ _ _› 11 ?_ | refine s_set ‹On _ _ _ _› 12 ?_ | refine s_set ‹On _ _ _ _› 13 ?_)
  | (with_reducible show wS _ (Stmt.Assign [Expr.Subscript _ (Expr.Constant (Const.str _) _ _) _] _ _) _ _ _); (refine s_dput ‹On _ _ _ _› ?_)
  | (with_reducible show wG _ (Expr.Name _ _) _ _ _ _); (first | refine g_name ‹On _ _ _ _› 0 ?_ | refine g_name ‹On _ _ _ _› 1 ?_ | refine g_name ‹On _ _ _ _› 2 ?_ | refine g_name ‹On _ _ _ _› 3 ?_ | refine g_name ‹On _ _ _ _› 4 ?_ | refine g_name ‹On _ _ _ _› 5 ?_ | refine g_name ‹On _ _ _ _› 6 ?_ | refine g_name ‹On _ _ _ _› 7 ?_ | refine g_name ‹On _ _ _ _› 8 ?_ | refine g_name ‹On _ _ _ _› 9 ?_ | refine g_name ‹On _ _ _ _› 10 ?_ | refine g_name ‹On _ _ _ _› 11 ?_ | refine g_name ‹On _ _ _ _› 12 ?_ | refine g_name ‹On _ _ _ _› 13 ?_)
  | with_reducible refine iteT ?_
  | with_reducible refine iteF ?_
  | with_reducible refine iteNT ?_
  | with_reducible refine iteNF ?_
  | with_reducible refine Exists.intro _ (And.intro rfl ?_))
local macro_rules | `(tactic| walk_at "go") => `(tactic| repeat (walk_at "go1"))
/-! what is shown -/
def RepOk (d : PyData) : Prop := d.showable = true ∧ d.hasDict = false ∧ d.depth ≤ 60 ∧ d.leavesShort 13 = true ∧ d.bulk ≤ 2 ^ 20
def otherPD (ws : List Str) (kind : Str) : PyData := if kind = ("like" : Str) then .str (ws.getD 2 default) else .none
def shownD (t : Str) (ws : List Str) (kind : Str) : PyData := .tuple [.str t, .str (ws.getD 0 default), .str kind, otherPD ws kind]
def dueD (t : Str) (ws : List Str) : Except Nat Str → PyData
  | .error c => .tuple [.str "text", .int 1, .int (c : Int)]
  | .ok kind => .tuple [.str "told", shownD t ws kind]
theorem lvStr {w : Str} (h : chOk w) : (PyData.str w).leavesShort 13 = true := by
  simp only [PyData.leavesShort, List.all_eq_true, decide_eq_true_eq]
  intro c hc
  have := h c hc
  omega
theorem lvNat {n : Nat} (h : n < 1000000) : (PyData.int (n : Int)).leavesShort 13 = true := by
  have e : (nTx n).length ≤ 13 := Nat.le_trans (nTx_len h) (by decide)
  simp only [PyData.leavesShort, decide_eq_true_eq]
  exact e
theorem dpOther {K : PySem.W.Frag} {H : Hp} {ws : List Str} {kind : Str} : Dp K H (otherOf ws kind) (otherPD ws kind) := by
  unfold otherOf otherPD
  split
  · exact .str _
  · exact .non
theorem dpShown {K : PySem.W.Frag} {H : Hp} {r : Addr} {t kind : Str} {ws : List Str} (h : H r = some (.tup [.str t, .str (ws.getD 0 default), .str kind, otherOf ws kind])) : Dp K H (.ref r) (shownD t ws kind) :=
  .tup (.inl (.inl h)) (.cons (.str _) (.cons (.str _) (.cons (.str _) (.cons dpOther .nil))))
theorem okOther {ws : List Str} {kind : Str} (h2 : chOk (ws.getD 2 default)) (l2 : (ws.getD 2 default).length ≤ 100000) : (otherPD ws kind).showable = true ∧ (otherPD ws kind).hasDict = false ∧ (otherPD ws kind).depth = 0 ∧ (otherPD ws kind).leavesShort 13 = true ∧ (otherPD ws kind).bulk ≤ 100000 := by
  unfold otherPD
  split
  · exact ⟨by simp [PyData.showable], by simp [PyData.hasDict], by simp [PyData.depth], lvStr h2, by simp only [PyData.bulk]; exact l2⟩
  · exact ⟨by simp [PyData.showable], by simp [PyData.hasDict], by simp [PyData.depth], by simp [PyData.leavesShort], by simp [PyData.bulk]⟩
structure SmallW (t : Str) (ws : List Str) : Prop where
  ch : chOk t
  len : t.length ≤ 10000
  wc : ∀ i, chOk (ws.getD i default)
  wl : ∀ i, (ws.getD i default).length ≤ 10000
  wn : ws.length ≤ 10002
theorem small_split {t : Str} (ch : chOk t) (len : t.length ≤ 10000) : SmallW t (Txt.split t " ") := by
  have d1 : chOk (default : Str) := fun c hc => by
    have : (default : Str).cps.toList = [] := rfl
    rw [this] at hc
    cases hc
  refine ⟨ch, len, fun i => ?_, fun i => ?_, ?_⟩
  · rw [List.getD_eq_getElem?_getD]
    cases e : (Txt.split t " ")[i]? with
    | none => exact d1
    | some w => exact split_ch ch w (List.mem_of_getElem? e)
  · rw [List.getD_eq_getElem?_getD]
    cases e : (Txt.split t " ")[i]? with
    | none => exact Nat.zero_le _
    | some w => exact Nat.le_trans (PyProof.Rows.part_short (List.mem_of_getElem? e)) len
  · have := PyProof.Rows.split_le t " "
    omega
theorem rep_shown {t : Str} {ws : List Str} {kind : Str} (h : SmallW t ws) (hk : chOk kind) (lk : kind.length ≤ 10000) : RepOk (shownD t ws kind) := by
  obtain ⟨o1, o2, o3, o4, o5⟩ := okOther (ws := ws) (kind := kind) (h.wc 2) (Nat.le_trans (h.wl 2) (by decide))
  refine ⟨by simp [shownD, PyData.showable, PyData.showableAll, o1], by simp [shownD, PyData.hasDict, PyData.hasDictAll, o2], by simp [shownD, PyData.depth, PyData.depthAll, o3], ?_, ?_⟩
  · simp only [shownD, PyData.leavesShort, PyData.leavesShortAll, Bool.and_true, Bool.and_eq_true]
    exact ⟨lvStr h.ch, lvStr (h.wc 0), lvStr hk, o4⟩
  · have h1 : t.cps.size ≤ 10000 := h.len
    have h2 : (ws.getD 0 default).cps.size ≤ 10000 := h.wl 0
    have h3 : kind.cps.size ≤ 10000 := lk
    simp only [shownD, PyData.bulk, PyData.bulkAll]
    omega
theorem rep_told {t : Str} {ws : List Str} {kind : Str} (h : SmallW t ws) (hk : chOk kind) (lk : kind.length ≤ 10000) : RepOk (.tuple [.str "told", shownD t ws kind]) := by
  obtain ⟨a1, a2, a3, a4, a5⟩ := rep_shown h hk lk
  have e3 : (shownD t ws kind).depth ≤ 1 := by
    obtain ⟨o1, o2, o3, o4, o5⟩ := okOther (ws := ws) (kind := kind) (h.wc 2) (Nat.le_trans (h.wl 2) (by decide))
    simp [shownD, PyData.depth, PyData.depthAll, o3]
  have e5 : (shownD t ws kind).bulk ≤ 200000 := by
    obtain ⟨o1, o2, o3, o4, o5⟩ := okOther (ws := ws) (kind := kind) (h.wc 2) (Nat.le_trans (h.wl 2) (by decide))
    have h1 : t.cps.size ≤ 10000 := h.len
    have h2 : (ws.getD 0 default).cps.size ≤ 10000 := h.wl 0
    have h3 : kind.cps.size ≤ 10000 := lk
    simp only [shownD, PyData.bulk, PyData.bulkAll]
    omega
  refine ⟨by simp [PyData.showable, PyData.showableAll, a1], by simp [PyData.hasDict, PyData.hasDictAll, a2], ?_, ?_, ?_⟩
  · simp only [PyData.depth, PyData.depthAll]
    omega
  · simp only [PyData.leavesShort, PyData.leavesShortAll, Bool.and_true, Bool.and_eq_true]
    exact ⟨lvStr (okO_of (by decide +kernel : okOB "told" = true)).1, a4⟩
  · have : ("told" : Str).cps.size = 4 := by decide +kernel
    simp only [PyData.bulk, PyData.bulkAll]
    omega
theorem rep_text {l c : Nat} (hl : l < 1000000) (hc : c < 1000000) : RepOk (.tuple [.str "text", .int (l : Int), .int (c : Int)]) := by
  have lg : ∀ n : Nat, n < 1000000 → n.log2 < 1920 := fun n h => by
    by_cases h0 : n = 0
    · rw [h0]; decide
    · exact Nat.lt_of_lt_of_le ((Nat.log2_lt h0).mpr (show n < 2 ^ 20 by omega)) (by decide)
  refine ⟨?_, by simp [PyData.hasDict, PyData.hasDictAll], by simp [PyData.depth, PyData.depthAll], ?_, ?_⟩
  · simp only [PyData.showable, PyData.showableAll, Bool.and_true, Bool.and_eq_true, decide_eq_true_eq]
    exact ⟨trivial, lg l hl, lg c hc⟩
  · simp only [PyData.leavesShort, PyData.leavesShortAll, Bool.and_true, Bool.and_eq_true]
    exact ⟨lvStr (okO_of (by decide +kernel : okOB "text" = true)).1, lvNat hl, lvNat hc⟩
  · have : ("text" : Str).cps.size = 4 := by decide +kernel
    simp only [PyData.bulk, PyData.bulkAll]
    omega
theorem due_c {ws : List Str} {c : Nat} (h : dueEnd ws = .error c) : c ≤ ws.length + 1 := by
  unfold dueEnd at h
  split at h
  · rename_i i hf
    have := List.mem_range.mp (List.mem_of_find?_eq_some hf)
    injection h with h
    omega
  · split at h
    · injection h with h
      omega
    · cases h
theorem due_k {ws : List Str} {kind : Str} (h : dueEnd ws = .ok kind) : chOk kind ∧ kind.length ≤ 20 := by
  unfold dueEnd at h
  split at h
  · cases h
  · split at h
    · cases h
    · rename_i f r hf
      injection h with h
      have hm : f ∈ (aliveAt ws ws.length).filter fun f => decide (f.length = ws.length) := by rw [hf]; exact List.mem_cons_self
      have hfl := alive_sub _ f (List.mem_filter.mp hm).1
      have e : formsL.all (fun f => okOB (kindF f)) = true := by decide +kernel
      rw [← h]
      exact okO_of (List.all_eq_true.mp e f hfl)
theorem rep_due {t : Str} {ws : List Str} (h : SmallW t ws) : RepOk (dueD t ws (dueEnd ws)) := by
  cases e : dueEnd ws with
  | error c =>
    have := due_c e
    have := h.wn
    exact rep_text (l := 1) (by decide) (by omega)
  | ok kind =>
    obtain ⟨a, b⟩ := due_k e
    exact rep_told h a (by omega)
theorem dpDue {K : PySem.W.Frag} {t : Str} {ws : List Str} {H : Hp} {v : V} {r : Except Nat Str} (h : DueV K t ws H v r) : ∃ a, v = .ref a ∧ Dp K H (.ref a) (dueD t ws r) := by
  cases r with
  | error c =>
    obtain ⟨a, rfl, h⟩ := h
    exact ⟨a, rfl, .tup (.inl (.inl h)) (.cons (.str _) (.cons (.int _) (.cons (.int _) .nil)))⟩
  | ok kind =>
    obtain ⟨a, b, rfl, h1, h2⟩ := h
    exact ⟨a, rfl, .tup (.inl (.inl h1)) (.cons (.str _) (.cons (dpShown h2) .nil))⟩
/-! what stays -/
theorem sq_mu {K : PySem.W.Frag} {p a : Addr} {kvs : List (Key × V)} {H H' : Hp} {xs : List V} (hp : H p = some (.dK kvs)) (u : Mu p H H') (h : SqL K H a xs) : SqL K H' a xs := by
  rcases h with (h | ⟨o, h⟩) | h
  · exact .inl (.inl (u _ _ (fun z => by rw [z, hp] at h; cases h) h))
  · exact .inl (.inr ⟨o, u _ _ (fun z => by rw [z, hp] at h; cases h) h⟩)
  · exact .inr h
theorem sq_ext {K : PySem.W.Frag} {a : Addr} {H H' : Hp} {xs : List V} (u : LamX.ExtN H H') (h : SqL K H a xs) : SqL K H' a xs := by
  rcases h with (h | ⟨o, h⟩) | h
  · exact .inl (.inl (u _ _ h fun ps z => by cases z))
  · exact .inl (.inr ⟨o, u _ _ h fun ps z => by cases z⟩)
  · exact .inr h
theorem FormsAt.mu {K : PySem.W.Frag} {p f : Addr} {kvs : List (Key × V)} {H H' : Hp} {L : List (List Str)} (hp : H p = some (.dK kvs)) (u : Mu p H H') (h : FormsAt K H f L) : FormsAt K H' f L := by
  obtain ⟨l, h1, h2, h3⟩ := h
  exact ⟨l, sq_mu hp u h1, fun z hz => sq_mu hp u (h2 z hz), h3⟩
theorem FormsAt.ext {K : PySem.W.Frag} {f : Addr} {H H' : Hp} {L : List (List Str)} (u : LamX.ExtN H H') (h : FormsAt K H f L) : FormsAt K H' f L := by
  obtain ⟨l, h1, h2, h3⟩ := h
  exact ⟨l, sq_ext u h1, fun z hz => sq_ext u (h2 z hz), h3⟩
theorem PenP.ext {K : PySem.W.Frag} {p c : Addr} {n : Nat} {H H' : Hp} (u : LamX.ExtN H H') (h : PenP K p c n H) : PenP K p c n H' := by
  obtain ⟨xs, at_, dg, cn, fo, h1, h2, h3⟩ := h
  exact ⟨xs, at_, dg, cn, fo, (u _ _ h1 fun ps z => by cases z), sq_ext u h2, h3⟩
theorem PenP.dk {K : PySem.W.Frag} {p c : Addr} {n : Nat} {H : Hp} (h : PenP K p c n H) : ∃ kvs, H p = some (.dK kvs) := by
  obtain ⟨xs, at_, dg, cn, fo, h1, _⟩ := h
  exact ⟨_, h1⟩
theorem tabs_mu {T : List (Addr × Str)} {p : Addr} {kvs : List (Key × V)} {H H' : Hp} (hp : H p = some (.dK kvs)) (u : Mu p H H') (h : LamX.Tabs T H) : LamX.Tabs T H' := fun q hq => by
  obtain ⟨ps, h1, h2, h3⟩ := h q hq
  refine ⟨ps, u _ _ (fun z => by rw [z, hp] at h1; cases h1) h1, h2, fun pos cv hc => ?_⟩
  obtain ⟨c, e1, e2⟩ := h3 pos cv hc
  exact ⟨c, e1, u _ _ (fun z => by rw [z, hp] at e2; cases e2) e2⟩
structure LI (m : Md) (p c f : Addr) (T : List (Addr × Str)) (n : Nat) (H : Hp) : Prop where
  pen : PenP m.K p c n H
  forms : FormsAt m.K H f formsL
  tabs : LamX.Tabs T H
section
variable {m : Md} {p c f : Addr} {T : List (Addr × Str)} {n n' : Nat} {H H' : Hp}
theorem LI.same (h : LI m p c f T n H) (s : Same H H') : LI m p c f T n H' := ⟨h.pen.keep s, h.forms.keep s, h.tabs.ext s⟩
theorem LI.mu (h : LI m p c f T n H) (u : Mu p H H') (q : PenP m.K p c n' H') : LI m p c f T n' H' := by
  obtain ⟨kvs, e⟩ := h.pen.dk
  exact ⟨q, h.forms.mu e u, tabs_mu e u h.tabs⟩
theorem LI.ext (h : LI m p c f T n H) (u : LamX.ExtN H H') (t : LamX.Tabs T H') : LI m p c f T n H' := ⟨h.pen.ext u, h.forms.ext u, t⟩
theorem LI.mono (h : LI m p c f T n H) (l : n ≤ n') : LI m p c f T n' H := ⟨h.pen.mono l, h.forms, h.tabs⟩
end
end K9

set_option Elab.async false
set_option linter.all false
set_option maxRecDepth 100000
set_option maxHeartbeats 4000000
namespace K9
open PySem PySem.Spec PyProof.Rows L2 Wp
local macro_rules | `(tactic| walk_at "go1") => `(tactic| first
  | (with_reducible show wE _ (Expr.Name _ _) _ _ _); (first | refine wv ‹On _ _ _ _› 0 ?_ | refine wv ‹On _ _ _ _› 1 ?_ | refine wv ‹On _ _ _ _› 2 ?_ | refine wv ‹On _ _ _ _› 3 ?_ | refine wv ‹On _ _ _ _› 4 ?_ | refine wv ‹On _ _ _ _› 5 ?_ | refine wv ‹On _ _ _ _› 6 ?_ | refine wv ‹On _ _ _ _› 7 ?_ | refine wv ‹On _ _ _ _› 8 ?_ | refine wv ‹On _ _ _ _› 9 ?_ | refine wv ‹On _ _ _ _› 10 ?_ | refine wv ‹On _ _ _ _› 11 ?_ | refine wv ‹On _ _ _ _› 12 ?_ | refine wv ‹On _ _ _ _› 13 ?_)
  | with_reducible refine w_int ?_
  | with_reducible refine w_str ?_
  | with_reducible refine w_bl ?_
  | with_reducible refine w_non ?_
  | with_reducible refine w_bin ?_
  | (with_reducible show wE _ (Expr.Compare _ [_] [_] _) _ _ _); (refine w_cmp ?_)
  | (with_reducible show wT _ (Expr.Compare _ [_] [_] _) _ _ _); (refine wt_cmp ?_)
  | (with_reducible show wE _ (Expr.Compare _ [_, _] [_, _] _) _ _ _); (refine w_chain ?_)
  | (with_reducible show wT _ (Expr.Compare _ [_, _] [_, _] _) _ _ _); (refine wt_chain ?_)
  | with_reducible refine wt_not ?_
  | (with_reducible show wT _ (Expr.BoolOp _ _ _) _ _ _); (refine wt_w ?_)
  | with_reducible refine ww_and1 ?_
  | with_reducible refine ww_or1 ?_
  | with_reducible refine ww_and ?_
  | with_reducible refine ww_or ?_
  | with_reducible refine w_one ?_
  | with_reducible refine w_and ?_
  | with_reducible refine w_or ?_
  | with_reducible refine w_not ?_
  | with_reducible refine w_ifx ?_
  | (with_reducible show wT _ (Expr.Call _ _ _ _) _ _ _); (refine wt_val ?_)
  | with_reducible refine w_sl ?_
  | with_reducible refine w_slf ?_
  | with_reducible refine w_slt ?_
  | (with_reducible show wE _ (Expr.Subscript _ (Expr.Constant (Const.str _) _ _) _) _ _ _); (refine w_dgN ‹On _ _ _ _› ?_)
  | (with_reducible show DG _ _ _ _); (refine dget_at (by assumption) (by rfl) ?_)
  | (with_reducible show wE _ (Expr.Subscript _ (Expr.Constant _ _ _) _) _ _ _); (refine w_sub ?_)
  | (with_reducible show wE _ (Expr.Subscript _ (Expr.BinOp _ _ _ _) _) _ _ _); (refine w_sub ?_)
  | (with_reducible show wA _ (_ :: _) _ _ _); (refine wa_cons ?_)
  | with_reducible refine wa_nil ?_
  | with_reducible refine o_add ?_
  | with_reducible refine o_sub ?_
  | with_reducible refine o_lt ?_
  | with_reducible refine o_le ?_
  | with_reducible refine o_gt ?_
  | with_reducible refine o_ge ?_
  | with_reducible refine o_is ?_
  | with_reducible refine o_isnt ?_
  | (with_reducible show wO _ (compareOp CmpOp.Eq) _ _ _ _); (refine o_eq ?_)
  | (with_reducible show wO _ (compareOp CmpOp.NotEq) _ _ _ _); (refine o_ne ?_)
  | with_reducible refine b_one ?_
  | with_reducible refine b_nil ?_
  | with_reducible refine b_cons ?_
  | with_reducible refine s_if ?_
  | with_reducible refine s_ret ?_
  | with_reducible refine s_retN ?_
  | with_reducible refine s_pass ?_
  | with_reducible refine s_break ?_
  | with_reducible refine s_cont ?_
  | (with_reducible show wS _ (Stmt.Expr (Expr.Call (Expr.Attribute _ "append" _) [_] [] _) _) _ _ _); (refine s_append ‹On _ _ _ _› ?_)
  | (with_reducible show wS _ (Stmt.Expr _ _) _ _ _); (refine s_expr ?_)
  | (with_reducible show wE _ (Expr.ListComp _ _ _ _) _ _ _); (refine w_ofL ‹On _ _ _ _› ?_)
  | (with_reducible show wS _ (Stmt.Assign [Expr.Name _ _] (Expr.ListComp _ _ _ _) _) _ _ _); (first | refine s_ofL ‹On _ _ _ _› 0 ?_ | refine s_ofL ‹On _ _ _ _› 1 ?_ | refine s_ofL ‹On _ _ _ _› 2 ?_ | refine s_ofL ‹On _ _ _ _› 3 ?_ | refine s_ofL ‹On _ _ _ _› 4 ?_ | refine s_ofL ‹On _ _ _ _› 5 ?_ | refine s_ofL ‹On _ _ _ _› 6 ?_ | refine s_ofL ‹On _ _ _ _› 7 ?_ | refine s_ofL ‹On _ _ _ _› 8 ?_ | refine s_ofL ‹On _ _ _ _› 9 ?_ | refine s_ofL ‹On _ _ _ _› 10 ?_ | refine s_ofL ‹On _ _ _ _› 11 ?_ | refine s_ofL ‹On _ _ _ _› 12 ?_ | refine s_ofL ‹On _ _ _ _› 13 ?_)
  | (with_reducible show wS _ (Stmt.Assign [Expr.Name _ _] _ _) _ _ _); (first | refine s_set ‹On _ _ _ _› 0 ?_ | refine s_set ‹On _ _ _ _› 1 ?_ | refine s_set ‹On _ _ _ _› 2 ?_ | refine s_set ‹On _ _ _ _› 3 ?_ | refine s_set ‹On _ _ _ _› 4 ?_ | refine s_set ‹On _ _ _ _› 5 ?_ | refine s_set ‹On _ _ _ _› 6 ?_ | refine s_set ‹On _ _ _ _› 7 ?_ | refine s_set ‹On _ _ _ _› 8 ?_ | refine s_set ‹On _ _ _ _› 9 ?_ | refine s_set ‹On _ _ _ _› 10 ?_ | refine s_set ‹On _ _ _ _› 11 ?_ | refine s_set ‹On _ _ _ _› 12 ?_ | refine s_set ‹On _ _ _ _› 13 ?_)
  | (with_reducible show wS _ (Stmt.Assign [Expr.Subscript _ (Expr.Constant (Const.str _) _ _) _] _ _) _ _ _); (refine s_dput ‹On _ _ _ _› ?_)
  | (with_reducible show wG _ (Expr.Name _ _) _ _ _ _); (first | refine g_name ‹On _ _ _ _› 0 ?_ | refine g_name ‹On _ _ _ _› 1 ?_ | refine g_name ‹On _ _ _ _› 2 ?_ | refine g_name ‹On _ _ _ _› 3 ?_ | refine g_name ‹On _ _ _ _› 4 ?_ | refine g_name ‹On _ _ _ _› 5 ?_ | refine g_name ‹On _ _ _ _› 6 ?_ | refine g_name ‹On _ _ _ _› 7 ?_ | refine g_name ‹On _ _ _ _› 8 ?_ | refine g_name ‹On _ _ _ _› 9 ?_ | refine g_name ‹On _ _ _ _› 10 ?_ | refine g_name ‹On _ _ _ _› 11 ?_ | refine g_name ‹On _ _ _ _› 12 ?_ | refine g_name ‹On _ _ _ _› 13 ?_)
  | with_reducible refine iteT ?_
  | with_reducible refine iteF ?_
  | with_reducible refine iteNT ?_
  | with_reducible refine iteNF ?_
  | with_reducible refine Exists.intro _ (And.intro rfl ?_))
local macro_rules | `(tactic| walk_at "go") => `(tactic| repeat (walk_at "go1"))
/-! law -/
abbrev nLaw : Nm := defNmC ["script", "pen", "forms", "lap", "form", "text", "one", "again", "due", "told", "other"] sLaw ["_law_pen", "_law_vow_forms", "range", "_law_draw", "len", "repr", "repr", "_law_shown", "Vow", "_law_vow_due", "_law_bent_vow", "_law_met", "_law_pick"] [8, 9] [6]
structure LawC (m : Md) (CA CB : Addr) : Prop where
  T : Txt m
  pen : Df m 8 "_law_pen" ["script"] (spPen m.K)
  draw : Df m 8 "_law_draw" ["pen", "many"] (spDraw m.K)
  pick : Df m 8 "_law_pick" ["pen", "some"] (spPick m.K)
  forms : Df m 8 "_law_vow_forms" [] (spForms m.K)
  word : Df m 8 "_law_vow_word" ["pen", "form"] (spWord m.K)
  due : Df m 8 "_law_vow_due" ["text"] (spDue m.K)
  bent : Df m 8 "_law_bent_vow" ["pen", "text"] (spBent m.K)
  shown : Df m 5 "_law_shown" ["vow"] (spShown CA)
  vow : Mkc m 4 "Vow" CA ["self", "text"] (spVow m.K CA CB)
def spLaw (K : PySem.W.Frag) (P : Addr) : Sp := fun vs H Q _ => ∃ (a : Addr) (xs : List Int), vs = [.ref a] ∧ SqL K H a (xs.map V.int) ∧ H P = some (.tbl #[]) ∧ ∀ H', Q (.bl true) H'
/-- a Vow made of a text that is read, and shown -/
theorem vow_new {K : PySem.W.Frag} {CA CB a dx : Addr} {t : Str} {H1 : Hp} {Q : VK} {E : XK} (ht : t.length ≤ 1000000) (h1 : H1 a = none) (h2 : H1 dx = none)
    (k : endV CA CB a t (Txt.split t " ") (upd (upd H1 dx (.own a)) a (.ins CA dx [])) Q E (vowEnd (Txt.split t " "))) : spVow K CA CB [.ref a, .str t] (upd (upd H1 dx (.own a)) a (.ins CA dx [])) Q E :=
  ⟨a, dx, _, rfl, upd_same, .inr ⟨t, rfl, ht, k⟩⟩
theorem new_same {H1 H2 : Hp} {a dx : Addr} {o : HO} {CA : Addr} (h1 : H1 a = none) (h2 : H1 dx = none) (u : Mu a (upd (upd H1 dx o) a (.ins CA dx [])) H2) : Same H1 H2 := fun b x e => u b x (ne_of_none e h1) (by rw [upd_ne (ne_of_none e h1), upd_ne (ne_of_none e h2)]; exact e)
theorem DueV.same {K : PySem.W.Frag} {t : Str} {ws : List Str} {H H' : Hp} {v : V} {r : Except Nat Str} (h : DueV K t ws H v r) (s : Same H H') : DueV K t ws H' v r := by
  cases r with
  | error c =>
    obtain ⟨a, e, h1⟩ := h
    exact ⟨a, e, s _ _ h1⟩
  | ok kind =>
    obtain ⟨a, b, e, h1, h2⟩ := h
    exact ⟨a, b, e, s _ _ h1, s _ _ h2⟩
theorem DueV.ext {K : PySem.W.Frag} {t : Str} {ws : List Str} {H H' : Hp} {v : V} {r : Except Nat Str} (h : DueV K t ws H v r) (s : LamX.ExtN H H') : DueV K t ws H' v r := by
  cases r with
  | error c =>
    obtain ⟨a, e, h1⟩ := h
    exact ⟨a, e, s _ _ h1 fun ps z => by cases z⟩
  | ok kind =>
    obtain ⟨a, b, e, h1, h2⟩ := h
    exact ⟨a, b, e, (s _ _ h1 fun ps z => by cases z), (s _ _ h2 fun ps z => by cases z)⟩
/-- what is no text -/
def OthP (H : Hp) (v : V) : Prop := v = .non ∨ v = .int 7 ∨ v = .bl true ∨ (∃ o xs, v = .ref o ∧ H o = some (.tup xs)) ∨ (∃ o xs, v = .ref o ∧ H o = some (.lst xs)) ∨ ∃ o kvs, v = .ref o ∧ H o = some (.dK kvs)
theorem OthP.ext {H H' : Hp} {v : V} (h : OthP H v) (s : LamX.ExtN H H') : OthP H' v := by
  rcases h with h | h | h | ⟨o, xs, h, e⟩ | ⟨o, xs, h, e⟩ | ⟨o, xs, h, e⟩
  · exact .inl h
  · exact .inr (.inl h)
  · exact .inr (.inr (.inl h))
  · exact .inr (.inr (.inr (.inl ⟨o, xs, h, s _ _ e fun ps z => by cases z⟩)))
  · exact .inr (.inr (.inr (.inr (.inl ⟨o, xs, h, s _ _ e fun ps z => by cases z⟩))))
  · exact .inr (.inr (.inr (.inr (.inr ⟨o, xs, h, s _ _ e fun ps z => by cases z⟩))))
theorem OthP.ty {K : PySem.W.Frag} {H : Hp} {v : V} (h : OthP H v) : ∃ T, TyX K H v (.type T) ∧ kitB T "str" = some false := by
  rcases h with rfl | rfl | rfl | ⟨o, xs, rfl, e⟩ | ⟨o, xs, rfl, e⟩ | ⟨o, xs, rfl, e⟩
  · exact ⟨_, .base .non, by decide +kernel⟩
  · exact ⟨_, .base (.int 7), by decide +kernel⟩
  · exact ⟨_, .base (.bl true), by decide +kernel⟩
  · exact ⟨_, .base (.tup e), by decide +kernel⟩
  · exact ⟨_, .base (.lst e), by decide +kernel⟩
  · exact ⟨_, .base (.dK e), by decide +kernel⟩
theorem tok_ok : formsL.all (fun f => decide (f ≠ []) && (decide (f.length ≤ 12) && f.all fun z => z.cps.all (fun c => decide (c < 128)) && (!decide (32 ∈ z.cps.toList) && decide (z.length ≤ 20)))) = true := by decide +kernel
theorem toks {f : List Str} (h : f ∈ formsL) : f ≠ [] ∧ f.length ≤ 12 ∧ ∀ z ∈ f, okW z := by
  have e := List.all_eq_true.mp tok_ok f h
  simp only [Bool.and_eq_true, decide_eq_true_eq, Bool.not_eq_true', decide_eq_false_iff_not, List.all_eq_true] at e
  obtain ⟨e1, e2, e3⟩ := e
  refine ⟨e1, e2, fun z hz => ?_⟩
  obtain ⟨a, b, c⟩ := e3 z hz
  rw [Array.all_eq_true_iff_forall_mem] at a
  exact ⟨fun x hx => of_decide_eq_true (a x (by simpa using hx)), b, c⟩
theorem sum_le {ys : List Str} (h : ∀ y ∈ ys, y.length ≤ 20) : (ys.map (·.length)).sum ≤ 20 * ys.length := by
  induction ys with
  | nil => exact Nat.le_refl _
  | cons a r ih =>
    have h1 := h a List.mem_cons_self
    have h2 := ih fun y hy => h y (List.mem_cons_of_mem _ hy)
    rw [List.map_cons, List.sum_cons, List.length_cons]
    omega
/-- the slots of law -/
def slots (a p f : Addr) (x3 x4 x5 x7 x8 x9 : Option V) : L2.St := [some (.ref a), some (.ref p), some (.ref f), x3, x4, x5, none, x7, x8, x9, none]
theorem b_law {X : Cx} {m : Md} {vs : List V} {H : Hp} {Q : VK} {E : XK} {CA CB g cc P : Addr} (F : LawC m CA CB) (hg : X.A.guards = some []) (LP : LamP X m CB g cc P) (C : On X nLaw m 8) (B : Bd X E) (h : spLaw m.K P vs H Q E) :
    wB X (defBody sLaw) (out Q) (start nLaw.N vs) H := by
  obtain ⟨a, xs, rfl, hq, hP, k⟩ := h
  have T := F.T
  refine b_cons ?_
  walk_at "go"
  refine w_call C 0 F.pen ?_
  walk_at "go"
  refine ⟨a, xs, rfl, hq, fun p c H1 hp s1 p1 => ?_⟩
  walk_at "go"
  refine w_call0 C 1 F.forms ⟨rfl, fun f H2 nf s2 F2 => ?_⟩
  walk_at "go"
  have t2 : LamX.Tabs (TL' X P) H2 := fun q hq => by
    rw [List.mem_singleton.mp hq]
    exact LamX.TabS.nil (s2 _ _ (s1 _ _ hP))
  have I2 : LI m p c f (TL' X P) 0 H2 := ⟨p1.keep s2, F2, t2⟩
  refine s_cut (fun σ' H' => ∃ x3 x4 x5 x7 x8 x9, σ' = slots a p f x3 x4 x5 x7 x8 x9 ∧ LI m p c f (TL' X P) 9600 H') ?_ fun σ3 H3 ⟨x3, x4, x5, x7, x8, x9, e3, I3⟩ => ?_
  · refine s_forR C B.po 2 T.range ?_
    walk_at "go"
    refine ⟨by decide, fun i σ' H' => ∃ x3 x4 x5 x7 x8 x9, σ' = slots a p f x3 x4 x5 x7 x8 x9 ∧ LI m p c f (TL' X P) (400 * i) H', ⟨none, none, none, none, none, none, rfl, I2⟩, fun i σ' H' hi q => ?_, fun σ' H' q => q⟩
    obtain ⟨x3, x4, x5, x7, x8, x9, rfl, I3⟩ := q
    have hi' : i < 24 := hi
    unfold slots
    walk_at "go"
    refine w_subN ?_
    walk_at "go"
    refine w_call C 3 F.draw ?_
    walk_at "go"
    refine w_lenL C 4 T.len ?_
    walk_at "go"
    obtain ⟨l, l1, l2, l3⟩ := I3.forms
    refine ⟨f, _, rfl, .inl l1, ?_⟩
    walk_at "go"
    have hll : l.length = 24 := by
      have e : formsL.length = 24 := by decide +kernel
      rw [← e, ← l3, List.length_map]
    rw [List.length_map, hll]
    refine ⟨p, c, _, 400 * i, rfl, I3.pen, by omega, by decide, by decide, fun r4 H4 u4 p4 a4 b4 => ?_⟩
    have I4 := I3.mu u4 p4
    obtain ⟨kvs, edk⟩ := I3.pen.dk
    have hrl : r4.toNat < l.length := by omega
    obtain ⟨z, hz⟩ : ∃ z, l[r4.toNat]? = some z := ⟨_, List.getElem?_eq_getElem hrl⟩
    have hzm := List.mem_of_getElem? hz
    have hzf : z.2 ∈ formsL := by rw [← l3]; exact List.mem_map_of_mem hzm
    obtain ⟨g1, g2, g3⟩ := toks hzf
    have qz := sq_mu edk u4 (l2 z hzm)
    refine i_list C (sq_mu edk u4 l1) (v := .ref z.1) (by
      rw [show r4 = (r4.toNat : Int) by omega]
      exact atI_nat (by rw [List.getElem?_map, hz]; rfl)) ?_
    walk_at "go"
    refine w_join C ?_
    walk_at "go"
    refine lcLg C 6 ["_law_vow_word"] [1, 6] (by decide +kernel) ?_ (fun _ => rfl)
    walk_at "go"
    refine ⟨z.1, _, rfl, qz, by rw [List.length_map]; omega, fun Dl hD => ⟨fun j H' acc => H4 Dl = none ∧ LI m p c f (TL' X P) (400 * i + 1 + 30 * j) H' ∧ Mu p H4 H' ∧ ∃ ys : List Str, acc = ys.map V.str ∧ ∀ k w, ys[k]? = some w → lawFits w (z.2.getD k default) = true ∧ okW w,
      ⟨hD, I4.same (same_new hD), Mu.of (same_new hD), [], rfl, fun k w e => by cases e⟩, fun j H' acc q => ?_, fun j y H5 X2 acc hy q hl d5 C2 => ?_, fun H5 acc q hl d5 => ?_⟩⟩
    · obtain ⟨kvs4, edk4⟩ := I4.pen.dk
      exact sq_mu edk4 q.2.2.1 qz
    · obtain ⟨_, I5, u5, ys, ea, hys⟩ := q
      obtain ⟨fk, hfk, rfl⟩ := map_at hy
      have hj : j < z.2.length := (List.getElem?_eq_some_iff.mp hfk).1
      refine w_call C2 0 F.word ?_
      walk_at "go"
      refine ⟨p, c, _, fk, rfl, I5.pen, by omega, g3 fk (List.mem_of_getElem? hfk), fun w H6 u6 p6 fit ok => ?_⟩
      have hdp : Dl ≠ p := fun e => by rw [e] at hD; exact I4.pen.ne hD
      have I6 := (I5.mu u6 p6)
      have d6 := u6 _ _ hdp d5
      have um : Mu p H4 (upd H6 Dl (.lst (acc ++ [V.str w]))) := fun b o hb e => by
        rw [upd_ne (ne_of_none e hD)]
        exact u6 b o hb (u5 b o hb e)
      refine ⟨d6, hD, I4.mu um ((I4.pen.lay hD p6).mono (by omega)), um, ys ++ [w], by rw [ea, List.map_append]; rfl, fun k w' e => ?_⟩
      have hyl : ys.length = j := by rw [← hl, ea, List.length_map]
      by_cases hk : k < ys.length
      · rw [List.getElem?_append_left hk] at e
        exact hys k w' e
      · rw [List.getElem?_append_right (by omega)] at e
        have hk0 : k - ys.length = 0 := by
          cases hkk : k - ys.length with
          | zero => rfl
          | succ n => rw [hkk] at e; cases e
        rw [hk0] at e
        have ew : w = w' := Option.some.inj e
        have ek : k = j := by omega
        rw [← ew, ek, getD_of' hfk]
        exact ⟨fit, ok⟩
    · obtain ⟨_, I5, u5, ys, ea, hys⟩ := q
      have hyl : ys.length = z.2.length := by
        have e := hl
        rw [ea, List.length_map, List.length_map] at e
        exact e
      have hok : ∀ y ∈ ys, okW y := fun y hy => by
        obtain ⟨k, hk, e⟩ := List.mem_iff_getElem.mp hy
        exact (hys k y (by rw [List.getElem?_eq_getElem hk, e])).2
      have hsum := sum_le fun y hy => (hok y hy).2.2
      have hspl : Txt.split (Txt.join " " ys) " " = ys := TL.split_join (y := " ") (s := 32) (S := []) (by decide +kernel) (by decide +kernel) (fun e => by
        rw [e] at hyl
        exact g1 (List.length_eq_zero_iff.mp hyl.symm)) fun y hy => (hok y hy).2.1
      have hch : chOk (Txt.join " " ys) := join_ch (okO_of (by decide +kernel : okOB " " = true)).1 fun y hy => (hok y hy).1
      have hlen : (Txt.join " " ys).length ≤ 300 := by
        have := join_wt ys
        unfold wt at this
        omega
      obtain ⟨kind, hkind⟩ := due_told hzf hyl fun k hk => (hys k _ (List.getElem?_eq_getElem hk)).1
      have I5' := I5.mono (show 400 * i + 1 + 30 * (z.2.map V.str).length ≤ 400 * i + 361 by rw [List.length_map]; omega)
      have sw0 := small_split hch (Nat.le_trans hlen (by decide))
      refine ⟨Dl, ys, rfl, .inl (.inl (.inl (by rw [d5, ea]))), by rw [show (" " : Str).length = 1 from by decide +kernel]; omega, ?_⟩
      generalize htx : Txt.join " " ys = tx at hspl hch hlen sw0
      have hdue : dueEnd (Txt.split tx " ") = .ok kind := by rw [hspl]; exact hkind
      have hvow : vowEnd (Txt.split tx " ") = .ok kind := by rw [← due_vow (PyProof.Rows.split_pos tx " ")]; exact hdue
      have rd := rep_due sw0
      rw [hdue] at rd
      obtain ⟨kk1, kk2⟩ := due_k hdue
      have rs := rep_shown sw0 kk1 (Nat.le_trans kk2 (by decide))
      walk_at "go"
      refine w_repr C hg 6 T.repr ?_
      refine w_call C 7 F.shown ?_
      refine wa_cons ?_
      refine w_make C 8 F.vow ?_
      walk_at "go"
      intro va vd n1 n2 n3
      refine vow_new (Nat.le_trans hlen (by decide)) n1 n2 ?_
      rw [hvow]
      intro H6 u6 v6
      refine ⟨rfl, ?_⟩
      have s6 := new_same n1 n2 u6
      walk_at "go"
      refine ⟨va, tx, kind, Txt.split tx " ", rfl, v6, fun r H7 s7 e7 => ?_⟩
      obtain ⟨a1, a2, a3, a4, a5⟩ := rs
      refine ⟨r, shownD tx (Txt.split tx " ") kind, rfl, dpShown e7, a1, a2, a3, a4, a5, ?_⟩
      have I7 := I5'.same (s6.trans s7)
      refine w_repr C hg 6 T.repr ?_
      walk_at "go"
      refine w_call C 9 F.due ?_
      walk_at "go"
      refine ⟨tx, rfl, Nat.le_trans hlen (by decide), hch, fun v H8 s8 dv => ?_⟩
      rw [hdue] at dv
      obtain ⟨b1, b2, rfl, f1, f2⟩ := dv
      walk_at "go"
      refine i_tup C (.inl (.inl f1)) (atI_nat (j := 1) rfl) ?_
      refine ⟨b2, shownD tx (Txt.split tx " ") kind, rfl, dpShown f2, a1, a2, a3, a4, a5, ?_⟩
      have I8 := I7.same s8
      walk_at "go"
      rw [decide_eq_true rfl]
      refine iteFe rfl ?_
      clear hys hok hsum hspl htx
      walk_at "go"
      refine s_forR C B.po 2 T.range ?_
      walk_at "go"
      refine w_call C 3 F.draw ?_
      walk_at "go"
      refine ⟨p, c, 2, _, rfl, I8.pen, by omega, by decide, by decide, fun r9 H9 u9 p9 a9 b9 => ?_⟩
      walk_at "go"
      refine ⟨⟨by omega, by omega⟩, fun j σ' H' => ∃ x3 x4 x7 x8 x9 t', σ' = slots a p f x3 x4 (some (.str t')) x7 x8 x9 ∧ LI m p c f (TL' X P) (400 * i + 362 + 10 * j) H' ∧ t'.length + 40 ≤ 340 * 2 ^ j ∧ chOk t',
        ⟨_, _, _, _, _, tx, rfl, (I8.mu u9 p9).mono (by omega), by omega, hch⟩, fun j σ' H' hj q => ?_, fun σ' H' q => ?_⟩
      · obtain ⟨y3, y4, y7, y8, y9, t', rfl, IA, lt, ct⟩ := q
        have hj2 : j < 2 := by omega
        have lt2 : t'.length ≤ 1500 := by
          rcases (show j = 0 ∨ j = 1 by omega) with rfl | rfl
          · have : 340 * 2 ^ 0 = 340 := rfl
            omega
          · have : 340 * 2 ^ 1 = 680 := rfl
            omega
        unfold slots
        walk_at "go"
        refine w_call C 10 F.bent ?_
        walk_at "go"
        refine ⟨p, c, _, t', rfl, IA.pen, by omega, by omega, ct, fun t2 HB uB pB lB cB => ?_⟩
        have IB := IA.mu uB pB
        have lt3 : t2.length ≤ 10000 := by omega
        have sw2 := small_split cB lt3
        have rd2 := rep_due sw2
        have ev := due_vow (PyProof.Rows.split_pos t2 " ")
        walk_at "go"
        refine s_par C 8 9 ?_
        walk_at "go"
        refine w_call C 9 F.due ?_
        walk_at "go"
        refine ⟨t2, rfl, Nat.le_trans lt3 (by decide), cB, fun v HC sC dv => ?_⟩
        have IC := IB.same sC
        walk_at "go"
        refine wE_mono (Q := fun u H' => LI m p c f (TL' X P) (400 * i + 362 + 10 * j + 10) H' ∧ DueV m.K t2 (Txt.split t2 " ") H' v (dueEnd (Txt.split t2 " ")) ∧ DueV m.K t2 (Txt.split t2 " ") H' u (dueEnd (Txt.split t2 " "))) ?_ fun u HE ⟨IE, dv2, du2⟩ => ?_
        · refine w_lam C 11 LP ["_law_shown", "Vow"] [5] (by decide) (by decide +kernel) (by decide +kernel) (by rfl) (fun _ _ _ _ _ => rfl) ⟨IC.tabs, fun HD eD tD => ?_⟩
          have ID := IC.ext eD tD
          have dD := dv.ext eD
          intro X2 C2 tk2
          refine w_call C2 0 F.shown ?_
          refine wa_cons ?_
          refine w_makeX C2 tk2 1 F.vow ?_
          walk_at "go"
          intro va vd n1 n2 n3
          refine vow_new (Nat.le_trans lt3 (by decide)) n1 n2 ?_
          rw [← ev]
          cases hr0 : dueEnd (Txt.split t2 " ") with
          | error c0 =>
            rw [hr0] at dD
            intro d HF nd mu ed
            have sF := new_same n1 n2 mu
            refine ⟨rfl, d, 1, (c0 : Int), rfl, ed, fun r HG sG eG => ?_⟩
            have sDG := sF.trans sG
            exact ⟨ID.same sDG, dD.same sDG, r, rfl, eG⟩
          | ok kind =>
            rw [hr0] at dD
            intro HF mu vis
            have sF := new_same n1 n2 mu
            refine ⟨rfl, ?_⟩
            walk_at "go"
            refine ⟨va, t2, kind, _, rfl, vis, fun r HG sG eG => ?_⟩
            refine ⟨szN 2, fun q hq => ?_⟩
            have sH : Same HG (upd HG q (.tup [.str "told", .ref r])) := same_new hq
            have sDH := (sF.trans sG).trans sH
            exact ⟨ID.same sDH, dD.same sDH, q, r, rfl, upd_same, sH _ _ eG⟩
        · obtain ⟨av, rfl, dp1⟩ := dpDue dv2
          obtain ⟨au, rfl, dp2⟩ := dpDue du2
          obtain ⟨a1, a2, a3, a4, a5⟩ := rd2
          walk_at "go"
          refine ⟨_, _, rfl, ?_⟩
          walk_at "go"
          refine w_repr C hg 6 T.repr ?_
          walk_at "go"
          refine ⟨au, dueD t2 (Txt.split t2 " ") (dueEnd (Txt.split t2 " ")), rfl, dp2, a1, a2, a3, a4, a5, ?_⟩
          refine w_repr C hg 6 T.repr ?_
          walk_at "go"
          refine ⟨av, dueD t2 (Txt.split t2 " ") (dueEnd (Txt.split t2 " ")), rfl, dp1, a1, a2, a3, a4, a5, ?_⟩
          walk_at "go"
          rw [decide_eq_true rfl]
          refine iteFe rfl ?_
          walk_at "go"
          refine ⟨_, _, _, _, _, t2, rfl, IE.mono (by omega), ?_, cB⟩
          rw [Nat.pow_succ]
          omega
      · obtain ⟨y3, y4, y7, y8, y9, t', rfl, IA, _⟩ := q
        exact ⟨_, _, _, _, _, _, rfl, IA.mono (by omega)⟩
  · subst e3
    unfold slots
    walk_at "go"
    refine w_call C 12 F.pick ?_
    walk_at "go"
    refine w_lstN ?_
    walk_at "go"
    refine w_tupN ?_
    walk_at "go"
    refine ⟨szN 0, fun o1 H4 m4 s4 e4 => ?_⟩
    walk_at "go"
    refine w_lstN ?_
    walk_at "go"
    refine ⟨szN 1, fun o2 H5 m5 s5 e5 => ?_⟩
    walk_at "go"
    refine w_tupN ?_
    walk_at "go"
    refine ⟨szN 2, fun o3 H6 m6 s6 e6 => ?_⟩
    refine wa_cons ?_
    refine w_disp (l := [(_, _)]) rfl rfl (by simp) (by simp) fun o4 H7 m7 s7 e7 => ?_
    unfold wPs
    walk_at "go"
    unfold wPs
    refine ⟨e7, [(.inr "a", .int 1)], rfl, by simp, fun H8 u8 e8 => ?_⟩
    walk_at "go"
    refine ⟨szN 7, fun lo H9 m9 s9 e9 => ?_⟩
    have s68 : Same H6 H8 := fun b o e => u8 b o (ne_of_none e m7) (s7 _ _ e)
    have s39 : Same H3 H9 := (((s4.trans s5).trans s6).trans s68).trans s9
    have s38 : Same H3 H8 := ((s4.trans s5).trans s6).trans s68
    have I9 := I3.same s39
    have I8 := I3.same s38
    walk_at "go"
    have np : ∀ {o : Addr} {Hx : Hp}, Same H3 Hx → Hx o = none → o ≠ p := fun sx e z => I3.pen.ne (same_none sx (by rw [← z]; exact e))
    have n1 : o1 ≠ p := np (Same.refl _) m4
    have n2 : o2 ≠ p := np s4 m5
    have n3 : o3 ≠ p := np (s4.trans s5) m6
    have n4 : o4 ≠ p := np ((s4.trans s5).trans s6) m7
    have g1 := s9 _ _ (s68 _ _ (s6 _ _ (s5 _ _ e4)))
    have g2 := s9 _ _ (s68 _ _ (s6 _ _ e5))
    have g3 := s9 _ _ (s68 _ _ e6)
    have g4 := s9 _ _ e8
    refine ⟨p, c, lo, _, _, rfl, I9.pen, by omega, .inl (.inl e9), np s38 m9, by simp, by simp, fun v HA uA pA hv => ?_⟩
    have IA := I9.mu uA pA
    have ov : OthP HA v := by
      simp only [List.mem_cons, List.not_mem_nil, or_false] at hv
      rcases hv with rfl | rfl | rfl | rfl | rfl | rfl | rfl
      · exact .inl rfl
      · exact .inr (.inl rfl)
      · exact .inr (.inr (.inl rfl))
      · exact .inr (.inr (.inr (.inl ⟨_, _, rfl, uA _ _ n1 g1⟩)))
      · exact .inr (.inr (.inr (.inr (.inl ⟨_, _, rfl, uA _ _ n2 g2⟩))))
      · exact .inr (.inr (.inr (.inl ⟨_, _, rfl, uA _ _ n3 g3⟩)))
      · exact .inr (.inr (.inr (.inr (.inr ⟨_, _, rfl, uA _ _ n4 g4⟩))))
    walk_at "go"
    obtain ⟨r1, r2, r3, r4, r5⟩ := rep_text (l := 0) (c := 0) (by decide) (by decide)
    refine w_repr C hg 6 T.repr ?_
    refine w_lam C 11 LP ["Vow"] [10] (by decide) (by decide +kernel) (by decide +kernel) (by rfl) (fun _ _ _ _ _ => rfl) ⟨IA.tabs, fun HD eD tD => ?_⟩
    have oD := ov.ext eD
    intro X2 C2 tk2
    refine w_makeX C2 tk2 0 F.vow ?_
    walk_at "go"
    intro va vd m1 m2 m3
    have sN : Same HD (upd (upd HD vd (.own va)) va (.ins CA vd [])) := new_same m1 m2 fun b o _ e => e
    obtain ⟨Ty, ty1, ty2⟩ := (oD.ext (LamX.ExtN.of sN)).ty (K := m.K)
    refine ⟨va, vd, v, rfl, upd_same, .inl ⟨Ty, ty1, ty2, ?_⟩⟩
    intro d HF nd mu ed
    refine ⟨rfl, d, 0, 0, rfl, ed, fun r HG sG eG => ?_⟩
    refine ⟨r, _, rfl, .tup (.inl (.inl eG)) (.cons (.str _) (.cons (.int _) (.cons (.int _) .nil))), r1, r2, r3, r4, r5, ?_⟩
    refine w_repr C hg 6 T.repr ?_
    refine w_tupN ?_
    walk_at "go"
    refine ⟨szN 3, fun q HH _ sH eH => ⟨q, _, rfl, .tup (.inl (.inl eH)) (.cons (.str _) (.cons (.int _) (.cons (.int _) .nil))), r1, r2, r3, r4, r5, ?_⟩⟩
    walk_at "go"
    rw [decide_eq_true rfl]
    exact k _
end K9

set_option Elab.async false
set_option linter.all false
set_option maxRecDepth 100000
set_option maxHeartbeats 4000000
/-! The end where one knows that nothing is being shown ahead of the law (a law that shows tuples). -/
namespace Wp
open PySem PySem.Spec PyProof.Rows L2
/-- the law's run, from the caller's own surroundings, at the state s -/
abbrev RunAt (P : Program) (w : World) (K : PySem.W.Frag) (mg : Str → Option Value) (CX : CXT) (fa a : Addr) (base : Heap) (s : Shared) (H : Hp) : Prop :=
  Env0 P w K mg base callerA [] s H → codeAny (model P w) callerA (.call (.ref fa) ⟨[.ref a], []⟩) (CR CX [] P w H s (fun v _ => v = .bl true) fun _ _ _ => False) s
theorem law_callG {P : Program} {w : World} {K : PySem.W.Frag} {mg mb : Str → Option Value} {CX : CXT} {fa a c T : Addr} {s : Shared} {vs : List Value} {ns : List Int}
    (KX : K.In s.heap) (hns : s.heap.Ns mainGlobals mg) (hb : s.heap.Ns builtinsNs mb) (hbb : ∀ x : Str, x ≠ "__name__" → mb x = bootBuiltins x) (hlim : s.heap.NoLimit) (hg : s.gens = #[])
    (hT : s.heap.get? T = some { cls := .none, data := .fields #[] }) (nT : K.lookup T = none) (Cd : PySem.W.CodeHd s.heap c T)
    (hbm : ∃ (bm : Addr) (ob : Obj), mg "__builtins__" = some (.ref bm) ∧ bm ≠ builtinsNs ∧ s.heap.get? bm = some ob ∧ ob.cls = .type "module" ∧ ob.dict = some builtinsNs ∧ ob.data = .plain)
    (ha : s.heap.get? a = some { cls := .type "list", data := .seq vs.toArray }) (hi : IntsAre vs ns) (hl : ns.length ≤ sizeLine)
    (F : ∀ (base : Heap) (H : Hp), K.In base → base.Ns mainGlobals mg → LamX.TabB base mg c T → H T = some (.tbl #[]) → SqL K H a (ns.map V.int) → RunAt P w K mg CX fa a base s H)
    (hCX : ∀ H e s', CX [] H s (fun _ _ _ => False) e s' → False) :
    codeAny (model P w) callerA (.call (.ref fa) ⟨[.ref a], []⟩) (fun r s' => r = .ok (.ret (.bool true)) ∧ OldK s.heap s'.heap ∧ s'.os = s.os ∧ AllBare s'.gens) s := by
  have rv := vals_ints hi
  have aT : a ≠ T := fun z => by
    rw [z, hT] at ha
    have q := congrArg Obj.data (Option.some.inj ha)
    cases q
  obtain ⟨H, H1, H2, H3⟩ : ∃ H : Hp, H T = some (.tbl #[]) ∧ (∀ b, b ≠ T → b ≠ a → H b = none) ∧ ((K.lookup a = none ∧ H a = some (.frz { cls := .type "list", data := .seq vs.toArray } (.lst (ns.map V.int)))) ∨ (∃ o, K.lookup a = some o) ∧ H a = none) := by
    cases hk : K.lookup a with
    | none => exact ⟨fun b => if b = T then some (.tbl #[]) else if b = a then some (.frz { cls := .type "list", data := .seq vs.toArray } (.lst (ns.map V.int))) else none, if_pos rfl, fun b n1 n2 => by simp [n1, n2], .inl ⟨rfl, by simp [aT]⟩⟩
    | some o => exact ⟨fun b => if b = T then some (.tbl #[]) else none, if_pos rfl, fun b n1 _ => if_neg n1, .inr ⟨⟨o, rfl⟩, if_neg aT⟩⟩
  have hS : SqL K H a (ns.map V.int) := by
    rcases H3 with ⟨_, e⟩ | ⟨⟨o, hk⟩, _⟩
    · exact .inl (.inr ⟨_, e⟩)
    · have e := KX a o hk
      rw [ha] at e
      cases e
      exact .inr ⟨_, vs.toArray, _, hk, rfl, rfl, rfl, by rw [List.size_toArray, hi.length]; exact hl, by simpa using rv⟩
  have hok : HOk P w H s.heap := fun b u e => by
    by_cases hbT : b = T
    · rw [hbT, H1] at e
      cases e
      rw [hbT]
      exact hT
    · by_cases hba : b = a
      · rw [hba] at e ⊢
        rcases H3 with ⟨_, e2⟩ | ⟨_, e2⟩
        · rw [e2] at e
          cases e
          exact ⟨ha, by rw [List.length_map]; exact hl, vs, _, rv, ha⟩
        · rw [e2] at e
          cases e
      · rw [H2 b hbT hba] at e
        cases e
  have freeD : ∀ {b : Addr} {o : Obj}, s.heap.get? b = some o → (∀ xs n, o.data ≠ .seq xs n) → o.data ≠ .fields #[] → H b = none := fun {b o} e h1 h2 => by
    refine H2 b (fun z => ?_) fun z => ?_
    · rw [z, hT] at e
      cases e
      exact h2 rfl
    · rw [z, ha] at e
      cases e
      exact h1 _ _ rfl
  have back : ∀ {b : Addr} {o : Obj}, s.heap.get? b = some o → H b = none → (hidT s.heap H).get? b = some o := fun e n => hidT_get e n
  have backN : ∀ {b : Addr} {g : Str → Option Value}, s.heap.Ns b g → (hidT s.heap H).Ns b g := fun {b g} ⟨o, es, ep, e, d, r⟩ =>
    ⟨o, es, ep, back e (freeD e (fun xs n z => by rw [d] at z; cases z) fun z => by rw [d] at z; cases z), d, r⟩
  have hKb : K.In (hidT s.heap H) := fun b o e => back (KX b o e) (by
    by_cases hbT : b = T
    · rw [hbT, nT] at e
      cases e
    · by_cases hba : b = a
      · rcases H3 with ⟨hk, _⟩ | ⟨_, e2⟩
        · rw [hba, hk] at e
          cases e
        · rw [hba]
          exact e2
      · exact H2 b hbT hba)
  have hM : L2.Mod K mg (hidT s.heap H) := ⟨hKb, backN hns, ⟨mb, backN hb, hbb⟩, let ⟨mc, h1, h2⟩ := hlim; ⟨mc, backN h1, h2⟩⟩
  obtain ⟨og, eg, pg, hog, hdg, _⟩ := id hns
  have nGT : mainGlobals ≠ T := fun z => by
    rw [z, hT] at hog
    cases hog
    cases hdg
  have TB : LamX.TabB (hidT s.heap H) mg c T := by
    refine ⟨?_, ?_, nGT⟩
    · obtain ⟨o, us, file, tf, flags, tg, inF, text, tt, e1, r1, r2, r3, rest⟩ := id Cd
      refine ⟨o, us, file, tf, flags, tg, inF, text, tt, back e1 (freeD e1 (fun xs n z => by rw [r2] at z; cases z) fun z => ?_), r1, r2, r3, rest⟩
      rw [r2] at z
      cases z
      simp at r3
    · obtain ⟨bm, ob, b1, b2, b3, b4, b5, b6⟩ := hbm
      have nG : bm ≠ mainGlobals := fun q => by
        rw [q, hog] at b3
        cases b3
        rw [hdg] at b6
        cases b6
      have nP : bm ≠ T := fun q => by
        rw [q, hT] at b3
        cases b3
        cases b6
      exact ⟨bm, ob, b1, b2, nG, nP, back b3 (freeD b3 (fun xs n z => by rw [b6] at z; cases z) fun z => by rw [b6] at z; cases z), b4, b5, b6⟩
  have e0 : Env0 P w K mg (hidT s.heap H) callerA [] s H := ⟨rfl, hM, fun b o e => of_hidT e, Nat.le_of_eq (hidT_size _ _), trivial, fun b hb => absurd (show b ∈ ([] : List Addr) from hb) (by simp), hok, .of_eq hg⟩
  refine codeAny_mono (F _ H hKb (backN hns) TB H1 hS e0) fun r s' h => ?_
  cases r with
  | error e => exact (hCX H e s' h).elim
  | ok fl =>
    cases fl with
    | next => exact False.elim h
    | brk => exact False.elim h
    | cont => exact False.elim h
    | ret u =>
      obtain ⟨v, H', os, bare, un, hok', r', q⟩ := h
      have q' : v = .bl true := q
      subst q'
      obtain rfl : u = Value.bool true := r'
      obtain ⟨more, z1⟩ := un.tbls T #[] H1
      have grown := hok' T _ z1
      have keep : ∀ b o, b ≠ T → s.heap.get? b = some o → s'.heap.get? b = some o := fun b o nb e => by
        by_cases hba : b = a
        · rcases H3 with ⟨_, e2⟩ | ⟨_, e2⟩
          · rw [← hba] at e2
            have z2 := un.frzs b _ _ e2
            obtain ⟨g1, _⟩ := hok b _ e2
            obtain ⟨g2, _⟩ := hok' b _ z2
            rw [e] at g1; cases g1
            exact g2
          · rw [← hba] at e2
            exact un.keep b o e e2 (by intro z; exact absurd (show b ∈ ([] : List Addr) from z) (by simp)) (by simp)
        · exact un.keep b o e (H2 b nb hba) (by intro z; exact absurd (show b ∈ ([] : List Addr) from z) (by simp)) (by simp)
      refine ⟨rfl, ⟨fun b o e => ?_, fun b o e => ?_⟩, os, bare⟩
      · by_cases hbT : b = T
        · rw [hbT] at e ⊢
          rw [hT] at e
          cases e
          exact .inr (.inl ⟨(Cd.tab hT).isCodeTable, rfl, #[], _, rfl, grown⟩)
        · exact .inl (keep b o hbT e)
      · by_cases hbT : b = T
        · rw [hbT]
          exact ⟨_, grown⟩
        · exact ⟨o, keep b o hbT e⟩
/-- the walk of a law from the caller -/
theorem walk_G {l : PySem.W.OpenLaw} {n : Nat} {q : Program} {loose : List Str} {XP : (Str → Option Value) → Heap → Prop} {YP : World → Heap → Prop} {d : DefRec} {CX : World → CXT}
    (hn : l.most = some n) (hn2 : n ≤ sizeLine) (hdf : d.params.defaults = [])
    (F : ∀ (w : World) (mg : Str → Option Value) (fa : Addr) (h : Heap), YP w h → h.Ns mainGlobals mg → mg d.name = some (.ref fa) → ∃ (K : PySem.W.Frag) (c T : Addr), K.In h ∧ h.get? T = some { cls := .none, data := .fields #[] } ∧ K.lookup T = none ∧ PySem.W.CodeHd h c T ∧
      ∀ (base : Heap) (s : Shared) (H : Hp) (a : Addr) (ns : List Int), ns.length ≤ n → K.In base → base.Ns mainGlobals mg → LamX.TabB base mg c T → H T = some (.tbl #[]) → SqL K H a (ns.map V.int) → RunAt l.prog w K mg (CX w) fa a base s H)
    (hCX : ∀ (w : World) (H : Hp) (s : Shared) (e : Value) (s' : Shared), CX w [] H s (fun _ _ _ => False) e s' → False) :
    PySem.W.WalkO q loose XP YP l.row.toRowW d [] (fun f vs => PySem.call f vs) := by
  refine Att.attach_callB hn hdf fun w s₀ s₁ mg mb fa o pm cd doc a vs ns G Y ho hd hcd hmg hobj hints hlen hbits hg => ?_
  obtain ⟨K, c, T, KX, hT, nT, Cd, hF⟩ := F w mg fa _ Y G.T.g hmg
  exact law_callG KX G.T.g G.T.b G.T.builtins G.T.nolimit hg hT nT Cd G.T.bmain hobj hints (Nat.le_trans hlen hn2) (fun base H k1 k2 k3 k4 k5 => hF base s₁ H a ns hlen k1 k2 k3 k4 k5) fun H e s' => hCX w H s₁ e s'
end Wp

set_option Elab.async false
set_option linter.all false
set_option maxRecDepth 100000
set_option maxHeartbeats 4000000
namespace K9
open PySem PySem.Spec PyProof.Rows L2 Wp
/-! the head's facts, put together -/
theorem keysB_ok {K : PySem.W.Frag} {a : Addr} {ks : List Str} {z : Str} (h : keysB K a ks = true) (hz : z ∉ ks) : PySem.W.nsIn K a z = some none := by
  unfold keysB at h
  split at h
  · rename_i oc od es n osl hl
    have e : es.toList.map keyS = ks.map some := of_decide_eq_true h
    unfold PySem.W.nsIn
    rw [hl]
    have all : ∀ x ∈ es.toList, ∃ k, keyS x = some k ∧ k ∈ ks := fun x hx => by
      have hm : keyS x ∈ ks.map some := by rw [← e]; exact List.mem_map_of_mem hx
      obtain ⟨k, hk, e2⟩ := List.mem_map.mp hm
      exact ⟨k, e2.symm, hk⟩
    have hf : es.toList.find? (fun x => x.key.isStr z) = none := List.find?_eq_none.mpr fun x hx => by
      obtain ⟨k, hk, hm⟩ := all x hx
      unfold keyS at hk
      split at hk
      · rename_i y t hy
        rw [hy]
        have ey : y = k := Option.some.inj hk
        show ¬ (y == z) = true
        intro q
        have eq : y = z := by simpa using q
        exact hz (by rw [← eq, ey]; exact hm)
      · cases hk
    have hr : es.toList.any (·.refKey) = false := List.any_eq_false.mpr fun x hx => by
      obtain ⟨k, hk, hm⟩ := all x hx
      unfold keyS at hk
      split at hk
      · rename_i y t hy
        unfold DictEntry.refKey
        rw [hy]
        simp
      · cases hk
    show (match es.toList.find? (fun x => x.key.isStr z) with
      | some e => some (some e.val)
      | none => if es.toList.any (·.refKey) then none else some none) = some none
    rw [hf, hr]
    rfl
  · cases h
theorem tupA_ok {K : PySem.W.Frag} {q : Addr} {vs : List V} (h : tupA K q vs = true) (H : Hp) : SqT K H q vs := by
  unfold tupA at h
  split at h
  · rename_i c od its n osl hl
    obtain ⟨h1, h2⟩ := He.ba h
    obtain ⟨h3, h4⟩ := He.ba h2
    exact .inr ⟨_, its, n, hl, congrArg Value.type (of_decide_eq_true h1), rfl, of_decide_eq_true h3, He.relAll_ok h4⟩
  · cases h
theorem rowB_ok {K : PySem.W.Frag} {f : List Str × Nat} {u : Value} (h : rowB K f u = true) : ∃ v, RelV v u ∧ rowF K f v := by
  unfold rowB at h
  split at h
  · rename_i p
    split at h
    · rename_i c od its n osl hl
      obtain ⟨h1, h2⟩ := He.ba h
      obtain ⟨h3, h4⟩ := He.ba h2
      split at h4
      · rename_i q v hv
        obtain ⟨h5, h6⟩ := He.ba h4
        refine ⟨.ref p, rfl, p, q, rfl, fun H => ⟨.inr ⟨_, its, n, hl, congrArg Value.type (of_decide_eq_true h1), rfl, of_decide_eq_true h3, ?_⟩, tupA_ok h6 H⟩⟩
        rw [hv]
        exact .cons rfl (.cons (He.relB_ok h5) .nil)
      · cases h4
    · cases h
  · cases h
theorem tb_of {m : Md} {x : Str} {has : Str → Bool} {F : Str → List Str × Nat} {rows : List (Str × (List Str × Nat))} (hg : m.mg x = some (.ref (He.ga m.K x))) (hk : ∃ es n, KDict m.K m.w (He.ga m.K x) es n) (h1 : keysB m.K (He.ga m.K x) (rows.map (·.1)) = true) (h2 : valB m.K (He.ga m.K x) rows = true)
    (h3 : ∀ z, has z = true → z ∈ rows.map (·.1)) (h4 : ∀ z, has z = false → z ∉ rows.map (·.1)) (h5 : ∀ r ∈ rows, F r.1 = r.2) : Tb m x has fun z u => rowF m.K (F z) u := by
  obtain ⟨es, n, kd⟩ := hk
  refine ⟨_, es, n, hg, kd, fun z => ⟨fun hz => keysB_ok h1 (h4 z hz), fun hz => ?_⟩⟩
  obtain ⟨r, hr, rfl⟩ := List.mem_map.mp (h3 z hz)
  have e := List.all_eq_true.mp h2 r hr
  split at e
  · rename_i u hu
    obtain ⟨v, rv, ro⟩ := rowB_ok e
    exact ⟨u, v, hu, rv, by rw [h5 r hr]; exact ro⟩
  · cases e
section
variable {P : Program} {w : World} {K : PySem.W.Frag} {h : Heap} {mg : Str → Option Value} {base : Heap}
abbrev md0 (P : Program) (w : World) (K : PySem.W.Frag) (mg : Str → Option Value) (base : Heap) : Md := ⟨P, w, K, mg, base⟩
theorem h_free (X : K.In h) (G : h.Ns mainGlobals mg) (c : He.SaysX fa fn ts tf ex w h K) {x : Str} (hx : x ∈ free_ := by decide +kernel) : mg x = none := He.free_ok X G (c.t.d.facts (List.mem_append_left _ (List.mem_map_of_mem hx)))
theorem h_glo (X : K.In h) (G : h.Ns mainGlobals mg) (c : He.SaysX fa fn ts tf ex w h K) {x : Str} (hx : x ∈ glos ++ glos2 ++ glos3 ++ others := by decide +kernel) : mg x = some (.ref (He.ga K x)) := by
  refine He.glo_ok X G (c.t.d.facts ?_)
  refine List.mem_append_right _ ?_
  rcases List.mem_append.mp hx with hx | hx
  · rcases List.mem_append.mp hx with hx | hx
    · rcases List.mem_append.mp hx with hx | hx
      · exact List.mem_append_left _ (List.mem_map_of_mem hx)
      · exact List.mem_append_right _ (List.mem_append_left _ (List.mem_map_of_mem hx))
    · exact List.mem_append_right _ (List.mem_append_right _ (List.mem_append_left _ (List.mem_map_of_mem hx)))
  · exact List.mem_append_right _ (List.mem_append_right _ (List.mem_append_right _ (List.mem_append_left _ (List.mem_map_of_mem hx))))
theorem h_noat (c : He.SaysX fa fn ts tf ex w h K) {f : Str} (hf : f ∈ vowF) : NoAttr K (He.ga K "Vow") f :=
  He.noat_ok (c.t.d.facts (List.mem_append_right _ (List.mem_append_right _ (List.mem_append_right _ (List.mem_append_right _ (List.mem_append_right _ (List.mem_append_left _ (List.mem_map_of_mem (f := fun f => He.Fa.noat "Vow" f) hf))))))))
def lastF : List He.Fa := [.str "FIGURES" "0123456789", .str "SMALL" "abcdefghijklmnopqrstuvwxyz", .str "SIGNS" "abcdefghijklmnopqrstuvwxyz0123456789", .cls "Vow", .mkr "Vow", .noat "BadText" "line", .noat "BadText" "column", .meth "BadText" "__init__", .exm "BadText" "BadText" true]
theorem h_last (c : He.SaysX fa fn ts tf ex w h K) (i : Nat) {f : He.Fa} (hf : lastF[i]? = some f := by rfl) : f.ok K = true :=
  c.t.d.facts (List.mem_append_right _ (List.mem_append_right _ (List.mem_append_right _ (List.mem_append_right _ (List.mem_append_right _ (List.mem_append_right _ (List.mem_of_getElem? hf)))))))
theorem h_txt (X : K.In h) (G : h.Ns mainGlobals mg) (c : He.SaysX fa fn ts tf ex w h K) : Txt (md0 P w K mg base) :=
  ⟨h_free X G c, h_free X G c, h_free X G c, h_free X G c, h_free X G c, h_free X G c, h_free X G c, h_free X G c, h_free X G c, h_free X G c, He.str_ok X G (h_last c 0), He.str_ok X G (h_last c 1), He.str_ok X G (h_last c 2)⟩
theorem h_ex (c : He.SaysX fa fn ts tf ex w h K) : Wp.oexB K (He.ga K "BadText") = true ∧ xfB K (He.ga K "BadText") = true ∧ PySem.W.typeIn K (.ref (He.ma K (He.ga K "BadText") "__init__")) = some (.type "function") ∧
    PySem.W.findIn K (.ref (He.ga K "Vow")) "__class__" = some (some (.builtin "object.__class__")) ∧ PySem.W.specialIn K (.builtin "object.__class__") "__get__" = some (some (.builtin "getset_descriptor.__get__")) ∧ PySem.W.takesIn K (.builtin "object.__class__") = some true ∧
    PySem.W.mroIn K (He.ga K "Vow") (.type "object") = some true ∧ keysB K (He.ga K "PLAIN") (rowsP.map (·.1)) = true ∧ keysB K (He.ga K "TIMED") (rowsT.map (·.1)) = true ∧ valB K (He.ga K "PLAIN") rowsP = true ∧ valB K (He.ga K "TIMED") rowsT = true := by
  obtain ⟨e1, e⟩ := He.ba (show (_ && _) = true from c.more)
  obtain ⟨e2, e⟩ := He.ba e
  obtain ⟨e3, e⟩ := He.ba e
  obtain ⟨e4, e⟩ := He.ba e
  obtain ⟨e5, e⟩ := He.ba e
  obtain ⟨e6, e⟩ := He.ba e
  obtain ⟨e7, e⟩ := He.ba e
  obtain ⟨e8, e⟩ := He.ba e
  obtain ⟨e9, e⟩ := He.ba e
  obtain ⟨e10, e11⟩ := He.ba e
  exact ⟨e1, e2, of_decide_eq_true e3, of_decide_eq_true e4, of_decide_eq_true e5, of_decide_eq_true e6, of_decide_eq_true e7, e8, e9, e10, e11⟩
theorem plain_in {z : Str} : plainB z = decide (z ∈ rowsP.map (·.1)) := by
  unfold plainB
  simp [rowsP]
theorem timed_in {z : Str} : timedB z = decide (z ∈ rowsT.map (·.1)) := by
  unfold timedB
  simp [rowsT]
theorem h_txt2 (X : K.In h) (G : h.Ns mainGlobals mg) (c : He.SaysX fa fn ts tf ex w h K) : Txt2 (md0 P w K mg base) (He.ga K "BadText") := by
  obtain ⟨e1, e2, e3, _, _, _, _, k1, k2, v1, v2⟩ := h_ex c
  refine ⟨tb_of (rows := rowsP) (h_glo X G c) (c.t.tab 0) k1 v1 (fun z hz => ?_) (fun z hz => ?_) (fun r hr => ?_), tb_of (rows := rowsT) (h_glo X G c) (c.t.tab 1) k2 v2 (fun z hz => ?_) (fun z hz => ?_) (fun r hr => ?_), ?_⟩
  · rw [plain_in] at hz
    exact of_decide_eq_true hz
  · rw [plain_in] at hz
    exact of_decide_eq_false hz
  · have e : rowsP.all (fun r => decide (plainF r.1 = r.2)) = true := by decide +kernel
    exact of_decide_eq_true (List.all_eq_true.mp e r hr)
  · rw [timed_in] at hz
    exact of_decide_eq_true hz
  · rw [timed_in] at hz
    exact of_decide_eq_false hz
  · have e : rowsT.all (fun r => decide (timedF r.1 = r.2)) = true := by decide +kernel
    exact of_decide_eq_true (List.all_eq_true.mp e r hr)
  · obtain ⟨fd, F⟩ := c.t.d.def_ 9 (d := dm "BadText" "__init__" "BadText.__init__" sBT) rfl
    have n1 := He.noat_ok (h_last c 5)
    have n2 := He.noat_ok (h_last c 6)
    refine ⟨oexB_ok e1, h_glo X G c, fun f hf => ?_, _, fd, (He.meth_ok (h_last c 7)).at_, e3, ?_, ?_⟩
    · simp only [List.mem_cons, List.not_mem_nil, or_false] at hf
      rcases hf with rfl | rfl
      · exact n1
      · exact n2
    · exact xi_two (m := md0 P w K mg base) (st := sBT) (x := "__init__") (q := "BadText.__init__") (f := "line") (g := "column") (oexB_ok e1) n1 n2 F rfl (by decide +kernel) (by decide +kernel)
    · exact F.bindsN fun _ _ _ _ _ _ us hl => match us, hl with | [_, _, _], _ => rfl
end
end K9

set_option Elab.async false
set_option linter.all false
set_option maxRecDepth 100000
set_option maxHeartbeats 4000000
namespace K9
open PySem PySem.Spec PyProof.Rows L2 Wp
/-! each def keeps its promise -/
section
variable {P : Program} {w : World} {K : PySem.W.Frag} {h : Heap} {mg : Str → Option Value} {base : Heap}
theorem h_vi (X : K.In h) (G : h.Ns mainGlobals mg) (c : He.SaysX fa fn ts tf ex w h K) : VowI (md0 P w K mg base) (He.ga K "Vow") := by
  obtain ⟨e1, e2, e3, e4, e5, e6, e7, _⟩ := h_ex c
  exact ⟨He.cls_ok (h_last c 3), h_glo X G c, e4, e5, e6, e7, fun f hf => h_noat c (by
    simp only [List.mem_cons, List.not_mem_nil, or_false] at hf
    rcases hf with rfl | rfl | rfl | rfl <;> decide +kernel)⟩
theorem ok_0 : nIsName.okB true = true := by decide +kernel
theorem fs_0 : fsB nIsName.N ["value"] nIsName.sc = true := by decide +kernel
theorem f_0 (P : Program) (mg : Str → Option Value) (base : Heap) (c : He.SaysX fa fn ts tf ex w h K) : ∃ fd, FnP (md0 P w K mg base) "is_name" "is_name" sIsName (He.ga K "is_name") fd := c.t.d.def_ 0 (d := dd "is_name" sIsName) rfl
theorem d_0 (X : K.In h) (G : h.Ns mainGlobals mg) (c : He.SaysX fa fn ts tf ex w h K) : Df (md0 P w K mg base) 1 "is_name" ["value"] spIsName := by
  obtain ⟨_, F0⟩ := f_0 P mg base c
  have T : Txt (md0 P w K mg base) := h_txt X G c
  exact mk_df (st := sIsName) (S := nIsName) (k := 0) F0 (h_glo X G c) ok_0 fs_0 rfl (fun _ _ _ _ _ _ us hl => match us, hl with | [_], _ => rfl)
    (fun vs H Q E h => by obtain ⟨w, rfl, _⟩ := h; rfl) fun X2 vs H Q E C B h2 => b_isName T C B h2
theorem ok_1 : nIsN.okB true = true := by decide +kernel
theorem fs_1 : fsB nIsN.N ["word"] nIsN.sc = true := by decide +kernel
theorem f_1 (P : Program) (mg : Str → Option Value) (base : Heap) (c : He.SaysX fa fn ts tf ex w h K) : ∃ fd, FnP (md0 P w K mg base) "is_n" "is_n" sIsN (He.ga K "is_n") fd := c.t.d.def_ 1 (d := dd "is_n" sIsN) rfl
theorem d_1 (X : K.In h) (G : h.Ns mainGlobals mg) (c : He.SaysX fa fn ts tf ex w h K) : Df (md0 P w K mg base) 1 "is_n" ["word"] spIsN := by
  obtain ⟨_, F0⟩ := f_1 P mg base c
  have T : Txt (md0 P w K mg base) := h_txt X G c
  exact mk_df (st := sIsN) (S := nIsN) (k := 0) F0 (h_glo X G c) ok_1 fs_1 rfl (fun _ _ _ _ _ _ us hl => match us, hl with | [_], _ => rfl)
    (fun vs H Q E h => by obtain ⟨w, rfl, _⟩ := h; rfl) fun X2 vs H Q E C B h2 => b_isN T C B h2
theorem ok_2 : nIsZ.okB true = true := by decide +kernel
theorem fs_2 : fsB nIsZ.N ["word"] nIsZ.sc = true := by decide +kernel
theorem f_2 (P : Program) (mg : Str → Option Value) (base : Heap) (c : He.SaysX fa fn ts tf ex w h K) : ∃ fd, FnP (md0 P w K mg base) "is_z" "is_z" sIsZ (He.ga K "is_z") fd := c.t.d.def_ 2 (d := dd "is_z" sIsZ) rfl
theorem d_2 (X : K.In h) (G : h.Ns mainGlobals mg) (c : He.SaysX fa fn ts tf ex w h K) : Df (md0 P w K mg base) 2 "is_z" ["word"] spIsZ := by
  obtain ⟨_, F0⟩ := f_2 P mg base c
  have T : Txt (md0 P w K mg base) := h_txt X G c
  have G1 := d_1 (P := P) (base := base) X G c
  exact mk_df (st := sIsZ) (S := nIsZ) (k := 1) F0 (h_glo X G c) ok_2 fs_2 rfl (fun _ _ _ _ _ _ us hl => match us, hl with | [_], _ => rfl)
    (fun vs H Q E h => by obtain ⟨w, rfl, _⟩ := h; rfl) fun X2 vs H Q E C B h2 => b_isZ T G1 C B h2
theorem ok_3 : nIsV.okB true = true := by decide +kernel
theorem fs_3 : fsB nIsV.N ["word"] nIsV.sc = true := by decide +kernel
theorem f_3 (P : Program) (mg : Str → Option Value) (base : Heap) (c : He.SaysX fa fn ts tf ex w h K) : ∃ fd, FnP (md0 P w K mg base) "is_v" "is_v" sIsV (He.ga K "is_v") fd := c.t.d.def_ 3 (d := dd "is_v" sIsV) rfl
theorem d_3 (X : K.In h) (G : h.Ns mainGlobals mg) (c : He.SaysX fa fn ts tf ex w h K) : Df (md0 P w K mg base) 2 "is_v" ["word"] spIsV := by
  obtain ⟨_, F0⟩ := f_3 P mg base c
  have T : Txt (md0 P w K mg base) := h_txt X G c
  have G1 := d_1 (P := P) (base := base) X G c
  exact mk_df (st := sIsV) (S := nIsV) (k := 1) F0 (h_glo X G c) ok_3 fs_3 rfl (fun _ _ _ _ _ _ us hl => match us, hl with | [_], _ => rfl)
    (fun vs H Q E h => by obtain ⟨w, rfl, _⟩ := h; rfl) fun X2 vs H Q E C B h2 => b_isV T G1 rfl C B h2
theorem ok_4 : nFits.okB true = true := by decide +kernel
theorem fs_4 : fsB nFits.N ["word", "form"] nFits.sc = true := by decide +kernel
theorem f_4 (P : Program) (mg : Str → Option Value) (base : Heap) (c : He.SaysX fa fn ts tf ex w h K) : ∃ fd, FnP (md0 P w K mg base) "fits" "fits" sFits (He.ga K "fits") fd := c.t.d.def_ 4 (d := dd "fits" sFits) rfl
theorem d_4 (X : K.In h) (G : h.Ns mainGlobals mg) (c : He.SaysX fa fn ts tf ex w h K) : Df (md0 P w K mg base) 3 "fits" ["word", "form"] spFits := by
  obtain ⟨_, F0⟩ := f_4 P mg base c
  have T : Txt (md0 P w K mg base) := h_txt X G c
  have G0 := d_0 (P := P) (base := base) X G c
  have G1 := d_1 (P := P) (base := base) X G c
  have G3 := d_3 (P := P) (base := base) X G c
  exact mk_df (st := sFits) (S := nFits) (k := 2) F0 (h_glo X G c) ok_4 fs_4 rfl (fun _ _ _ _ _ _ us hl => match us, hl with | [_, _], _ => rfl)
    (fun vs H Q E h => by obtain ⟨w, f, rfl, _⟩ := h; rfl) fun X2 vs H Q E C B h2 => b_fits G0 G1 G3 C B h2
theorem ok_5 : nLimit.okB true = true := by decide +kernel
theorem fs_5 : fsB nLimit.N ["word", "form"] nLimit.sc = true := by decide +kernel
theorem f_5 (P : Program) (mg : Str → Option Value) (base : Heap) (c : He.SaysX fa fn ts tf ex w h K) : ∃ fd, FnP (md0 P w K mg base) "limit_of" "limit_of" sLimit (He.ga K "limit_of") fd := c.t.d.def_ 5 (d := dd "limit_of" sLimit) rfl
theorem d_5 (X : K.In h) (G : h.Ns mainGlobals mg) (c : He.SaysX fa fn ts tf ex w h K) : Df (md0 P w K mg base) 3 "limit_of" ["word", "form"] spLimit := by
  obtain ⟨_, F0⟩ := f_5 P mg base c
  have T : Txt (md0 P w K mg base) := h_txt X G c
  exact mk_df (st := sLimit) (S := nLimit) (k := 2) F0 (h_glo X G c) ok_5 fs_5 rfl (fun _ _ _ _ _ _ us hl => match us, hl with | [_, _], _ => rfl)
    (fun vs H Q E h => by obtain ⟨w, f, rfl, _⟩ := h; rfl) fun X2 vs H Q E C B h2 => b_limit T C B h2
theorem ok_6 : nKind.okB true = true := by decide +kernel
theorem fs_6 : fsB nKind.N ["words"] nKind.sc = true := by decide +kernel
theorem f_6 (P : Program) (mg : Str → Option Value) (base : Heap) (c : He.SaysX fa fn ts tf ex w h K) : ∃ fd, FnP (md0 P w K mg base) "kind_at" "kind_at" sKind (He.ga K "kind_at") fd := c.t.d.def_ 6 (d := dd "kind_at" sKind) rfl
theorem d_6 (X : K.In h) (G : h.Ns mainGlobals mg) (c : He.SaysX fa fn ts tf ex w h K) : Df (md0 P w K mg base) 3 "kind_at" ["words"] (spKind K (He.ga K "BadText")) := by
  obtain ⟨_, F0⟩ := f_6 P mg base c
  have T : Txt (md0 P w K mg base) := h_txt X G c
  have G0 := d_0 (P := P) (base := base) X G c
  exact mk_df (st := sKind) (S := nKind) (k := 2) F0 (h_glo X G c) ok_6 fs_6 rfl (fun _ _ _ _ _ _ us hl => match us, hl with | [_], _ => rfl)
    (fun vs H Q E h => by obtain ⟨a, ws, rfl, _⟩ := h; rfl) fun X2 vs H Q E C B h2 => b_kind T (h_txt2 X G c) G0 C B h2
theorem ok_7 : nCells.okB true = true := by decide +kernel
theorem fs_7 : fsB nCells.N ["words", "begin", "many"] nCells.sc = true := by decide +kernel
theorem f_7 (P : Program) (mg : Str → Option Value) (base : Heap) (c : He.SaysX fa fn ts tf ex w h K) : ∃ fd, FnP (md0 P w K mg base) "cells_behind" "cells_behind" sCells (He.ga K "cells_behind") fd := c.t.d.def_ 7 (d := dd "cells_behind" sCells) rfl
theorem d_7 (X : K.In h) (G : h.Ns mainGlobals mg) (c : He.SaysX fa fn ts tf ex w h K) : Df (md0 P w K mg base) 3 "cells_behind" ["words", "begin", "many"] (spCells K (He.ga K "BadText")) := by
  obtain ⟨_, F0⟩ := f_7 P mg base c
  have T : Txt (md0 P w K mg base) := h_txt X G c
  have G2 := d_2 (P := P) (base := base) X G c
  exact mk_df (st := sCells) (S := nCells) (k := 2) F0 (h_glo X G c) ok_7 fs_7 rfl (fun _ _ _ _ _ _ us hl => match us, hl with | [_, _, _], _ => rfl)
    (fun vs H Q E h => by obtain ⟨a, ws, b, many, rfl, _⟩ := h; rfl) fun X2 vs H Q E C B h2 => b_cells T (h_txt2 X G c) G2 C B h2
theorem ok_10 : nPen.okB true = true := by decide +kernel
theorem fs_10 : fsB nPen.N ["script"] nPen.sc = true := by decide +kernel
theorem f_10 (P : Program) (mg : Str → Option Value) (base : Heap) (c : He.SaysX fa fn ts tf ex w h K) : ∃ fd, FnP (md0 P w K mg base) "_law_pen" "_law_pen" sPen (He.ga K "_law_pen") fd := c.t.d.def_ 10 (d := dd "_law_pen" sPen) rfl
theorem d_10 (X : K.In h) (G : h.Ns mainGlobals mg) (c : He.SaysX fa fn ts tf ex w h K) : Df (md0 P w K mg base) 1 "_law_pen" ["script"] (spPen K) := by
  obtain ⟨_, F0⟩ := f_10 P mg base c
  have T : Txt (md0 P w K mg base) := h_txt X G c
  exact mk_df (st := sPen) (S := nPen) (k := 0) F0 (h_glo X G c) ok_10 fs_10 rfl (fun _ _ _ _ _ _ us hl => match us, hl with | [_], _ => rfl)
    (fun vs H Q E h => by obtain ⟨a, xs, rfl, _⟩ := h; rfl) fun X2 vs H Q E C B h2 => b_pen T C B h2
theorem ok_11 : nDraw.okB true = true := by decide +kernel
theorem fs_11 : fsB nDraw.N ["pen", "many"] nDraw.sc = true := by decide +kernel
theorem f_11 (P : Program) (mg : Str → Option Value) (base : Heap) (c : He.SaysX fa fn ts tf ex w h K) : ∃ fd, FnP (md0 P w K mg base) "_law_draw" "_law_draw" sDraw (He.ga K "_law_draw") fd := c.t.d.def_ 11 (d := dd "_law_draw" sDraw) rfl
theorem d_11 (X : K.In h) (G : h.Ns mainGlobals mg) (c : He.SaysX fa fn ts tf ex w h K) : Df (md0 P w K mg base) 1 "_law_draw" ["pen", "many"] (spDraw K) := by
  obtain ⟨_, F0⟩ := f_11 P mg base c
  have T : Txt (md0 P w K mg base) := h_txt X G c
  exact mk_df (st := sDraw) (S := nDraw) (k := 0) F0 (h_glo X G c) ok_11 fs_11 rfl (fun _ _ _ _ _ _ us hl => match us, hl with | [_, _], _ => rfl)
    (fun vs H Q E h => by obtain ⟨p, c, many, n, rfl, _⟩ := h; rfl) fun X2 vs H Q E C B h2 => b_draw T C B h2
theorem ok_12 : nPick.okB true = true := by decide +kernel
theorem fs_12 : fsB nPick.N ["pen", "some"] nPick.sc = true := by decide +kernel
theorem f_12 (P : Program) (mg : Str → Option Value) (base : Heap) (c : He.SaysX fa fn ts tf ex w h K) : ∃ fd, FnP (md0 P w K mg base) "_law_pick" "_law_pick" sPick (He.ga K "_law_pick") fd := c.t.d.def_ 12 (d := dd "_law_pick" sPick) rfl
theorem d_12 (X : K.In h) (G : h.Ns mainGlobals mg) (c : He.SaysX fa fn ts tf ex w h K) : Df (md0 P w K mg base) 2 "_law_pick" ["pen", "some"] (spPick K) := by
  obtain ⟨_, F0⟩ := f_12 P mg base c
  have T : Txt (md0 P w K mg base) := h_txt X G c
  have G11 := d_11 (P := P) (base := base) X G c
  exact mk_df (st := sPick) (S := nPick) (k := 1) F0 (h_glo X G c) ok_12 fs_12 rfl (fun _ _ _ _ _ _ us hl => match us, hl with | [_, _], _ => rfl)
    (fun vs H Q E h => by obtain ⟨p, c, l, n, xs, rfl, _⟩ := h; rfl) fun X2 vs H Q E C B h2 => b_pick T G11 C B h2
theorem ok_13 : nLName.okB true = true := by decide +kernel
theorem fs_13 : fsB nLName.N ["thing"] nLName.sc = true := by decide +kernel
theorem f_13 (P : Program) (mg : Str → Option Value) (base : Heap) (c : He.SaysX fa fn ts tf ex w h K) : ∃ fd, FnP (md0 P w K mg base) "_law_is_name" "_law_is_name" sLName (He.ga K "_law_is_name") fd := c.t.d.def_ 13 (d := dd "_law_is_name" sLName) rfl
theorem d_13 (X : K.In h) (G : h.Ns mainGlobals mg) (c : He.SaysX fa fn ts tf ex w h K) : Df (md0 P w K mg base) 1 "_law_is_name" ["thing"] spIsName := by
  obtain ⟨_, F0⟩ := f_13 P mg base c
  have T : Txt (md0 P w K mg base) := h_txt X G c
  exact mk_df (st := sLName) (S := nLName) (k := 0) F0 (h_glo X G c) ok_13 fs_13 rfl (fun _ _ _ _ _ _ us hl => match us, hl with | [_], _ => rfl)
    (fun vs H Q E h => by obtain ⟨w, rfl, _⟩ := h; rfl) fun X2 vs H Q E C B h2 => b_LName T C B h2
theorem ok_14 : nNames.okB true = true := by decide +kernel
theorem fs_14 : fsB nNames.N ["pen", "many"] nNames.sc = true := by decide +kernel
theorem f_14 (P : Program) (mg : Str → Option Value) (base : Heap) (c : He.SaysX fa fn ts tf ex w h K) : ∃ fd, FnP (md0 P w K mg base) "_law_names" "_law_names" sNames (He.ga K "_law_names") fd := c.t.d.def_ 14 (d := dd "_law_names" sNames) rfl
theorem d_14 (X : K.In h) (G : h.Ns mainGlobals mg) (c : He.SaysX fa fn ts tf ex w h K) : Df (md0 P w K mg base) 3 "_law_names" ["pen", "many"] (spNames K) := by
  obtain ⟨_, F0⟩ := f_14 P mg base c
  have T : Txt (md0 P w K mg base) := h_txt X G c
  have G11 := d_11 (P := P) (base := base) X G c
  have G12 := d_12 (P := P) (base := base) X G c
  exact mk_df (st := sNames) (S := nNames) (k := 2) F0 (h_glo X G c) ok_14 fs_14 rfl (fun _ _ _ _ _ _ us hl => match us, hl with | [_, _], _ => rfl)
    (fun vs H Q E h => by obtain ⟨p, c, n, rfl, _⟩ := h; rfl) fun X2 vs H Q E C B h2 => b_names T (G11.mono (by decide)) G12 C B h2
theorem ok_16 : nLN.okB true = true := by decide +kernel
theorem fs_16 : fsB nLN.N ["word"] nLN.sc = true := by decide +kernel
theorem f_16 (P : Program) (mg : Str → Option Value) (base : Heap) (c : He.SaysX fa fn ts tf ex w h K) : ∃ fd, FnP (md0 P w K mg base) "_law_is_n" "_law_is_n" sLN (He.ga K "_law_is_n") fd := c.t.d.def_ 16 (d := dd "_law_is_n" sLN) rfl
theorem d_16 (X : K.In h) (G : h.Ns mainGlobals mg) (c : He.SaysX fa fn ts tf ex w h K) : Df (md0 P w K mg base) 1 "_law_is_n" ["word"] spIsN := by
  obtain ⟨_, F0⟩ := f_16 P mg base c
  have T : Txt (md0 P w K mg base) := h_txt X G c
  exact mk_df (st := sLN) (S := nLN) (k := 0) F0 (h_glo X G c) ok_16 fs_16 rfl (fun _ _ _ _ _ _ us hl => match us, hl with | [_], _ => rfl)
    (fun vs H Q E h => by obtain ⟨w, rfl, _⟩ := h; rfl) fun X2 vs H Q E C B h2 => b_LN T C B h2
theorem ok_17 : nLZ.okB true = true := by decide +kernel
theorem fs_17 : fsB nLZ.N ["word"] nLZ.sc = true := by decide +kernel
theorem f_17 (P : Program) (mg : Str → Option Value) (base : Heap) (c : He.SaysX fa fn ts tf ex w h K) : ∃ fd, FnP (md0 P w K mg base) "_law_is_z" "_law_is_z" sLZ (He.ga K "_law_is_z") fd := c.t.d.def_ 17 (d := dd "_law_is_z" sLZ) rfl
theorem d_17 (X : K.In h) (G : h.Ns mainGlobals mg) (c : He.SaysX fa fn ts tf ex w h K) : Df (md0 P w K mg base) 2 "_law_is_z" ["word"] spIsZ := by
  obtain ⟨_, F0⟩ := f_17 P mg base c
  have T : Txt (md0 P w K mg base) := h_txt X G c
  have G16 := d_16 (P := P) (base := base) X G c
  exact mk_df (st := sLZ) (S := nLZ) (k := 1) F0 (h_glo X G c) ok_17 fs_17 rfl (fun _ _ _ _ _ _ us hl => match us, hl with | [_], _ => rfl)
    (fun vs H Q E h => by obtain ⟨w, rfl, _⟩ := h; rfl) fun X2 vs H Q E C B h2 => b_LZ G16 C B h2
theorem ok_18 : nLFits.okB true = true := by decide +kernel
theorem fs_18 : fsB nLFits.N ["word", "form"] nLFits.sc = true := by decide +kernel
theorem f_18 (P : Program) (mg : Str → Option Value) (base : Heap) (c : He.SaysX fa fn ts tf ex w h K) : ∃ fd, FnP (md0 P w K mg base) "_law_fits" "_law_fits" sLFits (He.ga K "_law_fits") fd := c.t.d.def_ 18 (d := dd "_law_fits" sLFits) rfl
theorem d_18 (X : K.In h) (G : h.Ns mainGlobals mg) (c : He.SaysX fa fn ts tf ex w h K) : Df (md0 P w K mg base) 3 "_law_fits" ["word", "form"] spLFits := by
  obtain ⟨_, F0⟩ := f_18 P mg base c
  have T : Txt (md0 P w K mg base) := h_txt X G c
  have G13 := d_13 (P := P) (base := base) X G c
  have G16 := d_16 (P := P) (base := base) X G c
  have G17 := d_17 (P := P) (base := base) X G c
  exact mk_df (st := sLFits) (S := nLFits) (k := 2) F0 (h_glo X G c) ok_18 fs_18 rfl (fun _ _ _ _ _ _ us hl => match us, hl with | [_, _], _ => rfl)
    (fun vs H Q E h => by obtain ⟨w, f, rfl, _⟩ := h; rfl) fun X2 vs H Q E C B h2 => b_LFits T (G13.mono (by decide)) (G16.mono (by decide)) G17 C B h2
theorem ok_19 : nForms.okB true = true := by decide +kernel
theorem fs_19 : fsB nForms.N [] nForms.sc = true := by decide +kernel
theorem f_19 (P : Program) (mg : Str → Option Value) (base : Heap) (c : He.SaysX fa fn ts tf ex w h K) : ∃ fd, FnP (md0 P w K mg base) "_law_vow_forms" "_law_vow_forms" sForms (He.ga K "_law_vow_forms") fd := c.t.d.def_ 19 (d := dd "_law_vow_forms" sForms) rfl
theorem d_19 (X : K.In h) (G : h.Ns mainGlobals mg) (c : He.SaysX fa fn ts tf ex w h K) : Df (md0 P w K mg base) 1 "_law_vow_forms" [] (spForms K) := by
  obtain ⟨_, F0⟩ := f_19 P mg base c
  have T : Txt (md0 P w K mg base) := h_txt X G c
  exact mk_df (st := sForms) (S := nForms) (k := 0) F0 (h_glo X G c) ok_19 fs_19 rfl (fun _ _ _ _ _ _ us hl => match us, hl with | [], _ => rfl)
    (fun vs H Q E h => by obtain ⟨rfl, _⟩ := h; rfl) fun X2 vs H Q E C B h2 => @b_forms X2 (md0 P w K mg base) vs H Q E C B h2
theorem ok_20 : nDue.okB true = true := by decide +kernel
theorem fs_20 : fsB nDue.N ["text"] nDue.sc = true := by decide +kernel
theorem f_20 (P : Program) (mg : Str → Option Value) (base : Heap) (c : He.SaysX fa fn ts tf ex w h K) : ∃ fd, FnP (md0 P w K mg base) "_law_vow_due" "_law_vow_due" sDue (He.ga K "_law_vow_due") fd := c.t.d.def_ 20 (d := dd "_law_vow_due" sDue) rfl
theorem d_20 (X : K.In h) (G : h.Ns mainGlobals mg) (c : He.SaysX fa fn ts tf ex w h K) : Df (md0 P w K mg base) 4 "_law_vow_due" ["text"] (spDue K) := by
  obtain ⟨_, F0⟩ := f_20 P mg base c
  have T : Txt (md0 P w K mg base) := h_txt X G c
  have G19 := d_19 (P := P) (base := base) X G c
  have G18 := d_18 (P := P) (base := base) X G c
  exact mk_df (st := sDue) (S := nDue) (k := 3) F0 (h_glo X G c) ok_20 fs_20 rfl (fun _ _ _ _ _ _ us hl => match us, hl with | [_], _ => rfl)
    (fun vs H Q E h => by obtain ⟨t, rfl, _⟩ := h; rfl) fun X2 vs H Q E C B h2 => b_due T (G19.mono (by decide)) G18 C B h2
theorem ok_21 : nWord.okB true = true := by decide +kernel
theorem fs_21 : fsB nWord.N ["pen", "form"] nWord.sc = true := by decide +kernel
theorem f_21 (P : Program) (mg : Str → Option Value) (base : Heap) (c : He.SaysX fa fn ts tf ex w h K) : ∃ fd, FnP (md0 P w K mg base) "_law_vow_word" "_law_vow_word" sWord (He.ga K "_law_vow_word") fd := c.t.d.def_ 21 (d := dd "_law_vow_word" sWord) rfl
theorem d_21 (X : K.In h) (G : h.Ns mainGlobals mg) (c : He.SaysX fa fn ts tf ex w h K) : Df (md0 P w K mg base) 4 "_law_vow_word" ["pen", "form"] (spWord K) := by
  obtain ⟨_, F0⟩ := f_21 P mg base c
  have T : Txt (md0 P w K mg base) := h_txt X G c
  have G14 := d_14 (P := P) (base := base) X G c
  have G12 := d_12 (P := P) (base := base) X G c
  have G11 := d_11 (P := P) (base := base) X G c
  exact mk_df (st := sWord) (S := nWord) (k := 3) F0 (h_glo X G c) ok_21 fs_21 rfl (fun _ _ _ _ _ _ us hl => match us, hl with | [_, _], _ => rfl)
    (fun vs H Q E h => by obtain ⟨p, c, n, f, rfl, _⟩ := h; rfl) fun X2 vs H Q E C B h2 => b_word T G14 (G12.mono (by decide)) (G11.mono (by decide)) C B h2
theorem ok_22 : nBent.okB true = true := by decide +kernel
theorem fs_22 : fsB nBent.N ["pen", "text"] nBent.sc = true := by decide +kernel
theorem f_22 (P : Program) (mg : Str → Option Value) (base : Heap) (c : He.SaysX fa fn ts tf ex w h K) : ∃ fd, FnP (md0 P w K mg base) "_law_bent_vow" "_law_bent_vow" sBent (He.ga K "_law_bent_vow") fd := c.t.d.def_ 22 (d := dd "_law_bent_vow" sBent) rfl
theorem d_22 (X : K.In h) (G : h.Ns mainGlobals mg) (c : He.SaysX fa fn ts tf ex w h K) : Df (md0 P w K mg base) 3 "_law_bent_vow" ["pen", "text"] (spBent K) := by
  obtain ⟨_, F0⟩ := f_22 P mg base c
  have T : Txt (md0 P w K mg base) := h_txt X G c
  have G12 := d_12 (P := P) (base := base) X G c
  have G11 := d_11 (P := P) (base := base) X G c
  exact mk_df (st := sBent) (S := nBent) (k := 2) F0 (h_glo X G c) ok_22 fs_22 rfl (fun _ _ _ _ _ _ us hl => match us, hl with | [_, _], _ => rfl)
    (fun vs H Q E h => by obtain ⟨p, c, n, t, rfl, _⟩ := h; rfl) fun X2 vs H Q E C B h2 => b_bent T G12 (G11.mono (by decide)) C B h2
theorem ok_23 : nShown.okB true = true := by decide +kernel
theorem fs_23 : fsB nShown.N ["vow"] nShown.sc = true := by decide +kernel
theorem f_23 (P : Program) (mg : Str → Option Value) (base : Heap) (c : He.SaysX fa fn ts tf ex w h K) : ∃ fd, FnP (md0 P w K mg base) "_law_shown" "_law_shown" sShown (He.ga K "_law_shown") fd := c.t.d.def_ 23 (d := dd "_law_shown" sShown) rfl
theorem d_23 (X : K.In h) (G : h.Ns mainGlobals mg) (c : He.SaysX fa fn ts tf ex w h K) : Df (md0 P w K mg base) 1 "_law_shown" ["vow"] (spShown (He.ga K "Vow")) := by
  obtain ⟨_, F0⟩ := f_23 P mg base c
  have T : Txt (md0 P w K mg base) := h_txt X G c
  exact mk_df (st := sShown) (S := nShown) (k := 0) F0 (h_glo X G c) ok_23 fs_23 rfl (fun _ _ _ _ _ _ us hl => match us, hl with | [_], _ => rfl)
    (fun vs H Q E h => by obtain ⟨a, t, kind, ws, rfl, _⟩ := h; rfl) fun X2 vs H Q E C B h2 => b_shown T (h_vi X G c) C B h2
theorem ok_8 : nVow.okB true = true := by decide +kernel
theorem fs_8 : fsB nVow.N ["self", "text"] nVow.sc = true := by decide +kernel
theorem f_8 (P : Program) (mg : Str → Option Value) (base : Heap) (c : He.SaysX fa fn ts tf ex w h K) : ∃ fd, FnP (md0 P w K mg base) "__init__" "Vow.__init__" sVow (He.ma K (He.ga K "Vow") "__init__") fd := c.t.d.def_ 8 (d := dm "Vow" "__init__" "Vow.__init__" sVow) rfl
theorem h_vow (X : K.In h) (G : h.Ns mainGlobals mg) (c : He.SaysX fa fn ts tf ex w h K) : Mkc (md0 P w K mg base) 4 "Vow" (He.ga K "Vow") ["self", "text"] (spVow K (He.ga K "Vow") (He.ga K "BadText")) := by
  obtain ⟨fd, F8⟩ := f_8 P mg base c
  have VC : VowC (md0 P w K mg base) (He.ga K "Vow") := ⟨He.cls_ok (h_last c 3), fun f hf => h_noat c hf⟩
  have G4 := d_4 (P := P) (base := base) X G c
  have G5 := d_5 (P := P) (base := base) X G c
  have G6 := d_6 (P := P) (base := base) X G c
  have G7 := d_7 (P := P) (base := base) X G c
  exact ⟨He.cls_ok (h_last c 3), h_glo X G c, _, fd, He.mkr_ok (h_last c 4), fn_df (m := md0 P w K mg base) (st := sVow) (S := nVow) (k := 3) F8 ok_8 fs_8 rfl
    (fun vs H Q E h => by obtain ⟨a, dx, v, rfl, _⟩ := h; rfl) fun X2 vs H Q E C B h2 => b_vow (h_txt X G c) (h_txt2 X G c) VC G6 G4 G5 G7 C B h2, F8.bindsN fun _ _ _ _ _ _ us hl => match us, hl with | [_, _], _ => rfl⟩
theorem h_law (X : K.In h) (G : h.Ns mainGlobals mg) (c : He.SaysX fa fn ts tf ex w h K) : LawC (md0 P w K mg base) (He.ga K "Vow") (He.ga K "BadText") :=
  ⟨h_txt X G c, (d_10 X G c).mono (by decide), (d_11 X G c).mono (by decide), (d_12 X G c).mono (by decide), (d_19 X G c).mono (by decide), (d_21 X G c).mono (by decide), (d_20 X G c).mono (by decide), (d_22 X G c).mono (by decide), (d_23 X G c).mono (by decide), h_vow X G c⟩
theorem h_met (X : K.In h) (G : h.Ns mainGlobals mg) (c : He.SaysX fa fn ts tf ex w h K) : MetC (md0 P w K mg base) (He.ga K "BadText") := by
  obtain ⟨e1, e2, _⟩ := h_ex c
  exact ⟨h_glo X G c, He.exm_ok (h_last c 8), xfB_ok e2, He.noat_ok (h_last c 5), He.noat_ok (h_last c 6), fun x hx => ⟨_, h_glo X G c (x := x) (List.mem_append_right _ (by
    simp only [List.mem_cons, List.not_mem_nil, or_false] at hx
    rcases hx with rfl | rfl | rfl | rfl | rfl | rfl | rfl | rfl | rfl | rfl | rfl <;> decide +kernel))⟩⟩
end
end K9

set_option Elab.async false
set_option linter.all false
set_option maxRecDepth 100000
set_option maxHeartbeats 4000000
namespace K9
open PySem PySem.Spec PyProof.Rows L2 Wp
section
variable {P : Program} {w : World} {K : PySem.W.Frag} {h : Heap} {mg : Str → Option Value} {base : Heap}
theorem f_24 (P : Program) (mg : Str → Option Value) (base : Heap) (c : He.SaysX fa fn ts tf ex w h K) : ∃ fd, FnP (md0 P w K mg base) "law" "law" sLaw (He.ga K "law") fd := c.t.d.def_ 24 (d := dd "law" sLaw) rfl
theorem f_15 (P : Program) (mg : Str → Option Value) (base : Heap) (c : He.SaysX fa fn ts tf ex w h K) : ∃ fd, FnP (md0 P w K mg base) "_law_met" "_law_met" sMet (He.ga K "_law_met") fd := c.t.d.def_ 15 (d := dd "_law_met" sMet) rfl
theorem law_b {m : Md} {f : Addr} {fd : FuncData} (F : FnP m "law" "law" sLaw f fd) (s : Shared) (us : List Value) (hl : us.length = 1) : BindsTo s fd ⟨us, []⟩ ((["script"] : List Str).zip us) :=
  FunD.bindsA (ps := ["script"]) F (fun _ _ _ _ _ _ us hl => match us, hl with | [_], _ => rfl) s us hl
theorem ok_24 : nLaw.okB true = true := by decide +kernel
theorem fs_24 : fsB nLaw.N ["script"] nLaw.sc = true := by decide +kernel
theorem law_run (KX : K.In h) (G : h.Ns mainGlobals mg) (c : He.SaysX fa fn ts tf ex w h K) {fl : Addr} (hmg : mg "law" = some (.ref fl)) {s : Shared} {H : Hp} {a : Addr} {ns : List Int}
    (tb : LamX.TabB base mg (He.cT K ("law", none)).1 (He.cT K ("law", none)).2) (hT : H (He.cT K ("law", none)).2 = some (.tbl #[])) (hS : SqL K H a (ns.map V.int)) : RunAt P w K mg (L2.CX P w) fl a base s H := by
  intro e0
  obtain ⟨fd, F⟩ := f_24 P mg base c
  obtain ⟨fdM, FM⟩ := f_15 P mg base c
  have efa : He.ga K "law" = fl := by
    have e := hmg.symm.trans (h_glo KX G c)
    injection e with e
    injection e with e
    exact e.symm
  have b := law_b F
  obtain ⟨oc, od, dV, kV, doc, pm, an, cdv, ct, osl, rfl, lk, hcd, _, _⟩ := id F.ex
  obtain ⟨cc, ecc⟩ := He.codeIn_ref hcd
  have ecode : (He.cT K ("law", none)).1 = cc := He.codeOf_eq lk ecc
  have lk2 := lk
  rw [efa] at lk2
  have hLaw : LawC (md0 P w K mg base) (He.ga K "Vow") (He.ga K "BadText") := h_law KX G c
  have hMet : MetC (md0 P w K mg base) (He.ga K "BadText") := h_met KX G c
  refine LamX.run_ofS (k := 8) (N := nLaw.N) (ps := ["script"]) (us := [.ref a]) (vs := [.ref a]) lk2 hcd (fs_of ok_24 fs_24) ⟨rfl, by decide, by decide⟩ e0 (b s [.ref a] rfl) (.cons rfl .nil) rfl fun hr' => ⟨_, pB, ?_⟩
  have C := on_of (S := nLaw) (fn := true) (k := 8) (X := cxOf (L2.CX P w) P w K mg base nLaw.N "law" (defScope sLaw) fl cdv callerA [] s H fun _ _ _ => False) ok_24 rfl rfl (fun _ _ => rfl) rfl hr'
  exact b_law (Q := fun v _ => v = .bl true) (E := fun _ _ _ => False) (P := (He.cT K ("law", none)).2) (cc := (He.cT K ("law", none)).1) (g := He.ga K "_law_met") hLaw rfl ⟨tb, by rw [ecode]; exact ecc, ⟨fdM, FM⟩, h_glo KX G c, hMet⟩ C ⟨takes_of rfl rfl rfl rfl, passes_of rfl, rfl, rfl⟩ ⟨a, ns, rfl, hS, hT, fun _ => rfl⟩
end
end K9
open PySem PySem.W PySem.Calls PyProof.Rows in
theorem PySem.Challenge.cw_clamberhouse_k89_promises_read_holds : PySem.Challenge.rw_clamberhouse_k89_promises_read.Holds := by
  w_on; o_law
  refine HandSHeadRun.head_any (r := OpenLaw.row PySem.Challenge.rw_clamberhouse_k89_promises_read) (q := view (OpenLaw.row PySem.Challenge.rw_clamberhouse_k89_promises_read).prog [45]) (H := K9.hk) (ob := K9.ob) (M := 12000) (loose := K9.names) (d := HandSHeadRun.topDef (OpenLaw.row PySem.Challenge.rw_clamberhouse_k89_promises_read).prog 45) (kwd := []) K9.ob_eq
    (by kernel_rfl) (fun s => by kernel_rfl) K9.run (by kernel_rfl) (by kernel_rfl) (by kernel_rfl) (by rfl) (by first | assumption | decide +kernel) (by decide +kernel) ⟨rfl, rfl, rfl, rfl, rfl, by decide +kernel⟩ ?hw ?hc
  case hw => w_witness2
  case hc =>
    refine Wp.walk_G (l := PySem.Challenge.rw_clamberhouse_k89_promises_read) (n := 63) (CX := fun w => L2.CX (PySem.Challenge.rw_clamberhouse_k89_promises_read).prog w) rfl (by decide) (by kernel_rfl) ?F (fun w H s e s' z => by
      obtain ⟨_, _, _, _, _, _, _, _, _, _, _, _, q⟩ := z
      exact q)
    intro w mg fa h Y G hmg0
    obtain ⟨K, KX, c⟩ := Y
    have hmg : mg ("law" : PySem.Str) = some (.ref fa) := by
      have e : (HandSHeadRun.topDef (OpenLaw.row PySem.Challenge.rw_clamberhouse_k89_promises_read).prog 45).name = ("law" : PySem.Str) := by kernel_rfl
      rw [← e]
      exact hmg0
    have mem : (("law", none) : He.Defn) ∈ K9.tf := List.mem_singleton.mpr rfl
    refine ⟨K, (He.cT K ("law", none)).1, (He.cT K ("law", none)).2, KX, c.empty _ mem, c.out _ mem, PySem.W.codeHd_of_K KX (c.hd _ mem), fun base s H a ns hl kb gb tb hT hS => ?_⟩
    exact K9.law_run KX G c hmg tb hT hS
