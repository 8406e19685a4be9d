import PyProof.Rows.All
import Wide.All
import OpenK.AllK
import Wide.FinOn
import PyProof.EqAt
import PyProof.EqKinds
import PyProof.TupleCall
import HandS.ForMost
import HandS.Wide
import HandS.Codes
import PySem.Challenge.RW_tworows_k41_whole_reading_is_exact
import KE.KOpsOwn
import KE.KCallOwn
import KE.KExcInit
import HandS.ForExc
import HandS.ExcCtx
import HandS.SuiteRaise
import HandS.RaiseFrom
import HandS.Defaults
import HandS.Text
import KE.KStateDown
import HandS.Words
import HandS.WordsExc
import HandS.IsInst
import HandS.Head0
import HandS.HeadEnd
import HandS.HeadHook1
import HandS.HeadHook2
import HandS.Head1
import HandS.Head2
import HandS.Star
import HandS.RaiseMore
import HandS.DeepEq
import PyProof.ListStr
section
set_option Elab.async false
set_option linter.all false
set_option maxRecDepth 100000
set_option maxHeartbeats 4000000
set_option exponentiation.threshold 5000
/-! Rules for numbers and texts that the layer lacks: int(text), str(int) up to 4,300 digits; a great power; a text repeated. -/
namespace Tw
open PySem PySem.W PySem.Calls PySem.NumText PyProof.Rows

theorem max_digits {M : Model} {A : Around} {E : Value → Shared → Prop} {s : Shared} {Q : Nat → Shared → Prop} (hn : s.heap.NoDigits) (h : Q 4300 s) : wpAny M A Builtin.intMaxStrDigits Q E s := by
  obtain ⟨mc, hns, hnone⟩ := hn
  unfold Builtin.intMaxStrDigits
  refine wpAny_bind (wpAny_nsGet hns ?_)
  rw [hnone]
  exact wpAny_pure h
theorem seen_big {M : Model} {A : Around} {E : Value → Shared → Prop} {s : Shared} {Q : Value → Shared → Prop} {v : Value} {text : List Nat} {n : Int}
    (hn : s.heap.NoDigits) (hb : ¬ (text.takeWhile (· != 0)).length ≤ 640) (hr : (int_private% "readNumeral") 4300 10 (text.takeWhile (· != 0)) = (int_private% "Numeral.value") n)
    (ha : ((text.takeWhile (· != 0)).length == text.length) = true) (h : Q (.int n s.toks) { s with toks := s.toks + 1 }) :
    wpAny M A ((int_private% "intFromText") v text 10) Q E s := by
  obtain ⟨hp, g, d, tk, os⟩ := s
  repeat (any_goals (first
    | assumption
    | (with_reducible refine wpAny_ite_false (decide_eq_false hb) ?_)
    | (with_reducible refine max_digits hn ?_)
    | (with_reducible refine wpAny_ite_true (decide_eq_true ha) ?_)
    | wp_step))
  all_goals (try rw [hr])
  all_goals (try dsimp only)
  repeat (any_goals (first
    | assumption
    | (with_reducible refine wpAny_ite_true (decide_eq_true ha) ?_)
    | wp_step))

structure Keep (p : Prop) : Prop where
  out : p

theorem int_new_big {x : PySem.Str} {u : Tok} {n : Int} (hl : x.length ≤ sizeLine) (hb : ¬ (numSeenOf x).length ≤ 640) (hn : PySem.intText? x = some n) :
    Meets (Builtin.«int.__new__» ⟨[.type "int", .str x u], []⟩) (fun _ R s => s.heap.NoDigits ∧ R (.ok (.ret (.int n s.toks))) { s with toks := s.toks + 1 }) :=
  Meets.of_wp fun prog w A R s hs => by
    obtain ⟨hp, g, d, tk, os⟩ := s
    have f1 := F.conv_sub_int
    have f2 := F.madeHere_int
    have f3 := KIN.str_int
    have f4 := KIN.str_idx
    have f5 := KIN.str_trunc
    have f6 : typeOf (.str x u) = pure (.type "str") := rfl
    have hr : (int_private% "readNumeral") 4300 10 (numSeenOf x) = (int_private% "Numeral.value") n ∧ ((numSeenOf x).length == (numTextOf x).length) = true := by
      rcases read4300 x hl with ⟨m, h1, h2, h3⟩ | ⟨h1, _⟩
      · rw [hn] at h1
        injection h1 with h1
        subst h1
        exact ⟨h3, h2⟩
      · rw [hn] at h1
        cases h1
    have hk := Keep.mk (And.intro hb hr)
    clear hb hr hl hn
    have hs1 := Keep.mk hs.1
    repeat (any_goals (first
      | assumption
      | ((with_reducible show wpAny _ _ ((int_private% "intFromText") _ _ _) _ _ _); refine seen_big hs1.out hk.out.1 hk.out.2.1 hk.out.2.2 ?_)
      | wp_step))
    all_goals first | exact ⟨_, rfl, hs.2⟩ | exact hs.2 | skip

/-! ### the decimal text of an int -/
/-- the signs of str(i) -/
def intL (i : Int) : List Nat := if i < 0 then 45 :: TL.numL i.natAbs else TL.numL i.natAbs
theorem intL_nat (n : Nat) : intL (n : Int) = TL.numL n := by
  unfold intL
  rw [if_neg (by omega)]
  rfl
theorem intL_neg {n : Nat} (h : 0 < n) : intL (-(n : Int)) = 45 :: TL.numL n := by
  unfold intL
  rw [if_pos (by omega), Int.natAbs_neg]
  rfl
theorem str_intL (i : Int) : PySem.Str.ofString (toString i) = SX.S (intL i) := by
  refine TL.ext_tl ?_
  cases i with
  | ofNat n =>
    show TL.tl (PySem.Str.ofString (toString (n : Int))) = intL (n : Int)
    rw [TL.tl_num, intL_nat]
  | negSucc n =>
    show TL.tl (PySem.Str.ofString (toString (Int.negSucc n))) = intL (-((n + 1 : Nat) : Int))
    rw [intL_neg (Nat.succ_pos n), TL.tl_ofString]
    have e1 : (toString (Int.negSucc n)).toList = '-' :: (toString (n + 1)).toList := by
      show ("-" ++ toString (n + 1)).toList = _
      rw [String.toList_append]
      rfl
    rw [e1, List.map_cons]
    have e2 := TL.tl_num (n + 1)
    rw [TL.tl_ofString] at e2
    rw [← e2]
    rfl
theorem lt_pow_big {a : Nat} (h : a < 10 ^ 1001) : a < 10 ^ 4300 := Nat.lt_of_lt_of_le h (Nat.pow_le_pow_right (by decide) (by decide))
theorem vals_lt : ∀ {l : List Nat}, AllDigits l → digitsVal l < 10 ^ l.length
  | [], _ => by decide
  | c :: r, h => by
    have key : ∀ (l : List Nat) (a : Nat), AllDigits l → l.foldl (fun acc c => acc * 10 + (c - 48)) a < (a + 1) * 10 ^ l.length := by
      intro l
      induction l with
      | nil => intro a _; simp
      | cons d l ih =>
        intro a hd
        have hh := hd.head
        have t := ih (a * 10 + (d - 48)) hd.tail
        show l.foldl _ (a * 10 + (d - 48)) < _
        refine Nat.lt_of_lt_of_le t ?_
        rw [List.length_cons, Nat.pow_succ]
        have : a * 10 + (d - 48) + 1 ≤ (a + 1) * 10 := by omega
        calc (a * 10 + (d - 48) + 1) * 10 ^ l.length ≤ ((a + 1) * 10) * 10 ^ l.length := Nat.mul_le_mul_right _ this
          _ = (a + 1) * (10 ^ l.length * 10) := by rw [Nat.mul_assoc, Nat.mul_comm 10]
    have t := key (c :: r) 0 h
    unfold digitsVal
    omega

end Tw
namespace Tw
open PySem PySem.Spec PyProof.Rows L2 NumText
section
variable {X : Cx}
theorem Inv.noDigits {pins : List (Addr × Obj)} {σ : L2.St} {H : Hp} {s : Shared} (I : Inv X pins σ H s) (hd : X.base.NoDigits) : s.heap.NoDigits := hd.keeps I.bk
/-- int(text), a text of digits -/
def rIntS : List V → Hp → VK → Prop := fun xs H Q => ∃ l : List Nat, xs = [.str (SX.S l)] ∧ AllDigits l ∧ l ≠ [] ∧ l.length ≤ 1000 ∧ Q (.int ((digitsVal l : Nat) : Int)) H
theorem call_intS (hd : X.base.NoDigits) : CallR X (.type "int") rIntS := by
  intro pins s σ H xs us Q I r h
  obtain ⟨l, e, h1, h2, h3, q⟩ := h
  subst e
  obtain ⟨u, rfl, t, rfl⟩ := vals1 r
  have hl : (SX.S l).length = l.length := SX.S_len l
  have hn : PySem.intText? (SX.S l) = some ((digitsVal l : Nat) : Int) := intText_digits (x := SX.S l) h1 h2 (by omega)
  by_cases hz : (numSeenOf (SX.S l)).length ≤ 640
  · by_cases hs : (SX.S l).length ≤ 640
    · exact PySem.W.KIN.call_text hn hs ⟨.int ((digitsVal l : Nat) : Int), H, I.tok _, ⟨_, rfl⟩, q⟩
    · exfalso
      obtain ⟨e1, e2⟩ := numText_signs (x := SX.S l) fun c hc => Or.inr (h1 c hc)
      rw [e2] at hz
      have : (SX.S l).cps.toList.length = (SX.S l).length := Array.length_toList
      omega
  · refine call_int_1 (int_new_big (by rw [hl, sizeLine_eq]; omega) hz hn) ⟨Inv.noDigits I hd, ?_⟩
    exact ⟨rfl, ⟨.int ((digitsVal l : Nat) : Int), H, I.tok _, ⟨_, rfl⟩, q⟩⟩
/-- str(i) -/
def rStrI : List V → Hp → VK → Prop := fun xs H Q => ∃ i : Int, xs = [.int i] ∧ i.natAbs < 10 ^ 1001 ∧ Q (.str (SX.S (intL i))) H
theorem call_strI (hc : X.calm = true) (hd : X.base.NoDigits) : CallR X (.type "str") rStrI := by
  intro pins s σ H xs us Q I r h
  obtain ⟨i, e, hz, q⟩ := h
  subst e
  obtain ⟨u, rfl, t, rfl⟩ := vals1 r
  refine str_of_int_or (I.ok.hd hc) (Inv.noDigits I hd) (fun _ => ?_) (fun hge => absurd (lt_pow_big hz) (Nat.not_lt.mpr hge))
  refine ⟨.str (SX.S (intL i)), H, I.tok _, ?_, q⟩
  exact ⟨_, by rw [← str_intL]⟩
/-- a great power -/
def CPowW (i j : Int) : Prop := 0 ≤ j ∧ (Builtin.Int.intBits i : Int) * j ≤ 2 ^ 27
theorem op_powW : OpR X (binaryOp .Pow) (rI CPowW fun i j => .int (i ^ j.toNat)) := opI fun _ _ _ _ _ _ _ hc q => pow_int hc.1 hc.2 q
/-- text * n -/
def rRepS : R2 := fun x y H Q => ∃ (l : List Nat) (n : Nat), x = .str (SX.S l) ∧ y = .int (n : Int) ∧ 1 ≤ l.length ∧ l.length ≤ 16 ∧ 1 ≤ n ∧ n ≤ 100000 ∧ Q (.str (SX.S (List.replicate n l).flatten)) H
theorem foldl_reps (a : Array Nat) : ∀ (n : Nat) (b : Array Nat), ((List.replicate n a).foldl (· ++ ·) b).toList = b.toList ++ (List.replicate n a.toList).flatten
  | 0, b => by simp
  | n + 1, b => by
    rw [List.replicate_succ, List.foldl_cons, foldl_reps a n, List.replicate_succ, List.flatten_cons, Array.toList_append, List.append_assoc]
theorem mul_S {l : List Nat} {n : Nat} (hl : 1 ≤ l.length) (hn : 1 ≤ n) : Txt.mul (SX.S l) (n : Int) = SX.S (List.replicate n l).flatten := by
  refine TL.ext_tl ?_
  unfold Txt.mul
  rw [if_neg (by omega)]
  by_cases h1 : n = 1
  · subst h1
    rw [if_pos (by rfl)]
    show l = (List.replicate 1 l).flatten
    simp
  · have e : ((n : Int) == 1 || (SX.S l).length == 0) = false := by
      rw [Bool.or_eq_false_iff]
      refine ⟨beq_eq_false_iff_ne.mpr (by omega), beq_eq_false_iff_ne.mpr ?_⟩
      rw [SX.S_len]
      omega
    rw [e, if_neg Bool.false_ne_true]
    show ((List.replicate (n : Int).toNat (SX.S l).cps).foldl (· ++ ·) #[]).toList = _
    rw [foldl_reps]
    rfl
theorem op_repS : OpR X (binaryOp .Mult) rRepS := by
  intro pins s σ H x y v u Q I rx ry h
  obtain ⟨l, n, rfl, rfl, h1, h2, h3, h4, q⟩ := h
  obtain ⟨t, rfl⟩ := rx
  obtain ⟨t', rfl⟩ := ry
  have hl : (SX.S l).length = l.length := SX.S_len l
  refine PySem.SB.mul (PyProof.Rows.mulOk_of 16 1048576 (by omega) (by omega) (by omega) (by decide) (by decide)) fun t' k => ?_
  rw [mul_S h1 h3]
  exact ⟨.str (SX.S (List.replicate n l).flatten), H, I.tok _, ⟨_, rfl⟩, q⟩
end
end Tw
end

section
set_option Elab.async false
set_option linter.all false
set_option maxRecDepth 100000
set_option maxHeartbeats 4000000
/-! Rules that the layer lacks: an own class's two-place operators, its inversion, str of an own object. -/
namespace Tw
open PySem PySem.Spec PyProof.Rows L2
section
variable {X : Cx} {CX : CXT} {k : Nat} {f C : Addr} {fd : FuncData} {ps : List Str} {sp : Sp} {E : XK}
theorem ins_inst {pins : List (Addr × Obj)} {σ : L2.St} {H : Hp} {s : Shared} (I : Inv X pins σ H s) {a dx : Addr} {fs : List (Str × V)} (e : H a = some (.ins C dx fs)) :
    ∃ od, PySem.W.InstAt s.heap a (PySem.W.instObj C dx) C (some od) := by
  obtain ⟨mA, J, _, _, _, _⟩ := ins_get I.hok e
  obtain ⟨od, h, _⟩ := J.look
  exact ⟨od, h⟩
theorem cmpBack_of {pins : List (Addr × Obj)} {σ : L2.St} {Q : VK} {u : Value} {s' : Shared} (h : EP X pins σ Q u s') : PySem.W.CmpBack (EP X pins σ Q) u s' := by
  have h2 := h
  obtain ⟨v, H', I, r, q⟩ := h2
  cases v with
  | non =>
    obtain rfl : u = .none := r
    exact h
  | bl b =>
    obtain rfl : u = .bool b := r
    exact h
  | int i =>
    obtain ⟨t, rfl⟩ := (show ∃ t, u = Value.int i t from r)
    exact h
  | str x =>
    obtain ⟨t, rfl⟩ := (show ∃ t, u = Value.str x t from r)
    exact h
  | byt b =>
    obtain ⟨t, rfl⟩ := (show ∃ t, u = Value.bytes b t from r)
    exact h
  | flt b =>
    obtain ⟨t, rfl⟩ := (show ∃ t, u = Value.float b t from r)
    exact h
  | ref a =>
    obtain rfl : u = .ref a := r
    exact h
  | ty n =>
    obtain rfl : u = .type n := r
    exact h
/-- x op y of two instances of the class at C, whose method stands at f -/
def rOwn2 (C : Addr) (sp : Sp) (E : XK) : R2 := fun x y H Q => ∃ a b dx dy fs gs, x = .ref a ∧ y = .ref b ∧ H a = some (.ins C dx fs) ∧ H b = some (.ins C dy gs) ∧ sp [x, y] H Q E
theorem op_own {op : Operator} (F : FnOk X.prog X.w X.K X.mg X.base CX k f fd ps sp) (hr : Room k X.A) (hb : Binds X.K fd ps []) (hx : Passes CX X E) (hc : PySem.W.selfFirst X.K C = true)
    (hs : PySem.W.findIn X.K (.ref C) (PySem.dunder op.info.2) = some (some (.ref f))) (hf : PySem.W.isFn X.K (.ref f) = true) : OpR X (binaryOp op) (rOwn2 C sp E) := by
  intro pins s σ H x y v u Q I rx ry r
  obtain ⟨a, b, dx, dy, fs, gs, rfl, rfl, ea, eb, q⟩ := r
  obtain rfl : v = Value.ref a := rx
  obtain rfl : u = Value.ref b := ry
  obtain ⟨m, Fr⟩ := I.fr
  obtain ⟨oda, Ia⟩ := ins_inst I ea
  obtain ⟨odb, Ib⟩ := ins_inst I eb
  refine PySem.W.binop_K Fr I.ok.mod.kin Ia Ib.type hc hs hf ?_
  exact thn (run_fn (us := [.ref a, .ref b]) (vs := [.ref a, .ref b]) (dvs := []) F hr hb .nil hx I (.cons rfl (.cons rfl .nil)) q) fun u s' h => cmpBack_of h
/-- ~x -/
def rOwn1 (C : Addr) (sp : Sp) (E : XK) : V → Hp → VK → Prop := fun x H Q => ∃ a dx fs, x = .ref a ∧ H a = some (.ins C dx fs) ∧ sp [x] H Q E
theorem un_own (F : FnOk X.prog X.w X.K X.mg X.base CX k f fd ps sp) (hr : Room k X.A) (hb : Binds X.K fd ps []) (hx : Passes CX X E)
    (hs : PySem.W.findIn X.K (.ref C) "__invert__" = some (some (.ref f))) (hf : PySem.W.isFn X.K (.ref f) = true) : UnR X (unaryOp .Invert) (rOwn1 C sp E) := by
  intro pins s σ H x v Q I rx r
  obtain ⟨a, dx, fs, rfl, ea, q⟩ := r
  obtain rfl : v = Value.ref a := rx
  obtain ⟨m, Fr⟩ := I.fr
  obtain ⟨oda, Ia⟩ := ins_inst I ea
  exact PySem.W.ksp_inv Fr I.ok.mod.kin Ia hs hf (run_fn (us := [.ref a]) (vs := [.ref a]) (dvs := []) F hr hb .nil hx I (.cons rfl .nil) q)
/-- str(x), x an instance whose class has __str__ (at f); the answer is a text -/
def rStrOwn (C : Addr) (sp : Sp) (E : XK) : List V → Hp → VK → Prop := fun xs H Q => ∃ a dx fs, xs = [.ref a] ∧ H a = some (.ins C dx fs) ∧ sp [.ref a] H (fun v H' => ∃ z, v = .str z ∧ Q v H') E
theorem call_strOwn (F : FnOk X.prog X.w X.K X.mg X.base CX k f fd ps sp) (hr : Room (k + 2) X.A) (hb : Binds X.K fd ps []) (hx : Passes CX X E)
    (hs : PySem.W.findIn X.K (.ref C) "__str__" = some (some (.ref f))) (hf : PySem.W.isFn X.K (.ref f) = true) : CallR X (.type "str") (rStrOwn C sp E) := by
  intro pins s σ H xs us Q I r h
  obtain ⟨a, dx, fs, rfl, ea, q⟩ := h
  obtain ⟨u, rfl, hu⟩ := vals1 r
  obtain rfl : u = Value.ref a := hu
  obtain ⟨oda, Ia⟩ := ins_inst I ea
  have r1 : Room (k + 1) X.A.in1 := hr.in1
  have r2 : Room k X.A.in1.in1 := r1.in1
  have hl : ([Value.ref a] : List Value).length = ps.length := F.len _ _ _ _ q
  have b2 := hb s [.ref a] I.kIn (by rw [List.append_nil]; exact hl)
  rw [List.append_nil] at b2
  refine PySem.W.kso_call r2.units0 I.kIn Ia hs hf (wpAny_call (codeAny_mono (F.run X.A.in1.in1 X.stack s H ⟨[.ref a], []⟩ [.ref a] [.ref a] _ E r2 I.env0.in1.in1 b2 (.cons rfl .nil) q) fun r s' hq => ?_))
  cases r with
  | error e => exact hx pins σ H s e s' I hq
  | ok fl =>
    cases fl with
    | ret u =>
      obtain ⟨v, H', I3, rv, z, ev, q3⟩ := I.after hq
      subst ev
      obtain ⟨t, rfl⟩ := (show ∃ t, u = Value.str z t from rv)
      exact ⟨.str z, H', I3, rv, q3⟩
    | next => exact False.elim hq
    | brk => exact False.elim hq
    | cont => exact False.elim hq
end
end Tw
end

section
set_option Elab.async false
set_option linter.all false
set_option maxRecDepth 100000
set_option maxHeartbeats 4000000
/-! Own exception classes over an own class over Exception, whose __init__ stores its one argument in one field: made, raised (calm, or from None in an except suite), read. -/
namespace PySem
namespace TwX
open PySem.W PySem.Calls PyProof.Rows PySem.HandSPX
open Builtin Builtin.ObjectAttr
/-- the two fields -/
inductive Fl where
  | why | line
def Fl.s : Fl → Str
  | .why => "why"
  | .line => "line"
abbrev bmE : List Value := [.type "Exception", .type "BaseException", .type "object"]
def iA (fl : Str) (p1 p2 : Pos) : Arguments := { posonlyargs := [], args := [{ arg := "self", annotation := none, pos := p1 }, { arg := fl, annotation := none, pos := p2 }], vararg := none, kwonlyargs := [], kw_defaults := [], kwarg := none, defaults := [] }
def iB (fl : Str) (q1 q2 q3 q4 : Pos) : List Stmt := [.Assign [.Attribute (.Name "self" q1) fl q2] (.Name fl q3) q4]
def iS (fl : Str) : Scope := { kind := .function, names := [(PySem.Str.ofString "self", .local), (fl, .local)], isGenerator := false, isCoroutine := false, more := [] }
/-- what the written part says of the class, at C, and of its __init__, at fI -/
structure ExT (K : Frag) (mg : Str → Option Value) (cn ql fl : Str) (C fI : Addr) : Prop where
  gC : mg cn = some (.ref C)
  mkC : excInitIn K C bmE "Exception.__new__" = true
  ov : excOver K C bmE = true
  hdC : hasDictIn K C = true
  sa : findIn K (.ref C) "__setattr__" = some (some (.builtin "object.__setattr__"))
  ga : findIn K (.ref C) "__getattribute__" = some (some (.builtin "BaseException.__getattribute__"))
  gg : findIn K (.ref C) "__getattr__" = some none
  noN : findIn K (.ref C) fl = some none
  iC : findIn K (.ref C) "__init__" = some (some (.ref fI))
  tC : isFn K (.ref fI) = true
  kC : keepIn K (.ref C) = true
  exC : subIn K (.ref C) (.type "BaseException") = some true
  tyC : typeIn K (.ref C) = some (.type "type")
  fn : ∃ (p1 p2 q1 q2 q3 q4 : Pos) (fd : FuncData), L2.FunD K "__init__" ql (iA fl p1 p2) (iB fl q1 q2 q3 q4) (iS fl) [] [] fI fd
theorem one_size (v : Value) : [v].length ≤ sizeLine := by
  rw [sizeLine_eq]
  exact (by decide : 1 ≤ 16777216)
theorem ldC {M : Model} {s : Shared} {name : Str} {scope : Scope} {L a : Addr} {cd : Value} {m : Str → Option Value} {x : Str} {pos : Pos} {v : Value} {Q : Value → Shared → Prop} {A : Around} {E : Value → Shared → Prop} (hn : s.heap.Ns L m) (hv : m x = some v) (h : Q v s)
    (hk : scope.kind = .function := by rfl) (hl : (envOfC name scope L a cd).kindOf x = some .local := by rfl) (hd : (x == ("__debug__" : Str)) = false := by decide) :
    wpAny M A (eval (.Name x pos) (envOfC name scope L a cd)) Q E s := wpAny_Name (wpAny_loadName_local hk hl hn hv h) hd
/-- what __init__ leaves of a fresh exception at x -/
structure InitEnd (fl : Str) (h h' : Heap) (x C dx t1 : Addr) (v : Value) : Prop where
  keep : ∀ b o, b ≠ x → h.get? b = some o → h'.get? b = some o
  obj : h'.get? x = some { cls := .ref C, dict := some dx, data := .fields #[.ref t1, .none, .none, .none, .bool false, .none] }
  dbig : h.objs.size ≤ dx
  dne : dx ≠ x
  ns : h'.Ns1 dx (fun y => if y = fl then some v else none)
/-- a made one -/
structure OwnMade (fl : Str) (h h' : Heap) (e C d : Addr) (v : Value) : Prop where
  keep : ∀ b o, h.get? b = some o → h'.get? b = some o
  new : h.objs.size ≤ e
  obj : ∃ t1, h'.get? e = some { cls := .ref C, dict := some d, data := .fields #[.ref t1, .none, .none, .none, .bool false, .none] }
  dbig : h.objs.size ≤ d
  dne : d ≠ e
  ns : h'.Ns1 d (fun y => if y = fl then some v else none)
section
variable {prog : Program} {w : World} {A : Around} {E : Value → Shared → Prop} {R : Result → Shared → Prop} {hp : Heap} {g : Array GenState} {d : Drawn} {t : Nat} {os : OsState}
theorem osaE {K : Frag} {name : Str} {tk : Tok} {v : Value} {x C t0 : Addr}
    (X : K.In hp) (hx : hp.get? x = some (excO C t0)) (ov : excOver K C bmE = true) (hh : hasDictIn K C = true) (ha : findIn K (.ref C) name = some none)
    (hq : ∀ h' tk' dx, (∀ b o, b ≠ x → hp.get? b = some o → h'.get? b = some o) → hp.objs.size ≤ dx → dx ≠ x → h'.get? x = some { cls := .ref C, dict := some dx, data := .fields #[.ref t0, .none, .none, .none, .bool false, .none] } →
      h'.Ns1 dx (fun y => if y = name then some v else none) → R (.ok (.ret .none)) ⟨h', g, d, tk', os⟩) :
    codeAny (model prog w) A (.call (.builtin "object.__setattr__") ⟨[.ref x, .str name tk, v], []⟩) R ⟨hp, g, d, t, os⟩ := by
  have hxs : x ≠ hp.objs.size := Nat.ne_of_lt (Heap.lt_size hx)
  refine osa_openX (r := none) (od := none) F.store_Exception X ⟨hx, rfl, rfl, trivial⟩ ov (L2.NoAttr.taker ha) fun b => ?_
  obtain ⟨cd, hc, hd'⟩ := any_some hh
  refine wpAny_bind (wpAny_pure (wpAny_bind (instanceDict_exc (s := ⟨hp, g, d, t, os⟩) (C := C) (t := t0) (c2 := .none) hx (looks_clsIn X hc) hd' ?_)))
  show wpAny _ _ (storeInDict hp.objs.size (.str name tk) name v) _ _ _
  refine store_in_new ?_ ?_
  · exact ⟨_, #[], _, (Heap.get?_update_ne _ _ _ _ hxs.symm).trans (Heap.get?_push_at rfl rfl), rfl, fun e he => absurd he (by simp), fun _ => rfl⟩
  · intro h' tk' hn' hs
    have hx₁ : (hp.push (dictOf [] 0)).get? x = some (excO C t0) := Heap.get?_push_of_some _ hx
    refine hq h' tk' hp.objs.size (fun b o hb ho => ?_) (Nat.le_refl _) hxs.symm ?_ hn'
    · exact (hs.2 b (Nat.ne_of_lt (Heap.lt_size ho))).trans ((Heap.get?_update_ne _ _ _ _ hb).trans (Heap.get?_push_of_some _ ho))
    · exact (hs.2 x hxs).trans (Heap.get?_update_self _ hx₁ rfl)
end
section
variable {prog : Program} {w : World} {A : Around} {E : Value → Shared → Prop} {R : Result → Shared → Prop} {s : Shared} {K : Frag} {mg : Str → Option Value} {C fI : Addr} {cn ql fl : Str}
theorem low_init {f : Fl} (T : ExT K mg cn ql f.s C fI) {x t0 : Addr} {v : Value} (X : K.In s.heap) (hlim : s.heap.NoLimit) (hx : s.heap.get? x = some (excO C t0)) (hroom : A.depth < recursionLimit)
    (hq : ∀ h' tk dx, InitEnd f.s s.heap h' x C dx t0 v → R (.ok (.ret .none)) { s with heap := h', toks := tk }) :
    codeAny (model prog w) A (.call (.ref fI) ⟨[.ref x, v], []⟩) R s := by
  obtain ⟨p1, p2, q1, q2, q3, q4, fd, F⟩ := T.fn
  obtain ⟨oc, od, dV, kV, doc, pm, an, cdv, ct, osl, rfl, lk, hcd, hD, hK⟩ := F.ex
  rcases hD with ⟨_, rfl⟩ | ⟨z, _⟩
  rotate_left
  · exact absurd rfl z
  cases f
  all_goals
    first
      | refine Att.call_fn (binds := [("self", .ref x), (Fl.s .why, v)]) X hlim lk hcd hroom (BindsTo.of_eq (by first | rfl | with_unfolding_all rfl)) (by first | rfl | decide | with_unfolding_all rfl) (fun s₁ IC => ?_) rfl rfl rfl
      | refine Att.call_fn (binds := [("self", .ref x), (Fl.s .line, v)]) X hlim lk hcd hroom (BindsTo.of_eq (by first | rfl | with_unfolding_all rfl)) (by first | rfl | decide | with_unfolding_all rfl) (fun s₁ IC => ?_) rfl rfl rfl
    obtain ⟨h₁, tk₁, rfl⟩ := IC.toInCall.same
    have k : ∀ b o, s.heap.get? b = some o → h₁.get? b = some o := IC.toInCall.keep
    have hn := IC.toInCall.ns
    have hxL : s.heap.objs.size ≠ x := Nat.ne_of_gt (Heap.lt_size hx)
    have X₁ : K.In h₁ := X.keeps k
    have hx₁ := k _ _ hx
    show wpAny _ _ (execs _ _) _ _ _
    refine wpAny_execs_cons (plainObj_wpAny_Assign_Attribute ?_)
    refine ldC (v := v) hn (by first | rfl | with_unfolding_all rfl | kernel_rfl) (ldC (v := .ref x) hn (by first | rfl | with_unfolding_all rfl | kernel_rfl) ?_)
    refine set_plain X₁ (ox := excO C t0) (od := none) ⟨hx₁, rfl, rfl, trivial⟩ T.sa ?_
    refine osaE X₁ hx₁ T.ov T.hdC T.noN (fun h₃ tk₃ dx k₃ dn dne hx₃ hn₃ => ?_)
    show wpAny _ _ (execs _ _) _ _ _
    have z : s.heap.objs.size < h₁.objs.size := hn.lt
    exact wpAny_execs_nil (hq h₃ tk₃ dx ⟨fun b o hb e => k₃ b o hb (k b o e), hx₃, Nat.le_of_lt (Nat.lt_of_lt_of_le z dn), dne, hn₃⟩)
theorem low_made {f : Fl} (T : ExT K mg cn ql f.s C fI) {v : Value} (X : K.In s.heap) (hlim : s.heap.NoLimit) (hroom : A.depth + 1 < recursionLimit)
    (hq : ∀ h' tk e d, OwnMade f.s s.heap h' e C d v → R (.ok (.ret (.ref e))) { s with heap := h', toks := tk }) :
    codeAny (model prog w) A (.call (.ref C) ⟨[v], []⟩) R s := by
  obtain ⟨nm, N', qn, bs, bm, hdct, sn, sub, ab, col, dd, k0, k1, k2, k3, k5, hC, hT⟩ := excInit_of X T.mkC
  obtain ⟨oI, hoI, hcI⟩ : ∃ oI, s.heap.get? fI = some oI ∧ oI.cls = .type "function" := by
    obtain ⟨o, ho, hc⟩ := Option.map_eq_some_iff.mp (show (K.lookup fI).map (·.cls) = some (.type "function") from beq_iff_eq.mp T.tC)
    exact ⟨o, X _ _ ho, hc⟩
  obtain ⟨hp, g, dr, tk, os⟩ := s
  have k : ∀ b o, hp.get? b = some o → ((hp.push (kdv_tup [v])).push (excO C hp.objs.size)).get? b = some o := fun b o e => Heap.get?_push_of_some _ (Heap.get?_push_of_some _ e)
  have hget : ((hp.push (kdv_tup [v])).push (excO C hp.objs.size)).get? (hp.objs.size + 1) = some (excO C hp.objs.size) := by heap_get
  refine call_own F.excBase_Exception hT hC (looks_findIn X T.iC) (fun self => exc_bind hoI hcI self) (one_size v) ?_
  refine low_init (s := ⟨(hp.push (kdv_tup [v])).push (excO C hp.objs.size), g, dr, tk, os⟩) T (X.keeps k) (hlim.keeps k) hget ?_ fun h' tk' dx ⟨k', hx, dn, dne, hns⟩ => ?_
  · show A.depth + 1 < recursionLimit
    exact hroom
  · have old : ∀ b o, hp.get? b = some o → h'.get? b = some o := fun b o e => k' b o (Nat.ne_of_lt (Nat.lt_succ_of_lt (Heap.lt_size e))) (k b o e)
    have z : hp.objs.size + 1 + 1 ≤ dx := by
      first
        | (simpa only [Heap.size_push] using dn)
        | exact dn
        | (have q := dn; rw [Heap.size_push, Heap.size_push] at q; exact q)
    exact ⟨rfl, hq h' tk' (hp.objs.size + 1) dx ⟨old, Nat.le_succ _, ⟨_, hx⟩, Nat.le_trans (Nat.le_trans (Nat.le_succ _) (Nat.le_succ _)) z, dne, hns⟩⟩
end
end TwX
end PySem
namespace Tw
open PySem PySem.Spec PyProof.Rows L2 PySem.TwX
theorem relO_one {v : V} {v' : Value} {fl : Str} (r : RelV v v') (f : Str) : RelO (List.lookup f [(fl, v)]) (if f = fl then some v' else none) := by
  by_cases hw : f = fl
  · subst hw
    rw [if_pos rfl]
    have q : List.lookup f [(f, v)] = some v := by simp [List.lookup]
    rw [q]
    exact r
  · rw [if_neg hw]
    have qw : (f == fl) = false := by simpa using hw
    have q2 : List.lookup f [(fl, v)] = none := by simp [List.lookup, qw]
    rw [q2]
    trivial
section
variable {X : Cx} {C fI : Addr} {cn ql : Str} {fl : Fl}
/-- C(e) -/
def tMkE (C : Addr) (fl : Fl) (ta : TA) : L2.St → Hp → XK → Prop := fun σ H Q => ta σ H fun vs H1 => ∃ v, vs = [v] ∧ ∀ d, H1 d = none → Q (.ref C) (some d) (upd H1 d (.xd [(fl.s, v)]))
theorem pmk5_ex {a : Expr} {ta : TA} {p pos : Pos} (T : ExT X.K X.mg cn ql fl.s C fI) (hr : X.A.depth + 1 < recursionLimit) (ha : PA X [a] ta) (hg : Gl X cn := by rfl) (hdb : (cn == ("__debug__" : Str)) = false := by decide)
    (he : starEach (a :: []) X.env = (false, eval a X.env) :: starEach [] X.env := by rfl) (hpl : (backTo pos (starEach [] X.env)).any (·.1) = false := by rfl) :
    L2H.PMk5 X (.Call (.Name cn p) [a] [] pos) (tMkE C fl ta) := by
  intro pins s σ H Q I h
  refine wpAny_Call_Name_kw (ld_glob I hg T.gC ?_ hdb)
  refine PySem.W.callWith_K (h₀ := X.base) I.ok.mod.kin T.kC (thn (ha.run pos pins s σ H _ I h) fun us s1 hh => ?_) he hpl
  obtain ⟨vs, H1, I1, r1, v, ev, q1⟩ := hh
  subst ev
  refine ⟨I1.kIn, ?_⟩
  cases r1 with
  | cons rv rn =>
    rename_i v' us'
    cases rn
    show wpAny _ _ (call (.ref C) [v']) _ _ _
    have hlim := I1.nolimit
    obtain ⟨hp, g, dr, tk, os⟩ := s1
    refine wpAny_call (low_made T I1.kIn hlim hr fun h' tk' e d M => ?_)
    show L2N.MkP X pins σ Q (.ref e) ⟨h', g, dr, tk', os⟩ ∧ L2H.Six (.ref e) ⟨h', g, dr, tk', os⟩
    obtain ⟨t1, hoe⟩ := M.obj
    have hns := M.ns
    obtain ⟨G', g1, g2⟩ := restrict h' fun b => decide (b ≠ e)
    have gk : ∀ b, b ≠ e → G'.get? b = h'.get? b := fun b hb => g1 b (decide_eq_true hb)
    have ge : G'.get? e = none := g2 e (by simp)
    have old : ∀ b o, hp.get? b = some o → G'.get? b = some o := fun b o q => (gk b (Nat.ne_of_lt (Nat.lt_of_lt_of_le (Heap.lt_size q) M.new))).trans (M.keep b o q)
    have ob : ObjOk X.prog X.w (upd H1 d (.xd [(fl.s, v)])) G' d (.xd [(fl.s, v)]) :=
      ⟨_, hns.at (fun o q => (gk d M.dne).trans q), fun f => relO_one rv f⟩
    have J : Inv X pins σ (upd H1 d (.xd [(fl.s, v)])) ⟨G', g, dr, tk', os⟩ := I1.laid (t' := tk') old M.dbig ob
    refine ⟨⟨e, _, _, ⟨G', g, dr, tk', os⟩, _, .ref C, some d, rfl, J, fun b o q => ?_, ge, hoe, ⟨rfl, rfl, fun vs hv => ?_⟩, rfl, rfl, ?_, rfl, I1.bare, raises_own T.exC T.tyC, q1 d (I1.hok.fresh M.dbig)⟩, fun a oe vs ea2 hg2 hd2 => ?_⟩
    · by_cases hb : b = e
      · have q' : G'.get? b = some o := q
        rw [hb, ge] at q'; cases q'
      · exact (gk b hb).symm.trans q
    · cases hv
      rfl
    · rw [upd_ne (Ne.symm M.dne)]
      exact I1.hok.fresh M.new
    · cases ea2
      have hg3 : h'.get? e = some oe := hg2
      rw [hoe] at hg3
      cases hg3
      cases hd2
      show (4 : Nat) < 6
      decide
/-- raise C(e) -/
def tRaiseE (C : Addr) (fl : Fl) (W : WX) (ta : TA) : TS := fun _ σ H => tMkE C fl ta σ H fun cls d H' => W cls d σ H'
theorem ps_raiseE {a : Expr} {ta : TA} {W : WX} {p pos pos2 : Pos} (hc : X.calm = true) (T : ExT X.K X.mg cn ql fl.s C fI) (hr : X.A.depth + 1 < recursionLimit) (tk : L2N.Takes X W) (ha : PA X [a] ta) (hg : Gl X cn := by rfl) (hdb : (cn == ("__debug__" : Str)) = false := by decide)
    (he : starEach (a :: []) X.env = (false, eval a X.env) :: starEach [] X.env := by rfl) (hpl : (backTo pos (starEach [] X.env)).any (·.1) = false := by rfl) :
    PS X (.Raise (some (.Call (.Name cn p) [a] [] pos)) none pos2) (tRaiseE C fl W ta) := L2N.ps_raise hc tk (pmk5_ex T hr ha hg hdb he hpl).pmk
/-- raise C(e) from None, in an except suite -/
theorem ps_raiseEH {a : Expr} {ta : TA} {W : WX} {p pos pos2 cpos : Pos} {j : Nat} (hc : L2H.HotC X) (T : ExT X.K X.mg cn ql fl.s C fI) (hr : X.A.depth + 1 < recursionLimit) (tk : L2.Takes X W) (ha : PA X [a] ta) (hg : Gl X cn := by rfl) (hdb : (cn == ("__debug__" : Str)) = false := by decide)
    (he : starEach (a :: []) X.env = (false, eval a X.env) :: starEach [] X.env := by rfl) (hpl : (backTo pos (starEach [] X.env)).any (·.1) = false := by rfl) :
    PS X (.Raise (some (.Call (.Name cn p) [a] [] pos)) (some (.Constant .none j cpos)) pos2) (tRaiseE C fl W ta) := L2H.ps_raiseHN hc tk (pmk5_ex T hr ha hg hdb he hpl)
/-- e.fl, e the exception that the suite holds (at a; its class cls, its dict d) -/
def tByE (C : Addr) (fl : Fl) (a : Addr) (cls : Value) (d : Option Addr) (te : TE) : TE := fun σ H Q => te σ H fun x H1 => x = .ref a ∧ cls = .ref C ∧ ∃ (dd : Addr) (v : V), d = some dd ∧ H1 dd = some (.xd [(fl.s, v)]) ∧ Q v H1
theorem pe_byE {a : Addr} {oe : Obj} {cls : Value} {d : Option Addr} {pn : List (Addr × Obj)} {e : Expr} {te : TE} {pos : Pos} (T : ExT X.K X.mg cn ql fl.s C fI) (hz : Zc cls d oe) (hf : ∃ vs, oe.data = .fields vs) (he : PE (X.suite a ((a, oe) :: pn)) e te)
    (hb : attributeBase e fl.s X.env (eval e X.env) = eval e X.env := by rfl) :
    PE (X.suite a ((a, oe) :: pn)) (.Attribute e fl.s pos) (tByE C fl a cls d te) := by
  refine ⟨fun pins s σ H Q I h => ?_⟩
  refine attr_of hb (thn (he.run pins s σ H _ I h) fun u s1 hh => ?_)
  obtain ⟨x, H1, I1, rx, ex, ec, dd, v, ed, ea, q⟩ := hh
  subst ex
  obtain rfl : u = Value.ref a := rx
  subst ec
  subst ed
  obtain ⟨ha, _⟩ := I1.pin (a, oe) (List.mem_append_left _ List.mem_cons_self)
  obtain ⟨vs, hd⟩ := hf
  have hx : ObjOk X.prog X.w H1 s1.heap dd (.xd [(fl.s, v)]) := I1.hok dd _ ea
  obtain ⟨mA, hns, hr⟩ := hx
  obtain ⟨od, ho, hl⟩ := lookIn_ns hns
  have l : List.lookup fl.s [(fl.s, v)] = some v := by simp [List.lookup]
  obtain ⟨u, hu, ru⟩ := RelO.some_of (v := v) (o := mA fl.s) (by rw [← l]; exact hr fl.s)
  have J : PySem.W.InstAt s1.heap a oe C (some od) := ⟨ha, hz.1, by unfold PySem.W.notCls; rw [hd] <;> rfl, by rw [hz.2]; exact ho⟩
  exact HandSPX.exc_get I1.kIn J T.ga T.gg T.exC (PySem.W.findObj_own T.hdC T.noN rfl (by rw [hl, hu])) (handed_of ru) ⟨v, H1, I1.tok _, ru, q⟩
/-- what a callee of the kind L2N.CX lets out is taken where L2.Takes stands -/
theorem cx_of_cxn {P : Program} {w : World} {outer : List Env} {H : Hp} {s : Shared} {E : XK} {u : Value} {s' : Shared} (h : L2N.CX P w outer H s E u s') : L2.CX P w outer H s E u s' := by
  obtain ⟨a, B, H', cls, d, e, fl, r⟩ := h
  exact ⟨a, B, H', cls, d, e, L2H.flyingZ_imp (fun o z => z.zc) fl, r⟩
end
end Tw
end

section
set_option Elab.async false
set_option linter.all false
set_option maxRecDepth 100000
set_option maxHeartbeats 2000000
/-! The mirror: what the program computes, in plain Lean. -/
namespace TwP
abbrev Tx := List Nat
def kAnd : Tx := [97, 110, 100]
def kOr : Tx := [111, 114]
def kNot : Tx := [110, 111, 116]
def kSure : Tx := [115, 117, 114, 101]
def kIn : Tx := [105, 110]
def kIs : Tx := [105, 115]
def kEmpty : Tx := [101, 109, 112, 116, 121]
def kBegins : Tx := [98, 101, 103, 105, 110, 115]
def kAlways : Tx := [97, 108, 119, 97, 121, 115]
def kNever : Tx := [110, 101, 118, 101, 114]
def kept : List Tx := [kAnd, kOr, kNot, kSure, kIn, kIs, kEmpty, kBegins, kAlways, kNever]
def ops : List Tx := [[60], [60, 61], [61, 61], [33, 61], [62], [62, 61]]
def signs : List Tx := [[60, 61], [61, 61], [33, 61], [62, 61], [60], [62], [40], [41], [44], [43], [45], [59]]
def isLet (c : Nat) : Bool := decide (97 ≤ c) && decide (c ≤ 122)
def isDig (c : Nat) : Bool := decide (48 ≤ c) && decide (c ≤ 57)
def alnum (c : Nat) : Bool := isLet c || isDig c
def inCh (c : Nat) : Bool := decide (32 ≤ c) && decide (c ≤ 126) && decide (c ≠ 37)
inductive Val where
  | num (i : Int)
  | txt (l : Tx)
  deriving DecidableEq
inductive Tree where
  | cmp (c op : Tx) (v : Val)
  | agn (c op o : Tx) (m : Int)
  | amg (c : Tx) (vs : List Val)
  | beg (c p : Tx)
  | emp (c : Tx)
  | alw
  | nev
  | and (a b : Tree)
  | or (a b : Tree)
  | not (a : Tree)
  | sure (a : Tree)
/-! ### names, texts -/
def isText (l : Tx) : Bool := l.all inCh
def isName : Tx → Bool
  | [] => false
  | c :: r => decide ((c :: r).length ≤ 8) && isLet c && !(kept.contains (c :: r)) && (c :: r).all alnum
def valOk : Val → Bool
  | .num _ => true
  | .txt l => isText l
/-! ### atoms, levels, limited -/
def nat : Tree → Nat
  | .and a b => nat a + nat b
  | .or a b => nat a + nat b
  | .not a => nat a
  | .sure a => nat a
  | _ => 1
def lev : Tree → Nat
  | .and a b => max (lev a + 1) (lev b + 1)
  | .or a b => max (lev a + 1) (lev b + 1)
  | .not a => lev a + 1
  | .sure a => lev a + 1
  | _ => 0
def lim (t : Tree) : Option Tree := if nat t ≤ 24 then if lev t ≤ 12 then some t else none else none
/-! ### writing -/
def intL (i : Int) : Tx := if i < 0 then 45 :: TL.numL i.natAbs else TL.numL i.natAbs
def esc : Tx → Tx
  | [] => []
  | c :: r => (if c = 34 ∨ c = 92 then [92, c] else [c]) ++ esc r
def wrV : Val → Tx
  | .num i => intL i
  | .txt l => 34 :: (esc l ++ [34])
def joinV : List Val → Tx
  | [] => []
  | [v] => wrV v
  | v :: w :: r => wrV v ++ ([44, 32] ++ joinV (w :: r))
def wrMore (m : Int) : Tx := if m = 0 then [] else if 0 < m then [32, 43, 32] ++ intL m else [32, 45, 32] ++ intL (-m)
inductive Kd where
  | atom | and | or | not | sure
  deriving DecidableEq
def kd : Tree → Kd
  | .and _ _ => .and
  | .or _ _ => .or
  | .not _ => .not
  | .sure _ => .sure
  | _ => .atom
def br (b : Bool) (l : Tx) : Tx := if b then 40 :: (l ++ [41]) else l
def isAO (t : Tree) : Bool := kd t = .and || kd t = .or
def isO (t : Tree) : Bool := kd t = .or
def wr : Tree → Tx
  | .cmp c op v => c ++ (32 :: (op ++ (32 :: wrV v)))
  | .agn c op o m => c ++ (32 :: (op ++ (32 :: (o ++ wrMore m))))
  | .amg c vs => c ++ ([32, 105, 110, 32, 40] ++ (joinV vs ++ [41]))
  | .beg c p => c ++ ([32, 98, 101, 103, 105, 110, 115, 32] ++ wrV (.txt p))
  | .emp c => c ++ [32, 105, 115, 32, 101, 109, 112, 116, 121]
  | .alw => kAlways
  | .nev => kNever
  | .and a b => br (isO a) (wr a) ++ ([32, 97, 110, 100, 32] ++ br (isAO b) (wr b))
  | .or a b => wr a ++ ([32, 111, 114, 32] ++ br (isO b) (wr b))
  | .not a => kNot ++ (32 :: br (isAO a) (wr a))
  | .sure a => kSure ++ (32 :: br (isAO a) (wr a))
/-! ### tokens -/
def qLen : Tx → Option Nat
  | [] => none
  | [c] => if c = 34 then some 1 else none
  | c :: d :: r => if c = 34 then some 1 else if c = 92 then (qLen r).map (· + 2) else (qLen (d :: r)).map (· + 1)
def signLen (l : Tx) : Option Nat := (signs.find? fun s => l.take s.length == s).map List.length
def wLen : Tx → Option Nat
  | [] => none
  | c :: r => if c = 34 then (qLen r).map (· + 1) else if alnum c then some ((r.takeWhile alnum).length + 1) else signLen (c :: r)
def toks : Nat → Tx → Option (List Tx)
  | _, [] => some []
  | 0, _ :: _ => none
  | n + 1, c :: r => if c = 32 then toks n r else
    match wLen (c :: r) with
    | none => none
    | some k => (toks n ((c :: r).drop k)).map ((c :: r).take k :: ·)
def tokens (l : Tx) : Option (List Tx) := toks l.length l
/-! ### the values' tokens -/
def unq : Bool → Tx → Option Tx
  | _, [] => some []
  | e, c :: r => if inCh c then (if c = 92 ∧ e = false then unq true r else (unq false r).map (c :: ·)) else none
def inner (t : Tx) : Tx := (t.drop 1).dropLast
def numOf (t : Tx) : Option Nat := if t = [] then none else if t.length ≤ 1000 then (if t.all isDig then some (PySem.NumText.digitsVal t) else none) else none
/-! ### reading -/
def hdQ : List Tx → Bool
  | (c :: _) :: _ => decide (c = 34)
  | _ => false
def hdD : List Tx → Bool
  | (c :: _) :: _ => isDig c
  | _ => false
def hdIs (w : Tx) : List Tx → Bool
  | t :: _ => decide (t = w)
  | [] => false
abbrev Rd (α : Type) := List Tx → Option (α × List Tx)
def rNum : Rd Nat
  | t :: r => (numOf t).map (·, r)
  | [] => none
def rStr : Rd Tx
  | t :: r => (unq false (inner t)).map (·, r)
  | [] => none
def need (w : Tx) (ts : List Tx) : Option (List Tx) := if hdIs w ts then some ts.tail else none
def rVal (ts : List Tx) : Option (Val × List Tx) :=
  if hdQ ts then (rStr ts).map fun p => (.txt p.1, p.2)
  else if hdIs [45] ts then (rNum ts.tail).map fun p => (.num (-(p.1 : Int)), p.2)
  else (rNum ts).map fun p => (.num (p.1 : Int), p.2)
def rVs : Nat → List Val → List Tx → Option (List Val × List Tx)
  | 0, acc, ts => if hdIs [44] ts then none else some (acc, ts)
  | n + 1, acc, ts => if hdIs [44] ts then (rVal ts.tail).bind fun p => rVs n (acc ++ [p.1]) p.2 else some (acc, ts)
def rVals (ts : List Tx) : Option (List Val × List Tx) :=
  (need [40] ts).bind fun r => (rVal r).bind fun p => (rVs p.2.length [p.1] p.2).bind fun q => (need [41] q.2).map fun r => (q.1, r)
def rMore (ts : List Tx) : Option (Int × List Tx) :=
  if hdIs [43] ts then (rNum ts.tail).map fun p => ((p.1 : Int), p.2)
  else if hdIs [45] ts then (rNum ts.tail).map fun p => (-(p.1 : Int), p.2)
  else some (0, ts)
def mkEmp (c : Tx) : Option Tree := if isName c then some (.emp c) else none
def mkBeg (c p : Tx) : Option Tree := if isName c then (if isText p then some (.beg c p) else none) else none
def mkAmg (c : Tx) (vs : List Val) : Option Tree := if isName c then (if 1 ≤ vs.length ∧ vs.length ≤ 8 then (if vs.all valOk then some (.amg c vs) else none) else none) else none
def mkCmp (c op : Tx) (v : Val) : Option Tree := if isName c then (if ops.contains op then (if valOk v then some (.cmp c op v) else none) else none) else none
def mkAgn (c op o : Tx) (m : Int) : Option Tree := if isName c then (if ops.contains op then (if isName o ∧ o ≠ c then some (.agn c op o m) else none) else none) else none
def take1 : Rd Tx
  | t :: r => some (t, r)
  | [] => none
def rAt2 (name word : Tx) (ts : List Tx) : Option (Tree × List Tx) :=
  if word = kIs then (need kEmpty ts).bind fun r => (mkEmp name).map (·, r)
  else if word = kBegins then (if hdQ ts then (rStr ts).bind fun p => (mkBeg name p.1).map (·, p.2) else none)
  else if word = kIn then (rVals ts).bind fun p => (mkAmg name p.1).map (·, p.2)
  else if hdQ ts || hdIs [45] ts || hdD ts then (rVal ts).bind fun p => (mkCmp name word p.1).map (·, p.2)
  else (take1 ts).bind fun p => (rMore p.2).bind fun q => (mkAgn name word p.1 q.1).map (·, q.2)
def rAtom (ts : List Tx) : Option (Tree × List Tx) :=
  (take1 ts).bind fun p => if p.1 = kAlways then some (.alw, p.2) else if p.1 = kNever then some (.nev, p.2)
    else (take1 p.2).bind fun q => rAt2 p.1 q.1 q.2
def loopA (P : Rd Tree) : Nat → Tree → List Tx → Option (Tree × List Tx)
  | 0, x, ts => if hdIs kAnd ts then none else some (x, ts)
  | n + 1, x, ts => if hdIs kAnd ts then (P ts.tail).bind fun p => (lim (.and x p.1)).bind fun z => loopA P n z p.2 else some (x, ts)
def rAnd (P : Rd Tree) (ts : List Tx) : Option (Tree × List Tx) := (P ts).bind fun p => loopA P p.2.length p.1 p.2
def loopO (P : Rd Tree) : Nat → Tree → List Tx → Option (Tree × List Tx)
  | 0, x, ts => if hdIs kOr ts then none else some (x, ts)
  | n + 1, x, ts => if hdIs kOr ts then (rAnd P ts.tail).bind fun p => (lim (.or x p.1)).bind fun z => loopO P n z p.2 else some (x, ts)
def rOr (P : Rd Tree) (ts : List Tx) : Option (Tree × List Tx) := (rAnd P ts).bind fun p => loopO P p.2.length p.1 p.2
def rPart : Nat → Rd Tree
  | 0, _ => none
  | m + 1, ts =>
    if hdIs [40] ts then (rOr (rPart m) ts.tail).bind fun p => (need [41] p.2).map fun r => (p.1, r)
    else if hdIs kNot ts then (rPart m ts.tail).bind fun p => (lim (.not p.1)).map (·, p.2)
    else if hdIs kSure ts then (rPart m ts.tail).bind fun p => (lim (.sure p.1)).map (·, p.2)
    else rAtom ts
def parse (l : Tx) : Option Tree := (tokens l).bind fun ts => (rOr (rPart 24) ts).map (·.1)
/-- the law's question: the text is read, and it is what is read -/
def reads (l : Tx) : Bool := match parse l with
  | some t => decide (wr t = l)
  | none => false
end TwP
end

section
set_option Elab.async false
set_option linter.all false
set_option maxRecDepth 100000
set_option maxHeartbeats 2000000
/-! The mirror's theorems: what is written is read back. -/
namespace TwP
open PySem.NumText
/-! ### tokens -/
theorem wLen_cons (c : Nat) (r : Tx) : wLen (c :: r) = if c = 34 then (qLen r).map (· + 1) else if alnum c then some ((r.takeWhile alnum).length + 1) else signLen (c :: r) := rfl
theorem toks_cons (n c : Nat) (r : Tx) : toks (n + 1) (c :: r) = if c = 32 then toks n r else match wLen (c :: r) with
    | none => none
    | some k => (toks n ((c :: r).drop k)).map ((c :: r).take k :: ·) := rfl
theorem wLen_pos {l : Tx} {k : Nat} (h : wLen l = some k) : 1 ≤ k := by
  cases l with
  | nil => cases h
  | cons c r =>
    rw [wLen_cons] at h
    split at h
    · obtain ⟨n, _, e⟩ := Option.map_eq_some_iff.mp h
      omega
    · split at h
      · injection h with h
        omega
      · unfold signLen at h
        obtain ⟨s, hs, e⟩ := Option.map_eq_some_iff.mp h
        have hm := List.mem_of_find?_eq_some hs
        have all : ∀ s ∈ signs, 1 ≤ s.length := by decide
        have := all s hm
        omega
theorem toks_fuel : ∀ (n m : Nat) (l : Tx), l.length ≤ n → l.length ≤ m → toks n l = toks m l
  | n, m, [], _, _ => by
    cases n <;> cases m <;> rfl
  | 0, _, _ :: _, h, _ => by simp at h
  | _ + 1, 0, _ :: _, _, h => by simp at h
  | n + 1, m + 1, c :: r, h, h' => by
    have h1 : r.length ≤ n := by simpa using h
    have h2 : r.length ≤ m := by simpa using h'
    unfold toks
    split
    · exact toks_fuel n m r h1 h2
    · cases e : wLen (c :: r) with
      | none => rfl
      | some k =>
        have hk := wLen_pos e
        have hd : ((c :: r).drop k).length ≤ r.length := by
          rw [List.length_drop, List.length_cons]
          omega
        show (toks n ((c :: r).drop k)).map _ = (toks m ((c :: r).drop k)).map _
        rw [toks_fuel n m _ (by omega) (by omega)]
theorem tokens_nil : tokens [] = some [] := rfl
theorem tokens_sp (r : Tx) : tokens (32 :: r) = tokens r := by
  unfold tokens
  show toks (r.length + 1) (32 :: r) = _
  rw [toks_cons, if_pos rfl]
theorem tokens_some {c : Nat} {r : Tx} {k : Nat} (hc : c ≠ 32) (h : wLen (c :: r) = some k) : tokens (c :: r) = (tokens ((c :: r).drop k)).map ((c :: r).take k :: ·) := by
  unfold tokens
  show toks (r.length + 1) (c :: r) = _
  have hk := wLen_pos h
  have hd : ((c :: r).drop k).length ≤ r.length := by
    rw [List.length_drop, List.length_cons]
    omega
  rw [toks_cons, if_neg hc, h]
  show (toks r.length ((c :: r).drop k)).map _ = _
  rw [toks_fuel r.length ((c :: r).drop k).length _ hd (Nat.le_refl _)]
theorem tokens_none {c : Nat} {r : Tx} (hc : c ≠ 32) (h : wLen (c :: r) = none) : tokens (c :: r) = none := by
  unfold tokens
  show toks (r.length + 1) (c :: r) = _
  rw [toks_cons, if_neg hc, h]
/-- every token is a part of the text -/
theorem toks_le : ∀ (n : Nat) (l : Tx) (ts : List Tx), toks n l = some ts → ∀ t ∈ ts, 1 ≤ t.length ∧ t.length ≤ l.length
  | _, [], ts, h => by
    have e : ts = [] := by
      rw [show toks _ [] = some [] by unfold toks; rfl] at h
      exact (Option.some.inj h).symm
    subst e
    intro t ht
    cases ht
  | 0, _ :: _, _, h => by cases h
  | n + 1, c :: r, ts, h => by
    unfold toks at h
    split at h
    · intro t ht
      have := toks_le n r ts h t ht
      rw [List.length_cons]
      omega
    · cases e : wLen (c :: r) with
      | none =>
        rw [e] at h
        cases h
      | some k =>
        rw [e] at h
        have h' : (toks n ((c :: r).drop k)).map ((c :: r).take k :: ·) = some ts := h
        obtain ⟨ts', h1, rfl⟩ := Option.map_eq_some_iff.mp h'
        have hk := wLen_pos e
        intro t ht
        rcases List.mem_cons.mp ht with rfl | ht
        · rw [List.length_take, List.length_cons]
          omega
        · have := toks_le n _ ts' h1 t ht
          rw [List.length_drop] at this
          omega
theorem tokens_le {l : Tx} {ts : List Tx} (h : tokens l = some ts) : ∀ t ∈ ts, 1 ≤ t.length ∧ t.length ≤ l.length := toks_le _ _ _ h
/-- what may follow a word or an operator -/
def Sep (l : Tx) : Prop := l = [] ∨ ∃ c r, l = c :: r ∧ alnum c = false ∧ c ≠ 61
theorem sep_nil : Sep [] := .inl rfl
theorem sep_cons {c : Nat} {r : Tx} (h : alnum c = false := by decide) (h2 : c ≠ 61 := by decide) : Sep (c :: r) := .inr ⟨c, r, rfl, h, h2⟩
theorem Sep.app {l m : Tx} (h : Sep l) (h2 : l ≠ []) : Sep (l ++ m) := by
  rcases h with e | ⟨c, r, rfl, a, b⟩
  · exact absurd e h2
  · exact .inr ⟨c, r ++ m, rfl, a, b⟩
/-- the text l is the tokens ts, whatever stands behind -/
def Tk (l : Tx) (ts : List Tx) : Prop := ∀ rest, Sep rest → tokens (l ++ rest) = (tokens rest).map (ts ++ ·)
theorem map_map {ts us : List Tx} {o : Option (List Tx)} : (o.map (us ++ ·)).map (ts ++ ·) = o.map ((ts ++ us) ++ ·) := by
  cases o with
  | none => rfl
  | some x => show some (ts ++ (us ++ x)) = some ((ts ++ us) ++ x); rw [List.append_assoc]
theorem Tk.app {l m : Tx} {ts us : List Tx} (h : Tk l ts) (h2 : Tk m us) (s : Sep m) (ne : m ≠ []) : Tk (l ++ m) (ts ++ us) := fun rest hr => by
  rw [List.append_assoc, h (m ++ rest) (s.app ne), h2 rest hr, map_map]
theorem Tk.sp {l : Tx} {ts : List Tx} (h : Tk l ts) : Tk (32 :: l) ts := fun rest hr => by
  rw [List.cons_append, tokens_sp, h rest hr]
theorem tk_one {l : Tx} (hne : l ≠ []) (hc : l.head? ≠ some 32) (h : ∀ rest, Sep rest → wLen (l ++ rest) = some l.length) : Tk l [l] := fun rest hr => by
  cases l with
  | nil => exact absurd rfl hne
  | cons c r =>
    have e := h rest hr
    have e1 := tokens_some (c := c) (r := r ++ rest) (fun z => hc (by rw [z]; rfl)) e
    rw [List.cons_append, e1]
    have e2 : (c :: (r ++ rest)).drop (c :: r).length = rest := List.drop_left' (l₁ := c :: r) rfl
    have e3 : (c :: (r ++ rest)).take (c :: r).length = c :: r := List.take_left' (l₁ := c :: r) rfl
    rw [e2, e3]
    rfl
theorem alnum_ne {c d : Nat} (h : alnum c = true) (hd : alnum d = false := by decide) : c ≠ d := fun z => by rw [z, hd] at h; cases h
theorem takeWhile_word {r rest : Tx} (h : ∀ c ∈ r, alnum c = true) (hr : Sep rest) : (r ++ rest).takeWhile alnum = r := by
  induction r with
  | nil =>
    rcases hr with rfl | ⟨c, x, rfl, a, _⟩
    · rfl
    · show (c :: x).takeWhile alnum = []
      rw [List.takeWhile_cons, a]
      rfl
  | cons d r ih =>
    rw [List.cons_append, List.takeWhile_cons, h d List.mem_cons_self]
    show d :: (r ++ rest).takeWhile alnum = d :: r
    rw [ih fun c hc => h c (List.mem_cons_of_mem _ hc)]
theorem tk_word {l : Tx} (hne : l ≠ []) (h : ∀ c ∈ l, alnum c = true) : Tk l [l] := by
  refine tk_one hne ?_ fun rest hr => ?_
  · cases l with
    | nil => exact absurd rfl hne
    | cons c r =>
      intro z
      injection z with z
      exact alnum_ne (h c List.mem_cons_self) (d := 32) (by decide) z
  · cases l with
    | nil => exact absurd rfl hne
    | cons c r =>
      have hc := h c List.mem_cons_self
      show (if c = 34 then (qLen (r ++ rest)).map (· + 1) else if alnum c = true then some (((r ++ rest).takeWhile alnum).length + 1) else signLen (c :: (r ++ rest))) = _
      rw [if_neg (alnum_ne hc (d := 34)), if_pos hc, takeWhile_word (fun d hd => h d (List.mem_cons_of_mem _ hd)) hr]
      rfl
theorem sign1 (c : Nat) (hc : c = 40 ∨ c = 41 ∨ c = 44 ∨ c = 43 ∨ c = 45) (x : Tx) : wLen (c :: x) = some 1 := by
  rcases hc with rfl | rfl | rfl | rfl | rfl <;> (cases x <;> simp [wLen, signLen, signs, alnum, isLet, isDig])
theorem tk_sign (c : Nat) (hc : c = 40 ∨ c = 41 ∨ c = 44 ∨ c = 43 ∨ c = 45) {l : Tx} {ts : List Tx} (h : Tk l ts) : Tk (c :: l) ([c] :: ts) := fun rest hr => by
  have hn : c ≠ 32 := by omega
  rw [List.cons_append, tokens_some hn (sign1 c hc _)]
  show (tokens (l ++ rest)).map _ = _
  rw [h rest hr]
  cases tokens rest <;> rfl
theorem tk_nil : Tk [] [] := fun rest _ => by
  show tokens rest = _
  cases tokens rest <;> rfl
theorem tk_op {op : Tx} (h : op ∈ ops) : Tk op [op] := by
  have key : ∀ op ∈ ops, op ≠ [] ∧ op.head? ≠ some 32 := by decide
  refine tk_one (key op h).1 (key op h).2 fun rest hr => ?_
  have h' : op = [60] ∨ op = [60, 61] ∨ op = [61, 61] ∨ op = [33, 61] ∨ op = [62] ∨ op = [62, 61] := by simpa [ops] using h
  rcases hr with rfl | ⟨c, x, rfl, a, b⟩
  · rcases h' with rfl | rfl | rfl | rfl | rfl | rfl <;> decide
  · rcases h' with rfl | rfl | rfl | rfl | rfl | rfl <;> simp [wLen, signLen, signs, alnum, isLet, isDig, b]
theorem qLen_plain {c : Nat} {x : Tx} (h1 : c ≠ 34) (h2 : c ≠ 92) (hx : x ≠ []) : qLen (c :: x) = (qLen x).map (· + 1) := by
  cases x with
  | nil => exact absurd rfl hx
  | cons d r =>
    conv => lhs; unfold qLen
    rw [if_neg h1, if_neg h2]
theorem qLen_esc : ∀ (l rest : Tx), qLen (esc l ++ 34 :: rest) = some ((esc l).length + 1)
  | [], rest => by
    show qLen (34 :: rest) = some 1
    cases rest <;> (unfold qLen; rfl)
  | c :: r, rest => by
    have ih := qLen_esc r rest
    by_cases h : c = 34 ∨ c = 92
    · have e : esc (c :: r) = 92 :: c :: esc r := by
        show (if c = 34 ∨ c = 92 then [92, c] else [c]) ++ esc r = _
        rw [if_pos h]
        rfl
      rw [e]
      show qLen (92 :: c :: (esc r ++ 34 :: rest)) = some ((esc r).length + 2 + 1)
      unfold qLen
      rw [if_neg (by decide), if_pos rfl, ih]
      rfl
    · have e : esc (c :: r) = c :: esc r := by
        show (if c = 34 ∨ c = 92 then [92, c] else [c]) ++ esc r = _
        rw [if_neg h]
        rfl
      rw [e, List.cons_append, qLen_plain (fun z => h (.inl z)) (fun z => h (.inr z)) (by simp), ih]
      rfl
theorem tk_quot (l : Tx) : Tk (wrV (.txt l)) [wrV (.txt l)] := by
  refine tk_one (by simp [wrV]) (by simp [wrV]) fun rest _ => ?_
  show wLen ((34 :: (esc l ++ [34])) ++ rest) = _
  have e : (34 :: (esc l ++ [34])) ++ rest = 34 :: (esc l ++ 34 :: rest) := by simp
  rw [e]
  rw [wLen_cons, if_pos rfl, qLen_esc]
  simp [wrV]
/-! ### the tokens of a tree -/
def tkV : Val → List Tx
  | .num i => if i < 0 then [[45], TL.numL i.natAbs] else [TL.numL i.natAbs]
  | .txt l => [wrV (.txt l)]
def tkR : List Val → List Tx
  | [] => []
  | v :: r => [44] :: (tkV v ++ tkR r)
def tkJ : List Val → List Tx
  | [] => []
  | v :: r => tkV v ++ tkR r
def tkM (m : Int) : List Tx := if m = 0 then [] else if 0 < m then [[43], TL.numL m.natAbs] else [[45], TL.numL m.natAbs]
def brT (b : Bool) (ts : List Tx) : List Tx := if b then [40] :: (ts ++ [[41]]) else ts
def tk : Tree → List Tx
  | .cmp c op v => c :: op :: tkV v
  | .agn c op o m => c :: op :: o :: tkM m
  | .amg c vs => c :: kIn :: [40] :: (tkJ vs ++ [[41]])
  | .beg c p => [c, kBegins, wrV (.txt p)]
  | .emp c => [c, kIs, kEmpty]
  | .alw => [kAlways]
  | .nev => [kNever]
  | .and a b => brT (isO a) (tk a) ++ kAnd :: brT (isAO b) (tk b)
  | .or a b => tk a ++ kOr :: brT (isO b) (tk b)
  | .not a => kNot :: brT (isAO a) (tk a)
  | .sure a => kSure :: brT (isAO a) (tk a)
def vGood : Val → Prop
  | .num i => (TL.numL i.natAbs).length ≤ 1000
  | .txt l => isText l = true
def Good : Tree → Prop
  | .cmp c op v => isName c = true ∧ op ∈ ops ∧ vGood v
  | .agn c op o m => isName c = true ∧ op ∈ ops ∧ isName o = true ∧ o ≠ c ∧ vGood (.num m)
  | .amg c vs => isName c = true ∧ 1 ≤ vs.length ∧ vs.length ≤ 8 ∧ ∀ v ∈ vs, vGood v
  | .beg c p => isName c = true ∧ isText p = true
  | .emp c => isName c = true
  | .alw => True
  | .nev => True
  | .and a b => Good a ∧ Good b
  | .or a b => Good a ∧ Good b
  | .not a => Good a
  | .sure a => Good a
theorem numL_alnum (n : Nat) : ∀ c ∈ TL.numL n, alnum c = true := fun c hc => by
  have h := TL.numL_digits n c hc
  unfold alnum isDig
  rw [Bool.or_eq_true]
  right
  have h2 : 48 ≤ c ∧ c ≤ 57 := h
  simp [h2]
theorem tk_num (n : Nat) : Tk (TL.numL n) [TL.numL n] := tk_word (TL.numL_ne n) (numL_alnum n)
theorem tk_val (v : Val) : Tk (wrV v) (tkV v) := by
  cases v with
  | num i =>
    show Tk (intL i) (if i < 0 then [[45], TL.numL i.natAbs] else [TL.numL i.natAbs])
    unfold intL
    by_cases h : i < 0
    · rw [if_pos h, if_pos h]
      exact tk_sign 45 (by omega) (tk_num _)
    · rw [if_neg h, if_neg h]
      exact tk_num _
  | txt l => exact tk_quot l
theorem name_word {c : Tx} (h : isName c = true) : c ≠ [] ∧ ∀ d ∈ c, alnum d = true := by
  cases c with
  | nil => cases h
  | cons d r =>
    unfold isName at h
    rw [Bool.and_eq_true] at h
    exact ⟨by simp, fun e he => List.all_eq_true.mp h.2 e he⟩
theorem tk_name {c : Tx} (h : isName c = true) : Tk c [c] := tk_word (name_word h).1 (name_word h).2
def joinR : List Val → Tx
  | [] => []
  | v :: r => 44 :: 32 :: (wrV v ++ joinR r)
theorem joinV_R : ∀ (v : Val) (r : List Val), joinV (v :: r) = wrV v ++ joinR r
  | v, [] => by
    show wrV v = wrV v ++ []
    rw [List.append_nil]
  | v, w :: r => by
    show wrV v ++ ([44, 32] ++ joinV (w :: r)) = wrV v ++ (44 :: 32 :: (wrV w ++ joinR r))
    rw [joinV_R w r]
    rfl
theorem tk_joinR : ∀ r : List Val, Tk (joinR r ++ [41]) (tkR r ++ [[41]])
  | [] => tk_sign 41 (by omega) tk_nil
  | v :: r => by
    have h : Tk (44 :: 32 :: (wrV v ++ (joinR r ++ [41]))) ([44] :: (tkV v ++ (tkR r ++ [[41]]))) := by
      refine tk_sign 44 (by omega) (Tk.sp ((tk_val v).app (tk_joinR r) ?_ (by simp)))
      cases r with
      | nil => exact sep_cons
      | cons w r => exact sep_cons
    have e1 : joinR (v :: r) ++ [41] = 44 :: 32 :: (wrV v ++ (joinR r ++ [41])) := by simp [joinR]
    have e2 : tkR (v :: r) ++ [[41]] = [44] :: (tkV v ++ (tkR r ++ [[41]])) := by simp [tkR]
    rw [e1, e2]
    exact h
theorem tk_joinV : ∀ vs : List Val, Tk (joinV vs ++ [41]) (tkJ vs ++ [[41]])
  | [] => tk_sign 41 (by omega) tk_nil
  | v :: r => by
    have h : Tk (wrV v ++ (joinR r ++ [41])) (tkV v ++ (tkR r ++ [[41]])) := by
      refine (tk_val v).app (tk_joinR r) ?_ (by simp)
      cases r with
      | nil => exact sep_cons
      | cons w r => exact sep_cons
    rw [joinV_R, List.append_assoc]
    show Tk _ (tkV v ++ tkR r ++ [[41]])
    rw [List.append_assoc]
    exact h
theorem tk_br {b : Bool} {l : Tx} {ts : List Tx} (h : Tk l ts) : Tk (br b l) (brT b ts) := by
  cases b with
  | false => exact h
  | true =>
    show Tk (40 :: (l ++ [41])) ([40] :: (ts ++ [[41]]))
    exact tk_sign 40 (by omega) (h.app (tk_sign 41 (by omega) tk_nil) sep_cons (by simp))
theorem tk_kw {w l : Tx} {ts : List Tx} (hw : w ≠ [] ∧ ∀ c ∈ w, alnum c = true) (h : Tk l ts) : Tk (w ++ 32 :: l) (w :: ts) := (tk_word hw.1 hw.2).app h.sp sep_cons (by simp)
theorem intL_pos {m : Int} (h : 0 < m) : intL m = TL.numL m.natAbs := by
  unfold intL
  rw [if_neg (by omega)]
theorem tk_wr : ∀ t : Tree, Good t → Tk (wr t) (tk t)
  | .cmp c op v, ⟨h1, h2, _⟩ => (tk_name h1).app ((tk_op h2).app (tk_val v).sp sep_cons (by simp)).sp sep_cons (by simp)
  | .agn c op o m, ⟨h1, h2, h3, _, _⟩ => by
    refine (tk_name h1).app (us := op :: o :: tkM m) (Tk.sp ((tk_op h2).app (us := o :: tkM m) (Tk.sp ?_) sep_cons (by simp))) sep_cons (by simp)
    unfold wrMore tkM
    by_cases h0 : m = 0
    · rw [if_pos h0, if_pos h0, List.append_nil]
      exact tk_name h3
    · rw [if_neg h0, if_neg h0]
      by_cases hp : 0 < m
      · rw [if_pos hp, if_pos hp, intL_pos hp]
        exact (tk_name h3).app (Tk.sp (tk_sign 43 (by omega) (Tk.sp (tk_num _)))) sep_cons (by simp)
      · rw [if_neg hp, if_neg hp, intL_pos (by omega), Int.natAbs_neg]
        exact (tk_name h3).app (Tk.sp (tk_sign 45 (by omega) (Tk.sp (tk_num _)))) sep_cons (by simp)
  | .amg c vs, ⟨h1, _, _, _⟩ => (tk_name h1).app (Tk.sp (tk_kw (w := kIn) (by decide) (tk_sign 40 (by omega) (tk_joinV vs)))) sep_cons (by simp)
  | .beg c p, ⟨h1, _⟩ => (tk_name h1).app (Tk.sp (tk_kw (w := kBegins) (by decide) (tk_quot p))) sep_cons (by simp)
  | .emp c, h1 => (tk_name h1).app (Tk.sp (tk_kw (w := kIs) (by decide) (tk_word (l := kEmpty) (by decide) (by decide)))) sep_cons (by simp)
  | .alw, _ => tk_word (by decide) (by decide)
  | .nev, _ => tk_word (by decide) (by decide)
  | .and a b, ⟨ha, hb⟩ => (tk_br (tk_wr a ha)).app (Tk.sp (tk_kw (w := kAnd) (by decide) (tk_br (tk_wr b hb)))) sep_cons (by simp)
  | .or a b, ⟨ha, hb⟩ => (tk_wr a ha).app (Tk.sp (tk_kw (w := kOr) (by decide) (tk_br (tk_wr b hb)))) sep_cons (by simp)
  | .not a, ha => tk_kw (w := kNot) (by decide) (tk_br (tk_wr a ha))
  | .sure a, ha => tk_kw (w := kSure) (by decide) (tk_br (tk_wr a ha))
theorem tokens_wr {t : Tree} (h : Good t) (rest : Tx) (hr : Sep rest) : tokens (wr t ++ rest) = (tokens rest).map (tk t ++ ·) := tk_wr t h rest hr
end TwP
end

section
set_option Elab.async false
set_option linter.all false
set_option maxRecDepth 100000
set_option maxHeartbeats 2000000
/-! The mirror's theorems: the reader gives back the tree. -/
namespace TwP
open PySem.NumText
/-! ### what is left is an end of what was there -/
def Sh {α : Type} (P : Rd α) : Prop := ∀ ts x r, P ts = some (x, r) → r <:+ ts
theorem hdIs_tail {w : Tx} {ts : List Tx} (h : hdIs w ts = true) : ∃ r, ts = w :: r := by
  cases ts with
  | nil => cases h
  | cons t r =>
    have e : t = w := of_decide_eq_true h
    exact ⟨r, by rw [e]⟩
theorem tail_suf (ts : List Tx) : ts.tail <:+ ts := List.tail_suffix ts
theorem need_suf {w : Tx} {ts r : List Tx} (h : need w ts = some r) : r <:+ ts := by
  unfold need at h
  split at h
  · injection h with h
    rw [← h]
    exact tail_suf ts
  · cases h
theorem sh_num : Sh rNum := fun ts x r h => by
  cases ts with
  | nil => cases h
  | cons t u =>
    obtain ⟨n, _, e⟩ := Option.map_eq_some_iff.mp (show (numOf t).map (·, u) = some (x, r) from h)
    cases e
    exact List.suffix_cons _ _
theorem sh_str : Sh rStr := fun ts x r h => by
  cases ts with
  | nil => cases h
  | cons t u =>
    obtain ⟨n, _, e⟩ := Option.map_eq_some_iff.mp (show (unq false (inner t)).map (·, u) = some (x, r) from h)
    cases e
    exact List.suffix_cons _ _
theorem sh_val : Sh rVal := fun ts x r h => by
  unfold rVal at h
  split at h
  · obtain ⟨⟨p, q⟩, h1, e⟩ := Option.map_eq_some_iff.mp h
    cases e
    exact sh_str _ _ _ h1
  · split at h
    · obtain ⟨⟨p, q⟩, h1, e⟩ := Option.map_eq_some_iff.mp h
      cases e
      exact (sh_num _ _ _ h1).trans (tail_suf ts)
    · obtain ⟨⟨p, q⟩, h1, e⟩ := Option.map_eq_some_iff.mp h
      cases e
      exact sh_num _ _ _ h1
theorem sh_vs : ∀ (n : Nat) (acc : List Val), Sh (rVs n acc)
  | 0, acc, ts, x, r, h => by
    unfold rVs at h
    split at h
    · cases h
    · cases h
      exact List.suffix_refl _
  | n + 1, acc, ts, x, r, h => by
    unfold rVs at h
    split at h
    · obtain ⟨⟨p, q⟩, h1, h2⟩ := Option.bind_eq_some_iff.mp h
      exact ((sh_vs n _ _ _ _ h2).trans (sh_val _ _ _ h1)).trans (tail_suf ts)
    · cases h
      exact List.suffix_refl _
theorem sh_vals : Sh rVals := fun ts x r h => by
  unfold rVals at h
  obtain ⟨r1, h1, h⟩ := Option.bind_eq_some_iff.mp h
  obtain ⟨⟨v, r2⟩, h2, h⟩ := Option.bind_eq_some_iff.mp h
  obtain ⟨⟨vs, r3⟩, h3, h⟩ := Option.bind_eq_some_iff.mp h
  obtain ⟨r4, h4, e⟩ := Option.map_eq_some_iff.mp h
  cases e
  exact (((need_suf h4).trans (sh_vs _ _ _ _ _ h3)).trans (sh_val _ _ _ h2)).trans (need_suf h1)
theorem sh_more : Sh rMore := fun ts x r h => by
  unfold rMore at h
  split at h
  · obtain ⟨⟨p, q⟩, h1, e⟩ := Option.map_eq_some_iff.mp h
    cases e
    exact (sh_num _ _ _ h1).trans (tail_suf ts)
  · split at h
    · obtain ⟨⟨p, q⟩, h1, e⟩ := Option.map_eq_some_iff.mp h
      cases e
      exact (sh_num _ _ _ h1).trans (tail_suf ts)
    · cases h
      exact List.suffix_refl _
theorem sh_take : Sh take1 := fun ts x r h => by
  cases ts with
  | nil => cases h
  | cons t u =>
    cases h
    exact List.suffix_cons _ _
theorem sh_at2 (name word : Tx) : Sh (rAt2 name word) := fun ts x r h => by
  unfold rAt2 at h
  split at h
  · obtain ⟨r1, h1, h⟩ := Option.bind_eq_some_iff.mp h
    obtain ⟨t, _, e⟩ := Option.map_eq_some_iff.mp h
    cases e
    exact need_suf h1
  · split at h
    · split at h
      · obtain ⟨⟨p, q⟩, h1, h⟩ := Option.bind_eq_some_iff.mp h
        obtain ⟨t, _, e⟩ := Option.map_eq_some_iff.mp h
        cases e
        exact sh_str _ _ _ h1
      · cases h
    · split at h
      · obtain ⟨⟨p, q⟩, h1, h⟩ := Option.bind_eq_some_iff.mp h
        obtain ⟨t, _, e⟩ := Option.map_eq_some_iff.mp h
        cases e
        exact sh_vals _ _ _ h1
      · split at h
        · obtain ⟨⟨p, q⟩, h1, h⟩ := Option.bind_eq_some_iff.mp h
          obtain ⟨t, _, e⟩ := Option.map_eq_some_iff.mp h
          cases e
          exact sh_val _ _ _ h1
        · obtain ⟨⟨p, q⟩, h1, h⟩ := Option.bind_eq_some_iff.mp h
          obtain ⟨⟨m, q2⟩, h2, h⟩ := Option.bind_eq_some_iff.mp h
          obtain ⟨t, _, e⟩ := Option.map_eq_some_iff.mp h
          cases e
          exact (sh_more _ _ _ h2).trans (sh_take _ _ _ h1)
theorem sh_atom : Sh rAtom := fun ts x r h => by
  unfold rAtom at h
  obtain ⟨⟨p, q⟩, h1, h⟩ := Option.bind_eq_some_iff.mp h
  have s1 := sh_take _ _ _ h1
  dsimp only at h
  split at h
  · cases h
    exact s1
  · split at h
    · cases h
      exact s1
    · obtain ⟨⟨p2, q2⟩, h2, h⟩ := Option.bind_eq_some_iff.mp h
      exact ((sh_at2 _ _ _ _ _ h).trans (sh_take _ _ _ h2)).trans s1
theorem sh_loopA {P : Rd Tree} (hP : Sh P) : ∀ (n : Nat) (x : Tree), Sh (loopA P n x)
  | 0, x, ts, y, r, h => by
    unfold loopA at h
    split at h
    · cases h
    · cases h
      exact List.suffix_refl _
  | n + 1, x, ts, y, r, h => by
    unfold loopA at h
    split at h
    · obtain ⟨⟨p, q⟩, h1, h2⟩ := Option.bind_eq_some_iff.mp h
      obtain ⟨z, _, h3⟩ := Option.bind_eq_some_iff.mp h2
      exact ((sh_loopA hP n _ _ _ _ h3).trans (hP _ _ _ h1)).trans (tail_suf ts)
    · cases h
      exact List.suffix_refl _
theorem sh_and {P : Rd Tree} (hP : Sh P) : Sh (rAnd P) := fun ts x r h => by
  unfold rAnd at h
  obtain ⟨⟨p, q⟩, h1, h2⟩ := Option.bind_eq_some_iff.mp h
  exact (sh_loopA hP _ _ _ _ _ h2).trans (hP _ _ _ h1)
theorem sh_loopO {P : Rd Tree} (hP : Sh P) : ∀ (n : Nat) (x : Tree), Sh (loopO P n x)
  | 0, x, ts, y, r, h => by
    unfold loopO at h
    split at h
    · cases h
    · cases h
      exact List.suffix_refl _
  | n + 1, x, ts, y, r, h => by
    unfold loopO at h
    split at h
    · obtain ⟨⟨p, q⟩, h1, h2⟩ := Option.bind_eq_some_iff.mp h
      obtain ⟨z, _, h3⟩ := Option.bind_eq_some_iff.mp h2
      exact ((sh_loopO hP n _ _ _ _ h3).trans (sh_and hP _ _ _ h1)).trans (tail_suf ts)
    · cases h
      exact List.suffix_refl _
theorem sh_or {P : Rd Tree} (hP : Sh P) : Sh (rOr P) := fun ts x r h => by
  unfold rOr at h
  obtain ⟨⟨p, q⟩, h1, h2⟩ := Option.bind_eq_some_iff.mp h
  exact (sh_loopO hP _ _ _ _ _ h2).trans (sh_and hP _ _ _ h1)
theorem rPart_succ (m : Nat) (ts : List Tx) : rPart (m + 1) ts = if hdIs [40] ts then (rOr (rPart m) ts.tail).bind fun p => (need [41] p.2).map fun r => (p.1, r)
    else if hdIs kNot ts then (rPart m ts.tail).bind fun p => (lim (.not p.1)).map (·, p.2)
    else if hdIs kSure ts then (rPart m ts.tail).bind fun p => (lim (.sure p.1)).map (·, p.2)
    else rAtom ts := rfl
theorem sh_part : ∀ m : Nat, Sh (rPart m)
  | 0, ts, x, r, h => by cases h
  | m + 1, ts, x, r, h => by
    rw [rPart_succ] at h
    split at h
    · obtain ⟨⟨p, q⟩, h1, h2⟩ := Option.bind_eq_some_iff.mp h
      obtain ⟨r1, h3, e⟩ := Option.map_eq_some_iff.mp h2
      cases e
      exact ((need_suf h3).trans (sh_or (sh_part m) _ _ _ h1)).trans (tail_suf ts)
    · split at h
      · obtain ⟨⟨p, q⟩, h1, h2⟩ := Option.bind_eq_some_iff.mp h
        obtain ⟨r1, h3, e⟩ := Option.map_eq_some_iff.mp h2
        cases e
        exact (sh_part m _ _ _ h1).trans (tail_suf ts)
      · split at h
        · obtain ⟨⟨p, q⟩, h1, h2⟩ := Option.bind_eq_some_iff.mp h
          obtain ⟨r1, h3, e⟩ := Option.map_eq_some_iff.mp h2
          cases e
          exact (sh_part m _ _ _ h1).trans (tail_suf ts)
        · exact sh_atom _ _ _ h
/-! ### the loops, whatever fuel -/
theorem loopA_stop {P : Rd Tree} {n : Nat} {x : Tree} {ts : List Tx} (h : hdIs kAnd ts = false) : loopA P n x ts = some (x, ts) := by
  cases n <;> (unfold loopA; rw [if_neg (by rw [h]; decide)])
theorem loopO_stop {P : Rd Tree} {n : Nat} {x : Tree} {ts : List Tx} (h : hdIs kOr ts = false) : loopO P n x ts = some (x, ts) := by
  cases n <;> (unfold loopO; rw [if_neg (by rw [h]; decide)])
theorem loopA_succ {P : Rd Tree} (n : Nat) (x : Tree) (ts : List Tx) : loopA P (n + 1) x ts = if hdIs kAnd ts then (P ts.tail).bind fun p => (lim (.and x p.1)).bind fun z => loopA P n z p.2 else some (x, ts) := rfl
theorem loopO_succ {P : Rd Tree} (n : Nat) (x : Tree) (ts : List Tx) : loopO P (n + 1) x ts = if hdIs kOr ts then (rAnd P ts.tail).bind fun p => (lim (.or x p.1)).bind fun z => loopO P n z p.2 else some (x, ts) := rfl
theorem loopA_fuel {P : Rd Tree} (hP : Sh P) : ∀ (n m : Nat) (x : Tree) (ts : List Tx), ts.length ≤ n → ts.length ≤ m → loopA P n x ts = loopA P m x ts
  | n, m, x, [], _, _ => by rw [loopA_stop rfl, loopA_stop rfl]
  | 0, _, _, _ :: _, h, _ => by simp at h
  | _ + 1, 0, _, _ :: _, _, h => by simp at h
  | n + 1, m + 1, x, t :: ts, h, h' => by
    have h1 : ts.length ≤ n := by simpa using h
    have h2 : ts.length ≤ m := by simpa using h'
    unfold loopA
    split
    · show (P ts).bind _ = (P ts).bind _
      cases e : P ts with
      | none => rfl
      | some p =>
        obtain ⟨y, r⟩ := p
        have hl := (hP _ _ _ e).length_le
        show (lim (.and x y)).bind _ = (lim (.and x y)).bind _
        cases lim (.and x y) with
        | none => rfl
        | some z => exact loopA_fuel hP n m z r (by omega) (by omega)
    · rfl
theorem loopO_fuel {P : Rd Tree} (hP : Sh P) : ∀ (n m : Nat) (x : Tree) (ts : List Tx), ts.length ≤ n → ts.length ≤ m → loopO P n x ts = loopO P m x ts
  | n, m, x, [], _, _ => by rw [loopO_stop rfl, loopO_stop rfl]
  | 0, _, _, _ :: _, h, _ => by simp at h
  | _ + 1, 0, _, _ :: _, _, h => by simp at h
  | n + 1, m + 1, x, t :: ts, h, h' => by
    have h1 : ts.length ≤ n := by simpa using h
    have h2 : ts.length ≤ m := by simpa using h'
    unfold loopO
    split
    · show (rAnd P ts).bind _ = (rAnd P ts).bind _
      cases e : rAnd P ts with
      | none => rfl
      | some p =>
        obtain ⟨y, r⟩ := p
        have hl := (sh_and hP _ _ _ e).length_le
        show (lim (.or x y)).bind _ = (lim (.or x y)).bind _
        cases lim (.or x y) with
        | none => rfl
        | some z => exact loopO_fuel hP n m z r (by omega) (by omega)
    · rfl
theorem hdIs_self (w : Tx) (r : List Tx) : hdIs w (w :: r) = true := decide_eq_true rfl
theorem loopA_step {P : Rd Tree} (hP : Sh P) {x : Tree} {r : List Tx} : loopA P (kAnd :: r).length x (kAnd :: r) = (P r).bind fun p => (lim (.and x p.1)).bind fun z => loopA P p.2.length z p.2 := by
  rw [List.length_cons, loopA_succ, if_pos (hdIs_self _ _)]
  show (P r).bind _ = _
  cases e : P r with
  | none => rfl
  | some p =>
    obtain ⟨y, q⟩ := p
    have hl := (hP _ _ _ e).length_le
    show (lim (.and x y)).bind _ = (lim (.and x y)).bind _
    cases lim (.and x y) with
    | none => rfl
    | some z => exact loopA_fuel hP _ _ z q hl (Nat.le_refl _)
theorem loopO_step {P : Rd Tree} (hP : Sh P) {x : Tree} {r : List Tx} : loopO P (kOr :: r).length x (kOr :: r) = (rAnd P r).bind fun p => (lim (.or x p.1)).bind fun z => loopO P p.2.length z p.2 := by
  rw [List.length_cons, loopO_succ, if_pos (hdIs_self _ _)]
  show (rAnd P r).bind _ = _
  cases e : rAnd P r with
  | none => rfl
  | some p =>
    obtain ⟨y, q⟩ := p
    have hl := (sh_and hP _ _ _ e).length_le
    show (lim (.or x y)).bind _ = (lim (.or x y)).bind _
    cases lim (.or x y) with
    | none => rfl
    | some z => exact loopO_fuel hP _ _ z q hl (Nat.le_refl _)
/-! ### atoms are read back -/
theorem digs_all {t : Tx} (h : AllDigits t) : t.all isDig = true := List.all_eq_true.mpr fun c hc => by
  have h2 : 48 ≤ c ∧ c ≤ 57 := h c hc
  simp [isDig, h2]
theorem numOf_L {n : Nat} (h : (TL.numL n).length ≤ 1000) : numOf (TL.numL n) = some n := by
  unfold numOf
  rw [if_neg (TL.numL_ne n), if_pos h, if_pos (digs_all (TL.numL_digits n)), TL.numL_val]
theorem numL_head (n : Nat) : ∃ c r, TL.numL n = c :: r ∧ isDig c = true := by
  cases e : TL.numL n with
  | nil => exact absurd e (TL.numL_ne n)
  | cons c r =>
    refine ⟨c, r, rfl, ?_⟩
    have h : 48 ≤ c ∧ c ≤ 57 := TL.numL_digits n c (by rw [e]; exact List.mem_cons_self)
    simp [isDig, h]
theorem unq_esc : ∀ (l : Tx), isText l = true → unq false (esc l) = some l
  | [], _ => rfl
  | c :: r, h => by
    have h' : (inCh c && isText r) = true := h
    rw [Bool.and_eq_true] at h'
    have ih := unq_esc r h'.2
    by_cases hc : c = 34 ∨ c = 92
    · have e : esc (c :: r) = 92 :: c :: esc r := by
        show (if c = 34 ∨ c = 92 then [92, c] else [c]) ++ esc r = _
        rw [if_pos hc]
        rfl
      rw [e]
      unfold unq
      rw [if_pos (by decide), if_pos (by decide)]
      unfold unq
      rw [if_pos h'.1, if_neg (by simp), ih]
      rfl
    · have e : esc (c :: r) = c :: esc r := by
        show (if c = 34 ∨ c = 92 then [92, c] else [c]) ++ esc r = _
        rw [if_neg hc]
        rfl
      rw [e]
      unfold unq
      rw [if_pos h'.1, if_neg (fun z => hc (.inr z.1)), ih]
      rfl
theorem inner_quot (l : Tx) : inner (wrV (.txt l)) = esc l := by
  unfold inner wrV
  rw [List.drop_succ_cons, List.drop_zero, List.dropLast_concat]
theorem hdQ_quot (l : Tx) (r : List Tx) : hdQ (wrV (.txt l) :: r) = true := rfl
theorem isDig_ne {c d : Nat} (h : isDig c = true) (hd : isDig d = false := by decide) : c ≠ d := fun z => by rw [z, hd] at h; cases h
theorem rVal_tk {v : Val} (h : vGood v) (rest : List Tx) : rVal (tkV v ++ rest) = some (v, rest) := by
  cases v with
  | txt l =>
    show rVal (wrV (.txt l) :: rest) = _
    unfold rVal
    rw [if_pos (hdQ_quot l rest)]
    show ((unq false (inner (wrV (.txt l)))).map (·, rest)).map _ = _
    rw [inner_quot, unq_esc l h]
    rfl
  | num i =>
    have h' : (TL.numL i.natAbs).length ≤ 1000 := h
    by_cases hi : i < 0
    · have e : tkV (.num i) = [[45], TL.numL i.natAbs] := if_pos hi
      rw [e]
      show rVal ([45] :: TL.numL i.natAbs :: rest) = _
      unfold rVal
      rw [if_neg (by simp [hdQ]), if_pos (hdIs_self _ _)]
      show ((numOf (TL.numL i.natAbs)).map (·, rest)).map _ = _
      rw [numOf_L h']
      show some (Val.num (-(i.natAbs : Int)), rest) = _
      rw [show -(i.natAbs : Int) = i by omega]
    · have e : tkV (.num i) = [TL.numL i.natAbs] := if_neg hi
      rw [e]
      show rVal (TL.numL i.natAbs :: rest) = _
      obtain ⟨c, r, ec, hc⟩ := numL_head i.natAbs
      have q1 : hdQ (TL.numL i.natAbs :: rest) = false := by
        rw [ec]
        exact decide_eq_false (isDig_ne hc)
      have q2 : hdIs [45] (TL.numL i.natAbs :: rest) = false := by
        rw [ec]
        exact decide_eq_false fun z => absurd (List.cons.inj z).1 (isDig_ne hc)
      unfold rVal
      rw [q1, q2]
      show ((numOf (TL.numL i.natAbs)).map (·, rest)).map _ = _
      rw [numOf_L h']
      show some (Val.num (i.natAbs : Int), rest) = _
      rw [show (i.natAbs : Int) = i by omega]
theorem rVs_tk : ∀ (vs : List Val) (acc : List Val) (rest : List Tx) (n : Nat), (∀ v ∈ vs, vGood v) → hdIs [44] rest = false → vs.length ≤ n → rVs n acc (tkR vs ++ rest) = some (acc ++ vs, rest)
  | [], acc, rest, n, _, h, _ => by
    rw [List.append_nil]
    show rVs n acc rest = _
    cases n <;> (unfold rVs; rw [if_neg (by rw [h]; decide)])
  | v :: r, acc, rest, 0, _, _, hn => by simp at hn
  | v :: r, acc, rest, n + 1, hv, h, hn => by
    have e : tkR (v :: r) ++ rest = [44] :: (tkV v ++ (tkR r ++ rest)) := by simp [tkR]
    rw [e]
    unfold rVs
    rw [if_pos (hdIs_self _ _)]
    show (rVal (tkV v ++ (tkR r ++ rest))).bind _ = _
    rw [rVal_tk (hv v List.mem_cons_self)]
    show rVs n (acc ++ [v]) (tkR r ++ rest) = _
    rw [rVs_tk r (acc ++ [v]) rest n (fun w hw => hv w (List.mem_cons_of_mem _ hw)) h (by simpa using hn), List.append_assoc]
    rfl
theorem tkR_len : ∀ r : List Val, r.length ≤ (tkR r).length
  | [] => Nat.le_refl _
  | v :: r => by
    have := tkR_len r
    show r.length + 1 ≤ ([44] :: (tkV v ++ tkR r)).length
    rw [List.length_cons, List.length_append]
    omega
theorem rVals_tk {vs : List Val} (h1 : 1 ≤ vs.length) (hv : ∀ v ∈ vs, vGood v) (rest : List Tx) : rVals ([40] :: (tkJ vs ++ [[41]]) ++ rest) = some (vs, rest) := by
  cases vs with
  | nil => simp at h1
  | cons v r =>
    have e : [40] :: (tkJ (v :: r) ++ [[41]]) ++ rest = [40] :: (tkV v ++ (tkR r ++ [41] :: rest)) := by simp [tkJ]
    rw [e]
    unfold rVals need
    rw [if_pos (hdIs_self _ _)]
    show (rVal (tkV v ++ (tkR r ++ [41] :: rest))).bind _ = _
    rw [rVal_tk (hv v List.mem_cons_self)]
    show (rVs (tkR r ++ [41] :: rest).length [v] (tkR r ++ [41] :: rest)).bind _ = _
    rw [rVs_tk r [v] ([41] :: rest) _ (fun w hw => hv w (List.mem_cons_of_mem _ hw)) rfl (by rw [List.length_append]; exact Nat.le_trans (tkR_len r) (Nat.le_add_right _ _))]
    show (if hdIs [41] ([41] :: rest) = true then some rest else none).map _ = _
    rw [if_pos (hdIs_self _ _)]
    rfl
/-- what may follow a tree -/
def Stop (ts : List Tx) : Prop := hdIs [43] ts = false ∧ hdIs [45] ts = false
theorem rMore_tk {m : Int} (h : (TL.numL m.natAbs).length ≤ 1000) {rest : List Tx} (hs : Stop rest) : rMore (tkM m ++ rest) = some (m, rest) := by
  unfold tkM
  by_cases h0 : m = 0
  · rw [if_pos h0, h0]
    show rMore rest = _
    unfold rMore
    rw [if_neg (by rw [hs.1]; decide), if_neg (by rw [hs.2]; decide)]
  · rw [if_neg h0]
    by_cases hp : 0 < m
    · rw [if_pos hp]
      show rMore ([43] :: TL.numL m.natAbs :: rest) = _
      unfold rMore
      rw [if_pos (hdIs_self _ _)]
      show ((numOf (TL.numL m.natAbs)).map (·, rest)).map _ = _
      rw [numOf_L h]
      show some ((m.natAbs : Int), rest) = _
      rw [show (m.natAbs : Int) = m by omega]
    · rw [if_neg hp]
      show rMore ([45] :: TL.numL m.natAbs :: rest) = _
      unfold rMore
      rw [if_neg (by simp [hdIs]), if_pos (hdIs_self _ _)]
      show ((numOf (TL.numL m.natAbs)).map (·, rest)).map _ = _
      rw [numOf_L h]
      show some (-(m.natAbs : Int), rest) = _
      rw [show -(m.natAbs : Int) = m by omega]
theorem name_facts {c : Tx} (h : isName c = true) : kept.contains c = false ∧ ∃ d r, c = d :: r ∧ isLet d = true := by
  cases c with
  | nil => cases h
  | cons d r =>
    unfold isName at h
    simp only [Bool.and_eq_true, Bool.not_eq_true'] at h
    exact ⟨h.1.2, d, r, rfl, h.1.1.2⟩
theorem name_ne {c w : Tx} (h : isName c = true) (hw : kept.contains w = true := by decide) : c ≠ w := fun z => by
  have := (name_facts h).1
  rw [z, hw] at this
  cases this
theorem name_hd {c : Tx} (h : isName c = true) {d : Nat} {r : Tx} (hd : isLet d = false := by decide) : c ≠ d :: r := fun z => by
  obtain ⟨_, e, x, ec, hl⟩ := name_facts h
  rw [z] at ec
  injection ec with e1 _
  rw [← e1, hd] at hl
  cases hl
theorem ops_ne {op : Tx} (h : op ∈ ops) : op ≠ kIs ∧ op ≠ kBegins ∧ op ≠ kIn := by
  have key : ∀ op ∈ ops, op ≠ kIs ∧ op ≠ kBegins ∧ op ≠ kIn := by decide
  exact key op h
theorem ops_has {op : Tx} (h : op ∈ ops) : ops.contains op = true := by
  rw [List.contains_iff_mem]
  exact h
theorem valOk_of {v : Val} (h : vGood v) : valOk v = true := by
  cases v with
  | num i => rfl
  | txt l => exact h
theorem rAtom_name {c : Tx} (h : isName c = true) (word : Tx) (ts : List Tx) : rAtom (c :: word :: ts) = rAt2 c word ts := by
  show (if c = kAlways then some (Tree.alw, word :: ts) else if c = kNever then some (Tree.nev, word :: ts) else (take1 (word :: ts)).bind fun q => rAt2 c q.1 q.2) = _
  rw [if_neg (name_ne h), if_neg (name_ne h)]
  rfl
theorem hd_val (v : Val) (rest : List Tx) : (hdQ (tkV v ++ rest) || hdIs [45] (tkV v ++ rest) || hdD (tkV v ++ rest)) = true := by
  cases v with
  | txt l => rfl
  | num i =>
    by_cases hi : i < 0
    · have e : tkV (.num i) = [[45], TL.numL i.natAbs] := if_pos hi
      rw [e]
      rfl
    · have e : tkV (.num i) = [TL.numL i.natAbs] := if_neg hi
      obtain ⟨c, r, ec, hc⟩ := numL_head i.natAbs
      have q : hdD (tkV (.num i) ++ rest) = true := by
        rw [e, ec]
        exact hc
      rw [q, Bool.or_true]
theorem isLet_dig {d : Nat} (h : isLet d = true) : isDig d = false ∧ d ≠ 34 := by
  unfold isLet at h
  rw [Bool.and_eq_true] at h
  have h1 := of_decide_eq_true h.1
  unfold isDig
  refine ⟨?_, by omega⟩
  rw [Bool.and_eq_false_iff]
  right
  exact decide_eq_false (by omega)
theorem hd_name {o : Tx} (h : isName o = true) (rest : List Tx) : (hdQ (o :: rest) || hdIs [45] (o :: rest) || hdD (o :: rest)) = false := by
  obtain ⟨_, d, r, rfl, hl⟩ := name_facts h
  obtain ⟨q1, q2⟩ := isLet_dig hl
  have e1 : hdQ ((d :: r) :: rest) = false := decide_eq_false q2
  have e2 : hdIs [45] ((d :: r) :: rest) = false := decide_eq_false (name_hd h)
  have e3 : hdD ((d :: r) :: rest) = false := q1
  rw [e1, e2, e3]
  rfl
/-- an atom, its tokens -/
def isAt (t : Tree) : Bool := kd t = .atom
theorem rAtom_tk : ∀ (t : Tree), isAt t = true → Good t → ∀ {rest : List Tx}, Stop rest → rAtom (tk t ++ rest) = some (t, rest)
  | .cmp c op v, _, ⟨h1, h2, h3⟩, rest, _ => by
    obtain ⟨n1, n2, n3⟩ := ops_ne h2
    show rAtom (c :: op :: (tkV v ++ rest)) = _
    rw [rAtom_name h1]
    unfold rAt2
    rw [if_neg n1, if_neg n2, if_neg n3, if_pos (hd_val v rest), rVal_tk h3]
    show (mkCmp c op v).map (·, rest) = _
    unfold mkCmp
    rw [if_pos h1, if_pos (ops_has h2), if_pos (valOk_of h3)]
    rfl
  | .agn c op o m, _, ⟨h1, h2, h3, h4, h5⟩, rest, hs => by
    obtain ⟨n1, n2, n3⟩ := ops_ne h2
    show rAtom (c :: op :: o :: (tkM m ++ rest)) = _
    rw [rAtom_name h1]
    unfold rAt2
    rw [if_neg n1, if_neg n2, if_neg n3, if_neg (by rw [hd_name h3]; decide)]
    show (rMore (tkM m ++ rest)).bind _ = _
    rw [rMore_tk h5 hs]
    show (mkAgn c op o m).map (·, rest) = _
    unfold mkAgn
    rw [if_pos h1, if_pos (ops_has h2), if_pos ⟨h3, h4⟩]
    rfl
  | .amg c vs, _, ⟨h1, h2, h3, h4⟩, rest, _ => by
    show rAtom (c :: kIn :: ([40] :: (tkJ vs ++ [[41]]) ++ rest)) = _
    rw [rAtom_name h1]
    unfold rAt2
    rw [if_neg (by decide), if_neg (by decide), if_pos rfl, rVals_tk h2 h4]
    show (mkAmg c vs).map (·, rest) = _
    unfold mkAmg
    rw [if_pos h1, if_pos ⟨h2, h3⟩, if_pos (List.all_eq_true.mpr fun v hv => valOk_of (h4 v hv))]
    rfl
  | .beg c p, _, ⟨h1, h2⟩, rest, _ => by
    show rAtom (c :: kBegins :: wrV (.txt p) :: rest) = _
    rw [rAtom_name h1]
    unfold rAt2
    rw [if_neg (by decide), if_pos rfl, if_pos (hdQ_quot p rest)]
    show ((unq false (inner (wrV (.txt p)))).map (·, rest)).bind _ = _
    rw [inner_quot, unq_esc p h2]
    show (mkBeg c p).map (·, rest) = _
    unfold mkBeg
    rw [if_pos h1, if_pos h2]
    rfl
  | .emp c, _, h1, rest, _ => by
    show rAtom (c :: kIs :: kEmpty :: rest) = _
    rw [rAtom_name h1]
    unfold rAt2 need
    rw [if_pos rfl, if_pos (hdIs_self _ _)]
    show (mkEmp c).map (·, rest) = _
    unfold mkEmp
    rw [if_pos (show isName c = true from h1)]
    rfl
  | .alw, _, _, rest, _ => rfl
  | .nev, _, _, rest, _ => rfl
/-- no atom begins like a compound -/
theorem tk_first : ∀ (t : Tree), isAt t = true → Good t → ∀ (rest : List Tx), hdIs [40] (tk t ++ rest) = false ∧ hdIs kNot (tk t ++ rest) = false ∧ hdIs kSure (tk t ++ rest) = false := by
  have nm : ∀ (c : Tx) (x : List Tx), isName c = true → hdIs [40] (c :: x) = false ∧ hdIs kNot (c :: x) = false ∧ hdIs kSure (c :: x) = false := fun c x h =>
    ⟨decide_eq_false (name_hd h), decide_eq_false (name_ne h), decide_eq_false (name_ne h)⟩
  intro t ht hg rest
  cases t with
  | cmp c op v => exact nm _ _ hg.1
  | agn c op o m => exact nm _ _ hg.1
  | amg c vs => exact nm _ _ hg.1
  | beg c p => exact nm _ _ hg.1
  | emp c => exact nm _ _ hg
  | alw => exact ⟨rfl, rfl, rfl⟩
  | nev => exact ⟨rfl, rfl, rfl⟩
  | _ => cases ht
/-! ### trees are read back -/
theorem lim_ok {t : Tree} (h1 : nat t ≤ 24) (h2 : lev t ≤ 12) : lim t = some t := by
  unfold lim
  rw [if_pos h1, if_pos h2]
structure PAO (t : Tree) : Prop where
  P : ∀ m rest, 2 * lev t + 1 ≤ m → Stop rest → rPart m (brT (isAO t) (tk t) ++ rest) = some (t, rest)
  A : ∀ m rest, (2 * lev t + 1 ≤ m ∨ (kd t = .and ∧ 2 * lev t ≤ m)) → Stop rest → rAnd (rPart m) (brT (isO t) (tk t) ++ rest) = loopA (rPart m) rest.length t rest
  O : ∀ m rest, (2 * lev t + 1 ≤ m ∨ (isAO t = true ∧ 2 * lev t ≤ m)) → Stop rest → hdIs kAnd rest = false → rOr (rPart m) (tk t ++ rest) = loopO (rPart m) rest.length t rest
theorem stop_kw {w : Tx} (r : List Tx) (h : w ≠ [43] := by decide) (h2 : w ≠ [45] := by decide) : Stop (w :: r) := ⟨decide_eq_false h, decide_eq_false h2⟩
/-- a tree that is neither and nor or: A and O from P -/
theorem pao_plain {t : Tree} (h : isAO t = false) (hP : ∀ m rest, 2 * lev t + 1 ≤ m → Stop rest → rPart m (tk t ++ rest) = some (t, rest)) : PAO t := by
  have h' : (decide (kd t = .and) || decide (kd t = .or)) = false := h
  rw [Bool.or_eq_false_iff] at h'
  have na : kd t ≠ .and := of_decide_eq_false h'.1
  have nO : isO t = false := h'.2
  have hA : ∀ m rest, 2 * lev t + 1 ≤ m → Stop rest → rAnd (rPart m) (tk t ++ rest) = loopA (rPart m) rest.length t rest := fun m rest hm hs => by
    unfold rAnd
    rw [hP m rest hm hs]
    rfl
  refine ⟨?_, ?_, ?_⟩
  · rw [h]
    exact hP
  · rw [nO]
    intro m rest hm hs
    rcases hm with hm | ⟨hk, _⟩
    · exact hA m rest hm hs
    · exact absurd hk na
  · intro m rest hm hs hr
    rcases hm with hm | ⟨hk, _⟩
    · unfold rOr
      rw [hA m rest hm hs, loopA_stop hr]
      rfl
    · rw [h] at hk
      cases hk
theorem tk_all : ∀ t : Tree, Good t → nat t ≤ 24 → lev t ≤ 12 → PAO t := by
  have at_ : ∀ t : Tree, isAt t = true → Good t → PAO t := fun t ht hg => by
    have hk : kd t = .atom := of_decide_eq_true ht
    refine pao_plain (by unfold isAO; rw [hk]; decide) fun m rest hm hs => ?_
    cases m with
    | zero => omega
    | succ m =>
      obtain ⟨e1, e2, e3⟩ := tk_first t ht hg rest
      rw [rPart_succ, if_neg (by rw [e1]; decide), if_neg (by rw [e2]; decide), if_neg (by rw [e3]; decide)]
      exact rAtom_tk t ht hg hs
  have br_ : ∀ (t : Tree), isAO t = true → (∀ m rest, (2 * lev t + 1 ≤ m ∨ (isAO t = true ∧ 2 * lev t ≤ m)) → Stop rest → hdIs kAnd rest = false → rOr (rPart m) (tk t ++ rest) = loopO (rPart m) rest.length t rest) →
      ∀ m rest, 2 * lev t + 1 ≤ m → Stop rest → rPart m (brT true (tk t) ++ rest) = some (t, rest) := fun t hk hO m rest hm hs => by
    cases m with
    | zero => omega
    | succ m =>
      have e : brT true (tk t) ++ rest = [40] :: (tk t ++ [41] :: rest) := by simp [brT]
      rw [e, rPart_succ, if_pos (hdIs_self _ _)]
      show (rOr (rPart m) (tk t ++ [41] :: rest)).bind _ = _
      rw [hO m ([41] :: rest) (.inr ⟨hk, by omega⟩) (stop_kw _) rfl, loopO_stop rfl]
      show (need [41] ([41] :: rest)).map _ = _
      unfold need
      rw [if_pos (hdIs_self _ _)]
      rfl
  intro t
  induction t with
  | cmp c op v => exact fun h _ _ => at_ _ rfl h
  | agn c op o m => exact fun h _ _ => at_ _ rfl h
  | amg c vs => exact fun h _ _ => at_ _ rfl h
  | beg c p => exact fun h _ _ => at_ _ rfl h
  | emp c => exact fun h _ _ => at_ _ rfl h
  | alw => exact fun h _ _ => at_ _ rfl h
  | nev => exact fun h _ _ => at_ _ rfl h
  | not a ih =>
    intro hg hn hl
    have hn' : nat a ≤ 24 := hn
    have hl' : lev a + 1 ≤ 12 := hl
    have A := ih hg hn' (by omega)
    refine pao_plain rfl fun m rest hm hs => ?_
    have hm' : 2 * (lev a + 1) + 1 ≤ m := hm
    cases m with
    | zero => omega
    | succ m =>
      show rPart (m + 1) (kNot :: (brT (isAO a) (tk a) ++ rest)) = _
      rw [rPart_succ, if_neg (by simp [hdIs, kNot]), if_pos (hdIs_self _ _)]
      show (rPart m (brT (isAO a) (tk a) ++ rest)).bind _ = _
      rw [A.P m rest (by omega) hs]
      show (lim (.not a)).map (·, rest) = _
      rw [lim_ok hn hl]
      rfl
  | sure a ih =>
    intro hg hn hl
    have hn' : nat a ≤ 24 := hn
    have hl' : lev a + 1 ≤ 12 := hl
    have A := ih hg hn' (by omega)
    refine pao_plain rfl fun m rest hm hs => ?_
    have hm' : 2 * (lev a + 1) + 1 ≤ m := hm
    cases m with
    | zero => omega
    | succ m =>
      show rPart (m + 1) (kSure :: (brT (isAO a) (tk a) ++ rest)) = _
      rw [rPart_succ, if_neg (by simp [hdIs, kSure]), if_neg (by simp [hdIs, kSure, kNot]), if_pos (hdIs_self _ _)]
      show (rPart m (brT (isAO a) (tk a) ++ rest)).bind _ = _
      rw [A.P m rest (by omega) hs]
      show (lim (.sure a)).map (·, rest) = _
      rw [lim_ok hn hl]
      rfl
  | and a b iha ihb =>
    intro hg hn hl
    have hn' : nat a + nat b ≤ 24 := hn
    have hl' : max (lev a + 1) (lev b + 1) ≤ 12 := hl
    have PA := iha hg.1 (by omega) (by omega)
    have PB := ihb hg.2 (by omega) (by omega)
    have hlv : lev (.and a b) = max (lev a + 1) (lev b + 1) := rfl
    have hA : ∀ m rest, 2 * lev (.and a b) ≤ m → Stop rest → rAnd (rPart m) (tk (.and a b) ++ rest) = loopA (rPart m) rest.length (.and a b) rest := fun m rest hm hs => by
      have e : tk (.and a b) ++ rest = brT (isO a) (tk a) ++ (kAnd :: (brT (isAO b) (tk b) ++ rest)) := by simp [tk]
      rw [e, PA.A m _ (.inl (by omega)) (stop_kw _), loopA_step (sh_part m), PB.P m rest (by omega) hs]
      show (lim (.and a b)).bind _ = _
      rw [lim_ok hn hl]
      rfl
    have hO : ∀ m rest, (2 * lev (.and a b) + 1 ≤ m ∨ (isAO (.and a b) = true ∧ 2 * lev (.and a b) ≤ m)) → Stop rest → hdIs kAnd rest = false → rOr (rPart m) (tk (.and a b) ++ rest) = loopO (rPart m) rest.length (.and a b) rest := fun m rest hm hs hr => by
      unfold rOr
      rw [hA m rest (by omega) hs, loopA_stop hr]
      rfl
    exact ⟨br_ (.and a b) rfl hO, fun m rest hm hs => hA m rest (by omega) hs, hO⟩
  | or a b iha ihb =>
    intro hg hn hl
    have hn' : nat a + nat b ≤ 24 := hn
    have hl' : max (lev a + 1) (lev b + 1) ≤ 12 := hl
    have PA := iha hg.1 (by omega) (by omega)
    have PB := ihb hg.2 (by omega) (by omega)
    have hlv : lev (.or a b) = max (lev a + 1) (lev b + 1) := rfl
    have hO : ∀ m rest, (2 * lev (.or a b) + 1 ≤ m ∨ (isAO (.or a b) = true ∧ 2 * lev (.or a b) ≤ m)) → Stop rest → hdIs kAnd rest = false → rOr (rPart m) (tk (.or a b) ++ rest) = loopO (rPart m) rest.length (.or a b) rest := fun m rest hm hs hr => by
      have hm2 : 2 * lev (.or a b) ≤ m := by omega
      have e : tk (.or a b) ++ rest = tk a ++ (kOr :: (brT (isO b) (tk b) ++ rest)) := by simp [tk]
      rw [e, PA.O m _ (.inl (by omega)) (stop_kw _) rfl, loopO_step (sh_part m), PB.A m rest (.inl (by omega)) hs, loopA_stop hr]
      show (lim (.or a b)).bind _ = _
      rw [lim_ok hn hl]
      rfl
    have hP := br_ (.or a b) rfl hO
    refine ⟨hP, fun m rest hm hs => ?_, hO⟩
    rcases hm with hm | ⟨hk, _⟩
    · unfold rAnd
      have e : rPart m (brT (isO (.or a b)) (tk (.or a b)) ++ rest) = some (.or a b, rest) := hP m rest hm hs
      rw [e]
      rfl
    · cases hk
/-- THE LAW'S FIRST HALF: what is written of a good tree is read, and it is what was written -/
theorem parse_wr {t : Tree} (hg : Good t) (hn : nat t ≤ 24) (hl : lev t ≤ 11) : parse (wr t) = some t := by
  unfold parse
  have e := tokens_wr hg [] sep_nil
  rw [List.append_nil, tokens_nil] at e
  rw [e]
  show (rOr (rPart 24) (tk t ++ [])).map (·.1) = _
  rw [(tk_all t hg hn (by omega)).O 24 [] (.inl (by omega)) ⟨rfl, rfl⟩ rfl, loopO_stop rfl]
  rfl
theorem reads_wr {t : Tree} (hg : Good t) (hn : nat t ≤ 24) (hl : lev t ≤ 11) : reads (wr t) = true := by
  unfold reads
  rw [parse_wr hg hn hl]
  exact decide_eq_true rfl
end TwP
end

section
set_option Elab.async false
set_option linter.all false
set_option maxRecDepth 100000
set_option maxHeartbeats 2000000
set_option exponentiation.threshold 5000
/-! The mirror's theorems: how large what is read can be; what is refused; the number lines. -/
namespace TwP
open PySem.NumText
/-! ### sizes -/
def Small (n : Nat) : Prop := n < 10 ^ 1000
theorem small_lt {n : Nat} (h : Small n) : n < 10 ^ 1001 := Nat.lt_of_lt_of_le h (Nat.pow_le_pow_right (by decide) (by decide))
theorem small_len {n : Nat} (h : Small n) : (TL.numL n).length ≤ 1000 := TL.numL_len (by decide) h
theorem intL_len {i : Int} (h : Small i.natAbs) : (intL i).length ≤ 1001 := by
  have := small_len h
  unfold intL
  split
  · rw [List.length_cons]
    omega
  · omega
def vFine (N : Nat) : Val → Prop
  | .num i => Small i.natAbs
  | .txt l => l.length ≤ N
def Fine (N : Nat) : Tree → Prop
  | .cmp c op v => c.length ≤ 8 ∧ op.length ≤ 2 ∧ vFine N v
  | .agn c op o m => c.length ≤ 8 ∧ op.length ≤ 2 ∧ o.length ≤ 8 ∧ Small m.natAbs
  | .amg c vs => c.length ≤ 8 ∧ vs.length ≤ 8 ∧ ∀ v ∈ vs, vFine N v
  | .beg c p => c.length ≤ 8 ∧ p.length ≤ N
  | .emp c => c.length ≤ 8
  | .alw => True
  | .nev => True
  | .and a b => Fine N a ∧ Fine N b
  | .or a b => Fine N a ∧ Fine N b
  | .not a => Fine N a
  | .sure a => Fine N a
theorem esc_len : ∀ l : Tx, (esc l).length ≤ 2 * l.length
  | [] => Nat.le_refl _
  | c :: r => by
    have := esc_len r
    show ((if c = 34 ∨ c = 92 then [92, c] else [c]) ++ esc r).length ≤ _
    rw [List.length_append, List.length_cons]
    split <;> (simp only [List.length_cons, List.length_nil]; omega)
theorem wrV_len {N : Nat} {v : Val} (h : vFine N v) : (wrV v).length ≤ 2 * N + 1002 := by
  cases v with
  | num i =>
    have := intL_len h
    show (intL i).length ≤ _
    omega
  | txt l =>
    have h' : l.length ≤ N := h
    have := esc_len l
    show (34 :: (esc l ++ [34])).length ≤ _
    rw [List.length_cons, List.length_append, List.length_singleton]
    omega
theorem joinR_len {N : Nat} : ∀ vs : List Val, (∀ v ∈ vs, vFine N v) → (joinR vs).length ≤ vs.length * (2 * N + 1004)
  | [], _ => Nat.zero_le _
  | v :: r, h => by
    have h1 := wrV_len (h v List.mem_cons_self)
    have h2 := joinR_len r fun w hw => h w (List.mem_cons_of_mem _ hw)
    show (44 :: 32 :: (wrV v ++ joinR r)).length ≤ (r.length + 1) * (2 * N + 1004)
    rw [List.length_cons, List.length_cons, List.length_append, Nat.add_mul]
    omega
theorem joinV_len {N : Nat} (vs : List Val) (h : ∀ v ∈ vs, vFine N v) : (joinV vs).length ≤ vs.length * (2 * N + 1004) := by
  cases vs with
  | nil => exact Nat.zero_le _
  | cons v r =>
    have h1 := wrV_len (h v List.mem_cons_self)
    have h2 := joinR_len r fun w hw => h w (List.mem_cons_of_mem _ hw)
    rw [joinV_R, List.length_append, List.length_cons, Nat.add_mul]
    omega
theorem wrMore_len {m : Int} (h : Small m.natAbs) : (wrMore m).length ≤ 1004 := by
  have h1 := intL_len h
  have h2 : (intL (-m)).length ≤ 1001 := intL_len (by rw [Int.natAbs_neg]; exact h)
  unfold wrMore
  split
  · simp
  · split <;> (rw [List.length_append]; simp only [List.length_cons, List.length_nil]; omega)
theorem nat_pos : ∀ t : Tree, 1 ≤ nat t
  | .and a b => Nat.le_trans (nat_pos a) (Nat.le_add_right _ _)
  | .or a b => Nat.le_trans (nat_pos a) (Nat.le_add_right _ _)
  | .not a => nat_pos a
  | .sure a => nat_pos a
  | .cmp _ _ _ => Nat.le_refl _
  | .agn _ _ _ _ => Nat.le_refl _
  | .amg _ _ => Nat.le_refl _
  | .beg _ _ => Nat.le_refl _
  | .emp _ => Nat.le_refl _
  | .alw => Nat.le_refl _
  | .nev => Nat.le_refl _
theorem br_len (b : Bool) (l : Tx) : (br b l).length ≤ l.length + 2 := by
  cases b
  · exact Nat.le_add_right _ _
  · show (40 :: (l ++ [41])).length ≤ _
    rw [List.length_cons, List.length_append, List.length_singleton]
    exact Nat.le_refl _
theorem two_size {x y a b l l1 l2 B : Nat} (hx : x + 9 ≤ a * (B + 9 * l1)) (hy : y + 9 ≤ b * (B + 9 * l2)) (h1 : l1 ≤ l) (h2 : l2 ≤ l) : x + y + 18 ≤ (a + b) * (B + 9 * l) := by
  have e1 : a * (B + 9 * l1) ≤ a * (B + 9 * l) := Nat.mul_le_mul_left _ (by omega)
  have e2 : b * (B + 9 * l2) ≤ b * (B + 9 * l) := Nat.mul_le_mul_left _ (by omega)
  rw [Nat.add_mul]
  omega
theorem one_size {x a l B : Nat} (hx : x + 9 ≤ a * (B + 9 * l)) (ha : 1 ≤ a) : x + 18 ≤ a * (B + 9 * (l + 1)) := by
  have e : a * (B + 9 * (l + 1)) = a * (B + 9 * l) + a * 9 := by rw [← Nat.mul_add]; congr 1
  rw [e]
  omega
theorem wr_len {N : Nat} : ∀ t : Tree, Fine N t → (wr t).length + 9 ≤ nat t * (16 * N + 9009 + 9 * lev t)
  | .cmp c op v, ⟨h1, h2, h3⟩ => by
    have := wrV_len h3
    show (c ++ (32 :: (op ++ (32 :: wrV v)))).length + 9 ≤ 1 * (16 * N + 9009 + 9 * 0)
    rw [List.length_append, List.length_cons, List.length_append, List.length_cons]
    omega
  | .agn c op o m, ⟨h1, h2, h3, h4⟩ => by
    have := wrMore_len h4
    clear h4
    show (c ++ (32 :: (op ++ (32 :: (o ++ wrMore m))))).length + 9 ≤ 1 * (16 * N + 9009 + 9 * 0)
    rw [List.length_append, List.length_cons, List.length_append, List.length_cons, List.length_append]
    omega
  | .amg c vs, ⟨h1, h2, h3⟩ => by
    have h := joinV_len vs h3
    have h' : vs.length * (2 * N + 1004) ≤ 8 * (2 * N + 1004) := Nat.mul_le_mul_right _ h2
    show (c ++ ([32, 105, 110, 32, 40] ++ (joinV vs ++ [41]))).length + 9 ≤ 1 * (16 * N + 9009 + 9 * 0)
    rw [List.length_append, List.length_append, List.length_append]
    simp only [List.length_cons, List.length_nil]
    omega
  | .beg c p, ⟨h1, h2⟩ => by
    have := wrV_len (v := .txt p) h2
    show (c ++ ([32, 98, 101, 103, 105, 110, 115, 32] ++ wrV (.txt p))).length + 9 ≤ 1 * (16 * N + 9009 + 9 * 0)
    rw [List.length_append, List.length_append]
    simp only [List.length_cons, List.length_nil]
    omega
  | .emp c, h1 => by
    have h1' : c.length ≤ 8 := h1
    show (c ++ [32, 105, 115, 32, 101, 109, 112, 116, 121]).length + 9 ≤ 1 * (16 * N + 9009 + 9 * 0)
    rw [List.length_append]
    simp only [List.length_cons, List.length_nil]
    omega
  | .alw, _ => by
    show 6 + 9 ≤ 1 * (16 * N + 9009 + 9 * 0)
    omega
  | .nev, _ => by
    show 5 + 9 ≤ 1 * (16 * N + 9009 + 9 * 0)
    omega
  | .and a b, ⟨ha, hb⟩ => by
    have h := two_size (l := max (lev a + 1) (lev b + 1)) (wr_len a ha) (wr_len b hb) (by omega) (by omega)
    have h1 := br_len (isO a) (wr a)
    have h2 := br_len (isAO b) (wr b)
    show (br (isO a) (wr a) ++ ([32, 97, 110, 100, 32] ++ br (isAO b) (wr b))).length + 9 ≤ (nat a + nat b) * (16 * N + 9009 + 9 * max (lev a + 1) (lev b + 1))
    rw [List.length_append, List.length_append]
    simp only [List.length_cons, List.length_nil]
    omega
  | .or a b, ⟨ha, hb⟩ => by
    have h := two_size (l := max (lev a + 1) (lev b + 1)) (wr_len a ha) (wr_len b hb) (by omega) (by omega)
    have h2 := br_len (isO b) (wr b)
    show (wr a ++ ([32, 111, 114, 32] ++ br (isO b) (wr b))).length + 9 ≤ (nat a + nat b) * (16 * N + 9009 + 9 * max (lev a + 1) (lev b + 1))
    rw [List.length_append, List.length_append]
    simp only [List.length_cons, List.length_nil]
    omega
  | .not a, ha => by
    have h := one_size (wr_len a ha) (nat_pos a)
    have h1 := br_len (isAO a) (wr a)
    show (kNot ++ (32 :: br (isAO a) (wr a))).length + 9 ≤ nat a * (16 * N + 9009 + 9 * (lev a + 1))
    rw [List.length_append, List.length_cons]
    simp only [kNot, List.length_cons, List.length_nil]
    omega
  | .sure a, ha => by
    have h := one_size (wr_len a ha) (nat_pos a)
    have h1 := br_len (isAO a) (wr a)
    show (kSure ++ (32 :: br (isAO a) (wr a))).length + 9 ≤ nat a * (16 * N + 9009 + 9 * (lev a + 1))
    rw [List.length_append, List.length_cons]
    simp only [kSure, List.length_cons, List.length_nil]
    omega
/-! ### what the reader gives -/
abbrev Bd (N : Nat) (ts : List Tx) : Prop := ∀ t ∈ ts, t.length ≤ N
theorem Bd.suf {N : Nat} {ts r : List Tx} (h : Bd N ts) (s : r <:+ ts) : Bd N r := fun t ht => h t (s.subset ht)
theorem Bd.tail {N : Nat} {ts : List Tx} (h : Bd N ts) : Bd N ts.tail := h.suf (tail_suf ts)
theorem unq_len : ∀ (l : Tx) (e : Bool) (m : Tx), unq e l = some m → m.length ≤ l.length
  | [], e, m, h => by
    have : m = [] := by
      unfold unq at h
      injection h with h
      exact h.symm
    rw [this]
    exact Nat.le_refl _
  | c :: r, e, m, h => by
    unfold unq at h
    rw [List.length_cons]
    split at h
    · split at h
      · have := unq_len r _ _ h
        omega
      · obtain ⟨q, hq, rfl⟩ := Option.map_eq_some_iff.mp h
        have := unq_len r _ _ hq
        rw [List.length_cons]
        omega
    · cases h
theorem inner_len (t : Tx) : (inner t).length ≤ t.length := by
  unfold inner
  rw [List.length_dropLast, List.length_drop]
  omega
theorem num_small {t : Tx} {n : Nat} (h : numOf t = some n) : Small n := by
  unfold numOf at h
  split at h
  · cases h
  · split at h
    · rename_i hl
      split at h
      · rename_i hd
        injection h with h
        have hd' : AllDigits t := fun c hc => by
          have := List.all_eq_true.mp hd c hc
          unfold isDig at this
          rw [Bool.and_eq_true] at this
          exact ⟨of_decide_eq_true this.1, of_decide_eq_true this.2⟩
        have := Tw.vals_lt hd'
        rw [h] at this
        exact Nat.lt_of_lt_of_le this (Nat.pow_le_pow_right (by decide) hl)
      · cases h
    · cases h
theorem rNum_small {ts : List Tx} {n : Nat} {r : List Tx} (h : rNum ts = some (n, r)) : Small n := by
  cases ts with
  | nil => cases h
  | cons t u =>
    obtain ⟨k, hk, e⟩ := Option.map_eq_some_iff.mp (show (numOf t).map (·, u) = some (n, r) from h)
    cases e
    exact num_small hk
theorem rStr_len {N : Nat} {ts : List Tx} {l : Tx} {r : List Tx} (b : Bd N ts) (h : rStr ts = some (l, r)) : l.length ≤ N := by
  cases ts with
  | nil => cases h
  | cons t u =>
    obtain ⟨k, hk, e⟩ := Option.map_eq_some_iff.mp (show (unq false (inner t)).map (·, u) = some (l, r) from h)
    cases e
    have h1 := unq_len _ _ _ hk
    have h2 := inner_len t
    have h3 := b t List.mem_cons_self
    omega
theorem neg_small {n : Nat} (h : Small n) : Small (-(n : Int)).natAbs := by
  rw [Int.natAbs_neg]
  exact h
theorem rVal_fine {N : Nat} {ts : List Tx} {v : Val} {r : List Tx} (b : Bd N ts) (h : rVal ts = some (v, r)) : vFine N v := by
  unfold rVal at h
  split at h
  · obtain ⟨⟨p, q⟩, h1, e⟩ := Option.map_eq_some_iff.mp h
    cases e
    exact rStr_len b h1
  · split at h
    · obtain ⟨⟨p, q⟩, h1, e⟩ := Option.map_eq_some_iff.mp h
      cases e
      exact neg_small (rNum_small h1)
    · obtain ⟨⟨p, q⟩, h1, e⟩ := Option.map_eq_some_iff.mp h
      cases e
      exact rNum_small h1
theorem rVs_fine {N : Nat} : ∀ (n : Nat) (acc : List Val) (ts : List Tx) (vs : List Val) (r : List Tx), Bd N ts → (∀ v ∈ acc, vFine N v) → rVs n acc ts = some (vs, r) → ∀ v ∈ vs, vFine N v
  | 0, acc, ts, vs, r, b, ha, h => by
    unfold rVs at h
    split at h
    · cases h
    · cases h
      exact ha
  | n + 1, acc, ts, vs, r, b, ha, h => by
    unfold rVs at h
    split at h
    · obtain ⟨⟨p, q⟩, h1, h2⟩ := Option.bind_eq_some_iff.mp h
      refine rVs_fine n _ _ _ _ (b.tail.suf (sh_val _ _ _ h1)) (fun v hv => ?_) h2
      rcases List.mem_append.mp hv with hv | hv
      · exact ha v hv
      · rw [List.mem_singleton.mp hv]
        exact rVal_fine b.tail h1
    · cases h
      exact ha
theorem rVals_fine {N : Nat} {ts : List Tx} {vs : List Val} {r : List Tx} (b : Bd N ts) (h : rVals ts = some (vs, r)) : ∀ v ∈ vs, vFine N v := by
  unfold rVals at h
  obtain ⟨r1, h1, h⟩ := Option.bind_eq_some_iff.mp h
  obtain ⟨⟨v, r2⟩, h2, h⟩ := Option.bind_eq_some_iff.mp h
  obtain ⟨⟨vs', r3⟩, h3, h⟩ := Option.bind_eq_some_iff.mp h
  obtain ⟨r4, h4, e⟩ := Option.map_eq_some_iff.mp h
  cases e
  have b1 := b.suf (need_suf h1)
  exact rVs_fine _ _ _ _ _ (b1.suf (sh_val _ _ _ h2)) (fun w hw => by rw [List.mem_singleton.mp hw]; exact rVal_fine b1 h2) h3
theorem rMore_small {ts : List Tx} {m : Int} {r : List Tx} (h : rMore ts = some (m, r)) : Small m.natAbs := by
  unfold rMore at h
  split at h
  · obtain ⟨⟨p, q⟩, h1, e⟩ := Option.map_eq_some_iff.mp h
    cases e
    exact rNum_small h1
  · split at h
    · obtain ⟨⟨p, q⟩, h1, e⟩ := Option.map_eq_some_iff.mp h
      cases e
      exact neg_small (rNum_small h1)
    · cases h
      show Small 0
      exact Nat.pow_pos (by decide)
theorem name_len {c : Tx} (h : isName c = true) : c.length ≤ 8 := by
  cases c with
  | nil => cases h
  | cons d r =>
    unfold isName at h
    simp only [Bool.and_eq_true] at h
    exact of_decide_eq_true h.1.1.1
theorem ops_len {op : Tx} (h : ops.contains op = true) : op.length ≤ 2 := by
  have key : ∀ op ∈ ops, op.length ≤ 2 := by decide
  exact key op (List.contains_iff_mem.mp h)
/-- what a reader of trees gives -/
def Pst (N : Nat) (x : Tree) : Prop := Fine N x ∧ nat x ≤ 24 ∧ lev x ≤ 12
def PP (P : Rd Tree) : Prop := ∀ N ts x r, Bd N ts → P ts = some (x, r) → Pst N x
theorem rAt2_fine {N : Nat} {name word : Tx} {ts : List Tx} {x : Tree} {r : List Tx} (b : Bd N ts) (h : rAt2 name word ts = some (x, r)) : Pst N x := by
  unfold rAt2 at h
  split at h
  · obtain ⟨r1, h1, h⟩ := Option.bind_eq_some_iff.mp h
    obtain ⟨t, ht, e⟩ := Option.map_eq_some_iff.mp h
    cases e
    unfold mkEmp at ht
    split at ht
    · rename_i hn
      cases ht
      exact ⟨name_len hn, (by decide : (1 : Nat) ≤ 24), Nat.zero_le _⟩
    · cases ht
  · split at h
    · split at h
      · obtain ⟨⟨p, q⟩, h1, h⟩ := Option.bind_eq_some_iff.mp h
        obtain ⟨t, ht, e⟩ := Option.map_eq_some_iff.mp h
        cases e
        unfold mkBeg at ht
        split at ht
        · rename_i hn
          split at ht
          · cases ht
            exact ⟨⟨name_len hn, rStr_len b h1⟩, (by decide : (1 : Nat) ≤ 24), Nat.zero_le _⟩
          · cases ht
        · cases ht
      · cases h
    · split at h
      · obtain ⟨⟨p, q⟩, h1, h⟩ := Option.bind_eq_some_iff.mp h
        obtain ⟨t, ht, e⟩ := Option.map_eq_some_iff.mp h
        cases e
        unfold mkAmg at ht
        split at ht
        · rename_i hn
          split at ht
          · rename_i hl
            split at ht
            · cases ht
              exact ⟨⟨name_len hn, hl.2, rVals_fine b h1⟩, (by decide : (1 : Nat) ≤ 24), Nat.zero_le _⟩
            · cases ht
          · cases ht
        · cases ht
      · split at h
        · obtain ⟨⟨p, q⟩, h1, h⟩ := Option.bind_eq_some_iff.mp h
          obtain ⟨t, ht, e⟩ := Option.map_eq_some_iff.mp h
          cases e
          unfold mkCmp at ht
          split at ht
          · rename_i hn
            split at ht
            · rename_i ho
              split at ht
              · cases ht
                exact ⟨⟨name_len hn, ops_len ho, rVal_fine b h1⟩, (by decide : (1 : Nat) ≤ 24), Nat.zero_le _⟩
              · cases ht
            · cases ht
          · cases ht
        · obtain ⟨⟨p, q⟩, h1, h⟩ := Option.bind_eq_some_iff.mp h
          obtain ⟨⟨m, q2⟩, h2, h⟩ := Option.bind_eq_some_iff.mp h
          obtain ⟨t, ht, e⟩ := Option.map_eq_some_iff.mp h
          cases e
          unfold mkAgn at ht
          split at ht
          · rename_i hn
            split at ht
            · rename_i ho
              split at ht
              · rename_i hoo
                cases ht
                exact ⟨⟨name_len hn, ops_len ho, name_len hoo.1, rMore_small h2⟩, (by decide : (1 : Nat) ≤ 24), Nat.zero_le _⟩
              · cases ht
            · cases ht
          · cases ht
theorem pp_atom : PP rAtom := fun N ts x r b h => by
  unfold rAtom at h
  obtain ⟨⟨p, q⟩, h1, h⟩ := Option.bind_eq_some_iff.mp h
  have s1 := sh_take _ _ _ h1
  dsimp only at h
  split at h
  · cases h
    exact ⟨trivial, (by decide : (1 : Nat) ≤ 24), Nat.zero_le _⟩
  · split at h
    · cases h
      exact ⟨trivial, (by decide : (1 : Nat) ≤ 24), Nat.zero_le _⟩
    · obtain ⟨⟨p2, q2⟩, h2, h⟩ := Option.bind_eq_some_iff.mp h
      exact rAt2_fine ((b.suf s1).suf (sh_take _ _ _ h2)) h
theorem lim_some {t t' : Tree} (h : lim t = some t') : t' = t ∧ nat t ≤ 24 ∧ lev t ≤ 12 := by
  unfold lim at h
  split at h
  · rename_i h1
    split at h
    · rename_i h2
      cases h
      exact ⟨rfl, h1, h2⟩
    · cases h
  · cases h
theorem pp_loopA {P : Rd Tree} (hS : Sh P) (hP : PP P) : ∀ (N n : Nat) (x : Tree) (ts : List Tx) (y : Tree) (r : List Tx), Bd N ts → Pst N x → loopA P n x ts = some (y, r) → Pst N y
  | N, 0, x, ts, y, r, b, hx, h => by
    unfold loopA at h
    split at h
    · cases h
    · cases h
      exact hx
  | N, n + 1, x, ts, y, r, b, hx, h => by
    rw [loopA_succ] at h
    split at h
    · obtain ⟨⟨p, q⟩, h1, h2⟩ := Option.bind_eq_some_iff.mp h
      obtain ⟨z, hz, h3⟩ := Option.bind_eq_some_iff.mp h2
      obtain ⟨rfl, l1, l2⟩ := lim_some hz
      exact pp_loopA hS hP N n _ _ _ _ (b.tail.suf (hS _ _ _ h1)) ⟨show Fine N (.and x p) from ⟨hx.1, (hP N _ _ _ b.tail h1).1⟩, l1, l2⟩ h3
    · cases h
      exact hx
theorem pp_and {P : Rd Tree} (hS : Sh P) (hP : PP P) : PP (rAnd P) := fun N ts x r b h => by
  unfold rAnd at h
  obtain ⟨⟨p, q⟩, h1, h2⟩ := Option.bind_eq_some_iff.mp h
  exact pp_loopA hS hP N _ _ _ _ _ (b.suf (hS _ _ _ h1)) (hP N _ _ _ b h1) h2
theorem pp_loopO {P : Rd Tree} (hS : Sh P) (hP : PP P) : ∀ (N n : Nat) (x : Tree) (ts : List Tx) (y : Tree) (r : List Tx), Bd N ts → Pst N x → loopO P n x ts = some (y, r) → Pst N y
  | N, 0, x, ts, y, r, b, hx, h => by
    unfold loopO at h
    split at h
    · cases h
    · cases h
      exact hx
  | N, n + 1, x, ts, y, r, b, hx, h => by
    rw [loopO_succ] at h
    split at h
    · obtain ⟨⟨p, q⟩, h1, h2⟩ := Option.bind_eq_some_iff.mp h
      obtain ⟨z, hz, h3⟩ := Option.bind_eq_some_iff.mp h2
      obtain ⟨rfl, l1, l2⟩ := lim_some hz
      exact pp_loopO hS hP N n _ _ _ _ (b.tail.suf (sh_and hS _ _ _ h1)) ⟨show Fine N (.or x p) from ⟨hx.1, (pp_and hS hP N _ _ _ b.tail h1).1⟩, l1, l2⟩ h3
    · cases h
      exact hx
theorem pp_or {P : Rd Tree} (hS : Sh P) (hP : PP P) : PP (rOr P) := fun N ts x r b h => by
  unfold rOr at h
  obtain ⟨⟨p, q⟩, h1, h2⟩ := Option.bind_eq_some_iff.mp h
  exact pp_loopO hS hP N _ _ _ _ _ (b.suf (sh_and hS _ _ _ h1)) (pp_and hS hP N _ _ _ b h1) h2
theorem pp_part : ∀ m : Nat, PP (rPart m)
  | 0, N, ts, x, r, _, h => by cases h
  | m + 1, N, ts, x, r, b, h => by
    rw [rPart_succ] at h
    split at h
    · obtain ⟨⟨p, q⟩, h1, h2⟩ := Option.bind_eq_some_iff.mp h
      obtain ⟨r1, h3, e⟩ := Option.map_eq_some_iff.mp h2
      cases e
      exact pp_or (sh_part m) (pp_part m) N _ _ _ b.tail h1
    · split at h
      · obtain ⟨⟨p, q⟩, h1, h2⟩ := Option.bind_eq_some_iff.mp h
        obtain ⟨r1, h3, e⟩ := Option.map_eq_some_iff.mp h2
        cases e
        obtain ⟨rfl, l1, l2⟩ := lim_some h3
        exact ⟨(pp_part m N _ _ _ b.tail h1).1, l1, l2⟩
      · split at h
        · obtain ⟨⟨p, q⟩, h1, h2⟩ := Option.bind_eq_some_iff.mp h
          obtain ⟨r1, h3, e⟩ := Option.map_eq_some_iff.mp h2
          cases e
          obtain ⟨rfl, l1, l2⟩ := lim_some h3
          exact ⟨(pp_part m N _ _ _ b.tail h1).1, l1, l2⟩
        · exact pp_atom N _ _ _ b h
/-- the tree that a text of at most 20,000 signs gives can be written -/
theorem tokens_pst {l : Tx} {ts : List Tx} {t : Tree} {r : List Tx} (h : tokens l = some ts) (h2 : rOr (rPart 24) ts = some (t, r)) : Pst l.length t :=
  pp_or (sh_part 24) (pp_part 24) l.length ts t r (fun x hx => (tokens_le h x hx).2) h2
theorem pst_len {N : Nat} {t : Tree} (hN : N ≤ 20000) (h : Pst N t) : (wr t).length ≤ 16000000 := by
  have h1 := wr_len t h.1
  have h2 : nat t * (16 * N + 9009 + 9 * lev t) ≤ 24 * (16 * 20000 + 9009 + 9 * 12) := Nat.mul_le_mul h.2.1 (by have := h.2.2; omega)
  omega
end TwP
end

section
set_option Elab.async false
set_option linter.all false
set_option maxRecDepth 100000
set_option maxHeartbeats 2000000
set_option exponentiation.threshold 5000
/-! The law's plain half: what is refused, the number lines. -/
namespace TwP
open PySem.NumText
theorem reads_none {l : Tx} (h : parse l = none) : reads l = false := by
  unfold reads
  rw [h]
theorem reads_other {l : Tx} {t : Tree} (h : parse l = some t) (hn : wr t ≠ l) : reads l = false := by
  unfold reads
  rw [h]
  exact decide_eq_false hn
theorem parse_of {l : Tx} {ts : List Tx} (h : tokens l = some ts) : parse l = (rOr (rPart 24) ts).map (·.1) := by
  unfold parse
  rw [h]
  rfl
theorem parse_no {l : Tx} (h : tokens l = none) : parse l = none := by
  unfold parse
  rw [h]
  rfl
theorem ne_len {l m : Tx} (h : l.length ≠ m.length) : l ≠ m := fun e => h (by rw [e])
theorem rOr_nothing {P : Rd Tree} {ts : List Tx} (h : P ts = none) : rOr P ts = none := by
  unfold rOr rAnd
  rw [h]
  rfl
theorem rAnd_nothing {P : Rd Tree} {ts : List Tx} (h : P ts = none) : rAnd P ts = none := by
  unfold rAnd
  rw [h]
  rfl
theorem rOr_part {P : Rd Tree} {ts : List Tx} {t : Tree} (h : P ts = some (t, [])) : rOr P ts = some (t, []) := by
  unfold rOr rAnd
  rw [h]
  rfl
theorem part_nil : ∀ m : Nat, rPart m [] = none
  | 0 => rfl
  | _ + 1 => rfl
/-! ### a tree's text, changed -/
section
variable {t : Tree}
theorem no_par (hg : Good t) (hn : nat t ≤ 24) (hl : lev t ≤ 11) : reads (40 :: (wr t ++ [41])) = false := by
  refine reads_other (t := t) ?_ (ne_len (by rw [List.length_cons, List.length_append]; omega))
  have e := tk_br (b := true) (tk_wr t hg) [] sep_nil
  rw [List.append_nil] at e
  have e' : tokens (40 :: (wr t ++ [41])) = some ([40] :: (tk t ++ [[41]])) := by
    refine Eq.trans e ?_
    show some (brT true (tk t) ++ []) = _
    rw [List.append_nil]
    rfl
  rw [parse_of e']
  have q : rPart 24 ([40] :: (tk t ++ [[41]])) = some (t, []) := by
    rw [rPart_succ, if_pos (hdIs_self _ _)]
    show (rOr (rPart 23) (tk t ++ [[41]])).bind _ = _
    rw [(tk_all t hg hn (by omega)).O 23 [[41]] (.inl (by omega)) (stop_kw _) rfl, loopO_stop rfl]
    rfl
  rw [rOr_part q]
  rfl
theorem no_pre (hg : Good t) (hn : nat t ≤ 24) (hl : lev t ≤ 11) : reads (32 :: wr t) = false := by
  refine reads_other (t := t) ?_ (ne_len (by rw [List.length_cons]; omega))
  have e : parse (32 :: wr t) = parse (wr t) := by
    unfold parse
    rw [tokens_sp]
  rw [e]
  exact parse_wr hg hn hl
theorem no_post (hg : Good t) (hn : nat t ≤ 24) (hl : lev t ≤ 11) : reads (wr t ++ [32]) = false := by
  refine reads_other (t := t) ?_ (ne_len (by rw [List.length_append, List.length_singleton]; omega))
  have e : parse (wr t ++ [32]) = parse (wr t) := by
    have e1 := tokens_wr hg [32] sep_cons
    have e2 := tokens_wr hg [] sep_nil
    rw [List.append_nil] at e2
    unfold parse
    rw [e1, e2]
    rfl
  rw [e]
  exact parse_wr hg hn hl
theorem no_line (hg : Good t) : reads (wr t ++ [10]) = false := by
  refine reads_none (parse_no ?_)
  rw [tokens_wr hg [10] sep_cons]
  rfl
theorem no_open (hg : Good t) (hn : nat t ≤ 24) (hl : lev t ≤ 11) : reads (40 :: wr t) = false := by
  refine reads_none ?_
  have e := tk_sign 40 (by omega) (tk_wr t hg) [] sep_nil
  rw [List.append_nil] at e
  have e' : tokens (40 :: wr t) = some ([40] :: (tk t ++ [])) := e
  rw [parse_of e', rOr_nothing]
  · rfl
  · rw [rPart_succ, if_pos (hdIs_self _ _)]
    show (rOr (rPart 23) (tk t ++ [])).bind _ = _
    rw [(tk_all t hg hn (by omega)).O 23 [] (.inl (by omega)) ⟨rfl, rfl⟩ rfl, loopO_stop rfl]
    rfl
theorem no_close (hg : Good t) (hn : nat t ≤ 24) (hl : lev t ≤ 11) : reads (wr t ++ [41]) = false := by
  refine reads_other (t := t) ?_ (ne_len (by rw [List.length_append, List.length_singleton]; omega))
  have e' : tokens (wr t ++ [41]) = some (tk t ++ [[41]]) := by
    rw [tokens_wr hg [41] sep_cons]
    rfl
  rw [parse_of e', (tk_all t hg hn (by omega)).O 24 [[41]] (.inl (by omega)) (stop_kw _) rfl, loopO_stop rfl]
  rfl
theorem no_or (hg : Good t) (hn : nat t ≤ 24) (hl : lev t ≤ 11) : reads (wr t ++ [32, 111, 114]) = false := by
  refine reads_none ?_
  have e' : tokens (wr t ++ [32, 111, 114]) = some (tk t ++ [kOr]) := by
    rw [tokens_wr hg [32, 111, 114] sep_cons]
    rfl
  rw [parse_of e', (tk_all t hg hn (by omega)).O 24 [kOr] (.inl (by omega)) (stop_kw _) rfl, loopO_step (sh_part 24), rAnd_nothing (part_nil 24)]
  rfl
theorem loopA_end {m : Nat} {x : Tree} : loopA (rPart m) [kAnd].length x [kAnd] = none := by
  rw [loopA_step (sh_part m), part_nil]
  rfl
theorem no_and (hg : Good t) (hn : nat t ≤ 24) (hl : lev t ≤ 11) : reads (wr t ++ [32, 97, 110, 100]) = false := by
  refine reads_none ?_
  have e' : tokens (wr t ++ [32, 97, 110, 100]) = some (tk t ++ [kAnd]) := by
    rw [tokens_wr hg [32, 97, 110, 100] sep_cons]
    rfl
  rw [parse_of e']
  have key : rOr (rPart 24) (tk t ++ [kAnd]) = none := by
    cases ho : isO t with
    | false =>
      have A := (tk_all t hg hn (by omega)).A 24 [kAnd] (.inl (by omega)) (stop_kw _)
      rw [ho] at A
      unfold rOr
      rw [show tk t = brT false (tk t) from rfl, A, loopA_end]
      rfl
    | true =>
      cases t with
      | or a b =>
        have hn' : nat a + nat b ≤ 24 := hn
        have hl' : max (lev a + 1) (lev b + 1) ≤ 11 := hl
        have PA := tk_all a hg.1 (by omega) (by omega)
        have PB := tk_all b hg.2 (by omega) (by omega)
        have e : tk (.or a b) ++ [kAnd] = tk a ++ (kOr :: (brT (isO b) (tk b) ++ [kAnd])) := by simp [tk]
        rw [e, PA.O 24 _ (.inl (by omega)) (stop_kw _) rfl, loopO_step (sh_part 24), PB.A 24 [kAnd] (.inl (by omega)) (stop_kw _), loopA_end]
        rfl
      | _ => cases ho
  rw [key]
  rfl
end
/-! ### too deep -/
theorem deep_par : ∀ (m k : Nat) (ts : List Tx), m ≤ k → rPart m (List.replicate k [40] ++ ts) = none
  | 0, _, _, _ => rfl
  | m + 1, 0, _, h => by omega
  | m + 1, k + 1, ts, h => by
    rw [List.replicate_succ, List.cons_append, rPart_succ, if_pos (hdIs_self _ _)]
    show (rOr (rPart m) (List.replicate k [40] ++ ts)).bind _ = _
    rw [rOr_nothing (deep_par m k ts (by omega))]
    rfl
theorem deep_not : ∀ (m k : Nat) (ts : List Tx), m ≤ k → rPart m (List.replicate k kNot ++ ts) = none
  | 0, _, _, _ => rfl
  | m + 1, 0, _, h => by omega
  | m + 1, k + 1, ts, h => by
    rw [List.replicate_succ, List.cons_append, rPart_succ, if_neg (by simp [hdIs, kNot]), if_pos (hdIs_self _ _)]
    show (rPart m (List.replicate k kNot ++ ts)).bind _ = _
    rw [deep_not m k ts (by omega)]
    rfl
theorem deep_sure : ∀ (m k : Nat) (ts : List Tx), m ≤ k → rPart m (List.replicate k kSure ++ ts) = none
  | 0, _, _, _ => rfl
  | m + 1, 0, _, h => by omega
  | m + 1, k + 1, ts, h => by
    rw [List.replicate_succ, List.cons_append, rPart_succ, if_neg (by simp [hdIs, kSure]), if_neg (by simp [hdIs, kSure, kNot]), if_pos (hdIs_self _ _)]
    show (rPart m (List.replicate k kSure ++ ts)).bind _ = _
    rw [deep_sure m k ts (by omega)]
    rfl
theorem tok_rep {w u : Tx} (h : ∀ x : Tx, tokens (w ++ x) = (tokens x).map (u :: ·)) : ∀ (k : Nat) (x : Tx), tokens ((List.replicate k w).flatten ++ x) = (tokens x).map (List.replicate k u ++ ·)
  | 0, x => by
    show tokens x = _
    cases tokens x <;> rfl
  | k + 1, x => by
    rw [List.replicate_succ, List.flatten_cons, List.append_assoc, h, tok_rep h k x]
    cases tokens x <;> rfl
theorem refuse_deep {l : Tx} {us : List Tx} {o : Option (List Tx)} (h : tokens l = o.map (us ++ ·)) (hd : ∀ ts, rPart 24 (us ++ ts) = none) : reads l = false := by
  refine reads_none ?_
  cases o with
  | none => exact parse_no h
  | some ts =>
    have h' : tokens l = some (us ++ ts) := h
    rw [parse_of h', rOr_nothing (hd ts)]
    rfl
theorem no_deepPar {k : Nat} (hk : 24 ≤ k) (x : Tx) : reads ((List.replicate k [40]).flatten ++ x) = false :=
  refuse_deep (tok_rep (w := [40]) (u := [40]) (fun y => by
    show tokens (40 :: y) = _
    rw [tokens_some (by decide) (sign1 40 (by omega) y)]
    rfl) k x) fun ts => deep_par 24 k ts hk
theorem kw_sp {w : Tx} (hw : w ≠ [] ∧ ∀ c ∈ w, alnum c = true) (y : Tx) : tokens (w ++ [32] ++ y) = (tokens y).map (w :: ·) := by
  have e := tk_word hw.1 hw.2 (32 :: y) sep_cons
  rw [tokens_sp] at e
  rw [List.append_assoc]
  exact e
theorem no_deepNot {k : Nat} (hk : 24 ≤ k) (x : Tx) : reads ((List.replicate k [110, 111, 116, 32]).flatten ++ x) = false :=
  refuse_deep (tok_rep (w := [110, 111, 116, 32]) (u := kNot) (kw_sp (w := kNot) (by decide)) k x) fun ts => deep_not 24 k ts hk
theorem no_deepSure {k : Nat} (hk : 24 ≤ k) (x : Tx) : reads ((List.replicate k [115, 117, 114, 101, 32]).flatten ++ x) = false :=
  refuse_deep (tok_rep (w := [115, 117, 114, 101, 32]) (u := kSure) (kw_sp (w := kSure) (by decide)) k x) fun ts => deep_sure 24 k ts hk
/-! ### a name, then a fixed text -/
section
variable {n : Tx}
theorem part_name (hn : isName n = true) (w : Tx) (ts : List Tx) : rPart 24 (n :: w :: ts) = rAt2 n w ts := by
  have e1 : hdIs [40] (n :: w :: ts) = false := decide_eq_false (name_hd hn)
  have e2 : hdIs kNot (n :: w :: ts) = false := decide_eq_false (name_ne hn)
  have e3 : hdIs kSure (n :: w :: ts) = false := decide_eq_false (name_ne hn)
  rw [rPart_succ, if_neg (by rw [e1]; decide), if_neg (by rw [e2]; decide), if_neg (by rw [e3]; decide), rAtom_name hn]
theorem tok_name (hn : isName n = true) {s : Tx} {ts : List Tx} (hs : Sep s) (h : tokens s = some ts) : tokens (n ++ s) = some (n :: ts) := by
  rw [tk_name hn s hs, h]
  rfl
theorem name_none (hn : isName n = true) {s w : Tx} {ts : List Tx} (hs : Sep s) (h : tokens s = some (w :: ts)) (h2 : rAt2 n w ts = none) : reads (n ++ s) = false := by
  refine reads_none ?_
  rw [parse_of (tok_name hn hs h), rOr_nothing]
  · rfl
  · rw [part_name hn]
    exact h2
theorem name_other (hn : isName n = true) {s s' w : Tx} {ts : List Tx} {t : Tree} (hs : Sep s) (h : tokens s = some (w :: ts)) (h2 : rAt2 n w ts = some (t, [])) (hw : wr t = n ++ s') (hne : s' ≠ s) : reads (n ++ s) = false := by
  refine reads_other (t := t) ?_ (fun e => hne (List.append_cancel_left (hw.symm.trans e)))
  rw [parse_of (tok_name hn hs h), rOr_part]
  · rfl
  · rw [part_name hn]
    exact h2
theorem mkCmp_lt (hn : isName n = true) (v : Val) (hv : valOk v = true) : mkCmp n [60] v = some (.cmp n [60] v) := by
  unfold mkCmp
  rw [if_pos hn, if_pos (by decide), if_pos hv]
theorem lt_num (hn : isName n = true) {ts : List Tx} {k : Int} (hd : (hdQ ts || hdIs [45] ts || hdD ts) = true) (h : rVal ts = some (.num k, [])) : rAt2 n [60] ts = some (.cmp n [60] (.num k), []) := by
  unfold rAt2
  rw [if_neg (by decide), if_neg (by decide), if_neg (by decide), if_pos hd, h]
  show (mkCmp n [60] (.num k)).map (·, []) = _
  rw [mkCmp_lt hn _ rfl]
  rfl
theorem nc0 (hn : isName n = true) : reads (n ++ [32, 60, 32, 48, 49]) = false :=
  name_other hn (w := [60]) (ts := [[48, 49]]) (t := .cmp n [60] (.num 1)) (s' := [32, 60, 32, 49]) sep_cons (by decide +kernel) (lt_num hn rfl (by decide +kernel)) (by
    show n ++ (32 :: ([60] ++ (32 :: intL 1))) = _
    rw [show intL 1 = [49] by decide +kernel]
    rfl) (by decide)
theorem no_plus (hn : isName n = true) (m : Int) : mkAgn n [60] [43] m = none := by
  unfold mkAgn
  rw [if_pos hn, if_pos (by decide), if_neg (fun z => absurd z.1 (by decide))]
theorem at2_agn (n : Tx) {o : Tx} {r : List Tx} (hd : (hdQ (o :: r) || hdIs [45] (o :: r) || hdD (o :: r)) = false) : rAt2 n [60] (o :: r) = (rMore r).bind fun q => (mkAgn n [60] o q.1).map (·, q.2) := by
  unfold rAt2
  rw [if_neg (by decide), if_neg (by decide), if_neg (by decide), if_neg (by rw [hd]; decide)]
  rfl
theorem nc1 (hn : isName n = true) : reads (n ++ [32, 60, 32, 43, 49]) = false :=
  name_none hn (w := [60]) (ts := [[43], [49]]) sep_cons (by decide +kernel) (by
    rw [at2_agn n rfl, show rMore [[49]] = some (0, [[49]]) by decide +kernel]
    show (mkAgn n [60] [43] 0).map _ = _
    rw [no_plus hn]
    rfl)
theorem nc2 (hn : isName n = true) : reads (n ++ [32, 60, 32, 45, 48]) = false :=
  name_other hn (w := [60]) (ts := [[45], [48]]) (t := .cmp n [60] (.num 0)) (s' := [32, 60, 32, 48]) sep_cons (by decide +kernel) (lt_num hn rfl (by decide +kernel)) (by
    show n ++ (32 :: ([60] ++ (32 :: intL 0))) = _
    rw [show intL 0 = [48] by decide +kernel]
    rfl) (by decide)
theorem wr_lt1 : wr (.cmp n [60] (.num 1)) = n ++ [32, 60, 32, 49] := by
  show n ++ (32 :: ([60] ++ (32 :: intL 1))) = _
  rw [show intL 1 = [49] by decide +kernel]
  rfl
theorem nc3 (hn : isName n = true) : reads (n ++ [32, 60, 32, 32, 49]) = false :=
  name_other hn (w := [60]) (ts := [[49]]) (t := .cmp n [60] (.num 1)) (s' := [32, 60, 32, 49]) sep_cons (by decide +kernel) (lt_num hn rfl (by decide +kernel)) wr_lt1 (by decide)
theorem nc4 (hn : isName n = true) : reads (n ++ [60, 49]) = false :=
  name_other hn (w := [60]) (ts := [[49]]) (t := .cmp n [60] (.num 1)) (s' := [32, 60, 32, 49]) sep_cons (by decide +kernel) (lt_num hn rfl (by decide +kernel)) wr_lt1 (by decide)
theorem nc5 (hn : isName n = true) : reads (n ++ [32, 60, 32, 49, 32]) = false :=
  name_other hn (w := [60]) (ts := [[49]]) (t := .cmp n [60] (.num 1)) (s' := [32, 60, 32, 49]) sep_cons (by decide +kernel) (lt_num hn rfl (by decide +kernel)) wr_lt1 (by decide)
theorem nc6 (hn : isName n = true) : reads (n ++ [32, 60, 32, 98, 32, 43, 32, 48]) = false := by
  have hs : Sep [32, 60, 32, 98, 32, 43, 32, 48] := sep_cons
  have ht : tokens [32, 60, 32, 98, 32, 43, 32, 48] = some ([60] :: [[98], [43], [48]]) := by decide +kernel
  have e : rAt2 n [60] [[98], [43], [48]] = (mkAgn n [60] [98] 0).map (·, []) := by
    rw [at2_agn n rfl, show rMore [[43], [48]] = some (0, []) by decide +kernel]
    rfl
  by_cases hb : n = [98]
  · refine name_none hn hs ht ?_
    rw [e]
    have : mkAgn n [60] [98] 0 = none := by
      unfold mkAgn
      rw [if_pos hn, if_pos (by decide), if_neg (fun z => z.2 hb.symm)]
    rw [this]
    rfl
  · refine name_other hn (t := .agn n [60] [98] 0) (s' := [32, 60, 32, 98]) hs ht ?_ ?_ (by decide)
    · rw [e]
      have : mkAgn n [60] [98] 0 = some (.agn n [60] [98] 0) := by
        unfold mkAgn
        rw [if_pos hn, if_pos (by decide), if_pos ⟨by decide, fun z => hb z.symm⟩]
      rw [this]
      rfl
    · show n ++ (32 :: ([60] ++ (32 :: ([98] ++ wrMore 0)))) = _
      rfl
theorem nc7 (hn : isName n = true) : reads (n ++ [32, 61, 32, 49]) = false := by
  refine reads_none (parse_no ?_)
  rw [tk_name hn _ sep_cons, show tokens [32, 61, 32, 49] = none by decide +kernel]
  rfl
theorem nc8 (hn : isName n = true) : reads (n ++ [32, 60, 32, 98, 32, 43, 32, 45, 49]) = false :=
  name_none hn (w := [60]) (ts := [[98], [43], [45], [49]]) sep_cons (by decide +kernel) (by
    rw [at2_agn n rfl, show rMore [[43], [45], [49]] = none by decide +kernel]
    rfl)
theorem nc9 (hn : isName n = true) : reads (n ++ [32, 105, 110, 32, 40, 41]) = false :=
  name_none hn (w := kIn) (ts := [[40], [41]]) sep_cons (by decide +kernel) (by
    unfold rAt2
    rw [if_neg (by decide), if_neg (by decide), if_pos rfl, show rVals [[40], [41]] = none by decide +kernel]
    rfl)
theorem digs_alnum {d : Nat} (h : isDig d = true) (k : Nat) : ∀ c ∈ List.replicate k d, alnum c = true := fun c hc => by
  rw [List.eq_of_mem_replicate hc]
  unfold alnum
  rw [h, Bool.or_true]
theorem tk_rep {d k : Nat} (h : isDig d = true) (hk : 1 ≤ k) : Tk (List.replicate k d) [List.replicate k d] := tk_word (by
  cases k with
  | zero => omega
  | succ k => simp [List.replicate_succ]) (digs_alnum h k)
/-- a number of more than 1,000 digits -/
theorem no_nines (hn : isName n = true) {k : Nat} (hk : 1000 < k) : reads (n ++ ([32, 60, 32] ++ List.replicate k 57)) = false := by
  have ht : tokens ([32, 60, 32] ++ List.replicate k 57) = some ([60] :: [List.replicate k 57]) := by
    have e := (tk_op (op := [60]) (by decide)).app (tk_rep (d := 57) (by decide) (by omega : 1 ≤ k)).sp sep_cons (by simp) [] sep_nil
    rw [List.append_nil] at e
    show tokens (32 :: ([60] ++ (32 :: List.replicate k 57))) = _
    rw [tokens_sp]
    exact e
  refine name_none hn sep_cons ht ?_
  obtain ⟨k', rfl⟩ : ∃ k', k = k' + 1 := ⟨k - 1, by omega⟩
  have hv : rVal [List.replicate (k' + 1) 57] = none := by
    have e1 : hdQ [List.replicate (k' + 1) 57] = false := by
      rw [List.replicate_succ]
      rfl
    have e2 : hdIs [45] [List.replicate (k' + 1) 57] = false := by
      rw [List.replicate_succ]
      exact decide_eq_false (show ¬ ((57 :: List.replicate k' 57 : Tx) = [45]) from fun z => absurd (List.cons.inj z).1 (by decide))
    unfold rVal
    rw [e1, e2]
    show ((numOf (List.replicate (k' + 1) 57)).map (·, [])).map _ = _
    unfold numOf
    rw [if_neg (by simp [List.replicate_succ]), if_neg (by rw [List.length_replicate]; omega)]
    rfl
  unfold rAt2
  rw [if_neg (by decide), if_neg (by decide), if_neg (by decide)]
  have hd : (hdQ [List.replicate (k' + 1) 57] || hdIs [45] [List.replicate (k' + 1) 57] || hdD [List.replicate (k' + 1) 57]) = true := by
    have e3 : hdD [List.replicate (k' + 1) 57] = true := by
      rw [List.replicate_succ]
      rfl
    rw [e3, Bool.or_true]
  rw [if_pos hd, hv]
  rfl
end
/-- the fixed texts -/
theorem no_fixed : [([] : Tx), kAnd, kNot, [40, 41], [97, 108, 119, 97, 121, 115, 32, 97, 108, 119, 97, 121, 115], [40, 97, 108, 119, 97, 121, 115], [97, 108, 119, 97, 121, 115, 41], [97, 32, 105, 115], [97, 32, 105, 110, 32, 40, 49, 44, 50, 41], [97, 32, 61, 61, 32, 39, 120, 39]].all (fun l => !reads l) = true := by decide +kernel
/-! ### the number lines -/
/-- 77..7 -/
def sev (k : Nat) : Nat := digitsVal (List.replicate k 55)
theorem sev_L {k : Nat} (hk : 1 ≤ k) : TL.numL (sev k) = List.replicate k 55 := by
  obtain ⟨k', rfl⟩ : ∃ k', k = k' + 1 := ⟨k - 1, by omega⟩
  have hd : AllDigits (List.replicate (k' + 1) 55) := fun c hc => by
    rw [List.eq_of_mem_replicate hc]
    decide
  unfold TL.numL sev
  rw [toDigits_digitsVal k' _ (by simp) hd (.inr ⟨55, List.replicate k' 55, List.replicate_succ, by decide⟩), List.map_map, List.map_replicate]
  rfl
theorem sev_pos {k : Nat} (hk : 1 ≤ k) : 0 < sev k := by
  obtain ⟨k', rfl⟩ : ∃ k', k = k' + 1 := ⟨k - 1, by omega⟩
  exact digitsVal_pos (c := 55) (cs := List.replicate k' 55) (by decide)
theorem sev_int {k : Nat} (hk : 1 ≤ k) : intL (sev k : Int) = List.replicate k 55 := by
  rw [← sev_L hk]
  unfold intL
  rw [if_neg (by omega)]
  rfl
theorem sev_neg {k : Nat} (hk : 1 ≤ k) : intL (-(sev k : Int)) = 45 :: List.replicate k 55 := by
  have := sev_pos hk
  rw [← sev_L hk]
  unfold intL
  rw [if_pos (by omega), Int.natAbs_neg]
  rfl
section
variable {n : Tx}
theorem line0 (hn : isName n = true) {k : Nat} (h1 : 1 ≤ k) (h2 : k ≤ 1000) : reads (n ++ ([32, 60, 32] ++ List.replicate k 55)) = true := by
  have e : n ++ ([32, 60, 32] ++ List.replicate k 55) = wr (.cmp n [60] (.num (sev k : Int))) := by
    show _ = n ++ (32 :: ([60] ++ (32 :: intL (sev k : Int))))
    rw [sev_int h1]
    rfl
  rw [e]
  refine reads_wr ⟨hn, by decide, ?_⟩ (by show (1 : Nat) ≤ 24; decide) (Nat.zero_le _)
  show (TL.numL (sev k)).length ≤ 1000
  rw [sev_L h1, List.length_replicate]
  exact h2
theorem line1 (hn : isName n = true) {k : Nat} (h1 : 1 ≤ k) (h2 : k ≤ 1000) : reads (n ++ ([32, 33, 61, 32, 45] ++ List.replicate k 55)) = true := by
  have e : n ++ ([32, 33, 61, 32, 45] ++ List.replicate k 55) = wr (.cmp n [33, 61] (.num (-(sev k : Int)))) := by
    show _ = n ++ (32 :: ([33, 61] ++ (32 :: intL (-(sev k : Int)))))
    rw [sev_neg h1]
    rfl
  rw [e]
  refine reads_wr ⟨hn, by decide, ?_⟩ (by show (1 : Nat) ≤ 24; decide) (Nat.zero_le _)
  show (TL.numL (-(sev k : Int)).natAbs).length ≤ 1000
  rw [Int.natAbs_neg]
  show (TL.numL (sev k)).length ≤ 1000
  rw [sev_L h1, List.length_replicate]
  exact h2
theorem line2 (hn : isName n = true) {k : Nat} (h1 : 1 ≤ k) (h2 : k ≤ 1000) : reads (n ++ ([32, 105, 110, 32, 40] ++ (List.replicate k 55 ++ [44, 32, 45, 49, 41]))) = true := by
  have e : n ++ ([32, 105, 110, 32, 40] ++ (List.replicate k 55 ++ [44, 32, 45, 49, 41])) = wr (.amg n [.num (sev k : Int), .num (-1)]) := by
    show _ = n ++ ([32, 105, 110, 32, 40] ++ ((intL (sev k : Int) ++ ([44, 32] ++ intL (-1))) ++ [41]))
    rw [sev_int h1, show intL (-1) = [45, 49] by decide +kernel, List.append_assoc]
    rfl
  rw [e]
  refine reads_wr ⟨hn, by show (1 : Nat) ≤ 2; decide, by show (2 : Nat) ≤ 8; decide, fun v hv => ?_⟩ (by show (1 : Nat) ≤ 24; decide) (Nat.zero_le _)
  rcases List.mem_cons.mp hv with rfl | hv
  · show (TL.numL (sev k)).length ≤ 1000
    rw [sev_L h1, List.length_replicate]
    exact h2
  · rw [List.mem_singleton.mp hv]
    show (TL.numL 1).length ≤ 1000
    decide +kernel
end
end TwP
end

section
set_option Elab.async false
set_option linter.all false
set_option maxRecDepth 100000
set_option maxHeartbeats 4000000
/-! Printed by gen_d.py: where each def stands, its names, the facts of the head that the walks lean on. -/
namespace Tw
open PySem PySem.Spec PyProof.Rows L2
def top (i : Nat) : Stmt := PySem.Challenge.pw_tworows_k41_whole_reading_is_exact.main.body.getD i (.Pass ⟨0, 0, 0, 0⟩)
abbrev FnP (K : PySem.W.Frag) (x qn : Str) (st : Stmt) (f : Addr) (fd : FuncData) : Prop := FunD K x qn (defArgs st) (defBody st) (defScope st) [] [] f fd

def chars : List Nat := [32, 33, 34, 35, 36, 38, 39, 40, 41, 42, 43, 44, 45, 46, 47, 48, 49, 50, 51, 52, 53, 54, 55, 56, 57, 58, 59, 60, 61, 62, 63, 64, 65, 66, 67, 68, 69, 70, 71, 72, 73, 74, 75, 76, 77, 78, 79, 80, 81, 82, 83, 84, 85, 86, 87, 88, 89, 90, 91, 92, 93, 94, 95, 96, 97, 98, 99, 100, 101, 102, 103, 104, 105, 106, 107, 108, 109, 110, 111, 112, 113, 114, 115, 116, 117, 118, 119, 120, 121, 122, 123, 124, 125, 126]
def lets : List Nat := [97, 98, 99, 100, 101, 102, 103, 104, 105, 106, 107, 108, 109, 110, 111, 112, 113, 114, 115, 116, 117, 118, 119, 120, 121, 122]
def digs : List Nat := [48, 49, 50, 51, 52, 53, 54, 55, 56, 57]
abbrev sV (l : List Nat) : V := .str (SX.S l)
abbrev s_is_integer : Stmt := top 10
theorem sc_is_integer : FnScope ["thing"] ["thing"] (defScope s_is_integer) := ⟨rfl, rfl, rfl, by decide +kernel, rfl, by decide +kernel, by decide +kernel⟩
abbrev s_is_sequence : Stmt := top 11
theorem sc_is_sequence : FnScope ["thing"] ["thing"] (defScope s_is_sequence) := ⟨rfl, rfl, rfl, by decide +kernel, rfl, by decide +kernel, by decide +kernel⟩
abbrev s_is_text : Stmt := top 12
theorem sc_is_text : FnScope ["thing", "char"] ["thing"] (defScope s_is_text) := ⟨rfl, rfl, rfl, by decide +kernel, rfl, by decide +kernel, by decide +kernel⟩
abbrev s_is_name : Stmt := top 13
theorem sc_is_name : FnScope ["thing", "char"] ["thing"] (defScope s_is_name) := ⟨rfl, rfl, rfl, by decide +kernel, rfl, by decide +kernel, by decide +kernel⟩
abbrev s_kind_of : Stmt := top 14
theorem sc_kind_of : FnScope ["value"] ["value"] (defScope s_kind_of) := ⟨rfl, rfl, rfl, by decide +kernel, rfl, by decide +kernel, by decide +kernel⟩
abbrev s_Test_init : Stmt := inClass (top 20) 0
theorem sc_Test_init : FnScope ["self", "kind", "data", "parts"] ["self", "kind", "data", "parts"] (defScope s_Test_init) := ⟨rfl, rfl, rfl, by decide +kernel, rfl, by decide +kernel, by decide +kernel⟩
abbrev s_Test_kind : Stmt := inClass (top 20) 1
theorem sc_Test_kind : FnScope ["self"] ["self"] (defScope s_Test_kind) := ⟨rfl, rfl, rfl, by decide +kernel, rfl, by decide +kernel, by decide +kernel⟩
abbrev s_Test_data : Stmt := inClass (top 20) 2
theorem sc_Test_data : FnScope ["self"] ["self"] (defScope s_Test_data) := ⟨rfl, rfl, rfl, by decide +kernel, rfl, by decide +kernel, by decide +kernel⟩
abbrev s_Test_parts : Stmt := inClass (top 20) 3
theorem sc_Test_parts : FnScope ["self"] ["self"] (defScope s_Test_parts) := ⟨rfl, rfl, rfl, by decide +kernel, rfl, by decide +kernel, by decide +kernel⟩
abbrev s_Test_atoms : Stmt := inClass (top 20) 4
theorem sc_Test_atoms : FnScope ["self", "part", "atom"] ["self"] (defScope s_Test_atoms) := ⟨rfl, rfl, rfl, by decide +kernel, rfl, by decide +kernel, by decide +kernel⟩
abbrev s_Test_levels : Stmt := inClass (top 20) 5
theorem sc_Test_levels : FnScope ["self", "result", "part"] ["self"] (defScope s_Test_levels) := ⟨rfl, rfl, rfl, by decide +kernel, rfl, by decide +kernel, by decide +kernel⟩
abbrev s_Test_and : Stmt := inClass (top 20) 9
theorem sc_Test_and : FnScope ["self", "other"] ["self", "other"] (defScope s_Test_and) := ⟨rfl, rfl, rfl, by decide +kernel, rfl, by decide +kernel, by decide +kernel⟩
abbrev s_Test_or : Stmt := inClass (top 20) 10
theorem sc_Test_or : FnScope ["self", "other"] ["self", "other"] (defScope s_Test_or) := ⟨rfl, rfl, rfl, by decide +kernel, rfl, by decide +kernel, by decide +kernel⟩
abbrev s_Test_invert : Stmt := inClass (top 20) 11
theorem sc_Test_invert : FnScope ["self"] ["self"] (defScope s_Test_invert) := ⟨rfl, rfl, rfl, by decide +kernel, rfl, by decide +kernel, by decide +kernel⟩
abbrev s_Test_str : Stmt := inClass (top 20) 13
theorem sc_Test_str : FnScope ["self"] ["self"] (defScope s_Test_str) := ⟨rfl, rfl, rfl, by decide +kernel, rfl, by decide +kernel, by decide +kernel⟩
abbrev s_limited : Stmt := top 21
theorem sc_limited : FnScope ["test"] ["test"] (defScope s_limited) := ⟨rfl, rfl, rfl, by decide +kernel, rfl, by decide +kernel, by decide +kernel⟩
abbrev s_combine : Stmt := top 22
theorem sc_combine : FnScope ["kind", "one", "other"] ["kind", "one", "other"] (defScope s_combine) := ⟨rfl, rfl, rfl, by decide +kernel, rfl, by decide +kernel, by decide +kernel⟩
abbrev s_sure : Stmt := top 23
theorem sc_sure : FnScope ["test"] ["test"] (defScope s_sure) := ⟨rfl, rfl, rfl, by decide +kernel, rfl, by decide +kernel, by decide +kernel⟩
abbrev s_is_operator : Stmt := top 24
theorem sc_is_operator : FnScope ["op"] ["op"] (defScope s_is_operator) := ⟨rfl, rfl, rfl, by decide +kernel, rfl, by decide +kernel, by decide +kernel⟩
abbrev s_compare : Stmt := top 25
theorem sc_compare : FnScope ["column", "op", "value"] ["column", "op", "value"] (defScope s_compare) := ⟨rfl, rfl, rfl, by decide +kernel, rfl, by decide +kernel, by decide +kernel⟩
abbrev s_against : Stmt := top 26
theorem sc_against : FnScope ["column", "op", "other", "more"] ["column", "op", "other", "more"] (defScope s_against) := ⟨rfl, rfl, rfl, by decide +kernel, rfl, by decide +kernel, by decide +kernel⟩
abbrev s_among : Stmt := top 27
theorem sc_among : FnScope ["column", "values", "value"] ["column", "values"] (defScope s_among) := ⟨rfl, rfl, rfl, by decide +kernel, rfl, by decide +kernel, by decide +kernel⟩
abbrev s_begins : Stmt := top 28
theorem sc_begins : FnScope ["column", "prefix"] ["column", "prefix"] (defScope s_begins) := ⟨rfl, rfl, rfl, by decide +kernel, rfl, by decide +kernel, by decide +kernel⟩
abbrev s_empty : Stmt := top 29
theorem sc_empty : FnScope ["column"] ["column"] (defScope s_empty) := ⟨rfl, rfl, rfl, by decide +kernel, rfl, by decide +kernel, by decide +kernel⟩
abbrev s_always : Stmt := top 30
theorem sc_always : FnScope [] [] (defScope s_always) := ⟨rfl, rfl, rfl, by decide +kernel, rfl, by decide +kernel, by decide +kernel⟩
abbrev s_never : Stmt := top 31
theorem sc_never : FnScope [] [] (defScope s_never) := ⟨rfl, rfl, rfl, by decide +kernel, rfl, by decide +kernel, by decide +kernel⟩
abbrev s_written_value : Stmt := top 33
theorem sc_written_value : FnScope ["value", "body", "char"] ["value"] (defScope s_written_value) := ⟨rfl, rfl, rfl, by decide +kernel, rfl, by decide +kernel, by decide +kernel⟩
abbrev s_written_atom : Stmt := top 34
theorem sc_written_atom : FnScope ["test", "kind", "data", "more", "value"] ["test"] (defScope s_written_atom) := ⟨rfl, rfl, rfl, by decide +kernel, rfl, by decide +kernel, by decide +kernel⟩
abbrev s_bracketed : Stmt := top 35
theorem sc_bracketed : FnScope ["test", "kinds"] ["test", "kinds"] (defScope s_bracketed) := ⟨rfl, rfl, rfl, by decide +kernel, rfl, by decide +kernel, by decide +kernel⟩
abbrev s_written : Stmt := top 36
theorem sc_written : FnScope ["test", "kind", "parts"] ["test"] (defScope s_written) := ⟨rfl, rfl, rfl, by decide +kernel, rfl, by decide +kernel, by decide +kernel⟩
abbrev s_quoted_end : Stmt := top 41
theorem sc_quoted_end : FnScope ["text", "start", "at"] ["text", "start"] (defScope s_quoted_end) := ⟨rfl, rfl, rfl, by decide +kernel, rfl, by decide +kernel, by decide +kernel⟩
abbrev s_word_end : Stmt := top 42
theorem sc_word_end : FnScope ["text", "start", "char", "at", "sign"] ["text", "start"] (defScope s_word_end) := ⟨rfl, rfl, rfl, by decide +kernel, rfl, by decide +kernel, by decide +kernel⟩
abbrev s_tokens_of : Stmt := top 43
theorem sc_tokens_of : FnScope ["text", "result", "at", "end"] ["text"] (defScope s_tokens_of) := ⟨rfl, rfl, rfl, by decide +kernel, rfl, by decide +kernel, by decide +kernel⟩
abbrev s_Reader_init : Stmt := inClass (top 44) 0
theorem sc_Reader_init : FnScope ["self", "text"] ["self", "text"] (defScope s_Reader_init) := ⟨rfl, rfl, rfl, by decide +kernel, rfl, by decide +kernel, by decide +kernel⟩
abbrev s_Reader_peek : Stmt := inClass (top 44) 1
theorem sc_Reader_peek : FnScope ["self"] ["self"] (defScope s_Reader_peek) := ⟨rfl, rfl, rfl, by decide +kernel, rfl, by decide +kernel, by decide +kernel⟩
abbrev s_Reader_take : Stmt := inClass (top 44) 2
theorem sc_Reader_take : FnScope ["self", "token"] ["self"] (defScope s_Reader_take) := ⟨rfl, rfl, rfl, by decide +kernel, rfl, by decide +kernel, by decide +kernel⟩
abbrev s_Reader_skip : Stmt := inClass (top 44) 3
theorem sc_Reader_skip : FnScope ["self", "token"] ["self", "token"] (defScope s_Reader_skip) := ⟨rfl, rfl, rfl, by decide +kernel, rfl, by decide +kernel, by decide +kernel⟩
abbrev s_Reader_need : Stmt := inClass (top 44) 4
theorem sc_Reader_need : FnScope ["self", "words", "token"] ["self", "words"] (defScope s_Reader_need) := ⟨rfl, rfl, rfl, by decide +kernel, rfl, by decide +kernel, by decide +kernel⟩
abbrev s_Reader_deeper : Stmt := inClass (top 44) 5
theorem sc_Reader_deeper : FnScope ["self", "change"] ["self", "change"] (defScope s_Reader_deeper) := ⟨rfl, rfl, rfl, by decide +kernel, rfl, by decide +kernel, by decide +kernel⟩
abbrev s_unquoted : Stmt := top 45
theorem sc_unquoted : FnScope ["token", "result", "escaped", "char"] ["token"] (defScope s_unquoted) := ⟨rfl, rfl, rfl, by decide +kernel, rfl, by decide +kernel, by decide +kernel⟩
abbrev s_number_of : Stmt := top 46
theorem sc_number_of : FnScope ["token", "char"] ["token"] (defScope s_number_of) := ⟨rfl, rfl, rfl, by decide +kernel, rfl, by decide +kernel, by decide +kernel⟩
abbrev s_read_value : Stmt := top 47
theorem sc_read_value : FnScope ["reader"] ["reader"] (defScope s_read_value) := ⟨rfl, rfl, rfl, by decide +kernel, rfl, by decide +kernel, by decide +kernel⟩
abbrev s_read_values : Stmt := top 48
theorem sc_read_values : FnScope ["reader", "result"] ["reader"] (defScope s_read_values) := ⟨rfl, rfl, rfl, by decide +kernel, rfl, by decide +kernel, by decide +kernel⟩
abbrev s_read_more : Stmt := top 49
theorem sc_read_more : FnScope ["reader"] ["reader"] (defScope s_read_more) := ⟨rfl, rfl, rfl, by decide +kernel, rfl, by decide +kernel, by decide +kernel⟩
abbrev s_read_atom : Stmt := top 50
theorem sc_read_atom : FnScope ["reader", "name", "word", "other"] ["reader"] (defScope s_read_atom) := ⟨rfl, rfl, rfl, by decide +kernel, rfl, by decide +kernel, by decide +kernel⟩
abbrev s_read_part : Stmt := top 51
theorem sc_read_part : FnScope ["reader", "result"] ["reader"] (defScope s_read_part) := ⟨rfl, rfl, rfl, by decide +kernel, rfl, by decide +kernel, by decide +kernel⟩
abbrev s_read_and : Stmt := top 52
theorem sc_read_and : FnScope ["reader", "result"] ["reader"] (defScope s_read_and) := ⟨rfl, rfl, rfl, by decide +kernel, rfl, by decide +kernel, by decide +kernel⟩
abbrev s_read_or : Stmt := top 53
theorem sc_read_or : FnScope ["reader", "result"] ["reader"] (defScope s_read_or) := ⟨rfl, rfl, rfl, by decide +kernel, rfl, by decide +kernel, by decide +kernel⟩
abbrev s_test_text : Stmt := top 55
theorem sc_test_text : FnScope ["test"] ["test"] (defScope s_test_text) := ⟨rfl, rfl, rfl, by decide +kernel, rfl, by decide +kernel, by decide +kernel⟩
abbrev s_need_string : Stmt := top 56
theorem sc_need_string : FnScope ["text"] ["text"] (defScope s_need_string) := ⟨rfl, rfl, rfl, by decide +kernel, rfl, by decide +kernel, by decide +kernel⟩
abbrev s_exactly : Stmt := top 57
theorem sc_exactly : FnScope ["text", "told", "thing"] ["text", "told", "thing"] (defScope s_exactly) := ⟨rfl, rfl, rfl, by decide +kernel, rfl, by decide +kernel, by decide +kernel⟩
abbrev s_read_test : Stmt := top 58
theorem sc_read_test : FnScope ["text", "test"] ["text"] (defScope s_read_test) := ⟨rfl, rfl, rfl, by decide +kernel, rfl, by decide +kernel, by decide +kernel⟩
abbrev s__law_begin : Stmt := top 60
theorem sc__law_begin : FnScope ["_law_script"] ["_law_script"] (defScope s__law_begin) := ⟨rfl, rfl, rfl, by decide +kernel, rfl, by decide +kernel, by decide +kernel⟩
abbrev s__law_take : Stmt := top 61
theorem sc__law_take : FnScope ["_law_draw", "_law_many", "_law_cell", "_law_digit", "_law_mixed"] ["_law_draw", "_law_many"] (defScope s__law_take) := ⟨rfl, rfl, rfl, by decide +kernel, rfl, by decide +kernel, by decide +kernel⟩
abbrev s__law_chars : Stmt := top 62
theorem sc__law_chars : FnScope ["_law_chars_here"] [] (defScope s__law_chars) := ⟨rfl, rfl, rfl, by decide +kernel, rfl, by decide +kernel, by decide +kernel⟩
abbrev s__law_number : Stmt := top 63
theorem sc__law_number : FnScope ["_law_draw", "_law_choice"] ["_law_draw"] (defScope s__law_number) := ⟨rfl, rfl, rfl, by decide +kernel, rfl, by decide +kernel, by decide +kernel⟩
abbrev s__law_text : Stmt := top 64
theorem sc__law_text : FnScope ["_law_draw", "_law_chars_here", "_law_size", "_law_k"] ["_law_draw"] (defScope s__law_text) := ⟨rfl, rfl, rfl, by decide +kernel, rfl, by decide +kernel, by decide +kernel⟩
abbrev s__law_value : Stmt := top 65
theorem sc__law_value : FnScope ["_law_draw", "_law_kind"] ["_law_draw", "_law_kind"] (defScope s__law_value) := ⟨rfl, rfl, rfl, by decide +kernel, rfl, by decide +kernel, by decide +kernel⟩
abbrev s__law_name : Stmt := top 66
theorem sc__law_name : FnScope ["_law_draw", "_law_taken", "_law_letters", "_law_signs", "_law_name_here", "_law_k", "_law_kept"] ["_law_draw", "_law_taken"] (defScope s__law_name) := ⟨rfl, rfl, rfl, by decide +kernel, rfl, by decide +kernel, by decide +kernel⟩
abbrev s__law_columns : Stmt := top 67
theorem sc__law_columns : FnScope ["_law_draw", "_law_most", "_law_names", "_law_columns_here", "_law_k", "_law_name_here", "_law_kind"] ["_law_draw", "_law_most"] (defScope s__law_columns) := ⟨rfl, rfl, rfl, by decide +kernel, rfl, by decide +kernel, by decide +kernel⟩
abbrev s__law_atom : Stmt := top 68
theorem sc__law_atom : FnScope ["_law_draw", "_law_columns_here", "_law_column", "_law_name_here", "_law_kind", "_law_op", "_law_choice", "_law_others", "_law_added", "_law_one", "_law_k"] ["_law_draw", "_law_columns_here"] (defScope s__law_atom) := ⟨rfl, rfl, rfl, by decide +kernel, rfl, by decide +kernel, by decide +kernel⟩
abbrev s__law_wrapped : Stmt := top 69
theorem sc__law_wrapped : FnScope ["_law_form_here", "_law_choice"] ["_law_form_here", "_law_choice"] (defScope s__law_wrapped) := ⟨rfl, rfl, rfl, by decide +kernel, rfl, by decide +kernel, by decide +kernel⟩
abbrev s__law_form : Stmt := top 70
theorem sc__law_form : FnScope ["_law_draw", "_law_columns_here", "_law_most", "_law_pool", "_law_k", "_law_at", "_law_word", "_law_linked"] ["_law_draw", "_law_columns_here", "_law_most"] (defScope s__law_form) := ⟨rfl, rfl, rfl, by decide +kernel, rfl, by decide +kernel, by decide +kernel⟩
abbrev s__law_thing : Stmt := top 71
theorem sc__law_thing : FnScope ["_law_draw", "_law_choice"] ["_law_draw"] (defScope s__law_thing) := ⟨rfl, rfl, rfl, by decide +kernel, rfl, by decide +kernel, by decide +kernel⟩
abbrev s__law_written_value : Stmt := top 72
theorem sc__law_written_value : FnScope ["_law_value_here", "_law_text_here", "_law_char"] ["_law_value_here"] (defScope s__law_written_value) := ⟨rfl, rfl, rfl, by decide +kernel, rfl, by decide +kernel, by decide +kernel⟩
abbrev s__law_written_atom : Stmt := top 73
theorem sc__law_written_atom : FnScope ["_law_form_here", "_law_word", "_law_text_here", "_law_value_here"] ["_law_form_here"] (defScope s__law_written_atom) := ⟨rfl, rfl, rfl, by decide +kernel, rfl, by decide +kernel, by decide +kernel⟩
abbrev s__law_written : Stmt := top 74
theorem sc__law_written : FnScope ["_law_form_here", "_law_word", "_law_one", "_law_other"] ["_law_form_here"] (defScope s__law_written) := ⟨rfl, rfl, rfl, by decide +kernel, rfl, by decide +kernel, by decide +kernel⟩
abbrev s__law_read : Stmt := top 75
theorem sc__law_read : FnScope ["_law_text_here", "_law_test", "e"] ["_law_text_here"] (defScope s__law_read) := ⟨rfl, rfl, rfl, by decide +kernel, rfl, by decide +kernel, by decide +kernel⟩
abbrev s__law_changed : Stmt := top 76
theorem sc__law_changed : FnScope ["_law_draw", "_law_text_here", "_law_chars_here", "_law_at", "_law_choice", "_law_char"] ["_law_draw", "_law_text_here"] (defScope s__law_changed) := ⟨rfl, rfl, rfl, by decide +kernel, rfl, by decide +kernel, by decide +kernel⟩
abbrev s__law_refused_text : Stmt := top 77
theorem sc__law_refused_text : FnScope ["_law_draw", "_law_text_here", "_law_name_here", "_law_choice", "_law_deep"] ["_law_draw", "_law_text_here", "_law_name_here"] (defScope s__law_refused_text) := ⟨rfl, rfl, rfl, by decide +kernel, rfl, by decide +kernel, by decide +kernel⟩
abbrev s_law : Stmt := top 78
theorem sc_law : FnScope ["_law_script", "_law_draw", "_law_columns_here", "_law_text_here", "_law_name_here", "_law_k", "_law_spoilt", "_law_told", "_law_number_here", "_law_line", "_law_thing_here"] ["_law_script"] (defScope s_law) := ⟨rfl, rfl, rfl, by decide +kernel, rfl, by decide +kernel, by decide +kernel⟩
/-! ### the facts -/
def d_is_integer : He.DefD := ⟨("is_integer", none), "is_integer", "is_integer", defArgs s_is_integer, defBody s_is_integer, defScope s_is_integer, [], []⟩
def d_is_sequence : He.DefD := ⟨("is_sequence", none), "is_sequence", "is_sequence", defArgs s_is_sequence, defBody s_is_sequence, defScope s_is_sequence, [], []⟩
def d_is_text : He.DefD := ⟨("is_text", none), "is_text", "is_text", defArgs s_is_text, defBody s_is_text, defScope s_is_text, [], []⟩
def d_is_name : He.DefD := ⟨("is_name", none), "is_name", "is_name", defArgs s_is_name, defBody s_is_name, defScope s_is_name, [], []⟩
def d_kind_of : He.DefD := ⟨("kind_of", none), "kind_of", "kind_of", defArgs s_kind_of, defBody s_kind_of, defScope s_kind_of, [], []⟩
def d_Test_init : He.DefD := ⟨("Test", some "__init__"), "__init__", "Test.__init__", defArgs s_Test_init, defBody s_Test_init, defScope s_Test_init, [], []⟩
def d_Test_kind : He.DefD := ⟨("Test", some "kind"), "kind", "Test.kind", defArgs s_Test_kind, defBody s_Test_kind, defScope s_Test_kind, [], []⟩
def d_Test_data : He.DefD := ⟨("Test", some "data"), "data", "Test.data", defArgs s_Test_data, defBody s_Test_data, defScope s_Test_data, [], []⟩
def d_Test_parts : He.DefD := ⟨("Test", some "parts"), "parts", "Test.parts", defArgs s_Test_parts, defBody s_Test_parts, defScope s_Test_parts, [], []⟩
def d_Test_atoms : He.DefD := ⟨("Test", some "atoms"), "atoms", "Test.atoms", defArgs s_Test_atoms, defBody s_Test_atoms, defScope s_Test_atoms, [], []⟩
def d_Test_levels : He.DefD := ⟨("Test", some "levels"), "levels", "Test.levels", defArgs s_Test_levels, defBody s_Test_levels, defScope s_Test_levels, [], []⟩
def d_Test_and : He.DefD := ⟨("Test", some "__and__"), "__and__", "Test.__and__", defArgs s_Test_and, defBody s_Test_and, defScope s_Test_and, [], []⟩
def d_Test_or : He.DefD := ⟨("Test", some "__or__"), "__or__", "Test.__or__", defArgs s_Test_or, defBody s_Test_or, defScope s_Test_or, [], []⟩
def d_Test_invert : He.DefD := ⟨("Test", some "__invert__"), "__invert__", "Test.__invert__", defArgs s_Test_invert, defBody s_Test_invert, defScope s_Test_invert, [], []⟩
def d_Test_str : He.DefD := ⟨("Test", some "__str__"), "__str__", "Test.__str__", defArgs s_Test_str, defBody s_Test_str, defScope s_Test_str, [], []⟩
def d_limited : He.DefD := ⟨("limited", none), "limited", "limited", defArgs s_limited, defBody s_limited, defScope s_limited, [], []⟩
def d_combine : He.DefD := ⟨("combine", none), "combine", "combine", defArgs s_combine, defBody s_combine, defScope s_combine, [], []⟩
def d_sure : He.DefD := ⟨("sure", none), "sure", "sure", defArgs s_sure, defBody s_sure, defScope s_sure, [], []⟩
def d_is_operator : He.DefD := ⟨("is_operator", none), "is_operator", "is_operator", defArgs s_is_operator, defBody s_is_operator, defScope s_is_operator, [], []⟩
def d_compare : He.DefD := ⟨("compare", none), "compare", "compare", defArgs s_compare, defBody s_compare, defScope s_compare, [], []⟩
def d_against : He.DefD := ⟨("against", none), "against", "against", defArgs s_against, defBody s_against, defScope s_against, [], [("more", .int 0)]⟩
def d_among : He.DefD := ⟨("among", none), "among", "among", defArgs s_among, defBody s_among, defScope s_among, [], []⟩
def d_begins : He.DefD := ⟨("begins", none), "begins", "begins", defArgs s_begins, defBody s_begins, defScope s_begins, [], []⟩
def d_empty : He.DefD := ⟨("empty", none), "empty", "empty", defArgs s_empty, defBody s_empty, defScope s_empty, [], []⟩
def d_always : He.DefD := ⟨("always", none), "always", "always", defArgs s_always, defBody s_always, defScope s_always, [], []⟩
def d_never : He.DefD := ⟨("never", none), "never", "never", defArgs s_never, defBody s_never, defScope s_never, [], []⟩
def d_written_value : He.DefD := ⟨("written_value", none), "written_value", "written_value", defArgs s_written_value, defBody s_written_value, defScope s_written_value, [], []⟩
def d_written_atom : He.DefD := ⟨("written_atom", none), "written_atom", "written_atom", defArgs s_written_atom, defBody s_written_atom, defScope s_written_atom, [], []⟩
def d_bracketed : He.DefD := ⟨("bracketed", none), "bracketed", "bracketed", defArgs s_bracketed, defBody s_bracketed, defScope s_bracketed, [], []⟩
def d_written : He.DefD := ⟨("written", none), "written", "written", defArgs s_written, defBody s_written, defScope s_written, [], []⟩
def d_quoted_end : He.DefD := ⟨("quoted_end", none), "quoted_end", "quoted_end", defArgs s_quoted_end, defBody s_quoted_end, defScope s_quoted_end, [], []⟩
def d_word_end : He.DefD := ⟨("word_end", none), "word_end", "word_end", defArgs s_word_end, defBody s_word_end, defScope s_word_end, [], []⟩
def d_tokens_of : He.DefD := ⟨("tokens_of", none), "tokens_of", "tokens_of", defArgs s_tokens_of, defBody s_tokens_of, defScope s_tokens_of, [], []⟩
def d_Reader_init : He.DefD := ⟨("Reader", some "__init__"), "__init__", "Reader.__init__", defArgs s_Reader_init, defBody s_Reader_init, defScope s_Reader_init, [], []⟩
def d_Reader_peek : He.DefD := ⟨("Reader", some "peek"), "peek", "Reader.peek", defArgs s_Reader_peek, defBody s_Reader_peek, defScope s_Reader_peek, [], []⟩
def d_Reader_take : He.DefD := ⟨("Reader", some "take"), "take", "Reader.take", defArgs s_Reader_take, defBody s_Reader_take, defScope s_Reader_take, [], []⟩
def d_Reader_skip : He.DefD := ⟨("Reader", some "skip"), "skip", "Reader.skip", defArgs s_Reader_skip, defBody s_Reader_skip, defScope s_Reader_skip, [], []⟩
def d_Reader_need : He.DefD := ⟨("Reader", some "need"), "need", "Reader.need", defArgs s_Reader_need, defBody s_Reader_need, defScope s_Reader_need, [], []⟩
def d_Reader_deeper : He.DefD := ⟨("Reader", some "deeper"), "deeper", "Reader.deeper", defArgs s_Reader_deeper, defBody s_Reader_deeper, defScope s_Reader_deeper, [], []⟩
def d_unquoted : He.DefD := ⟨("unquoted", none), "unquoted", "unquoted", defArgs s_unquoted, defBody s_unquoted, defScope s_unquoted, [], []⟩
def d_number_of : He.DefD := ⟨("number_of", none), "number_of", "number_of", defArgs s_number_of, defBody s_number_of, defScope s_number_of, [], []⟩
def d_read_value : He.DefD := ⟨("read_value", none), "read_value", "read_value", defArgs s_read_value, defBody s_read_value, defScope s_read_value, [], []⟩
def d_read_values : He.DefD := ⟨("read_values", none), "read_values", "read_values", defArgs s_read_values, defBody s_read_values, defScope s_read_values, [], []⟩
def d_read_more : He.DefD := ⟨("read_more", none), "read_more", "read_more", defArgs s_read_more, defBody s_read_more, defScope s_read_more, [], []⟩
def d_read_atom : He.DefD := ⟨("read_atom", none), "read_atom", "read_atom", defArgs s_read_atom, defBody s_read_atom, defScope s_read_atom, [], []⟩
def d_read_part : He.DefD := ⟨("read_part", none), "read_part", "read_part", defArgs s_read_part, defBody s_read_part, defScope s_read_part, [], []⟩
def d_read_and : He.DefD := ⟨("read_and", none), "read_and", "read_and", defArgs s_read_and, defBody s_read_and, defScope s_read_and, [], []⟩
def d_read_or : He.DefD := ⟨("read_or", none), "read_or", "read_or", defArgs s_read_or, defBody s_read_or, defScope s_read_or, [], []⟩
def d_test_text : He.DefD := ⟨("test_text", none), "test_text", "test_text", defArgs s_test_text, defBody s_test_text, defScope s_test_text, [], []⟩
def d_need_string : He.DefD := ⟨("need_string", none), "need_string", "need_string", defArgs s_need_string, defBody s_need_string, defScope s_need_string, [], []⟩
def d_exactly : He.DefD := ⟨("exactly", none), "exactly", "exactly", defArgs s_exactly, defBody s_exactly, defScope s_exactly, [], []⟩
def d_read_test : He.DefD := ⟨("read_test", none), "read_test", "read_test", defArgs s_read_test, defBody s_read_test, defScope s_read_test, [], []⟩
def d__law_begin : He.DefD := ⟨("_law_begin", none), "_law_begin", "_law_begin", defArgs s__law_begin, defBody s__law_begin, defScope s__law_begin, [], []⟩
def d__law_take : He.DefD := ⟨("_law_take", none), "_law_take", "_law_take", defArgs s__law_take, defBody s__law_take, defScope s__law_take, [], []⟩
def d__law_chars : He.DefD := ⟨("_law_chars", none), "_law_chars", "_law_chars", defArgs s__law_chars, defBody s__law_chars, defScope s__law_chars, [], []⟩
def d__law_number : He.DefD := ⟨("_law_number", none), "_law_number", "_law_number", defArgs s__law_number, defBody s__law_number, defScope s__law_number, [], []⟩
def d__law_text : He.DefD := ⟨("_law_text", none), "_law_text", "_law_text", defArgs s__law_text, defBody s__law_text, defScope s__law_text, [], []⟩
def d__law_value : He.DefD := ⟨("_law_value", none), "_law_value", "_law_value", defArgs s__law_value, defBody s__law_value, defScope s__law_value, [], []⟩
def d__law_name : He.DefD := ⟨("_law_name", none), "_law_name", "_law_name", defArgs s__law_name, defBody s__law_name, defScope s__law_name, [], []⟩
def d__law_columns : He.DefD := ⟨("_law_columns", none), "_law_columns", "_law_columns", defArgs s__law_columns, defBody s__law_columns, defScope s__law_columns, [], []⟩
def d__law_atom : He.DefD := ⟨("_law_atom", none), "_law_atom", "_law_atom", defArgs s__law_atom, defBody s__law_atom, defScope s__law_atom, [], []⟩
def d__law_wrapped : He.DefD := ⟨("_law_wrapped", none), "_law_wrapped", "_law_wrapped", defArgs s__law_wrapped, defBody s__law_wrapped, defScope s__law_wrapped, [], []⟩
def d__law_form : He.DefD := ⟨("_law_form", none), "_law_form", "_law_form", defArgs s__law_form, defBody s__law_form, defScope s__law_form, [], []⟩
def d__law_thing : He.DefD := ⟨("_law_thing", none), "_law_thing", "_law_thing", defArgs s__law_thing, defBody s__law_thing, defScope s__law_thing, [], []⟩
def d__law_written_value : He.DefD := ⟨("_law_written_value", none), "_law_written_value", "_law_written_value", defArgs s__law_written_value, defBody s__law_written_value, defScope s__law_written_value, [], []⟩
def d__law_written_atom : He.DefD := ⟨("_law_written_atom", none), "_law_written_atom", "_law_written_atom", defArgs s__law_written_atom, defBody s__law_written_atom, defScope s__law_written_atom, [], []⟩
def d__law_written : He.DefD := ⟨("_law_written", none), "_law_written", "_law_written", defArgs s__law_written, defBody s__law_written, defScope s__law_written, [], []⟩
def d__law_read : He.DefD := ⟨("_law_read", none), "_law_read", "_law_read", defArgs s__law_read, defBody s__law_read, defScope s__law_read, [], []⟩
def d__law_changed : He.DefD := ⟨("_law_changed", none), "_law_changed", "_law_changed", defArgs s__law_changed, defBody s__law_changed, defScope s__law_changed, [], []⟩
def d__law_refused_text : He.DefD := ⟨("_law_refused_text", none), "_law_refused_text", "_law_refused_text", defArgs s__law_refused_text, defBody s__law_refused_text, defScope s__law_refused_text, [], []⟩
def d_law : He.DefD := ⟨("law", none), "law", "law", defArgs s_law, defBody s_law, defScope s_law, [], []⟩
def d_BadTest : He.DefD := ⟨("BadTest", some "__init__"), "__init__", "BadTest.__init__", defArgs (inClass (top 3) 0), defBody (inClass (top 3) 0), defScope (inClass (top 3) 0), [], []⟩
def d_BadText : He.DefD := ⟨("BadText", some "__init__"), "__init__", "BadText.__init__", defArgs (inClass (top 4) 0), defBody (inClass (top 4) 0), defScope (inClass (top 4) 0), [], []⟩
def fn1 : List He.DefD := [d_is_integer, d_is_sequence, d_is_text, d_is_name, d_kind_of, d_Test_init, d_Test_kind, d_Test_data, d_Test_parts, d_Test_atoms, d_Test_levels, d_Test_and, d_Test_or, d_Test_invert, d_Test_str, d_limited, d_combine, d_sure, d_is_operator, d_compare, d_against, d_among, d_begins, d_empty, d_always, d_never, d_written_value, d_written_atom, d_bracketed, d_written]
def fn2 : List He.DefD := [d_quoted_end, d_word_end, d_tokens_of, d_Reader_init, d_Reader_peek, d_Reader_take, d_Reader_skip, d_Reader_need, d_Reader_deeper, d_unquoted, d_number_of, d_read_value, d_read_values, d_read_more, d_read_atom, d_read_part, d_read_and, d_read_or, d_test_text, d_need_string, d_exactly, d_read_test, d__law_begin, d__law_take, d__law_chars, d__law_number, d__law_text, d__law_value, d__law_name, d__law_columns]
def fn3 : List He.DefD := [d__law_atom, d__law_wrapped, d__law_form, d__law_thing, d__law_written_value, d__law_written_atom, d__law_written, d__law_read, d__law_changed, d__law_refused_text, d_law, d_BadTest, d_BadText]
def fn : List He.DefD := fn1 ++ (fn2 ++ fn3)
def fa1 : List He.Fa := [.glo "is_integer", .glo "is_sequence", .glo "is_text", .glo "is_name", .glo "kind_of", .glo "limited", .glo "combine", .glo "sure", .glo "is_operator", .glo "compare", .glo "against", .glo "among", .glo "begins", .glo "empty", .glo "always", .glo "never", .glo "written_value", .glo "written_atom", .glo "bracketed", .glo "written", .glo "quoted_end", .glo "word_end", .glo "tokens_of", .glo "unquoted", .glo "number_of", .glo "read_value", .glo "read_values", .glo "read_more", .glo "read_atom", .glo "read_part"]
def fa2 : List He.Fa := [.glo "read_and", .glo "read_or", .glo "test_text", .glo "need_string", .glo "exactly", .glo "read_test", .glo "_law_begin", .glo "_law_take", .glo "_law_chars", .glo "_law_number", .glo "_law_text", .glo "_law_value", .glo "_law_name", .glo "_law_columns", .glo "_law_atom", .glo "_law_wrapped", .glo "_law_form", .glo "_law_thing", .glo "_law_written_value", .glo "_law_written_atom", .glo "_law_written", .glo "_law_read", .glo "_law_changed", .glo "_law_refused_text", .glo "law", .glo "Test", .glo "Reader", .glo "BadTest", .glo "BadText", .glo "KEPT_WORDS"]
def fa3 : List He.Fa := [.glo "OPERATORS", .glo "SIGNS", .free "isinstance", .free "int", .free "bool", .free "str", .free "list", .free "tuple", .free "len", .free "max", .free "range", .int "MOST_ATOMS" 24, .int "MOST_LEVELS" 12, .int "MOST_DIGITS" 1000, .int "MOST_NESTED" 24, .str "CHARS" (SX.S chars), .str "LETTERS" (SX.S lets), .str "DIGITS" (SX.S digs), .cls "Test", .mkr "Test", .noat "Test" "_kind", .noat "Test" "_data", .noat "Test" "_parts", .cls "Reader", .mkr "Reader", .noat "Reader" "_tokens", .noat "Reader" "_place", .noat "Reader" "_depth", .meth "Test" "kind", .meth "Test" "data"]
def fa4 : List He.Fa := [.meth "Test" "parts", .meth "Test" "atoms", .meth "Test" "levels", .meth "Test" "__and__", .meth "Test" "__or__", .meth "Test" "__invert__", .meth "Test" "__str__", .meth "Reader" "peek", .meth "Reader" "take", .meth "Reader" "skip", .meth "Reader" "need", .meth "Reader" "deeper"]
def fa : List He.Fa := fa1 ++ (fa2 ++ (fa3 ++ (fa4)))
/-- an exception class of the program's own -/
def exB (K : PySem.W.Frag) (x fl : Str) : Bool :=
  (PySem.W.excInitIn K (He.ga K x) PySem.TwX.bmE "Exception.__new__" && (PySem.W.excOver K (He.ga K x) PySem.TwX.bmE && (PySem.W.hasDictIn K (He.ga K x) &&
  (He.eqO (PySem.W.findIn K (.ref (He.ga K x)) "__setattr__") (some (some (.builtin "object.__setattr__"))) && (He.eqO (PySem.W.findIn K (.ref (He.ga K x)) "__getattribute__") (some (some (.builtin "BaseException.__getattribute__"))) &&
  (He.eqO (PySem.W.findIn K (.ref (He.ga K x)) "__getattr__") (some none) && (He.eqO (PySem.W.findIn K (.ref (He.ga K x)) fl) (some none) &&
  (He.eqO (PySem.W.findIn K (.ref (He.ga K x)) "__init__") (some (some (.ref (He.ma K (He.ga K x) "__init__")))) && (PySem.W.isFn K (.ref (He.ma K (He.ga K x) "__init__")) && (PySem.W.keepIn K (.ref (He.ga K x)) &&
  (decide (PySem.W.subIn K (.ref (He.ga K x)) (.type "BaseException") = some true) && decide (PySem.W.typeIn K (.ref (He.ga K x)) = some (.type "type")))))))))))))
/-- the other facts -/
def exX (K : PySem.W.Frag) : Bool :=
  exB K "BadTest" "why" && (exB K "BadText" "line" &&
  (decide (PySem.W.exmOne K (.ref (He.ga K "BadTest")) (.ref (He.ga K "BadTest")) = some true) && (decide (PySem.W.exmOne K (.ref (He.ga K "BadText")) (.ref (He.ga K "BadTest")) = some false) && (decide (PySem.W.exmOne K (.ref (He.ga K "BadText")) (.ref (He.ga K "BadText")) = some true) &&
  (He.tupB K "KEPT_WORDS" (TwP.kept.map fun l => .str (SX.S l)) && (He.tupB K "OPERATORS" (TwP.ops.map fun l => .str (SX.S l)) && (He.tupB K "SIGNS" (TwP.signs.map fun l => .str (SX.S l)) &&
  (PySem.W.selfFirst K (He.ga K "Test") && (He.eqO (PySem.W.findIn K (.ref (He.ga K "Test")) "__class__") (some (some (.builtin "object.__class__"))) &&
  (decide (PySem.W.specialIn K (.builtin "object.__class__") "__get__" = some (some (.builtin "getset_descriptor.__get__"))) && (decide (PySem.W.takesIn K (.builtin "object.__class__") = some true) && (decide (PySem.W.mroIn K (He.ga K "Test") (.type "object") = some true) &&
  (decide (PySem.W.kitOne K (.ref (He.ga K "Test")) (.ref (He.ga K "Test")) = some true) && (decide (He.ga K "Test" ≠ He.ga K "Reader") && (decide (He.ga K "BadTest" ≠ He.ga K "BadText") &&
  He.eqO (PySem.W.nsIn K cStatics "sys.int_max_str_digits") (some none))))))))))))))))
/-- what the walks lean on -/
structure Fc (K : PySem.W.Frag) (mg : Str → Option Value) : Prop where
  at_ : ∃ h : Heap, K.In h ∧ h.Ns mainGlobals mg
  says : He.SaysD fa fn K
  more : exX K = true
section
variable {K : PySem.W.Frag} {mg : Str → Option Value}
theorem Fc.glo (T : Fc K mg) (i : Nat) {x : Str} (h : fa[i]? = some (.glo x)) : mg x = some (.ref (He.ga K x)) := by
  obtain ⟨hp, X, G⟩ := T.at_
  exact He.glo_ok X G (T.says.fact i h)
theorem Fc.free (T : Fc K mg) (i : Nat) {x : Str} (h : fa[i]? = some (.free x)) : mg x = none := by
  obtain ⟨hp, X, G⟩ := T.at_
  exact He.free_ok X G (T.says.fact i h)
theorem Fc.int (T : Fc K mg) (i : Nat) {x : Str} {n : Int} (h : fa[i]? = some (.int x n)) : ∃ t, mg x = some (.int n t) := by
  obtain ⟨hp, X, G⟩ := T.at_
  exact He.int_ok X G (T.says.fact i h)
theorem Fc.str (T : Fc K mg) (i : Nat) {x z : Str} (h : fa[i]? = some (.str x z)) : ∃ t, mg x = some (.str z t) := by
  obtain ⟨hp, X, G⟩ := T.at_
  exact He.str_ok X G (T.says.fact i h)
theorem Fc.more' (T : Fc K mg) : exX K = true := T.more

theorem Fc.g_is_integer (T : Fc K mg) : mg "is_integer" = some (.ref (He.ga K "is_integer")) := T.glo 0 rfl
theorem Fc.g_is_sequence (T : Fc K mg) : mg "is_sequence" = some (.ref (He.ga K "is_sequence")) := T.glo 1 rfl
theorem Fc.g_is_text (T : Fc K mg) : mg "is_text" = some (.ref (He.ga K "is_text")) := T.glo 2 rfl
theorem Fc.g_is_name (T : Fc K mg) : mg "is_name" = some (.ref (He.ga K "is_name")) := T.glo 3 rfl
theorem Fc.g_kind_of (T : Fc K mg) : mg "kind_of" = some (.ref (He.ga K "kind_of")) := T.glo 4 rfl
theorem Fc.g_limited (T : Fc K mg) : mg "limited" = some (.ref (He.ga K "limited")) := T.glo 5 rfl
theorem Fc.g_combine (T : Fc K mg) : mg "combine" = some (.ref (He.ga K "combine")) := T.glo 6 rfl
theorem Fc.g_sure (T : Fc K mg) : mg "sure" = some (.ref (He.ga K "sure")) := T.glo 7 rfl
theorem Fc.g_is_operator (T : Fc K mg) : mg "is_operator" = some (.ref (He.ga K "is_operator")) := T.glo 8 rfl
theorem Fc.g_compare (T : Fc K mg) : mg "compare" = some (.ref (He.ga K "compare")) := T.glo 9 rfl
theorem Fc.g_against (T : Fc K mg) : mg "against" = some (.ref (He.ga K "against")) := T.glo 10 rfl
theorem Fc.g_among (T : Fc K mg) : mg "among" = some (.ref (He.ga K "among")) := T.glo 11 rfl
theorem Fc.g_begins (T : Fc K mg) : mg "begins" = some (.ref (He.ga K "begins")) := T.glo 12 rfl
theorem Fc.g_empty (T : Fc K mg) : mg "empty" = some (.ref (He.ga K "empty")) := T.glo 13 rfl
theorem Fc.g_always (T : Fc K mg) : mg "always" = some (.ref (He.ga K "always")) := T.glo 14 rfl
theorem Fc.g_never (T : Fc K mg) : mg "never" = some (.ref (He.ga K "never")) := T.glo 15 rfl
theorem Fc.g_written_value (T : Fc K mg) : mg "written_value" = some (.ref (He.ga K "written_value")) := T.glo 16 rfl
theorem Fc.g_written_atom (T : Fc K mg) : mg "written_atom" = some (.ref (He.ga K "written_atom")) := T.glo 17 rfl
theorem Fc.g_bracketed (T : Fc K mg) : mg "bracketed" = some (.ref (He.ga K "bracketed")) := T.glo 18 rfl
theorem Fc.g_written (T : Fc K mg) : mg "written" = some (.ref (He.ga K "written")) := T.glo 19 rfl
theorem Fc.g_quoted_end (T : Fc K mg) : mg "quoted_end" = some (.ref (He.ga K "quoted_end")) := T.glo 20 rfl
theorem Fc.g_word_end (T : Fc K mg) : mg "word_end" = some (.ref (He.ga K "word_end")) := T.glo 21 rfl
theorem Fc.g_tokens_of (T : Fc K mg) : mg "tokens_of" = some (.ref (He.ga K "tokens_of")) := T.glo 22 rfl
theorem Fc.g_unquoted (T : Fc K mg) : mg "unquoted" = some (.ref (He.ga K "unquoted")) := T.glo 23 rfl
theorem Fc.g_number_of (T : Fc K mg) : mg "number_of" = some (.ref (He.ga K "number_of")) := T.glo 24 rfl
theorem Fc.g_read_value (T : Fc K mg) : mg "read_value" = some (.ref (He.ga K "read_value")) := T.glo 25 rfl
theorem Fc.g_read_values (T : Fc K mg) : mg "read_values" = some (.ref (He.ga K "read_values")) := T.glo 26 rfl
theorem Fc.g_read_more (T : Fc K mg) : mg "read_more" = some (.ref (He.ga K "read_more")) := T.glo 27 rfl
theorem Fc.g_read_atom (T : Fc K mg) : mg "read_atom" = some (.ref (He.ga K "read_atom")) := T.glo 28 rfl
theorem Fc.g_read_part (T : Fc K mg) : mg "read_part" = some (.ref (He.ga K "read_part")) := T.glo 29 rfl
theorem Fc.g_read_and (T : Fc K mg) : mg "read_and" = some (.ref (He.ga K "read_and")) := T.glo 30 rfl
theorem Fc.g_read_or (T : Fc K mg) : mg "read_or" = some (.ref (He.ga K "read_or")) := T.glo 31 rfl
theorem Fc.g_test_text (T : Fc K mg) : mg "test_text" = some (.ref (He.ga K "test_text")) := T.glo 32 rfl
theorem Fc.g_need_string (T : Fc K mg) : mg "need_string" = some (.ref (He.ga K "need_string")) := T.glo 33 rfl
theorem Fc.g_exactly (T : Fc K mg) : mg "exactly" = some (.ref (He.ga K "exactly")) := T.glo 34 rfl
theorem Fc.g_read_test (T : Fc K mg) : mg "read_test" = some (.ref (He.ga K "read_test")) := T.glo 35 rfl
theorem Fc.g__law_begin (T : Fc K mg) : mg "_law_begin" = some (.ref (He.ga K "_law_begin")) := T.glo 36 rfl
theorem Fc.g__law_take (T : Fc K mg) : mg "_law_take" = some (.ref (He.ga K "_law_take")) := T.glo 37 rfl
theorem Fc.g__law_chars (T : Fc K mg) : mg "_law_chars" = some (.ref (He.ga K "_law_chars")) := T.glo 38 rfl
theorem Fc.g__law_number (T : Fc K mg) : mg "_law_number" = some (.ref (He.ga K "_law_number")) := T.glo 39 rfl
theorem Fc.g__law_text (T : Fc K mg) : mg "_law_text" = some (.ref (He.ga K "_law_text")) := T.glo 40 rfl
theorem Fc.g__law_value (T : Fc K mg) : mg "_law_value" = some (.ref (He.ga K "_law_value")) := T.glo 41 rfl
theorem Fc.g__law_name (T : Fc K mg) : mg "_law_name" = some (.ref (He.ga K "_law_name")) := T.glo 42 rfl
theorem Fc.g__law_columns (T : Fc K mg) : mg "_law_columns" = some (.ref (He.ga K "_law_columns")) := T.glo 43 rfl
theorem Fc.g__law_atom (T : Fc K mg) : mg "_law_atom" = some (.ref (He.ga K "_law_atom")) := T.glo 44 rfl
theorem Fc.g__law_wrapped (T : Fc K mg) : mg "_law_wrapped" = some (.ref (He.ga K "_law_wrapped")) := T.glo 45 rfl
theorem Fc.g__law_form (T : Fc K mg) : mg "_law_form" = some (.ref (He.ga K "_law_form")) := T.glo 46 rfl
theorem Fc.g__law_thing (T : Fc K mg) : mg "_law_thing" = some (.ref (He.ga K "_law_thing")) := T.glo 47 rfl
theorem Fc.g__law_written_value (T : Fc K mg) : mg "_law_written_value" = some (.ref (He.ga K "_law_written_value")) := T.glo 48 rfl
theorem Fc.g__law_written_atom (T : Fc K mg) : mg "_law_written_atom" = some (.ref (He.ga K "_law_written_atom")) := T.glo 49 rfl
theorem Fc.g__law_written (T : Fc K mg) : mg "_law_written" = some (.ref (He.ga K "_law_written")) := T.glo 50 rfl
theorem Fc.g__law_read (T : Fc K mg) : mg "_law_read" = some (.ref (He.ga K "_law_read")) := T.glo 51 rfl
theorem Fc.g__law_changed (T : Fc K mg) : mg "_law_changed" = some (.ref (He.ga K "_law_changed")) := T.glo 52 rfl
theorem Fc.g__law_refused_text (T : Fc K mg) : mg "_law_refused_text" = some (.ref (He.ga K "_law_refused_text")) := T.glo 53 rfl
theorem Fc.g_law (T : Fc K mg) : mg "law" = some (.ref (He.ga K "law")) := T.glo 54 rfl
theorem Fc.g_Test (T : Fc K mg) : mg "Test" = some (.ref (He.ga K "Test")) := T.glo 55 rfl
theorem Fc.g_Reader (T : Fc K mg) : mg "Reader" = some (.ref (He.ga K "Reader")) := T.glo 56 rfl
theorem Fc.g_BadTest (T : Fc K mg) : mg "BadTest" = some (.ref (He.ga K "BadTest")) := T.glo 57 rfl
theorem Fc.g_BadText (T : Fc K mg) : mg "BadText" = some (.ref (He.ga K "BadText")) := T.glo 58 rfl
theorem Fc.g_KEPT_WORDS (T : Fc K mg) : mg "KEPT_WORDS" = some (.ref (He.ga K "KEPT_WORDS")) := T.glo 59 rfl
theorem Fc.g_OPERATORS (T : Fc K mg) : mg "OPERATORS" = some (.ref (He.ga K "OPERATORS")) := T.glo 60 rfl
theorem Fc.g_SIGNS (T : Fc K mg) : mg "SIGNS" = some (.ref (He.ga K "SIGNS")) := T.glo 61 rfl
theorem Fc.f_isinstance (T : Fc K mg) : mg "isinstance" = none := T.free 62 rfl
theorem Fc.f_int (T : Fc K mg) : mg "int" = none := T.free 63 rfl
theorem Fc.f_bool (T : Fc K mg) : mg "bool" = none := T.free 64 rfl
theorem Fc.f_str (T : Fc K mg) : mg "str" = none := T.free 65 rfl
theorem Fc.f_list (T : Fc K mg) : mg "list" = none := T.free 66 rfl
theorem Fc.f_tuple (T : Fc K mg) : mg "tuple" = none := T.free 67 rfl
theorem Fc.f_len (T : Fc K mg) : mg "len" = none := T.free 68 rfl
theorem Fc.f_max (T : Fc K mg) : mg "max" = none := T.free 69 rfl
theorem Fc.f_range (T : Fc K mg) : mg "range" = none := T.free 70 rfl
theorem Fc.i_MOST_ATOMS (T : Fc K mg) : ∃ t, mg "MOST_ATOMS" = some (.int 24 t) := T.int 71 rfl
theorem Fc.i_MOST_LEVELS (T : Fc K mg) : ∃ t, mg "MOST_LEVELS" = some (.int 12 t) := T.int 72 rfl
theorem Fc.i_MOST_DIGITS (T : Fc K mg) : ∃ t, mg "MOST_DIGITS" = some (.int 1000 t) := T.int 73 rfl
theorem Fc.i_MOST_NESTED (T : Fc K mg) : ∃ t, mg "MOST_NESTED" = some (.int 24 t) := T.int 74 rfl
theorem Fc.s_CHARS (T : Fc K mg) : ∃ t, mg "CHARS" = some (.str (SX.S chars) t) := T.str 75 rfl
theorem Fc.s_LETTERS (T : Fc K mg) : ∃ t, mg "LETTERS" = some (.str (SX.S lets) t) := T.str 76 rfl
theorem Fc.s_DIGITS (T : Fc K mg) : ∃ t, mg "DIGITS" = some (.str (SX.S digs) t) := T.str 77 rfl
theorem Fc.c_Test (T : Fc K mg) : Cls K (He.ga K "Test") := He.cls_ok (T.says.fact 78 (f := .cls "Test") rfl)
theorem Fc.k_Test (T : Fc K mg) : Mk K (He.ga K "Test") (He.ma K (He.ga K "Test") "__init__") := He.mkr_ok (T.says.fact 79 (f := .mkr "Test") rfl)
theorem Fc.n_Test_kind (T : Fc K mg) : NoAttr K (He.ga K "Test") "_kind" := He.noat_ok (T.says.fact 80 (f := .noat "Test" "_kind") rfl)
theorem Fc.n_Test_data (T : Fc K mg) : NoAttr K (He.ga K "Test") "_data" := He.noat_ok (T.says.fact 81 (f := .noat "Test" "_data") rfl)
theorem Fc.n_Test_parts (T : Fc K mg) : NoAttr K (He.ga K "Test") "_parts" := He.noat_ok (T.says.fact 82 (f := .noat "Test" "_parts") rfl)
theorem Fc.c_Reader (T : Fc K mg) : Cls K (He.ga K "Reader") := He.cls_ok (T.says.fact 83 (f := .cls "Reader") rfl)
theorem Fc.k_Reader (T : Fc K mg) : Mk K (He.ga K "Reader") (He.ma K (He.ga K "Reader") "__init__") := He.mkr_ok (T.says.fact 84 (f := .mkr "Reader") rfl)
theorem Fc.n_Reader_tokens (T : Fc K mg) : NoAttr K (He.ga K "Reader") "_tokens" := He.noat_ok (T.says.fact 85 (f := .noat "Reader" "_tokens") rfl)
theorem Fc.n_Reader_place (T : Fc K mg) : NoAttr K (He.ga K "Reader") "_place" := He.noat_ok (T.says.fact 86 (f := .noat "Reader" "_place") rfl)
theorem Fc.n_Reader_depth (T : Fc K mg) : NoAttr K (He.ga K "Reader") "_depth" := He.noat_ok (T.says.fact 87 (f := .noat "Reader" "_depth") rfl)
theorem Fc.m_Test_kind (T : Fc K mg) : Meth K (He.ga K "Test") "kind" (He.ma K (He.ga K "Test") "kind") := He.meth_ok (T.says.fact 88 (f := .meth "Test" "kind") rfl)
theorem Fc.m_Test_data (T : Fc K mg) : Meth K (He.ga K "Test") "data" (He.ma K (He.ga K "Test") "data") := He.meth_ok (T.says.fact 89 (f := .meth "Test" "data") rfl)
theorem Fc.m_Test_parts (T : Fc K mg) : Meth K (He.ga K "Test") "parts" (He.ma K (He.ga K "Test") "parts") := He.meth_ok (T.says.fact 90 (f := .meth "Test" "parts") rfl)
theorem Fc.m_Test_atoms (T : Fc K mg) : Meth K (He.ga K "Test") "atoms" (He.ma K (He.ga K "Test") "atoms") := He.meth_ok (T.says.fact 91 (f := .meth "Test" "atoms") rfl)
theorem Fc.m_Test_levels (T : Fc K mg) : Meth K (He.ga K "Test") "levels" (He.ma K (He.ga K "Test") "levels") := He.meth_ok (T.says.fact 92 (f := .meth "Test" "levels") rfl)
theorem Fc.m_Test_and (T : Fc K mg) : Meth K (He.ga K "Test") "__and__" (He.ma K (He.ga K "Test") "__and__") := He.meth_ok (T.says.fact 93 (f := .meth "Test" "__and__") rfl)
theorem Fc.m_Test_or (T : Fc K mg) : Meth K (He.ga K "Test") "__or__" (He.ma K (He.ga K "Test") "__or__") := He.meth_ok (T.says.fact 94 (f := .meth "Test" "__or__") rfl)
theorem Fc.m_Test_invert (T : Fc K mg) : Meth K (He.ga K "Test") "__invert__" (He.ma K (He.ga K "Test") "__invert__") := He.meth_ok (T.says.fact 95 (f := .meth "Test" "__invert__") rfl)
theorem Fc.m_Test_str (T : Fc K mg) : Meth K (He.ga K "Test") "__str__" (He.ma K (He.ga K "Test") "__str__") := He.meth_ok (T.says.fact 96 (f := .meth "Test" "__str__") rfl)
theorem Fc.m_Reader_peek (T : Fc K mg) : Meth K (He.ga K "Reader") "peek" (He.ma K (He.ga K "Reader") "peek") := He.meth_ok (T.says.fact 97 (f := .meth "Reader" "peek") rfl)
theorem Fc.m_Reader_take (T : Fc K mg) : Meth K (He.ga K "Reader") "take" (He.ma K (He.ga K "Reader") "take") := He.meth_ok (T.says.fact 98 (f := .meth "Reader" "take") rfl)
theorem Fc.m_Reader_skip (T : Fc K mg) : Meth K (He.ga K "Reader") "skip" (He.ma K (He.ga K "Reader") "skip") := He.meth_ok (T.says.fact 99 (f := .meth "Reader" "skip") rfl)
theorem Fc.m_Reader_need (T : Fc K mg) : Meth K (He.ga K "Reader") "need" (He.ma K (He.ga K "Reader") "need") := He.meth_ok (T.says.fact 100 (f := .meth "Reader" "need") rfl)
theorem Fc.m_Reader_deeper (T : Fc K mg) : Meth K (He.ga K "Reader") "deeper" (He.ma K (He.ga K "Reader") "deeper") := He.meth_ok (T.says.fact 101 (f := .meth "Reader" "deeper") rfl)
theorem Fc.e_is_integer (T : Fc K mg) : ∃ fd, FnP K "is_integer" "is_integer" s_is_integer (He.ga K "is_integer") fd ∧ Binds K fd ["thing"] [] := by
  obtain ⟨fd, F⟩ := T.says.def_ 0 (d := d_is_integer) rfl
  exact ⟨fd, F, FunD.bindsN (ps := ["thing"]) F fun _ _ _ _ _ _ us hl => match us, hl with | [_], _ => rfl⟩
theorem Fc.e_is_sequence (T : Fc K mg) : ∃ fd, FnP K "is_sequence" "is_sequence" s_is_sequence (He.ga K "is_sequence") fd ∧ Binds K fd ["thing"] [] := by
  obtain ⟨fd, F⟩ := T.says.def_ 1 (d := d_is_sequence) rfl
  exact ⟨fd, F, FunD.bindsN (ps := ["thing"]) F fun _ _ _ _ _ _ us hl => match us, hl with | [_], _ => rfl⟩
theorem Fc.e_is_text (T : Fc K mg) : ∃ fd, FnP K "is_text" "is_text" s_is_text (He.ga K "is_text") fd ∧ Binds K fd ["thing"] [] := by
  obtain ⟨fd, F⟩ := T.says.def_ 2 (d := d_is_text) rfl
  exact ⟨fd, F, FunD.bindsN (ps := ["thing"]) F fun _ _ _ _ _ _ us hl => match us, hl with | [_], _ => rfl⟩
theorem Fc.e_is_name (T : Fc K mg) : ∃ fd, FnP K "is_name" "is_name" s_is_name (He.ga K "is_name") fd ∧ Binds K fd ["thing"] [] := by
  obtain ⟨fd, F⟩ := T.says.def_ 3 (d := d_is_name) rfl
  exact ⟨fd, F, FunD.bindsN (ps := ["thing"]) F fun _ _ _ _ _ _ us hl => match us, hl with | [_], _ => rfl⟩
theorem Fc.e_kind_of (T : Fc K mg) : ∃ fd, FnP K "kind_of" "kind_of" s_kind_of (He.ga K "kind_of") fd ∧ Binds K fd ["value"] [] := by
  obtain ⟨fd, F⟩ := T.says.def_ 4 (d := d_kind_of) rfl
  exact ⟨fd, F, FunD.bindsN (ps := ["value"]) F fun _ _ _ _ _ _ us hl => match us, hl with | [_], _ => rfl⟩
theorem Fc.e_Test_init (T : Fc K mg) : ∃ fd, FnP K "__init__" "Test.__init__" s_Test_init (He.ma K (He.ga K "Test") "__init__") fd ∧ Binds K fd ["self", "kind", "data", "parts"] [] := by
  obtain ⟨fd, F⟩ := T.says.def_ 5 (d := d_Test_init) rfl
  exact ⟨fd, F, FunD.bindsN (ps := ["self", "kind", "data", "parts"]) F fun _ _ _ _ _ _ us hl => match us, hl with | [_, _, _, _], _ => rfl⟩
theorem Fc.e_Test_kind (T : Fc K mg) : ∃ fd, FnP K "kind" "Test.kind" s_Test_kind (He.ma K (He.ga K "Test") "kind") fd ∧ Binds K fd ["self"] [] := by
  obtain ⟨fd, F⟩ := T.says.def_ 6 (d := d_Test_kind) rfl
  exact ⟨fd, F, FunD.bindsN (ps := ["self"]) F fun _ _ _ _ _ _ us hl => match us, hl with | [_], _ => rfl⟩
theorem Fc.e_Test_data (T : Fc K mg) : ∃ fd, FnP K "data" "Test.data" s_Test_data (He.ma K (He.ga K "Test") "data") fd ∧ Binds K fd ["self"] [] := by
  obtain ⟨fd, F⟩ := T.says.def_ 7 (d := d_Test_data) rfl
  exact ⟨fd, F, FunD.bindsN (ps := ["self"]) F fun _ _ _ _ _ _ us hl => match us, hl with | [_], _ => rfl⟩
theorem Fc.e_Test_parts (T : Fc K mg) : ∃ fd, FnP K "parts" "Test.parts" s_Test_parts (He.ma K (He.ga K "Test") "parts") fd ∧ Binds K fd ["self"] [] := by
  obtain ⟨fd, F⟩ := T.says.def_ 8 (d := d_Test_parts) rfl
  exact ⟨fd, F, FunD.bindsN (ps := ["self"]) F fun _ _ _ _ _ _ us hl => match us, hl with | [_], _ => rfl⟩
theorem Fc.e_Test_atoms (T : Fc K mg) : ∃ fd, FnP K "atoms" "Test.atoms" s_Test_atoms (He.ma K (He.ga K "Test") "atoms") fd ∧ Binds K fd ["self"] [] := by
  obtain ⟨fd, F⟩ := T.says.def_ 9 (d := d_Test_atoms) rfl
  exact ⟨fd, F, FunD.bindsN (ps := ["self"]) F fun _ _ _ _ _ _ us hl => match us, hl with | [_], _ => rfl⟩
theorem Fc.e_Test_levels (T : Fc K mg) : ∃ fd, FnP K "levels" "Test.levels" s_Test_levels (He.ma K (He.ga K "Test") "levels") fd ∧ Binds K fd ["self"] [] := by
  obtain ⟨fd, F⟩ := T.says.def_ 10 (d := d_Test_levels) rfl
  exact ⟨fd, F, FunD.bindsN (ps := ["self"]) F fun _ _ _ _ _ _ us hl => match us, hl with | [_], _ => rfl⟩
theorem Fc.e_Test_and (T : Fc K mg) : ∃ fd, FnP K "__and__" "Test.__and__" s_Test_and (He.ma K (He.ga K "Test") "__and__") fd ∧ Binds K fd ["self", "other"] [] := by
  obtain ⟨fd, F⟩ := T.says.def_ 11 (d := d_Test_and) rfl
  exact ⟨fd, F, FunD.bindsN (ps := ["self", "other"]) F fun _ _ _ _ _ _ us hl => match us, hl with | [_, _], _ => rfl⟩
theorem Fc.e_Test_or (T : Fc K mg) : ∃ fd, FnP K "__or__" "Test.__or__" s_Test_or (He.ma K (He.ga K "Test") "__or__") fd ∧ Binds K fd ["self", "other"] [] := by
  obtain ⟨fd, F⟩ := T.says.def_ 12 (d := d_Test_or) rfl
  exact ⟨fd, F, FunD.bindsN (ps := ["self", "other"]) F fun _ _ _ _ _ _ us hl => match us, hl with | [_, _], _ => rfl⟩
theorem Fc.e_Test_invert (T : Fc K mg) : ∃ fd, FnP K "__invert__" "Test.__invert__" s_Test_invert (He.ma K (He.ga K "Test") "__invert__") fd ∧ Binds K fd ["self"] [] := by
  obtain ⟨fd, F⟩ := T.says.def_ 13 (d := d_Test_invert) rfl
  exact ⟨fd, F, FunD.bindsN (ps := ["self"]) F fun _ _ _ _ _ _ us hl => match us, hl with | [_], _ => rfl⟩
theorem Fc.e_Test_str (T : Fc K mg) : ∃ fd, FnP K "__str__" "Test.__str__" s_Test_str (He.ma K (He.ga K "Test") "__str__") fd ∧ Binds K fd ["self"] [] := by
  obtain ⟨fd, F⟩ := T.says.def_ 14 (d := d_Test_str) rfl
  exact ⟨fd, F, FunD.bindsN (ps := ["self"]) F fun _ _ _ _ _ _ us hl => match us, hl with | [_], _ => rfl⟩
theorem Fc.e_limited (T : Fc K mg) : ∃ fd, FnP K "limited" "limited" s_limited (He.ga K "limited") fd ∧ Binds K fd ["test"] [] := by
  obtain ⟨fd, F⟩ := T.says.def_ 15 (d := d_limited) rfl
  exact ⟨fd, F, FunD.bindsN (ps := ["test"]) F fun _ _ _ _ _ _ us hl => match us, hl with | [_], _ => rfl⟩
theorem Fc.e_combine (T : Fc K mg) : ∃ fd, FnP K "combine" "combine" s_combine (He.ga K "combine") fd ∧ Binds K fd ["kind", "one", "other"] [] := by
  obtain ⟨fd, F⟩ := T.says.def_ 16 (d := d_combine) rfl
  exact ⟨fd, F, FunD.bindsN (ps := ["kind", "one", "other"]) F fun _ _ _ _ _ _ us hl => match us, hl with | [_, _, _], _ => rfl⟩
theorem Fc.e_sure (T : Fc K mg) : ∃ fd, FnP K "sure" "sure" s_sure (He.ga K "sure") fd ∧ Binds K fd ["test"] [] := by
  obtain ⟨fd, F⟩ := T.says.def_ 17 (d := d_sure) rfl
  exact ⟨fd, F, FunD.bindsN (ps := ["test"]) F fun _ _ _ _ _ _ us hl => match us, hl with | [_], _ => rfl⟩
theorem Fc.e_is_operator (T : Fc K mg) : ∃ fd, FnP K "is_operator" "is_operator" s_is_operator (He.ga K "is_operator") fd ∧ Binds K fd ["op"] [] := by
  obtain ⟨fd, F⟩ := T.says.def_ 18 (d := d_is_operator) rfl
  exact ⟨fd, F, FunD.bindsN (ps := ["op"]) F fun _ _ _ _ _ _ us hl => match us, hl with | [_], _ => rfl⟩
theorem Fc.e_compare (T : Fc K mg) : ∃ fd, FnP K "compare" "compare" s_compare (He.ga K "compare") fd ∧ Binds K fd ["column", "op", "value"] [] := by
  obtain ⟨fd, F⟩ := T.says.def_ 19 (d := d_compare) rfl
  exact ⟨fd, F, FunD.bindsN (ps := ["column", "op", "value"]) F fun _ _ _ _ _ _ us hl => match us, hl with | [_, _, _], _ => rfl⟩
theorem Fc.e_against (T : Fc K mg) : ∃ fd, FunD K "against" "against" (defArgs s_against) (defBody s_against) (defScope s_against) [] [("more", .int 0)] (He.ga K "against") fd := T.says.def_ 20 (d := d_against) rfl
theorem Fc.e_among (T : Fc K mg) : ∃ fd, FnP K "among" "among" s_among (He.ga K "among") fd ∧ Binds K fd ["column", "values"] [] := by
  obtain ⟨fd, F⟩ := T.says.def_ 21 (d := d_among) rfl
  exact ⟨fd, F, FunD.bindsN (ps := ["column", "values"]) F fun _ _ _ _ _ _ us hl => match us, hl with | [_, _], _ => rfl⟩
theorem Fc.e_begins (T : Fc K mg) : ∃ fd, FnP K "begins" "begins" s_begins (He.ga K "begins") fd ∧ Binds K fd ["column", "prefix"] [] := by
  obtain ⟨fd, F⟩ := T.says.def_ 22 (d := d_begins) rfl
  exact ⟨fd, F, FunD.bindsN (ps := ["column", "prefix"]) F fun _ _ _ _ _ _ us hl => match us, hl with | [_, _], _ => rfl⟩
theorem Fc.e_empty (T : Fc K mg) : ∃ fd, FnP K "empty" "empty" s_empty (He.ga K "empty") fd ∧ Binds K fd ["column"] [] := by
  obtain ⟨fd, F⟩ := T.says.def_ 23 (d := d_empty) rfl
  exact ⟨fd, F, FunD.bindsN (ps := ["column"]) F fun _ _ _ _ _ _ us hl => match us, hl with | [_], _ => rfl⟩
theorem Fc.e_always (T : Fc K mg) : ∃ fd, FnP K "always" "always" s_always (He.ga K "always") fd ∧ Binds K fd [] [] := by
  obtain ⟨fd, F⟩ := T.says.def_ 24 (d := d_always) rfl
  exact ⟨fd, F, FunD.bindsN (ps := []) F fun _ _ _ _ _ _ us hl => match us, hl with | [], _ => rfl⟩
theorem Fc.e_never (T : Fc K mg) : ∃ fd, FnP K "never" "never" s_never (He.ga K "never") fd ∧ Binds K fd [] [] := by
  obtain ⟨fd, F⟩ := T.says.def_ 25 (d := d_never) rfl
  exact ⟨fd, F, FunD.bindsN (ps := []) F fun _ _ _ _ _ _ us hl => match us, hl with | [], _ => rfl⟩
theorem Fc.e_written_value (T : Fc K mg) : ∃ fd, FnP K "written_value" "written_value" s_written_value (He.ga K "written_value") fd ∧ Binds K fd ["value"] [] := by
  obtain ⟨fd, F⟩ := T.says.def_ 26 (d := d_written_value) rfl
  exact ⟨fd, F, FunD.bindsN (ps := ["value"]) F fun _ _ _ _ _ _ us hl => match us, hl with | [_], _ => rfl⟩
theorem Fc.e_written_atom (T : Fc K mg) : ∃ fd, FnP K "written_atom" "written_atom" s_written_atom (He.ga K "written_atom") fd ∧ Binds K fd ["test"] [] := by
  obtain ⟨fd, F⟩ := T.says.def_ 27 (d := d_written_atom) rfl
  exact ⟨fd, F, FunD.bindsN (ps := ["test"]) F fun _ _ _ _ _ _ us hl => match us, hl with | [_], _ => rfl⟩
theorem Fc.e_bracketed (T : Fc K mg) : ∃ fd, FnP K "bracketed" "bracketed" s_bracketed (He.ga K "bracketed") fd ∧ Binds K fd ["test", "kinds"] [] := by
  obtain ⟨fd, F⟩ := T.says.def_ 28 (d := d_bracketed) rfl
  exact ⟨fd, F, FunD.bindsN (ps := ["test", "kinds"]) F fun _ _ _ _ _ _ us hl => match us, hl with | [_, _], _ => rfl⟩
theorem Fc.e_written (T : Fc K mg) : ∃ fd, FnP K "written" "written" s_written (He.ga K "written") fd ∧ Binds K fd ["test"] [] := by
  obtain ⟨fd, F⟩ := T.says.def_ 29 (d := d_written) rfl
  exact ⟨fd, F, FunD.bindsN (ps := ["test"]) F fun _ _ _ _ _ _ us hl => match us, hl with | [_], _ => rfl⟩
theorem Fc.e_quoted_end (T : Fc K mg) : ∃ fd, FnP K "quoted_end" "quoted_end" s_quoted_end (He.ga K "quoted_end") fd ∧ Binds K fd ["text", "start"] [] := by
  obtain ⟨fd, F⟩ := T.says.def_ 30 (d := d_quoted_end) rfl
  exact ⟨fd, F, FunD.bindsN (ps := ["text", "start"]) F fun _ _ _ _ _ _ us hl => match us, hl with | [_, _], _ => rfl⟩
theorem Fc.e_word_end (T : Fc K mg) : ∃ fd, FnP K "word_end" "word_end" s_word_end (He.ga K "word_end") fd ∧ Binds K fd ["text", "start"] [] := by
  obtain ⟨fd, F⟩ := T.says.def_ 31 (d := d_word_end) rfl
  exact ⟨fd, F, FunD.bindsN (ps := ["text", "start"]) F fun _ _ _ _ _ _ us hl => match us, hl with | [_, _], _ => rfl⟩
theorem Fc.e_tokens_of (T : Fc K mg) : ∃ fd, FnP K "tokens_of" "tokens_of" s_tokens_of (He.ga K "tokens_of") fd ∧ Binds K fd ["text"] [] := by
  obtain ⟨fd, F⟩ := T.says.def_ 32 (d := d_tokens_of) rfl
  exact ⟨fd, F, FunD.bindsN (ps := ["text"]) F fun _ _ _ _ _ _ us hl => match us, hl with | [_], _ => rfl⟩
theorem Fc.e_Reader_init (T : Fc K mg) : ∃ fd, FnP K "__init__" "Reader.__init__" s_Reader_init (He.ma K (He.ga K "Reader") "__init__") fd ∧ Binds K fd ["self", "text"] [] := by
  obtain ⟨fd, F⟩ := T.says.def_ 33 (d := d_Reader_init) rfl
  exact ⟨fd, F, FunD.bindsN (ps := ["self", "text"]) F fun _ _ _ _ _ _ us hl => match us, hl with | [_, _], _ => rfl⟩
theorem Fc.e_Reader_peek (T : Fc K mg) : ∃ fd, FnP K "peek" "Reader.peek" s_Reader_peek (He.ma K (He.ga K "Reader") "peek") fd ∧ Binds K fd ["self"] [] := by
  obtain ⟨fd, F⟩ := T.says.def_ 34 (d := d_Reader_peek) rfl
  exact ⟨fd, F, FunD.bindsN (ps := ["self"]) F fun _ _ _ _ _ _ us hl => match us, hl with | [_], _ => rfl⟩
theorem Fc.e_Reader_take (T : Fc K mg) : ∃ fd, FnP K "take" "Reader.take" s_Reader_take (He.ma K (He.ga K "Reader") "take") fd ∧ Binds K fd ["self"] [] := by
  obtain ⟨fd, F⟩ := T.says.def_ 35 (d := d_Reader_take) rfl
  exact ⟨fd, F, FunD.bindsN (ps := ["self"]) F fun _ _ _ _ _ _ us hl => match us, hl with | [_], _ => rfl⟩
theorem Fc.e_Reader_skip (T : Fc K mg) : ∃ fd, FnP K "skip" "Reader.skip" s_Reader_skip (He.ma K (He.ga K "Reader") "skip") fd ∧ Binds K fd ["self", "token"] [] := by
  obtain ⟨fd, F⟩ := T.says.def_ 36 (d := d_Reader_skip) rfl
  exact ⟨fd, F, FunD.bindsN (ps := ["self", "token"]) F fun _ _ _ _ _ _ us hl => match us, hl with | [_, _], _ => rfl⟩
theorem Fc.e_Reader_need (T : Fc K mg) : ∃ fd, FnP K "need" "Reader.need" s_Reader_need (He.ma K (He.ga K "Reader") "need") fd := T.says.def_ 37 (d := d_Reader_need) rfl
theorem Fc.e_Reader_deeper (T : Fc K mg) : ∃ fd, FnP K "deeper" "Reader.deeper" s_Reader_deeper (He.ma K (He.ga K "Reader") "deeper") fd ∧ Binds K fd ["self", "change"] [] := by
  obtain ⟨fd, F⟩ := T.says.def_ 38 (d := d_Reader_deeper) rfl
  exact ⟨fd, F, FunD.bindsN (ps := ["self", "change"]) F fun _ _ _ _ _ _ us hl => match us, hl with | [_, _], _ => rfl⟩
theorem Fc.e_unquoted (T : Fc K mg) : ∃ fd, FnP K "unquoted" "unquoted" s_unquoted (He.ga K "unquoted") fd ∧ Binds K fd ["token"] [] := by
  obtain ⟨fd, F⟩ := T.says.def_ 39 (d := d_unquoted) rfl
  exact ⟨fd, F, FunD.bindsN (ps := ["token"]) F fun _ _ _ _ _ _ us hl => match us, hl with | [_], _ => rfl⟩
theorem Fc.e_number_of (T : Fc K mg) : ∃ fd, FnP K "number_of" "number_of" s_number_of (He.ga K "number_of") fd ∧ Binds K fd ["token"] [] := by
  obtain ⟨fd, F⟩ := T.says.def_ 40 (d := d_number_of) rfl
  exact ⟨fd, F, FunD.bindsN (ps := ["token"]) F fun _ _ _ _ _ _ us hl => match us, hl with | [_], _ => rfl⟩
theorem Fc.e_read_value (T : Fc K mg) : ∃ fd, FnP K "read_value" "read_value" s_read_value (He.ga K "read_value") fd ∧ Binds K fd ["reader"] [] := by
  obtain ⟨fd, F⟩ := T.says.def_ 41 (d := d_read_value) rfl
  exact ⟨fd, F, FunD.bindsN (ps := ["reader"]) F fun _ _ _ _ _ _ us hl => match us, hl with | [_], _ => rfl⟩
theorem Fc.e_read_values (T : Fc K mg) : ∃ fd, FnP K "read_values" "read_values" s_read_values (He.ga K "read_values") fd ∧ Binds K fd ["reader"] [] := by
  obtain ⟨fd, F⟩ := T.says.def_ 42 (d := d_read_values) rfl
  exact ⟨fd, F, FunD.bindsN (ps := ["reader"]) F fun _ _ _ _ _ _ us hl => match us, hl with | [_], _ => rfl⟩
theorem Fc.e_read_more (T : Fc K mg) : ∃ fd, FnP K "read_more" "read_more" s_read_more (He.ga K "read_more") fd ∧ Binds K fd ["reader"] [] := by
  obtain ⟨fd, F⟩ := T.says.def_ 43 (d := d_read_more) rfl
  exact ⟨fd, F, FunD.bindsN (ps := ["reader"]) F fun _ _ _ _ _ _ us hl => match us, hl with | [_], _ => rfl⟩
theorem Fc.e_read_atom (T : Fc K mg) : ∃ fd, FnP K "read_atom" "read_atom" s_read_atom (He.ga K "read_atom") fd ∧ Binds K fd ["reader"] [] := by
  obtain ⟨fd, F⟩ := T.says.def_ 44 (d := d_read_atom) rfl
  exact ⟨fd, F, FunD.bindsN (ps := ["reader"]) F fun _ _ _ _ _ _ us hl => match us, hl with | [_], _ => rfl⟩
theorem Fc.e_read_part (T : Fc K mg) : ∃ fd, FnP K "read_part" "read_part" s_read_part (He.ga K "read_part") fd ∧ Binds K fd ["reader"] [] := by
  obtain ⟨fd, F⟩ := T.says.def_ 45 (d := d_read_part) rfl
  exact ⟨fd, F, FunD.bindsN (ps := ["reader"]) F fun _ _ _ _ _ _ us hl => match us, hl with | [_], _ => rfl⟩
theorem Fc.e_read_and (T : Fc K mg) : ∃ fd, FnP K "read_and" "read_and" s_read_and (He.ga K "read_and") fd ∧ Binds K fd ["reader"] [] := by
  obtain ⟨fd, F⟩ := T.says.def_ 46 (d := d_read_and) rfl
  exact ⟨fd, F, FunD.bindsN (ps := ["reader"]) F fun _ _ _ _ _ _ us hl => match us, hl with | [_], _ => rfl⟩
theorem Fc.e_read_or (T : Fc K mg) : ∃ fd, FnP K "read_or" "read_or" s_read_or (He.ga K "read_or") fd ∧ Binds K fd ["reader"] [] := by
  obtain ⟨fd, F⟩ := T.says.def_ 47 (d := d_read_or) rfl
  exact ⟨fd, F, FunD.bindsN (ps := ["reader"]) F fun _ _ _ _ _ _ us hl => match us, hl with | [_], _ => rfl⟩
theorem Fc.e_test_text (T : Fc K mg) : ∃ fd, FnP K "test_text" "test_text" s_test_text (He.ga K "test_text") fd ∧ Binds K fd ["test"] [] := by
  obtain ⟨fd, F⟩ := T.says.def_ 48 (d := d_test_text) rfl
  exact ⟨fd, F, FunD.bindsN (ps := ["test"]) F fun _ _ _ _ _ _ us hl => match us, hl with | [_], _ => rfl⟩
theorem Fc.e_need_string (T : Fc K mg) : ∃ fd, FnP K "need_string" "need_string" s_need_string (He.ga K "need_string") fd ∧ Binds K fd ["text"] [] := by
  obtain ⟨fd, F⟩ := T.says.def_ 49 (d := d_need_string) rfl
  exact ⟨fd, F, FunD.bindsN (ps := ["text"]) F fun _ _ _ _ _ _ us hl => match us, hl with | [_], _ => rfl⟩
theorem Fc.e_exactly (T : Fc K mg) : ∃ fd, FnP K "exactly" "exactly" s_exactly (He.ga K "exactly") fd ∧ Binds K fd ["text", "told", "thing"] [] := by
  obtain ⟨fd, F⟩ := T.says.def_ 50 (d := d_exactly) rfl
  exact ⟨fd, F, FunD.bindsN (ps := ["text", "told", "thing"]) F fun _ _ _ _ _ _ us hl => match us, hl with | [_, _, _], _ => rfl⟩
theorem Fc.e_read_test (T : Fc K mg) : ∃ fd, FnP K "read_test" "read_test" s_read_test (He.ga K "read_test") fd ∧ Binds K fd ["text"] [] := by
  obtain ⟨fd, F⟩ := T.says.def_ 51 (d := d_read_test) rfl
  exact ⟨fd, F, FunD.bindsN (ps := ["text"]) F fun _ _ _ _ _ _ us hl => match us, hl with | [_], _ => rfl⟩
theorem Fc.e__law_begin (T : Fc K mg) : ∃ fd, FnP K "_law_begin" "_law_begin" s__law_begin (He.ga K "_law_begin") fd ∧ Binds K fd ["_law_script"] [] := by
  obtain ⟨fd, F⟩ := T.says.def_ 52 (d := d__law_begin) rfl
  exact ⟨fd, F, FunD.bindsN (ps := ["_law_script"]) F fun _ _ _ _ _ _ us hl => match us, hl with | [_], _ => rfl⟩
theorem Fc.e__law_take (T : Fc K mg) : ∃ fd, FnP K "_law_take" "_law_take" s__law_take (He.ga K "_law_take") fd ∧ Binds K fd ["_law_draw", "_law_many"] [] := by
  obtain ⟨fd, F⟩ := T.says.def_ 53 (d := d__law_take) rfl
  exact ⟨fd, F, FunD.bindsN (ps := ["_law_draw", "_law_many"]) F fun _ _ _ _ _ _ us hl => match us, hl with | [_, _], _ => rfl⟩
theorem Fc.e__law_chars (T : Fc K mg) : ∃ fd, FnP K "_law_chars" "_law_chars" s__law_chars (He.ga K "_law_chars") fd ∧ Binds K fd [] [] := by
  obtain ⟨fd, F⟩ := T.says.def_ 54 (d := d__law_chars) rfl
  exact ⟨fd, F, FunD.bindsN (ps := []) F fun _ _ _ _ _ _ us hl => match us, hl with | [], _ => rfl⟩
theorem Fc.e__law_number (T : Fc K mg) : ∃ fd, FnP K "_law_number" "_law_number" s__law_number (He.ga K "_law_number") fd ∧ Binds K fd ["_law_draw"] [] := by
  obtain ⟨fd, F⟩ := T.says.def_ 55 (d := d__law_number) rfl
  exact ⟨fd, F, FunD.bindsN (ps := ["_law_draw"]) F fun _ _ _ _ _ _ us hl => match us, hl with | [_], _ => rfl⟩
theorem Fc.e__law_text (T : Fc K mg) : ∃ fd, FnP K "_law_text" "_law_text" s__law_text (He.ga K "_law_text") fd ∧ Binds K fd ["_law_draw"] [] := by
  obtain ⟨fd, F⟩ := T.says.def_ 56 (d := d__law_text) rfl
  exact ⟨fd, F, FunD.bindsN (ps := ["_law_draw"]) F fun _ _ _ _ _ _ us hl => match us, hl with | [_], _ => rfl⟩
theorem Fc.e__law_value (T : Fc K mg) : ∃ fd, FnP K "_law_value" "_law_value" s__law_value (He.ga K "_law_value") fd ∧ Binds K fd ["_law_draw", "_law_kind"] [] := by
  obtain ⟨fd, F⟩ := T.says.def_ 57 (d := d__law_value) rfl
  exact ⟨fd, F, FunD.bindsN (ps := ["_law_draw", "_law_kind"]) F fun _ _ _ _ _ _ us hl => match us, hl with | [_, _], _ => rfl⟩
theorem Fc.e__law_name (T : Fc K mg) : ∃ fd, FnP K "_law_name" "_law_name" s__law_name (He.ga K "_law_name") fd ∧ Binds K fd ["_law_draw", "_law_taken"] [] := by
  obtain ⟨fd, F⟩ := T.says.def_ 58 (d := d__law_name) rfl
  exact ⟨fd, F, FunD.bindsN (ps := ["_law_draw", "_law_taken"]) F fun _ _ _ _ _ _ us hl => match us, hl with | [_, _], _ => rfl⟩
theorem Fc.e__law_columns (T : Fc K mg) : ∃ fd, FnP K "_law_columns" "_law_columns" s__law_columns (He.ga K "_law_columns") fd ∧ Binds K fd ["_law_draw", "_law_most"] [] := by
  obtain ⟨fd, F⟩ := T.says.def_ 59 (d := d__law_columns) rfl
  exact ⟨fd, F, FunD.bindsN (ps := ["_law_draw", "_law_most"]) F fun _ _ _ _ _ _ us hl => match us, hl with | [_, _], _ => rfl⟩
theorem Fc.e__law_atom (T : Fc K mg) : ∃ fd, FnP K "_law_atom" "_law_atom" s__law_atom (He.ga K "_law_atom") fd ∧ Binds K fd ["_law_draw", "_law_columns_here"] [] := by
  obtain ⟨fd, F⟩ := T.says.def_ 60 (d := d__law_atom) rfl
  exact ⟨fd, F, FunD.bindsN (ps := ["_law_draw", "_law_columns_here"]) F fun _ _ _ _ _ _ us hl => match us, hl with | [_, _], _ => rfl⟩
theorem Fc.e__law_wrapped (T : Fc K mg) : ∃ fd, FnP K "_law_wrapped" "_law_wrapped" s__law_wrapped (He.ga K "_law_wrapped") fd ∧ Binds K fd ["_law_form_here", "_law_choice"] [] := by
  obtain ⟨fd, F⟩ := T.says.def_ 61 (d := d__law_wrapped) rfl
  exact ⟨fd, F, FunD.bindsN (ps := ["_law_form_here", "_law_choice"]) F fun _ _ _ _ _ _ us hl => match us, hl with | [_, _], _ => rfl⟩
theorem Fc.e__law_form (T : Fc K mg) : ∃ fd, FnP K "_law_form" "_law_form" s__law_form (He.ga K "_law_form") fd ∧ Binds K fd ["_law_draw", "_law_columns_here", "_law_most"] [] := by
  obtain ⟨fd, F⟩ := T.says.def_ 62 (d := d__law_form) rfl
  exact ⟨fd, F, FunD.bindsN (ps := ["_law_draw", "_law_columns_here", "_law_most"]) F fun _ _ _ _ _ _ us hl => match us, hl with | [_, _, _], _ => rfl⟩
theorem Fc.e__law_thing (T : Fc K mg) : ∃ fd, FnP K "_law_thing" "_law_thing" s__law_thing (He.ga K "_law_thing") fd ∧ Binds K fd ["_law_draw"] [] := by
  obtain ⟨fd, F⟩ := T.says.def_ 63 (d := d__law_thing) rfl
  exact ⟨fd, F, FunD.bindsN (ps := ["_law_draw"]) F fun _ _ _ _ _ _ us hl => match us, hl with | [_], _ => rfl⟩
theorem Fc.e__law_written_value (T : Fc K mg) : ∃ fd, FnP K "_law_written_value" "_law_written_value" s__law_written_value (He.ga K "_law_written_value") fd ∧ Binds K fd ["_law_value_here"] [] := by
  obtain ⟨fd, F⟩ := T.says.def_ 64 (d := d__law_written_value) rfl
  exact ⟨fd, F, FunD.bindsN (ps := ["_law_value_here"]) F fun _ _ _ _ _ _ us hl => match us, hl with | [_], _ => rfl⟩
theorem Fc.e__law_written_atom (T : Fc K mg) : ∃ fd, FnP K "_law_written_atom" "_law_written_atom" s__law_written_atom (He.ga K "_law_written_atom") fd ∧ Binds K fd ["_law_form_here"] [] := by
  obtain ⟨fd, F⟩ := T.says.def_ 65 (d := d__law_written_atom) rfl
  exact ⟨fd, F, FunD.bindsN (ps := ["_law_form_here"]) F fun _ _ _ _ _ _ us hl => match us, hl with | [_], _ => rfl⟩
theorem Fc.e__law_written (T : Fc K mg) : ∃ fd, FnP K "_law_written" "_law_written" s__law_written (He.ga K "_law_written") fd ∧ Binds K fd ["_law_form_here"] [] := by
  obtain ⟨fd, F⟩ := T.says.def_ 66 (d := d__law_written) rfl
  exact ⟨fd, F, FunD.bindsN (ps := ["_law_form_here"]) F fun _ _ _ _ _ _ us hl => match us, hl with | [_], _ => rfl⟩
theorem Fc.e__law_read (T : Fc K mg) : ∃ fd, FnP K "_law_read" "_law_read" s__law_read (He.ga K "_law_read") fd ∧ Binds K fd ["_law_text_here"] [] := by
  obtain ⟨fd, F⟩ := T.says.def_ 67 (d := d__law_read) rfl
  exact ⟨fd, F, FunD.bindsN (ps := ["_law_text_here"]) F fun _ _ _ _ _ _ us hl => match us, hl with | [_], _ => rfl⟩
theorem Fc.e__law_changed (T : Fc K mg) : ∃ fd, FnP K "_law_changed" "_law_changed" s__law_changed (He.ga K "_law_changed") fd ∧ Binds K fd ["_law_draw", "_law_text_here"] [] := by
  obtain ⟨fd, F⟩ := T.says.def_ 68 (d := d__law_changed) rfl
  exact ⟨fd, F, FunD.bindsN (ps := ["_law_draw", "_law_text_here"]) F fun _ _ _ _ _ _ us hl => match us, hl with | [_, _], _ => rfl⟩
theorem Fc.e__law_refused_text (T : Fc K mg) : ∃ fd, FnP K "_law_refused_text" "_law_refused_text" s__law_refused_text (He.ga K "_law_refused_text") fd ∧ Binds K fd ["_law_draw", "_law_text_here", "_law_name_here"] [] := by
  obtain ⟨fd, F⟩ := T.says.def_ 69 (d := d__law_refused_text) rfl
  exact ⟨fd, F, FunD.bindsN (ps := ["_law_draw", "_law_text_here", "_law_name_here"]) F fun _ _ _ _ _ _ us hl => match us, hl with | [_, _, _], _ => rfl⟩
theorem Fc.e_law (T : Fc K mg) : ∃ fd, FnP K "law" "law" s_law (He.ga K "law") fd ∧ Binds K fd ["_law_script"] [] := by
  obtain ⟨fd, F⟩ := T.says.def_ 70 (d := d_law) rfl
  exact ⟨fd, F, FunD.bindsN (ps := ["_law_script"]) F fun _ _ _ _ _ _ us hl => match us, hl with | [_], _ => rfl⟩
theorem Fc.e_BadTest (T : Fc K mg) : ∃ fd, FnP K "__init__" "BadTest.__init__" (inClass (top 3) 0) (He.ma K (He.ga K "BadTest") "__init__") fd := T.says.def_ 71 (d := d_BadTest) rfl
theorem Fc.e_BadText (T : Fc K mg) : ∃ fd, FnP K "__init__" "BadText.__init__" (inClass (top 4) 0) (He.ma K (He.ga K "BadText") "__init__") fd := T.says.def_ 72 (d := d_BadText) rfl
end
end Tw
end

section
set_option Elab.async false
set_option linter.all false
set_option maxRecDepth 100000
set_option maxHeartbeats 0
/-! The head: the facts read by a Hook of our own, one kernel run. -/
namespace Tw
open PySem PySem.Spec PyProof.Rows L2
def kW (g : Addr → Option Obj) : PySem.W.Frag := He.frG g (cStatics :: He.asD g 5)
abbrev AlW : Type := He.AlD × Bool
def obsW (g : Addr → Option Obj) : AlW := (He.obsD fa fn (kW g), exX (kW g))
def hookW : PySem.W.Hook where
  α := AlW
  obs := fun s => obsW s.heap.get?
  val := fun _ => (He.valD fn, true)
  says := fun _ h => ∃ K : PySem.W.Frag, K.In h ∧ He.SaysD fa fn K ∧ exX K = true
  of := fun _ _ e => ⟨_, He.frG_in, congrArg (fun z : AlW => z.1) e, congrArg (fun z : AlW => z.2) e⟩
  keeps := fun _ _ _ ⟨K, hK, c⟩ k => ⟨K, PySem.W.Frag.In.keeps hK k, c⟩
def obW (s : PySem.W.SharedT) : AlW := obsW (HandSHeadRun.getT s)
theorem obW_eq (s : PySem.W.SharedT) : obW s = hookW.obs s.abs := by
  have e : HandSHeadRun.getT s = s.abs.heap.get? := funext (HandSHeadRun.getT_eq s)
  show obsW _ = obsW _
  rw [e]
abbrev RR : PySem.W.OpenRow := PySem.W.OpenLaw.row PySem.Challenge.rw_tworows_k41_whole_reading_is_exact
abbrev qv : Program := PySem.W.view RR.prog [78]
def nm1 : List PySem.Str := ["_wall", "__name__", "RowsError", "BadTest", "BadText", "CHARS", "LETTERS", "DIGITS", "KEPT_WORDS", "is_integer", "is_sequence", "is_text", "is_name", "kind_of", "sorted_plain", "MOST_ATOMS", "MOST_LEVELS", "OPERATORS", "Test", "limited", "combine", "sure", "is_operator", "compare", "against", "among", "begins", "empty", "always", "never"]
def nm2 : List PySem.Str := ["columns_of", "written_value", "written_atom", "bracketed", "written", "SIGNS", "MOST_DIGITS", "MOST_NESTED", "quoted_end", "word_end", "tokens_of", "Reader", "unquoted", "number_of", "read_value", "read_values", "read_more", "read_atom", "read_part", "read_and", "read_or", "test_text", "need_string", "exactly", "read_test"]
def nm3 : List PySem.Str := ["_law_begin", "_law_take", "_law_chars", "_law_number", "_law_text", "_law_value", "_law_name", "_law_columns", "_law_atom", "_law_wrapped", "_law_form", "_law_thing", "_law_written_value", "_law_written_atom", "_law_written", "_law_read", "_law_changed", "_law_refused_text"]
theorem run (w : World) : HandSHeadRun.RunEq RR qv hookW obW 4000 (nm1 ++ (nm2 ++ nm3)) w := by
  intro os
  kernel_rfl
end Tw
end

section
set_option Elab.async false
set_option linter.all false
set_option maxRecDepth 100000
set_option maxHeartbeats 4000000
/-! Words for the walks: a def that keeps its promise, calls of it; the objects. -/
namespace Tw
open PySem PySem.Spec PyProof.Rows L2
open TwP (Tx Val)
abbrev Tr : Type := TwP.Tree
/-! ### a def that keeps a promise -/
structure Df (P : Program) (w : World) (K : PySem.W.Frag) (mg : Str → Option Value) (base : Heap) (CX : CXT) (k : Nat) (f : Addr) (ps : List Str) (sp : Sp) : Prop where
  ex : ∃ fd, FnOk P w K mg base CX k f fd ps sp ∧ Binds K fd ps []
  kp : PySem.W.keepIn K (.ref f) = true
section
variable {P : Program} {w : World} {K : PySem.W.Frag} {mg : Str → Option Value} {base : Heap} {CX : CXT} {j k : Nat} {f : Addr} {fd : FuncData} {x qn : Str} {st : Stmt} {N ps : List Str} {sp sp' : Sp}
theorem Df.mono (D : Df P w K mg base CX j f ps sp) (h : j ≤ k) : Df P w K mg base CX k f ps sp := by
  obtain ⟨⟨fd, F, b⟩, kp⟩ := D
  exact ⟨⟨fd, F.mono h, b⟩, kp⟩
theorem Df.imp (D : Df P w K mg base CX k f ps sp) (h : ∀ vs H Q E, sp' vs H Q E → sp vs H Q E) : Df P w K mg base CX k f ps sp' := by
  obtain ⟨⟨fd, F, b⟩, kp⟩ := D
  exact ⟨⟨fd, F.imp h, b⟩, kp⟩
/-- a def that lets nothing out -/
theorem df0 (h : ∃ fd, FnP K x qn st f fd ∧ Binds K fd ps []) (S : FnScope N ps (defScope st)) (len : ∀ vs H Q E, sp vs H Q E → vs.length = ps.length)
    (hbody : ∀ (cdv : Value) (A : Around) (outer : List Env) (s : Shared) (H : Hp) (vs : List V) (Q : VK) (E : XK), Room k (A.deeper (envOfC qn (defScope st) s.heap.objs.size f cdv)) → sp vs H Q E →
      ∃ t, PSs (cxOf CX0 P w K mg base N qn (defScope st) f cdv A outer s H E).nox (defBody st) t ∧ t { nx := fun _ H' => Q .non H', rt := Q } (start N vs) H) : Df P w K mg base CX0 (k + 1) f ps sp := by
  obtain ⟨fd, F, b⟩ := h
  refine ⟨⟨fd, FunD.ok F S len fun cdv A outer s H vs Q E hr h => ?_, b⟩, F.kp⟩
  obtain ⟨t, ht, hq⟩ := hbody cdv A outer s H vs Q E hr h
  exact ⟨t, PSs.nox ht, hq⟩
/-- a def that may raise (where nothing is handled) -/
theorem dfN (h : ∃ fd, FnP K x qn st f fd ∧ Binds K fd ps []) (S : FnScope N ps (defScope st)) (len : ∀ vs H Q E, sp vs H Q E → vs.length = ps.length)
    (hbody : ∀ (cdv : Value) (A : Around) (outer : List Env) (s : Shared) (H : Hp) (vs : List V) (Q : VK) (E : XK), Room k (A.deeper (envOfC qn (defScope st) s.heap.objs.size f cdv)) → sp vs H Q E →
      ∃ t, PSs (cxOf (L2N.CX P w) P w K mg base N qn (defScope st) f cdv A outer s H E) (defBody st) t ∧ t { nx := fun _ H' => Q .non H', rt := Q } (start N vs) H) : Df P w K mg base (L2N.CX P w) (k + 1) f ps sp := by
  obtain ⟨fd, F, b⟩ := h
  exact ⟨⟨fd, FunD.ok F S len fun cdv A outer s H vs Q E hr h => hbody cdv A outer s H vs Q E hr h, b⟩, F.kp⟩
theorem dfX (h : ∃ fd, FnP K x qn st f fd ∧ Binds K fd ps []) (S : FnScope N ps (defScope st)) (len : ∀ vs H Q E, sp vs H Q E → vs.length = ps.length)
    (hbody : ∀ (cdv : Value) (A : Around) (outer : List Env) (s : Shared) (H : Hp) (vs : List V) (Q : VK) (E : XK), Room k (A.deeper (envOfC qn (defScope st) s.heap.objs.size f cdv)) → sp vs H Q E →
      ∃ t, PSs (cxOf (L2.CX P w) P w K mg base N qn (defScope st) f cdv A outer s H E) (defBody st) t ∧ t { nx := fun _ H' => Q .non H', rt := Q } (start N vs) H) : Df P w K mg base (L2.CX P w) (k + 1) f ps sp := by
  obtain ⟨fd, F, b⟩ := h
  exact ⟨⟨fd, FunD.ok F S len fun cdv A outer s H vs Q E hr h => hbody cdv A outer s H vs Q E hr h, b⟩, F.kp⟩
/-- no call is left -/
theorem df_none (h : ∃ fd, FnP K x qn st f fd ∧ Binds K fd ps []) (no : ∀ vs H Q E, ¬ sp vs H Q E) : Df P w K mg base CX k f ps sp := by
  obtain ⟨fd, F, b⟩ := h
  exact ⟨⟨fd, ⟨fun vs H Q E h => absurd h (no vs H Q E), fun A outer s H args us vs Q E _ _ _ _ h => absurd h (no vs H Q E)⟩, b⟩, F.kp⟩
end
section
variable {X : Cx} {CX : CXT} {k : Nat} {f C : Addr} {ps : List Str} {sp : Sp} {E : XK} {x m : Str} {p pos apos : Pos} {e o : Expr} {es : List Expr} {ta : TE} {t : TA}
/-- f(e, ..) -/
theorem pe_df (D : Df X.prog X.w X.K X.mg X.base CX k f ps sp) (hm : X.mg x = some (.ref f)) (hr : Room k X.A) (hx : Passes CX X E) (ha : PA X (e :: es) t) (hg : Gl X x := by rfl)
    (hdb : (x == ("__debug__" : Str)) = false := by decide) (he : starEach (e :: es) X.env = (false, eval e X.env) :: starEach es X.env := by rfl) (hpl : (backTo pos (starEach es X.env)).any (·.1) = false := by rfl) :
    PE X (.Call (.Name x p) (e :: es) [] pos) (tCall sp [] E t) := by
  obtain ⟨⟨fd, F, b⟩, kp⟩ := D
  exact pe_call F hr hg hm kp b .nil hx ha hdb he hpl
/-- f() -/
theorem pe_df0 (D : Df X.prog X.w X.K X.mg X.base CX k f ps sp) (hm : X.mg x = some (.ref f)) (hr : Room k X.A) (hx : Passes CX X E) (hg : Gl X x := by rfl) (hdb : (x == ("__debug__" : Str)) = false := by decide) :
    PE X (.Call (.Name x p) [] [] pos) (tCall sp [] E tNil) := by
  obtain ⟨⟨fd, F, b⟩, kp⟩ := D
  exact pe_call0 F hr hg hm kp b .nil hx hdb
/-- o.m(e, ..) -/
theorem pe_dm {pl : Sem Bool} (D : Df X.prog X.w X.K X.mg X.base CX k f ps sp) (c : Cls X.K C) (hm : Meth X.K C m f) (hr : Room k X.A) (hx : Passes CX X E) (he : PE X o ta) (ha : PA X (e :: es) t)
    (hst : starEach (e :: es) X.env = (false, eval e X.env) :: starEach es X.env := by rfl) (hpl : (backTo pos (starEach es X.env)).any (·.1) = false := by rfl)
    (ht : eval (.Call (.Attribute o m apos) (e :: es) [] pos) X.env = (do
      let ov ← eval o X.env
      standAt apos.atName
      let (f, first) ← holding [ov] (getMethod ov m pl)
      callWith pos f first (backTo pos (starEach (e :: es) X.env)) (backToKw pos (keywordEach [] X.env))) := by rfl) :
    PE X (.Call (.Attribute o m apos) (e :: es) [] pos) (tMeth C m sp [] E ta t) := by
  obtain ⟨⟨fd, F, b⟩, kp⟩ := D
  exact pe_meth he c hm F hr b .nil hx ha hst hpl ht
/-- o.m() -/
theorem pe_dm0 {pl : Sem Bool} (D : Df X.prog X.w X.K X.mg X.base CX k f ps sp) (c : Cls X.K C) (hm : Meth X.K C m f) (hr : Room k X.A) (hx : Passes CX X E) (he : PE X o ta)
    (ht : eval (.Call (.Attribute o m apos) [] [] pos) X.env = (do
      let ov ← eval o X.env
      standAt apos.atName
      let (f, first) ← holding [ov] (getMethod ov m pl)
      callWith pos f first (backTo pos (starEach [] X.env)) (backToKw pos (keywordEach [] X.env))) := by rfl) :
    PE X (.Call (.Attribute o m apos) [] [] pos) (tMeth C m sp [] E ta tNil) := by
  obtain ⟨⟨fd, F, b⟩, kp⟩ := D
  exact pe_meth0 he c hm F hr b .nil hx ht
/-- C(e, ..) -/
theorem pe_dmk (D : Df X.prog X.w X.K X.mg X.base CX k f ps sp) (M : Mk X.K C f) (hm : X.mg x = some (.ref C)) (hr : Room (k + 1) X.A) (hx : Passes CX X E) (ha : PA X (e :: es) t) (hg : Gl X x := by rfl)
    (hdb : (x == ("__debug__" : Str)) = false := by decide) (he : starEach (e :: es) X.env = (false, eval e X.env) :: starEach es X.env := by rfl) (hpl : (backTo pos (starEach es X.env)).any (·.1) = false := by rfl) :
    PE X (.Call (.Name x p) (e :: es) [] pos) (tMake C sp [] E t) := by
  obtain ⟨⟨fd, F, b⟩, kp⟩ := D
  exact pe_make M F hr hg hm b .nil hx ha hdb he hpl
/-- a call whose exceptions a try takes -/
theorem pe_dfS {E : L2.St → XK} (D : Df X.prog X.w X.K X.mg X.base CX k f ps sp) (hm : X.mg x = some (.ref f)) (hr : Room k X.A) (hx : ∀ σ, PassesAt CX X σ (E σ)) (ha : PA X (e :: es) t) (hg : Gl X x := by rfl)
    (hdb : (x == ("__debug__" : Str)) = false := by decide) (he : starEach (e :: es) X.env = (false, eval e X.env) :: starEach es X.env := by rfl) (hpl : (backTo pos (starEach es X.env)).any (·.1) = false := by rfl) :
    PE X (.Call (.Name x p) (e :: es) [] pos) (tCallS sp E t) := by
  obtain ⟨⟨fd, F, b⟩, kp⟩ := D
  exact pe_callS F hr hg hm kp b hx ha hdb he hpl
end
section
variable {X : Cx} {x : Str} {pos : Pos}
theorem pe_tyN {n : String} (hm : X.mg x = none) (hv : bootBuiltins x = some (.type n)) (hg : Gl X x := by rfl) (hn : x ≠ "__name__" := by decide) (hd : (x == ("__debug__" : Str)) = false := by decide) : PE X (.Name x pos) (tC (.ty n)) := pe_bltn hg hm hv rfl hn hd
theorem pe_gS {z : Str} {t : Tok} (hm : X.mg x = some (.str z t)) (hg : Gl X x := by rfl) (hd : (x == ("__debug__" : Str)) = false := by decide) : PE X (.Name x pos) (tC (.str z)) := pe_glob (v := .str z) hg hm ⟨t, rfl⟩ hd
theorem pe_gI {z : Int} {t : Tok} (hm : X.mg x = some (.int z t)) (hg : Gl X x := by rfl) (hd : (x == ("__debug__" : Str)) = false := by decide) : PE X (.Name x pos) (tC (.int z)) := pe_glob (v := .int z) hg hm ⟨t, rfl⟩ hd
theorem pe_gR {a : Addr} (hm : X.mg x = some (.ref a)) (hg : Gl X x := by rfl) (hd : (x == ("__debug__" : Str)) = false := by decide) : PE X (.Name x pos) (tC (.ref a)) := pe_glob (v := .ref a) hg hm rfl hd
end
/-! ### the facts, read -/
section
variable {K : PySem.W.Frag} {mg : Str → Option Value}
theorem and_ex (T : Fc K mg) : exX K = true := T.more
theorem exT_of (T : Fc K mg) {x ql : Str} {f : PySem.TwX.Fl} (hg : mg x = some (.ref (He.ga K x))) (hb : exB K x f.s = true)
    (hf : ∃ (p1 p2 q1 q2 q3 q4 : Pos) (fd : FuncData), FunD K "__init__" ql (PySem.TwX.iA f.s p1 p2) (PySem.TwX.iB f.s q1 q2 q3 q4) (PySem.TwX.iS f.s) [] [] (He.ma K (He.ga K x) "__init__") fd) :
    PySem.TwX.ExT K mg x ql f.s (He.ga K x) (He.ma K (He.ga K x) "__init__") := by
  obtain ⟨h1, hb⟩ := He.ba hb
  obtain ⟨h2, hb⟩ := He.ba hb
  obtain ⟨h3, hb⟩ := He.ba hb
  obtain ⟨h4, hb⟩ := He.ba hb
  obtain ⟨h5, hb⟩ := He.ba hb
  obtain ⟨h6, hb⟩ := He.ba hb
  obtain ⟨h7, hb⟩ := He.ba hb
  obtain ⟨h8, hb⟩ := He.ba hb
  obtain ⟨h9, hb⟩ := He.ba hb
  obtain ⟨h10, hb⟩ := He.ba hb
  obtain ⟨h11, h12⟩ := He.ba hb
  exact ⟨hg, h1, h2, h3, He.eqO_ok h4, He.eqO_ok h5, He.eqO_ok h6, He.eqO_ok h7, He.eqO_ok h8, h9, h10, of_decide_eq_true h11, of_decide_eq_true h12, hf⟩
/-- all that exX tells -/
structure Ex (K : PySem.W.Frag) (mg : Str → Option Value) : Prop where
  bt : PySem.TwX.ExT K mg "BadTest" "BadTest.__init__" (PySem.TwX.Fl.s .why) (He.ga K "BadTest") (He.ma K (He.ga K "BadTest") "__init__")
  bx : PySem.TwX.ExT K mg "BadText" "BadText.__init__" (PySem.TwX.Fl.s .line) (He.ga K "BadText") (He.ma K (He.ga K "BadText") "__init__")
  tt : PySem.W.exmOne K (.ref (He.ga K "BadTest")) (.ref (He.ga K "BadTest")) = some true
  xt : PySem.W.exmOne K (.ref (He.ga K "BadText")) (.ref (He.ga K "BadTest")) = some false
  xx : PySem.W.exmOne K (.ref (He.ga K "BadText")) (.ref (He.ga K "BadText")) = some true
  kept : ∀ H, SqT K H (He.ga K "KEPT_WORDS") (TwP.kept.map sV)
  ops : ∀ H, SqT K H (He.ga K "OPERATORS") (TwP.ops.map sV)
  signs : ∀ H, SqT K H (He.ga K "SIGNS") (TwP.signs.map sV)
  first : PySem.W.selfFirst K (He.ga K "Test") = true
  i1 : PySem.W.findIn K (.ref (He.ga K "Test")) "__class__" = some (some (.builtin "object.__class__"))
  i2 : PySem.W.specialIn K (.builtin "object.__class__") "__get__" = some (some (.builtin "getset_descriptor.__get__"))
  i3 : PySem.W.takesIn K (.builtin "object.__class__") = some true
  i4 : PySem.W.mroIn K (He.ga K "Test") (.type "object") = some true
  i5 : PySem.W.kitOne K (.ref (He.ga K "Test")) (.ref (He.ga K "Test")) = some true
  tr : He.ga K "Test" ≠ He.ga K "Reader"
  bb : He.ga K "BadTest" ≠ He.ga K "BadText"
  nd : ∀ base : Heap, K.In base → base.NoLimit → base.NoDigits
theorem mg_none_gen {K : PySem.W.Frag} {h : Heap} {a : Addr} {m : Str → Option Value} {n : Str} (X : K.In h) (G : h.Ns a m) (e : PySem.W.nsIn K a n = some none) : m n = none := by
  obtain ⟨o, es, ep, ho, hd, _, hf⟩ := G
  unfold PySem.W.nsIn at e
  split at e
  · rename_i c d es' n' sl q
    have := X _ _ q
    rw [ho] at this
    cases this
    cases hd
    split at e
    · cases e
    · rename_i he
      refine (hf n).symm.trans ?_
      unfold nsFind findBy
      rw [← Array.find?_toList, he]
      rfl
  · cases e
theorem pos_ex {ql : Str} {f : Addr} {st : Stmt} {fl : PySem.TwX.Fl} {p1 p2 q1 q2 q3 q4 : Pos} {fd : FuncData} (F : FnP K "__init__" ql st f fd) (e1 : defArgs st = PySem.TwX.iA fl.s p1 p2) (e2 : defBody st = PySem.TwX.iB fl.s q1 q2 q3 q4) (e3 : defScope st = PySem.TwX.iS fl.s) :
    ∃ (p1 p2 q1 q2 q3 q4 : Pos) (fd : FuncData), FunD K "__init__" ql (PySem.TwX.iA fl.s p1 p2) (PySem.TwX.iB fl.s q1 q2 q3 q4) (PySem.TwX.iS fl.s) [] [] f fd := by
  refine ⟨p1, p2, q1, q2, q3, q4, fd, ?_⟩
  rw [← e1, ← e2, ← e3]
  exact F
theorem map_dv {l : List Tx} : (l.map fun x => He.Dv.str (SX.S x)).map (He.Dv.v K) = l.map sV := by
  rw [List.map_map]
  rfl
theorem Fc.ex (T : Fc K mg) : Ex K mg := by
  have hb := T.more
  obtain ⟨h1, hb⟩ := He.ba hb
  obtain ⟨h2, hb⟩ := He.ba hb
  obtain ⟨h3, hb⟩ := He.ba hb
  obtain ⟨h4, hb⟩ := He.ba hb
  obtain ⟨h5, hb⟩ := He.ba hb
  obtain ⟨h6, hb⟩ := He.ba hb
  obtain ⟨h7, hb⟩ := He.ba hb
  obtain ⟨h8, hb⟩ := He.ba hb
  obtain ⟨h9, hb⟩ := He.ba hb
  obtain ⟨h10, hb⟩ := He.ba hb
  obtain ⟨h11, hb⟩ := He.ba hb
  obtain ⟨h12, hb⟩ := He.ba hb
  obtain ⟨h13, hb⟩ := He.ba hb
  obtain ⟨h14, hb⟩ := He.ba hb
  obtain ⟨h15, hb⟩ := He.ba hb
  obtain ⟨h16, h17⟩ := He.ba hb
  obtain ⟨f1, F1⟩ := T.e_BadTest
  obtain ⟨f2, F2⟩ := T.e_BadText
  refine ⟨exT_of T T.g_BadTest h1 (pos_ex (fl := .why) F1 rfl rfl rfl), exT_of T T.g_BadText h2 (pos_ex (fl := .line) F2 rfl rfl rfl), of_decide_eq_true h3, of_decide_eq_true h4, of_decide_eq_true h5, fun H => ?_, fun H => ?_, fun H => ?_, h9, He.eqO_ok h10, of_decide_eq_true h11,
    of_decide_eq_true h12, of_decide_eq_true h13, of_decide_eq_true h14, of_decide_eq_true h15, of_decide_eq_true h16, fun base X hl => ?_⟩
  · have := He.tupB_ok h6 H
    rw [map_dv] at this
    exact this
  · have := He.tupB_ok h7 H
    rw [map_dv] at this
    exact this
  · have := He.tupB_ok h8 H
    rw [map_dv] at this
    exact this
  · obtain ⟨mc, hns, _⟩ := hl
    exact ⟨mc, hns, mg_none_gen X hns (He.eqO_ok h17)⟩
end
/-! ### passes -/
section
variable {P : Program} {w : World} {K : PySem.W.Frag} {mg : Str → Option Value} {base : Heap} {N : List Str} {qn : Str} {sc : Scope} {f : Addr} {cd : Value} {A : Around} {outer : List Env} {s : Shared} {H : Hp} {E : XK}
theorem tkN : L2N.Takes (cxOf (L2N.CX P w) P w K mg base N qn sc f cd A outer s H E) (fun cls d _ H => E cls d H) := L2N.takes_of rfl rfl rfl rfl
theorem pxN : Passes (L2N.CX P w) (cxOf (L2N.CX P w) P w K mg base N qn sc f cd A outer s H E) E := L2N.passes_call (W := fun cls d _ H => E cls d H) tkN (fun _ _ _ _ h => h)
theorem tkX : L2.Takes (cxOf (L2.CX P w) P w K mg base N qn sc f cd A outer s H E) (fun cls d _ H => E cls d H) := L2.takes_of rfl rfl rfl rfl
theorem pxX : Passes (L2.CX P w) (cxOf (L2.CX P w) P w K mg base N qn sc f cd A outer s H E) E := L2.passes_call (W := fun cls d _ H => E cls d H) tkX (fun _ _ _ _ h => h)
/-- a callee of the kind L2N.CX in a def of the kind L2.CX -/
theorem pxNX : Passes (L2N.CX P w) (cxOf (L2.CX P w) P w K mg base N qn sc f cd A outer s H E) E := fun pins σ H s e s' I c => pxX pins σ H s e s' I (cx_of_cxn c)
end
/-! ### numbers and texts by rule, the digits' bound off the facts -/
section
variable {X : Cx}
theorem call_intD (hn : ∀ base : Heap, X.K.In base → base.NoLimit → base.NoDigits) : CallR X (.type "int") rIntS := fun pins s σ H xs us Q I r h =>
  call_intS (hn X.base I.ok.mod.kin I.ok.mod.nolimit) pins s σ H xs us Q I r h
theorem call_strD (hc : X.calm = true) (hn : ∀ base : Heap, X.K.In base → base.NoLimit → base.NoDigits) : CallR X (.type "str") rStrI := fun pins s σ H xs us Q I r h =>
  call_strI hc (hn X.base I.ok.mod.kin I.ok.mod.nolimit) pins s σ H xs us Q I r h
end
/-! ### texts -/
theorem sV_ne {a b : List Nat} (h : a ≠ b) : sV a ≠ sV b := fun e => h (SX.S_inj (V.str.inj e))
theorem dec_S {a b : List Nat} : decide (V.str (SX.S a) = V.str (SX.S b)) = decide (a = b) := by
  by_cases h : a = b
  · subst h
    rw [decide_eq_true rfl, decide_eq_true rfl]
  · rw [decide_eq_false h, decide_eq_false (sV_ne h)]
theorem inV_S (l : List Nat) : ∀ ts : List (List Nat), inV (sV l) (ts.map sV) = ts.contains l
  | [] => rfl
  | t :: r => by
    show ((SX.S t == SX.S l) || inV (sV l) (r.map sV)) = _
    rw [SX.S_beq, inV_S l r, List.contains_cons]
    congr 1
    exact Bool.eq_iff_iff.mpr (by rw [beq_iff_eq, beq_iff_eq]; exact ⟨fun h => h.symm, fun h => h.symm⟩)
theorem flat_S (ts : List (List Nat)) : (ts.map sV).all flatV = true := by
  rw [List.all_eq_true]
  intro v hv
  obtain ⟨t, _, rfl⟩ := List.mem_map.mp hv
  rfl
/-- the sign at i of a text -/
theorem atI_S {l : List Nat} {i c : Nat} (h : l[i]? = some c) : atI (SX.S l).cps.toList (i : Int) = some c := atI_nat h
theorem cut_S (l : List Nat) (lo hi : Option Int) : cutS (SX.S l) lo hi = SX.S ((l.drop (HT.sIx l.length 0 lo)).take (HT.sIx l.length l.length hi - HT.sIx l.length 0 lo)) := by
  unfold cutS
  rw [SX.S_len]
theorem len_S (l : List Nat) : (SX.S l).length = l.length := SX.S_len l
theorem le_line {n : Nat} (h : n ≤ 16777216) : n ≤ sizeLine := by
  rw [sizeLine_eq]
  exact h
theorem lt_line {n : Nat} (h : n < 16777216) : n < sizeLine := by
  rw [sizeLine_eq]
  exact h
/-- for c in a text -/
theorem for_str {l : List Nat} {g : TG} {tb : TS} {D : Ends} {σ : L2.St} {H : Hp} (Pv : Nat → L2.St → Hp → Prop) (h0 : Pv 0 σ H)
    (hs : ∀ i c σ H, l[i]? = some c → Pv i σ H → g (sV [c]) σ H fun σ2 H2 => tb { D with nx := Pv (i + 1), ct := Pv (i + 1), bk := D.nx } σ2 H2) (hd : ∀ σ H, Pv l.length σ H → D.nx σ H) :
    ∃ W : Nat → Nat → L2.St → Hp → Prop, (∃ m, W 0 m σ H) ∧ ∀ i m σ H, W i m σ H →
      ((Its (SX.S l)).stop i H ∧ D.nx σ H) ∨ ((Its (SX.S l)).go i H ∧ ∃ N : L2.St → Hp → Prop, (∀ σ' H', N σ' H' → ∃ m', m' < m ∧ W (i + 1) m' σ' H') ∧ ∀ x H', (Its (SX.S l)).yld i H x H' → g x σ H' fun σ2 H2 => tb { D with nx := N, ct := N, bk := D.nx } σ2 H2) := by
  have hsz : (SX.S l).cps.size = l.length := by simp [SX.S]
  refine ⟨fun i m σ H => m = l.length - i ∧ i ≤ l.length ∧ Pv i σ H, ⟨l.length, by simp, Nat.zero_le _, h0⟩, ?_⟩
  rintro i m σ H ⟨rfl, hi, p⟩
  by_cases hlt : i < l.length
  · refine .inr ⟨by show i < (SX.S l).cps.size; rw [hsz]; exact hlt, Pv (i + 1), fun σ' H' p' => ⟨l.length - (i + 1), by omega, rfl, hlt, p'⟩, fun x H' y => ?_⟩
    obtain ⟨e, c, hc, ex⟩ := y
    subst e
    subst ex
    have hc' : l[i]? = some c := by
      have q : (SX.S l).cps[i]? = l[i]? := by simp [SX.S]
      rw [← q]
      exact hc
    exact hs i c σ _ hc' p
  · have e : i = l.length := by omega
    subst e
    exact .inl ⟨by show (SX.S l).cps.size ≤ l.length; rw [hsz]; exact Nat.le_refl _, hd σ H p⟩
/-! ### heaps -/
/-- all but the object at r is as it was -/
def KeepR (r : Addr) (H H' : Hp) : Prop := ∀ b u, b ≠ r → H b = some u → H' b = some u
theorem KeepR.refl (r : Addr) (H : Hp) : KeepR r H H := fun _ _ _ h => h
theorem KeepR.trans {r : Addr} {H H1 H2 : Hp} (a : KeepR r H H1) (b : KeepR r H1 H2) : KeepR r H H2 := fun c u n h => b c u n (a c u n h)
theorem keepR_of {r : Addr} {H H' : Hp} (h : Same H H') : KeepR r H H' := fun b u _ q => h b u q
theorem keepR_upd {r : Addr} {H : Hp} (o : HO) : KeepR r H (upd H r o) := fun b u n h => by rw [upd_ne n]; exact h
theorem same_new {H : Hp} {p : Addr} (h : H p = none) (o : HO) : Same H (upd H p o) := fun b u q => by rw [upd_ne (ne_of_none q h)]; exact q
theorem same_add {H H' : Hp} {p : Addr} (e : Same H H') (h : H' p = none) (o : HO) : Same H (upd H' p o) := e.trans (same_new h o)
theorem same_sqt {K : PySem.W.Frag} {H H' : Hp} {a : Addr} {xs : List V} (e : Same H H') (h : SqT K H a xs) : SqT K H' a xs := by
  rcases h with (h | ⟨o, h⟩) | h
  · exact .inl (.inl (e _ _ h))
  · exact .inl (.inr ⟨o, e _ _ h⟩)
  · exact .inr h
/-- a new object of which only the old part is kept: Same H H' where H' is H1 but at r, r new -/
theorem same_of_keep {r : Addr} {H H1 H2 : Hp} (hr : H r = none) (a : Same H H1) (b : KeepR r H1 H2) : Same H H2 := fun c u q => b c u (ne_of_none q hr) (a c u q)
end Tw
end

section
set_option Elab.async false
set_option linter.all false
set_option maxRecDepth 100000
set_option maxHeartbeats 4000000
/-! The walks of the module of values. -/
namespace Tw
open PySem PySem.Spec PyProof.Rows L2
open TwP (Tx Val)
theorem bi_isi : bootBuiltins "isinstance" = some (.builtin "isinstance") := by decide +kernel
theorem bi_len : bootBuiltins "len" = some (.builtin "len") := by decide +kernel
theorem bi_max : bootBuiltins "max" = some (.builtin "max") := by decide +kernel
theorem bi_str : bootBuiltins "str" = some (.type "str") := by decide +kernel
theorem bi_int : bootBuiltins "int" = some (.type "int") := by decide +kernel
theorem bi_bool : bootBuiltins "bool" = some (.type "bool") := by decide +kernel
theorem bi_list : bootBuiltins "list" = some (.type "list") := by decide +kernel
theorem bi_tuple : bootBuiltins "tuple" = some (.type "tuple") := by decide +kernel
/-! ### the signs -/
theorem mem_chars (c : Nat) : decide (c ∈ chars) = TwP.inCh c := by
  by_cases h : c < 128
  · have key : ∀ c : Nat, c < 128 → decide (c ∈ chars) = TwP.inCh c := by decide +kernel
    exact key c h
  · have h1 : ∀ x ∈ chars, x < 128 := by decide
    rw [decide_eq_false fun z => h (h1 c z)]
    unfold TwP.inCh
    rw [decide_eq_false (show ¬ c ≤ 126 by omega), Bool.and_false, Bool.false_and]
theorem mem_lets (c : Nat) : decide (c ∈ lets) = TwP.isLet c := by
  by_cases h : c < 128
  · have key : ∀ c : Nat, c < 128 → decide (c ∈ lets) = TwP.isLet c := by decide +kernel
    exact key c h
  · have h1 : ∀ x ∈ lets, x < 128 := by decide
    rw [decide_eq_false fun z => h (h1 c z)]
    unfold TwP.isLet
    rw [decide_eq_false (show ¬ c ≤ 122 by omega), Bool.and_false]
theorem mem_digs (c : Nat) : decide (c ∈ digs) = TwP.isDig c := by
  by_cases h : c < 128
  · have key : ∀ c : Nat, c < 128 → decide (c ∈ digs) = TwP.isDig c := by decide +kernel
    exact key c h
  · have h1 : ∀ x ∈ digs, x < 128 := by decide
    rw [decide_eq_false fun z => h (h1 c z)]
    unfold TwP.isDig
    rw [decide_eq_false (show ¬ c ≤ 57 by omega), Bool.and_false]
/-! ### promises -/
def vV : Val → V
  | .num i => .int i
  | .txt l => sV l
def spIsInt : Sp := fun vs H Q _ => ∃ v b, vs = [v] ∧ ((∃ i, v = .int i ∧ b = true) ∨ (∃ l, v = sV l ∧ b = false)) ∧ Q (.bl b) H
def spIsSeq : Sp := fun vs H Q _ => ∃ a xs, vs = [.ref a] ∧ H a = some (.lst xs) ∧ ∀ H', Same H H' → Q (.bl true) H'
def spIsText : Sp := fun vs H Q _ => ∃ v, vs = [v] ∧ ((∃ i, v = .int i ∧ Q (.bl false) H) ∨ (∃ l, v = sV l ∧ Q (.bl (TwP.isText l)) H))
def spIsName : Sp := fun vs H Q _ => ∃ l : Tx, vs = [sV l] ∧ l.length ≤ 100000 ∧ Q (.bl (TwP.isName l)) H
def kNumber : Tx := [110, 117, 109, 98, 101, 114]
def kText : Tx := [116, 101, 120, 116]
def kindV : Val → V
  | .num _ => sV kNumber
  | .txt l => if TwP.isText l then sV kText else .non
def spKindOf : Sp := fun vs H Q _ => ∃ v : Val, vs = [vV v] ∧ Q (kindV v) H
section
variable {P : Program} {w : World} {K : PySem.W.Frag} {mg : Str → Option Value} {base : Heap}
theorem isi_int {H : Hp} {i : Int} : TyX K H (.int i) (.type "int") := .base (.int i)
theorem isi_str {H : Hp} {x : Str} : TyX K H (.str x) (.type "str") := .base (.str x)
theorem df_isInt (T : Fc K mg) : Df P w K mg base CX0 1 (He.ga K "is_integer") ["thing"] spIsInt := by
  refine df0 T.e_is_integer sc_is_integer (fun vs H Q E h => ?_) (fun cdv A outer s H vs Q E hr h => ⟨_, pss_one (ps_ret
    (pe_and (pe_callB call_isi rfl T.f_isinstance bi_isi (pa_cons (pv 0) (pa_cons (pe_tyN T.f_int bi_int) pa_nil)))
      (pe_one (pe_not (pe_callB call_isi rfl T.f_isinstance bi_isi (pa_cons (pv 0) (pa_cons (pe_tyN T.f_bool bi_bool) pa_nil))))))), ?_⟩)
  · obtain ⟨_, _, rfl, _⟩ := h
    rfl
  obtain ⟨v, b, rfl, hb, q⟩ := h
  rcases hb with ⟨i, rfl, rfl⟩ | ⟨l, rfl, rfl⟩
  · refine ⟨_, rfl, _, _, _, _, true, rfl, .ty _, isi_int, kit_ty (by decide +kernel), true, rfl, iteT ?_⟩
    exact ⟨_, rfl, _, _, _, _, false, rfl, .ty _, isi_int, kit_ty (by decide +kernel), false, rfl, q⟩
  · exact ⟨_, rfl, _, _, _, _, false, rfl, .ty _, isi_str, kit_ty (by decide +kernel), false, rfl, iteF q⟩
theorem df_isSeq (T : Fc K mg) : Df P w K mg base CX0 1 (He.ga K "is_sequence") ["thing"] spIsSeq := by
  refine df0 T.e_is_sequence sc_is_sequence (fun vs H Q E h => ?_) (fun cdv A outer s H vs Q E hr h => ⟨_, pss_one (ps_ret
    (pe_callB call_isiT rfl T.f_isinstance bi_isi (pa_cons (pv 0) (pa_cons (pe_tup (pa_cons (pe_tyN T.f_list bi_list) (pa_cons (pe_tyN T.f_tuple bi_tuple) pa_nil))) pa_nil)))), ?_⟩)
  · obtain ⟨_, _, rfl, _⟩ := h
    rfl
  obtain ⟨a, xs, rfl, ha, q⟩ := h
  refine ⟨_, rfl, (by show 2 ≤ sizeLine; decide), fun p hp => ?_⟩
  refine ⟨_, p, [.ty "list", .ty "tuple"], .type "list", [.type "list", .type "tuple"], true, rfl, upd_same, .cons (.ty _) (.cons (.ty _) .nil), .base (.lst (xs := xs) (by rw [upd_ne (ne_of_none ha hp)]; exact ha)), ?_, q _ (same_new hp _)⟩
  exact kitAny_cons (b := true) (kit_ty (by decide +kernel)) (fun z => Bool.noConfusion z) fun _ => rfl
theorem df_isText (T : Fc K mg) : Df P w K mg base CX0 1 (He.ga K "is_text") ["thing"] spIsText := by
  obtain ⟨tc, hc⟩ := T.s_CHARS
  refine df0 T.e_is_text sc_is_text (fun vs H Q E h => ?_) (fun cdv A outer s H vs Q E hr h => ⟨_,
    pss_cons (ps_if (pt_not (pt_val (pe_callB call_isi rfl T.f_isinstance bi_isi (pa_cons (pv 0) (pa_cons (pe_tyN T.f_str bi_str) pa_nil))))) (pss_one (ps_ret pe_bl)) pss_nil)
      (pss_cons (ps_for PassesOwn.never rfl (pi_str (pv 0)) (pg_name (i := 1) sc_is_text.nd rfl (.inl rfl)) (pss_one (ps_if (pt_cmpR op_notIn_sign (pv 1) (pe_gS hc) rfl) (pss_one (ps_ret pe_bl)) pss_nil)))
      (pss_one (ps_ret pe_bl))), ?_⟩)
  · obtain ⟨_, rfl, _⟩ := h
    rfl
  obtain ⟨v, rfl, hb⟩ := h
  rcases hb with ⟨i, rfl, q⟩ | ⟨l, rfl, q⟩
  · refine ⟨_, rfl, _, _, _, _, false, rfl, .ty _, isi_int, kit_ty (by decide +kernel), false, rfl, iteT ?_⟩
    exact q
  · refine ⟨_, rfl, _, _, _, _, true, rfl, .ty _, isi_str, kit_ty (by decide +kernel), true, rfl, iteF ?_⟩
    refine ⟨_, rfl, _, rfl, for_str (l := l) (fun i σ H' => H' = H ∧ (∃ c, σ = [some (sV l), c]) ∧ (l.take i).all TwP.inCh = true) ⟨rfl, ⟨none, rfl⟩, rfl⟩ ?_ ?_⟩
    · rintro i c σ H' hi ⟨rfl, ⟨c0, rfl⟩, ha⟩
      refine ⟨_, rfl, c, _, rfl, rfl, _, rfl, ?_⟩
      show if (!decide (c ∈ chars)) = true then _ else _
      rw [mem_chars]
      cases hcc : TwP.inCh c with
      | true =>
        refine iteF ⟨rfl, ⟨_, rfl⟩, ?_⟩
        rw [List.take_succ, hi, List.all_append, ha]
        show (true && (TwP.inCh c && true)) = true
        rw [hcc]
        rfl
      | false =>
        refine iteT ?_
        have e : TwP.isText l = false := by
          cases h : TwP.isText l with
          | false => rfl
          | true =>
            have := List.all_eq_true.mp h c (List.mem_of_getElem? hi)
            rw [hcc] at this
            cases this
        rw [e] at q
        exact q
    · rintro σ H' ⟨rfl, ⟨c0, rfl⟩, ha⟩
      rw [List.take_length] at ha
      have e : TwP.isText l = true := ha
      rw [e] at q
      exact q
theorem isName_cons (c : Nat) (r : Tx) : TwP.isName (c :: r) = (decide ((c :: r).length ≤ 8) && TwP.isLet c && !(TwP.kept.contains (c :: r)) && (c :: r).all TwP.alnum) := rfl
theorem df_isName (T : Fc K mg) : Df P w K mg base CX0 1 (He.ga K "is_name") ["thing"] spIsName := by
  obtain ⟨tl, hl⟩ := T.s_LETTERS
  obtain ⟨td, hd⟩ := T.s_DIGITS
  have X := T.ex
  refine df0 T.e_is_name sc_is_name (fun vs H Q E h => ?_) (fun cdv A outer s H vs Q E hr h => ⟨_,
    pss_cons (ps_if (PW.pt (pw_or (pt_not (pt_val (pe_callB call_isi rfl T.f_isinstance bi_isi (pa_cons (pv 0) (pa_cons (pe_tyN T.f_str bi_str) pa_nil)))))
        (pw_or1 (pt_not (pt_chain op_le op_le pe_int (pe_callB call_len_str rfl T.f_len bi_len (pa_cons (pv 0) pa_nil)) pe_int))))) (pss_one (ps_ret pe_bl)) pss_nil)
      (pss_cons (ps_if (PW.pt (pw_or (pt_cmpR op_notIn_sign (pe_ix ix_str (pv 0) pe_int (fun _ _ => rfl)) (pe_gS hl) rfl)
        (pw_or1 (pt_cmpR op_in_seq (pv 0) (pe_gR T.g_KEPT_WORDS) rfl)))) (pss_one (ps_ret pe_bl)) pss_nil)
      (pss_cons (ps_for PassesOwn.never rfl (pi_str (pv 0)) (pg_name (i := 1) sc_is_name.nd rfl (.inl rfl)) (pss_one (ps_if (PW.pt (pw_and (pt_cmpR op_notIn_sign (pv 1) (pe_gS hl) rfl)
        (pw_and1 (pt_cmpR op_notIn_sign (pv 1) (pe_gS hd) rfl)))) (pss_one (ps_ret pe_bl)) pss_nil)))
      (pss_one (ps_ret pe_bl)))), ?_⟩)
  · obtain ⟨_, rfl, _⟩ := h
    rfl
  obtain ⟨l, rfl, hz, q⟩ := h
  refine ⟨_, rfl, _, _, _, _, true, rfl, .ty _, isi_str, kit_ty (by decide +kernel), true, rfl, iteF ?_⟩
  refine ⟨_, rfl, _, rfl, by rw [len_S]; exact le_line (by omega), ?_⟩
  rw [len_S]
  refine ⟨_, _, rfl, rfl, _, rfl, ?_⟩
  by_cases h1 : (1 : Int) ≤ (l.length : Int)
  case neg =>
    rw [decide_eq_false h1]
    refine iteF ⟨_, rfl, iteT ?_⟩
    cases l with
    | nil => exact q
    | cons c r => exact absurd (by rw [List.length_cons]; omega) h1
  rw [decide_eq_true h1]
  refine iteT ⟨_, _, rfl, rfl, _, rfl, ?_⟩
  cases l with
  | nil => exact absurd h1 (by decide)
  | cons c r =>
    by_cases h8 : (((c :: r).length : Nat) : Int) ≤ 8
    case neg =>
      rw [decide_eq_false h8]
      refine iteT ?_
      have e : TwP.isName (c :: r) = false := by
        rw [isName_cons]
        rw [decide_eq_false (show ¬ (c :: r).length ≤ 8 by omega), Bool.false_and, Bool.false_and, Bool.false_and]
      rw [e] at q
      exact q
    rw [decide_eq_true h8]
    refine iteF ?_
    have e8 : decide ((c :: r).length ≤ 8) = true := decide_eq_true (by omega)
    refine ⟨_, rfl, _, _, c, rfl, rfl, by rw [len_S]; exact le_line (by omega), atI_S (i := 0) rfl, c, _, rfl, rfl, _, rfl, ?_⟩
    show if (!decide (c ∈ lets)) = true then _ else _
    rw [mem_lets]
    cases hcl : TwP.isLet c with
    | false =>
      refine iteT (iteT ?_)
      have e : TwP.isName (c :: r) = false := by
        rw [isName_cons]
        rw [hcl, Bool.and_false, Bool.false_and, Bool.false_and]
      rw [e] at q
      exact q
    | true =>
      refine iteF ⟨_, rfl, _, _, rfl, .inr (X.kept H), rfl, flat_S _, _, rfl, ?_⟩
      show if (inV (sV (c :: r)) (TwP.kept.map sV)) = true then _ else _
      rw [inV_S]
      cases hk : TwP.kept.contains (c :: r) with
      | true =>
        refine iteT ?_
        have e : TwP.isName (c :: r) = false := by
          rw [isName_cons]
          rw [hk]
          simp
        rw [e] at q
        exact q
      | false =>
        refine iteF ?_
        have en : TwP.isName (c :: r) = (c :: r).all TwP.alnum := by
          rw [isName_cons]
          rw [e8, hcl, hk]
          rfl
        rw [en] at q
        refine ⟨_, rfl, _, rfl, for_str (l := c :: r) (fun i σ H' => H' = H ∧ (∃ x, σ = [some (sV (c :: r)), x]) ∧ ((c :: r).take i).all TwP.alnum = true) ⟨rfl, ⟨none, rfl⟩, rfl⟩ ?_ ?_⟩
        · rintro i d σ H' hi ⟨rfl, ⟨c0, rfl⟩, ha⟩
          refine ⟨_, rfl, d, _, rfl, rfl, _, rfl, ?_⟩
          show if (!decide (d ∈ lets)) = true then _ else _
          rw [mem_lets]
          have next : TwP.alnum d = true → ((c :: r).take (i + 1)).all TwP.alnum = true := fun hd => by
            rw [List.take_succ, hi, List.all_append, ha]
            show (true && (TwP.alnum d && true)) = true
            rw [hd]
            rfl
          cases hdl : TwP.isLet d with
          | true =>
            refine iteF (iteF ⟨rfl, ⟨_, rfl⟩, next ?_⟩)
            unfold TwP.alnum
            rw [hdl]
            rfl
          | false =>
            refine iteT ⟨_, rfl, d, _, rfl, rfl, _, rfl, ?_⟩
            show if (!decide (d ∈ digs)) = true then _ else _
            rw [mem_digs]
            cases hdd : TwP.isDig d with
            | true =>
              refine iteF ⟨rfl, ⟨_, rfl⟩, next ?_⟩
              unfold TwP.alnum
              rw [hdd, Bool.or_true]
            | false =>
              refine iteT ?_
              have e : (c :: r).all TwP.alnum = false := by
                cases h : (c :: r).all TwP.alnum with
                | false => rfl
                | true =>
                  have := List.all_eq_true.mp h d (List.mem_of_getElem? hi)
                  unfold TwP.alnum at this
                  rw [hdl, hdd] at this
                  cases this
              rw [e] at q
              exact q
        · rintro σ H' ⟨rfl, ⟨c0, rfl⟩, ha⟩
          rw [List.take_length] at ha
          rw [ha] at q
          exact q
theorem df_kindOf (T : Fc K mg) : Df P w K mg base CX0 2 (He.ga K "kind_of") ["value"] spKindOf := by
  refine df0 T.e_kind_of sc_kind_of (fun vs H Q E h => ?_) (fun cdv A outer s H vs Q E hr h => ⟨_,
    pss_cons (ps_if (pt_val (pe_df (df_isInt T) T.g_is_integer hr pass0 (pa_cons (pv 0) pa_nil))) (pss_one (ps_ret pe_str)) pss_nil)
      (pss_cons (ps_if (pt_val (pe_df (df_isText T) T.g_is_text hr pass0 (pa_cons (pv 0) pa_nil))) (pss_one (ps_ret pe_str)) pss_nil) (pss_one (ps_ret pe_non))), ?_⟩)
  · obtain ⟨_, rfl, _⟩ := h
    rfl
  obtain ⟨v, rfl, q⟩ := h
  cases v with
  | num i => exact ⟨_, rfl, _, true, rfl, .inl ⟨i, rfl, rfl⟩, _, rfl, iteT q⟩
  | txt l =>
    refine ⟨_, rfl, _, false, rfl, .inr ⟨l, rfl, rfl⟩, _, rfl, iteF ?_⟩
    refine ⟨_, rfl, _, rfl, .inr ⟨l, rfl, _, rfl, ?_⟩⟩
    have q' : Q (if TwP.isText l = true then sV kText else .non) H := q
    cases ht : TwP.isText l with
    | true =>
      rw [ht] at q'
      exact iteT q'
    | false =>
      rw [ht] at q'
      exact iteF q'
end
end Tw
end

section
set_option Elab.async false
set_option linter.all false
set_option maxRecDepth 100000
set_option maxHeartbeats 4000000
/-! The walks of the module of logic: Test's own methods, limited, combine, sure. -/
namespace Tw
open PySem PySem.Spec PyProof.Rows L2
open TwP (Tx Val)
/-! ### a test as an object -/
def kCompare : Tx := [99, 111, 109, 112, 97, 114, 101]
def kAgainst : Tx := [97, 103, 97, 105, 110, 115, 116]
def kAmong : Tx := [97, 109, 111, 110, 103]
def kindT : Tr → Tx
  | .cmp _ _ _ => kCompare
  | .agn _ _ _ _ => kAgainst
  | .amg _ _ => kAmong
  | .beg _ _ => TwP.kBegins
  | .emp _ => TwP.kEmpty
  | .alw => TwP.kAlways
  | .nev => TwP.kNever
  | .and _ _ => TwP.kAnd
  | .or _ _ => TwP.kOr
  | .not _ => TwP.kNot
  | .sure _ => TwP.kSure
def subs : Tr → List Tr
  | .and a b => [a, b]
  | .or a b => [a, b]
  | .not a => [a]
  | .sure a => [a]
  | _ => []
def tfs (k : Tx) (d p : Addr) : List (Str × V) := [("_kind", sV k), ("_data", .ref d), ("_parts", .ref p)]
def DataAt (H : Hp) : Tr → List V → Prop
  | .cmp c op v, ds => ds = [sV c, sV op, vV v]
  | .agn c op o m, ds => ds = [sV c, sV op, sV o, .int m]
  | .amg c vs, ds => ∃ q, ds = [sV c, .ref q] ∧ H q = some (.tup (vs.map vV))
  | .beg c p, ds => ds = [sV c, sV p]
  | .emp c, ds => ds = [sV c]
  | _, ds => ds = []
/-- t's own object at a, its parts' values ys -/
def NodeAt (C : Addr) (H : Hp) (t : Tr) (a : Addr) (ys : List V) : Prop :=
  ∃ dx d p ds, H a = some (.ins C dx (tfs (kindT t) d p)) ∧ H d = some (.tup ds) ∧ H p = some (.tup ys) ∧ DataAt H t ds
def TestAt (C : Addr) (H : Hp) : Tr → Addr → Prop
  | .and x y, a => ∃ ax ay, NodeAt C H (.and x y) a [.ref ax, .ref ay] ∧ TestAt C H x ax ∧ TestAt C H y ay
  | .or x y, a => ∃ ax ay, NodeAt C H (.or x y) a [.ref ax, .ref ay] ∧ TestAt C H x ax ∧ TestAt C H y ay
  | .not x, a => ∃ ax, NodeAt C H (.not x) a [.ref ax] ∧ TestAt C H x ax
  | .sure x, a => ∃ ax, NodeAt C H (.sure x) a [.ref ax] ∧ TestAt C H x ax
  | .cmp c op v, a => NodeAt C H (.cmp c op v) a []
  | .agn c op o m, a => NodeAt C H (.agn c op o m) a []
  | .amg c vs, a => NodeAt C H (.amg c vs) a []
  | .beg c p, a => NodeAt C H (.beg c p) a []
  | .emp c, a => NodeAt C H (.emp c) a []
  | .alw, a => NodeAt C H .alw a []
  | .nev, a => NodeAt C H .nev a []
/-- the parts' values are the parts -/
def SubsAt (C : Addr) (H : Hp) : List Tr → List V → Prop := Paired fun t v => ∃ b, v = .ref b ∧ TestAt C H t b
theorem TestAt.node {C : Addr} {H : Hp} : ∀ {t : Tr} {a : Addr}, TestAt C H t a → ∃ ys, NodeAt C H t a ys ∧ SubsAt C H (subs t) ys
  | .and x y, a, ⟨ax, ay, n, h1, h2⟩ => ⟨_, n, .cons ⟨ax, rfl, h1⟩ (.cons ⟨ay, rfl, h2⟩ .nil)⟩
  | .or x y, a, ⟨ax, ay, n, h1, h2⟩ => ⟨_, n, .cons ⟨ax, rfl, h1⟩ (.cons ⟨ay, rfl, h2⟩ .nil)⟩
  | .not x, a, ⟨ax, n, h1⟩ => ⟨_, n, .cons ⟨ax, rfl, h1⟩ .nil⟩
  | .sure x, a, ⟨ax, n, h1⟩ => ⟨_, n, .cons ⟨ax, rfl, h1⟩ .nil⟩
  | .cmp _ _ _, a, n => ⟨_, n, .nil⟩
  | .agn _ _ _ _, a, n => ⟨_, n, .nil⟩
  | .amg _ _, a, n => ⟨_, n, .nil⟩
  | .beg _ _, a, n => ⟨_, n, .nil⟩
  | .emp _, a, n => ⟨_, n, .nil⟩
  | .alw, a, n => ⟨_, n, .nil⟩
  | .nev, a, n => ⟨_, n, .nil⟩
/-- what a test leans on: tuples, instances of Test -/
def KeepT (C : Addr) (H H' : Hp) : Prop := (∀ b xs, H b = some (.tup xs) → H' b = some (.tup xs)) ∧ ∀ b dx fs, H b = some (.ins C dx fs) → H' b = some (.ins C dx fs)
theorem keepT_same {C : Addr} {H H' : Hp} (e : Same H H') : KeepT C H H' := ⟨fun b xs h => e b _ h, fun b dx fs h => e b _ h⟩
theorem keepT_ins {C D r dx : Addr} {fs : List (Str × V)} {H H' : Hp} (hr : H r = some (.ins D dx fs)) (hn : C ≠ D) (k : KeepR r H H') : KeepT C H H' :=
  ⟨fun b xs h => k b _ (ne_of h hr (fun z => by cases z)) h, fun b dy gs h => k b _ (ne_of h hr (fun z => hn (by injection z))) h⟩
theorem DataAt.keep {H H' : Hp} (k : ∀ b xs, H b = some (.tup xs) → H' b = some (.tup xs)) : ∀ {t : Tr} {ds : List V}, DataAt H t ds → DataAt H' t ds
  | .cmp _ _ _, _, h => h
  | .agn _ _ _ _, _, h => h
  | .amg _ _, _, ⟨q, e, h⟩ => ⟨q, e, k _ _ h⟩
  | .beg _ _, _, h => h
  | .emp _, _, h => h
  | .alw, _, h => h
  | .nev, _, h => h
  | .and _ _, _, h => h
  | .or _ _, _, h => h
  | .not _, _, h => h
  | .sure _, _, h => h
theorem NodeAt.keep {C : Addr} {H H' : Hp} {t : Tr} {a : Addr} {ys : List V} (k : KeepT C H H') (h : NodeAt C H t a ys) : NodeAt C H' t a ys := by
  obtain ⟨dx, d, p, ds, h1, h2, h3, h4⟩ := h
  exact ⟨dx, d, p, ds, k.2 _ _ _ h1, k.1 _ _ h2, k.1 _ _ h3, h4.keep k.1⟩
theorem TestAt.keep {C : Addr} {H H' : Hp} (k : KeepT C H H') : ∀ {t : Tr} {a : Addr}, TestAt C H t a → TestAt C H' t a
  | .and x y, a, ⟨ax, ay, n, h1, h2⟩ => ⟨ax, ay, n.keep k, h1.keep k, h2.keep k⟩
  | .or x y, a, ⟨ax, ay, n, h1, h2⟩ => ⟨ax, ay, n.keep k, h1.keep k, h2.keep k⟩
  | .not x, a, ⟨ax, n, h1⟩ => ⟨ax, n.keep k, h1.keep k⟩
  | .sure x, a, ⟨ax, n, h1⟩ => ⟨ax, n.keep k, h1.keep k⟩
  | .cmp _ _ _, a, n => NodeAt.keep k n
  | .agn _ _ _ _, a, n => NodeAt.keep k n
  | .amg _ _, a, n => NodeAt.keep k n
  | .beg _ _, a, n => NodeAt.keep k n
  | .emp _, a, n => NodeAt.keep k n
  | .alw, a, n => NodeAt.keep k n
  | .nev, a, n => NodeAt.keep k n
theorem TestAt.same {C : Addr} {H H' : Hp} (e : Same H H') {t : Tr} {a : Addr} (h : TestAt C H t a) : TestAt C H' t a := h.keep (keepT_same e)
theorem SubsAt.same {C : Addr} {H H' : Hp} (e : Same H H') {ts : List Tr} {ys : List V} (h : SubsAt C H ts ys) : SubsAt C H' ts ys :=
  Paired.mapP h fun t v ⟨b, ev, hb⟩ => ⟨b, ev, hb.same e⟩
theorem SubsAt.get {C : Addr} {H : Hp} : ∀ {ts : List Tr} {ys : List V} {i : Nat} {y : V}, SubsAt C H ts ys → ys[i]? = some y → ∃ t b, ts[i]? = some t ∧ y = .ref b ∧ TestAt C H t b
  | _, _, _, _, .nil, e => by simp at e
  | _, _, 0, _, .cons h _, e => by
    obtain ⟨b, ev, hb⟩ := h
    simp at e
    exact ⟨_, b, rfl, e.symm.trans ev, hb⟩
  | _, _, i + 1, y, .cons _ t, e => by
    obtain ⟨t', b, h1, h2, h3⟩ := SubsAt.get (i := i) (y := y) t (by simpa using e)
    exact ⟨t', b, by simpa using h1, h2, h3⟩
theorem NodeAt.ins {C : Addr} {H : Hp} {t : Tr} {a : Addr} {ys : List V} (h : NodeAt C H t a ys) : ∃ dx fs, H a = some (.ins C dx fs) := by
  obtain ⟨dx, d, p, ds, h1, _⟩ := h
  exact ⟨dx, _, h1⟩
theorem TestAt.ins {C : Addr} {H : Hp} {t : Tr} {a : Addr} (h : TestAt C H t a) : ∃ dx fs, H a = some (.ins C dx fs) := by
  obtain ⟨ys, n, _⟩ := h.node
  exact n.ins
/-! ### sizes by the parts -/
theorem lev_subs : ∀ t : Tr, TwP.lev t = (subs t).foldl (fun r x => max r (TwP.lev x + 1)) 0
  | .and a b => by show max (TwP.lev a + 1) (TwP.lev b + 1) = max (max 0 (TwP.lev a + 1)) (TwP.lev b + 1); omega
  | .or a b => by show max (TwP.lev a + 1) (TwP.lev b + 1) = max (max 0 (TwP.lev a + 1)) (TwP.lev b + 1); omega
  | .not a => by show TwP.lev a + 1 = max 0 (TwP.lev a + 1); omega
  | .sure a => by show TwP.lev a + 1 = max 0 (TwP.lev a + 1); omega
  | .cmp _ _ _ => rfl
  | .agn _ _ _ _ => rfl
  | .amg _ _ => rfl
  | .beg _ _ => rfl
  | .emp _ => rfl
  | .alw => rfl
  | .nev => rfl
def sumN : List Tr → Nat
  | [] => 0
  | t :: r => TwP.nat t + sumN r
theorem nat_subs : ∀ t : Tr, TwP.nat t = if subs t = [] then 1 else sumN (subs t)
  | .and a b => by show TwP.nat a + TwP.nat b = TwP.nat a + (TwP.nat b + 0); omega
  | .or a b => by show TwP.nat a + TwP.nat b = TwP.nat a + (TwP.nat b + 0); omega
  | .not a => rfl
  | .sure a => rfl
  | .cmp _ _ _ => rfl
  | .agn _ _ _ _ => rfl
  | .amg _ _ => rfl
  | .beg _ _ => rfl
  | .emp _ => rfl
  | .alw => rfl
  | .nev => rfl
theorem sub_lev {t s : Tr} (h : s ∈ subs t) : TwP.lev s + 1 ≤ TwP.lev t := by
  cases t with
  | and a b =>
    have h' : s = a ∨ s = b := by simpa [subs] using h
    show _ ≤ max (TwP.lev a + 1) (TwP.lev b + 1)
    rcases h' with rfl | rfl <;> omega
  | or a b =>
    have h' : s = a ∨ s = b := by simpa [subs] using h
    show _ ≤ max (TwP.lev a + 1) (TwP.lev b + 1)
    rcases h' with rfl | rfl <;> omega
  | not a =>
    have h' : s = a := by simpa [subs] using h
    subst h'
    exact Nat.le_refl _
  | sure a =>
    have h' : s = a := by simpa [subs] using h
    subst h'
    exact Nat.le_refl _
  | _ => cases h
theorem sumN_take {ts : List Tr} {i : Nat} {t : Tr} (h : ts[i]? = some t) : sumN (ts.take (i + 1)) = sumN (ts.take i) + TwP.nat t := by
  induction ts generalizing i with
  | nil => simp at h
  | cons x r ih =>
    cases i with
    | zero =>
      simp at h
      subst h
      show TwP.nat x + sumN (r.take 0) = sumN [] + TwP.nat x
      rw [List.take_zero]
      show TwP.nat x + 0 = 0 + TwP.nat x
      omega
    | succ i =>
      have := ih (i := i) (by simpa using h)
      show TwP.nat x + sumN (r.take (i + 1)) = TwP.nat x + sumN (r.take i) + TwP.nat t
      omega
theorem sumN_le {ts : List Tr} (i : Nat) : sumN (ts.take i) ≤ sumN ts := by
  induction ts generalizing i with
  | nil => simp
  | cons x r ih =>
    cases i with
    | zero => exact Nat.zero_le _
    | succ i =>
      have := ih i
      show TwP.nat x + sumN (r.take i) ≤ TwP.nat x + sumN r
      omega
/-! ### loops over a list, a tuple, whatever stands in a turn -/
theorem it_list {K : PySem.W.Frag} {a : Addr} {xs : List V} {H0 : Hp} {Qd : Hp → Prop} {B : V → Hp → (Hp → Prop) → Prop} (Pv : Nat → Hp → Prop) (h0 : Pv 0 H0) (hl : ∀ i H, i ≤ xs.length → Pv i H → SqL K H a xs)
    (hs : ∀ i x H, xs[i]? = some x → Pv i H → B x H (Pv (i + 1))) (hd : ∀ H, Pv xs.length H → Qd H) :
    ∃ W : Nat → Nat → Hp → Prop, (∃ m, W 0 m H0) ∧ ∀ i m H, W i m H → ((Itl K a).stop i H ∧ Qd H) ∨ ((Itl K a).go i H ∧ ∃ Nx : Hp → Prop, (∀ H', Nx H' → ∃ m', m' < m ∧ W (i + 1) m' H') ∧ ∀ x H', (Itl K a).yld i H x H' → B x H' Nx) := by
  refine ⟨fun i m H => m = xs.length - i ∧ i ≤ xs.length ∧ Pv i H, ⟨xs.length, by simp, Nat.zero_le _, h0⟩, ?_⟩
  rintro i m H ⟨rfl, hi, p⟩
  have q := hl i H hi p
  by_cases hlt : i < xs.length
  · refine .inr ⟨⟨xs, xs[i], q, by simp [hlt]⟩, Pv (i + 1), fun H' p' => ⟨xs.length - (i + 1), by omega, rfl, hlt, p'⟩, fun x H' y => ?_⟩
    obtain ⟨e, y⟩ := y
    subst e
    exact hs i x _ (y xs q) p
  · have e : i = xs.length := by omega
    subst e
    exact .inl ⟨⟨xs, q, Nat.le_refl _⟩, hd H p⟩
theorem it_tup {K : PySem.W.Frag} {a : Addr} {xs : List V} {H0 : Hp} {Qd : Hp → Prop} {B : V → Hp → (Hp → Prop) → Prop} (Pv : Nat → Hp → Prop) (h0 : Pv 0 H0) (hl : ∀ i H, i ≤ xs.length → Pv i H → SqT K H a xs)
    (hs : ∀ i x H, xs[i]? = some x → Pv i H → B x H (Pv (i + 1))) (hd : ∀ H, Pv xs.length H → Qd H) :
    ∃ W : Nat → Nat → Hp → Prop, (∃ m, W 0 m H0) ∧ ∀ i m H, W i m H → ((Itt K a).stop i H ∧ Qd H) ∨ ((Itt K a).go i H ∧ ∃ Nx : Hp → Prop, (∀ H', Nx H' → ∃ m', m' < m ∧ W (i + 1) m' H') ∧ ∀ x H', (Itt K a).yld i H x H' → B x H' Nx) := by
  refine ⟨fun i m H => m = xs.length - i ∧ i ≤ xs.length ∧ Pv i H, ⟨xs.length, by simp, Nat.zero_le _, h0⟩, ?_⟩
  rintro i m H ⟨rfl, hi, p⟩
  have q := hl i H hi p
  by_cases hlt : i < xs.length
  · refine .inr ⟨⟨xs, xs[i], q, by simp [hlt]⟩, Pv (i + 1), fun H' p' => ⟨xs.length - (i + 1), by omega, rfl, hlt, p'⟩, fun x H' y => ?_⟩
    obtain ⟨e, y⟩ := y
    subst e
    exact hs i x _ (y xs q) p
  · have e : i = xs.length := by omega
    subst e
    exact .inl ⟨⟨xs, q, Nat.le_refl _⟩, hd H p⟩
/-! ### promises -/
section
variable (K : PySem.W.Frag)
abbrev cT : Addr := He.ga K "Test"
abbrev mT (m : Str) : Addr := He.ma K (He.ga K "Test") m
def spTInit : Sp := fun vs H Q _ => ∃ (x dx : Addr) (k d p : V), vs = [.ref x, k, d, p] ∧ H x = some (.ins (cT K) dx []) ∧ Q .non (upd H x (.ins (cT K) dx [("_kind", k), ("_data", d), ("_parts", p)]))
def spTKind : Sp := fun vs H Q _ => ∃ a dx d p k, vs = [.ref a] ∧ H a = some (.ins (cT K) dx (tfs k d p)) ∧ Q (sV k) H
def spTData : Sp := fun vs H Q _ => ∃ a dx d p k, vs = [.ref a] ∧ H a = some (.ins (cT K) dx (tfs k d p)) ∧ Q (.ref d) H
def spTParts : Sp := fun vs H Q _ => ∃ a dx d p k ys, vs = [.ref a] ∧ H a = some (.ins (cT K) dx (tfs k d p)) ∧ H p = some (.tup ys) ∧ ∀ l, H l = none → Q (.ref l) (upd H l (.lst ys))
def spTAtoms (n : Nat) : Sp := fun vs H Q _ => ∃ a t, vs = [.ref a] ∧ TestAt (cT K) H t a ∧ TwP.lev t < n ∧ TwP.nat t ≤ 1000 ∧ ∀ H' l xs, Same H H' → H' l = some (.lst xs) → xs.length = TwP.nat t → Q (.ref l) H'
def spTLevels (n : Nat) : Sp := fun vs H Q _ => ∃ a t, vs = [.ref a] ∧ TestAt (cT K) H t a ∧ TwP.lev t < n ∧ Q (.int (TwP.lev t : Nat)) H
end
section
variable {P : Program} {w : World} {K : PySem.W.Frag} {mg : Str → Option Value} {base : Heap}
theorem df_TInit (T : Fc K mg) : Df P w K mg base CX0 1 (mT K "__init__") ["self", "kind", "data", "parts"] (spTInit K) := by
  refine df0 T.e_Test_init sc_Test_init (fun vs H Q E h => ?_) (fun cdv A outer s H vs Q E hr h => ⟨_, pss_cons (ps_fld (pv 0) (pv 1) rfl) (pss_cons (ps_fld (pv 0) (pv 2) rfl) (pss_one (ps_fld (pv 0) (pv 3) rfl))), ?_⟩)
  · obtain ⟨_, _, _, _, _, rfl, _⟩ := h
    rfl
  obtain ⟨x, dx, k, d, p, rfl, hx, q⟩ := h
  refine ⟨_, rfl, _, rfl, x, _, dx, _, rfl, hx, T.c_Test, T.n_Test_kind, by decide, ?_⟩
  refine ⟨_, rfl, _, rfl, x, _, dx, _, rfl, upd_same, T.c_Test, T.n_Test_data, by show 1 < 1000; decide, ?_⟩
  refine ⟨_, rfl, _, rfl, x, _, dx, _, rfl, upd_same, T.c_Test, T.n_Test_parts, by show 2 < 1000; decide, ?_⟩
  rw [upd_upd, upd_upd]
  exact q
theorem df_TKind (T : Fc K mg) : Df P w K mg base CX0 1 (mT K "kind") ["self"] (spTKind K) := by
  refine df0 T.e_Test_kind sc_Test_kind (fun vs H Q E h => ?_) (fun cdv A outer s H vs Q E hr h => ⟨_, pss_one (ps_ret (pe_fld (pv 0) rfl)), ?_⟩)
  · obtain ⟨_, _, _, _, _, rfl, _⟩ := h
    rfl
  obtain ⟨a, dx, d, p, k, rfl, ha, q⟩ := h
  exact ⟨_, rfl, a, _, dx, _, _, rfl, ha, T.c_Test, T.n_Test_kind, rfl, q⟩
theorem df_TData (T : Fc K mg) : Df P w K mg base CX0 1 (mT K "data") ["self"] (spTData K) := by
  refine df0 T.e_Test_data sc_Test_data (fun vs H Q E h => ?_) (fun cdv A outer s H vs Q E hr h => ⟨_, pss_one (ps_ret (pe_fld (pv 0) rfl)), ?_⟩)
  · obtain ⟨_, _, _, _, _, rfl, _⟩ := h
    rfl
  obtain ⟨a, dx, d, p, k, rfl, ha, q⟩ := h
  exact ⟨_, rfl, a, _, dx, _, _, rfl, ha, T.c_Test, T.n_Test_data, rfl, q⟩
theorem df_TParts (T : Fc K mg) : Df P w K mg base CX0 1 (mT K "parts") ["self"] (spTParts K) := by
  refine df0 T.e_Test_parts sc_Test_parts (fun vs H Q E h => ?_) (fun cdv A outer s H vs Q E hr h => ⟨_, pss_one (ps_ret (pe_callTy call_list_of rfl T.f_list bi_list (pa_cons (pe_fld (pv 0) rfl) pa_nil))), ?_⟩)
  · obtain ⟨_, _, _, _, _, _, rfl, _⟩ := h
    rfl
  obtain ⟨a, dx, d, p, k, ys, rfl, ha, hp, q⟩ := h
  exact ⟨_, rfl, a, _, dx, _, _, rfl, ha, T.c_Test, T.n_Test_parts, rfl, p, ys, rfl, .inr (SqT.of hp), q⟩
theorem tup_pos {ts : List Tr} {ys : List V} {C : Addr} {H : Hp} (h : SubsAt C H ts ys) : ys.length = ts.length := (Paired.length h).symm
theorem df_TLevels (T : Fc K mg) : ∀ n : Nat, Df P w K mg base CX0 n (mT K "levels") ["self"] (spTLevels K n)
  | 0 => df_none T.e_Test_levels fun vs H Q E h => by
    obtain ⟨_, _, _, _, h, _⟩ := h
    omega
  | n + 1 => by
    have ih := df_TLevels T n
    refine df0 T.e_Test_levels sc_Test_levels (fun vs H Q E h => ?_) (fun cdv A outer s H vs Q E hr h => ⟨_,
      pss_cons (ps_set (i := 1) sc_Test_levels.nd rfl (.inl rfl) pe_int)
        (pss_cons (ps_for PassesOwn.never rfl (pi_tup (pe_fld (pv 0) rfl)) (pg_name (i := 2) sc_Test_levels.nd rfl (.inl rfl)) (pss_one (ps_set (i := 1) sc_Test_levels.nd rfl (.inl rfl)
          (pe_callB (call_max2 rfl) rfl T.f_max bi_max (pa_cons (pv 1) (pa_cons (pe_op op_add (pe_callTy call_int1 rfl T.f_int bi_int (pa_cons (pe_dm0 ih T.c_Test T.m_Test_levels hr pass0 (pv 2)) pa_nil)) pe_int) pa_nil))))))
        (pss_one (ps_ret (pv 1)))), ?_⟩)
    · obtain ⟨_, _, rfl, _⟩ := h
      rfl
    obtain ⟨a, t, rfl, ht, hn, q⟩ := h
    obtain ⟨ys, ⟨dx, d, p, ds, ha, hd, hp, hda⟩, hS⟩ := ht.node
    refine ⟨_, rfl, a, _, dx, _, _, rfl, ha, T.c_Test, T.n_Test_parts, rfl, p, rfl, ⟨_, SqT.of hp⟩, ?_⟩
    refine for_tup (K := K) (a := p) (xs := ys) (fun i σ H' => H' = H ∧ ∃ x, σ = [some (.ref a), some (.int ((((subs t).take i).foldl (fun r x => max r (TwP.lev x + 1)) 0 : Nat) : Int)), x]) ⟨rfl, none, rfl⟩ (fun i σ H' _ h => by rw [h.1]; exact SqT.of hp) ?_ ?_
    · rintro i y σ H' hi ⟨rfl, x, rfl⟩
      obtain ⟨s1, b, hs1, rfl, hb⟩ := hS.get hi
      have hmem : s1 ∈ subs t := List.mem_of_getElem? hs1
      obtain ⟨dx', fs', hb'⟩ := hb.ins
      refine ⟨_, rfl, _, rfl, b, dx', _, rfl, hb', ?_, b, s1, rfl, hb, by have := sub_lev hmem; omega, .inl ⟨_, rfl, _, _, rfl, rfl, _, _, rfl, rfl, some (.ref b), ?_⟩⟩
      · obtain ⟨ys', ⟨dx2, d2, p2, ds2, hb2, _⟩, _⟩ := hb.node
        rw [hb'] at hb2
        injection hb2 with hb2
        injection hb2 with _ _ e
        rw [e]
        rfl
      · rw [List.take_succ, hs1, List.foldl_append]
        show [some (V.ref a), some (V.int (if ((TwP.lev s1 : Nat) : Int) + 1 > ((((subs t).take i).foldl (fun r x => max r (TwP.lev x + 1)) 0 : Nat) : Int) then ((TwP.lev s1 : Nat) : Int) + 1 else ((((subs t).take i).foldl (fun r x => max r (TwP.lev x + 1)) 0 : Nat) : Int))), some (V.ref b)] = _
        have e : (if ((TwP.lev s1 : Nat) : Int) + 1 > ((((subs t).take i).foldl (fun r x => max r (TwP.lev x + 1)) 0 : Nat) : Int) then ((TwP.lev s1 : Nat) : Int) + 1 else ((((subs t).take i).foldl (fun r x => max r (TwP.lev x + 1)) 0 : Nat) : Int)) =
            ((max (((subs t).take i).foldl (fun r x => max r (TwP.lev x + 1)) 0) (TwP.lev s1 + 1) : Nat) : Int) := by
          split <;> omega
        rw [e]
        rfl
    · rintro σ H' ⟨rfl, x, rfl⟩
      refine ⟨_, rfl, ?_⟩
      rw [tup_pos hS, List.take_length, ← lev_subs]
      exact q
end
end Tw
end

section
set_option Elab.async false
set_option linter.all false
set_option maxRecDepth 100000
set_option maxHeartbeats 4000000
/-! The walks of the module of logic: atoms, limited, combine, sure, the operators, the makers of atoms. -/
namespace Tw
open PySem PySem.Spec PyProof.Rows L2
open TwP (Tx Val)
theorem tyes {σ : L2.St} {H : Hp} {F : Bool → Hp → Prop} (h : F true H) : tYes σ H F := h
theorem room_one {k : Nat} {A : Around} (hr : Room k A) : A.depth + 1 < recursionLimit := by
  have := hr.dp
  omega
section
variable (K : PySem.W.Frag)
def spAtoms (n : Nat) : Sp := fun vs H Q _ => ∃ a t, vs = [.ref a] ∧ TestAt (cT K) H t a ∧ TwP.lev t < n ∧ TwP.nat t ≤ 1000 ∧ ∀ H' l xs, Same H H' → H l = none → H' l = some (.lst xs) → xs.length = TwP.nat t → Q (.ref l) H'
/-- what a maker of tests answers -/
def resT (H : Hp) (Q : VK) (E : XK) : Option Tr → Prop
  | none => ∀ d H', Same H H' → E (.ref (He.ga K "BadTest")) (some d) H'
  | some t => ∀ H' a, Same H H' → TestAt (cT K) H' t a → Q (.ref a) H'
def spLimited : Sp := fun vs H Q E => ∃ a t, vs = [.ref a] ∧ TestAt (cT K) H t a ∧ TwP.lev t ≤ 13 ∧ TwP.nat t ≤ 48 ∧ resT K H Q E (TwP.lim t)
def tAO (b : Bool) (t u : Tr) : Tr := if b then .and t u else .or t u
def kAO (b : Bool) : Tx := if b then TwP.kAnd else TwP.kOr
def spCombine : Sp := fun vs H Q E => ∃ c a b t u, vs = [sV (kAO c), .ref a, .ref b] ∧ TestAt (cT K) H t a ∧ TestAt (cT K) H u b ∧ TwP.lev t ≤ 12 ∧ TwP.lev u ≤ 12 ∧ TwP.nat t ≤ 24 ∧ TwP.nat u ≤ 24 ∧ resT K H Q E (TwP.lim (tAO c t u))
def spAO (c : Bool) : Sp := fun vs H Q E => ∃ a b t u, vs = [.ref a, .ref b] ∧ TestAt (cT K) H t a ∧ TestAt (cT K) H u b ∧ TwP.lev t ≤ 12 ∧ TwP.lev u ≤ 12 ∧ TwP.nat t ≤ 24 ∧ TwP.nat u ≤ 24 ∧ resT K H Q E (TwP.lim (tAO c t u))
def spNot : Sp := fun vs H Q E => ∃ a t, vs = [.ref a] ∧ TestAt (cT K) H t a ∧ TwP.lev t ≤ 12 ∧ TwP.nat t ≤ 24 ∧ resT K H Q E (TwP.lim (.not t))
def spSure : Sp := fun vs H Q E => ∃ a t, vs = [.ref a] ∧ TestAt (cT K) H t a ∧ TwP.lev t ≤ 12 ∧ TwP.nat t ≤ 24 ∧ resT K H Q E (TwP.lim (.sure t))
end
section
variable {P : Program} {w : World} {K : PySem.W.Frag} {mg : Str → Option Value} {base : Heap}
theorem TestAt.nolk {C : Addr} {H : Hp} {t : Tr} {a dx : Addr} {fs : List (Str × V)} {m : Str} (h : TestAt C H t a) (e : H a = some (.ins C dx fs)) (hm : (m == ("_kind" : Str)) = false ∧ (m == ("_data" : Str)) = false ∧ (m == ("_parts" : Str)) = false) : fs.lookup m = none := by
  obtain ⟨ys, ⟨dx2, d2, p2, ds2, hb2, _⟩, _⟩ := h.node
  rw [e] at hb2
  injection hb2 with hb2
  injection hb2 with _ _ e2
  rw [e2]
  unfold tfs
  rw [List.lookup, hm.1, List.lookup, hm.2.1, List.lookup, hm.2.2]
  rfl
theorem df_TAtoms (T : Fc K mg) : ∀ n : Nat, Df P w K mg base CX0 n (mT K "atoms") ["self"] (spAtoms K n)
  | 0 => df_none T.e_Test_atoms fun vs H Q E h => by
    obtain ⟨_, _, _, _, h, _⟩ := h
    omega
  | n + 1 => by
    have ih := df_TAtoms T n
    refine df0 T.e_Test_atoms sc_Test_atoms (fun vs H Q E h => ?_) (fun cdv A outer s H vs Q E hr h => ⟨_,
      pss_cons (ps_if (pt_not (pt_truth (pe_fld (pv 0) rfl) (by intro _; rfl))) (pss_one (ps_ret (pe_lst (pa_cons (pv 0) pa_nil)))) pss_nil)
        (pss_one (ps_ret (pe_lc2 (own := [("part", 1), ("atom", 2)]) (vs1 := [2]) (g := gName 1) (g1 := gName 2) (tt := tYes) (tt1 := tYes) (wi1 := iList K (tMeth (cT K) "atoms" (spAtoms K n) [] E0 (tVar 1) tNil)) rfl sc_Test_atoms.nd (pi_tup (pe_fld (pv 0) rfl)) (blkOk_by (N := ["self", "part", "atom"]) (sc := defScope s_Test_atoms) (by decide +kernel)) (by decide)
          (fun _ _ _ _ _ => pg_name (i := 1) sc_Test_atoms.nd rfl (Or.inl rfl)) (fun _ _ _ _ _ => pts_nil) (fun _ _ _ _ _ => by exact pi_list (pe_dm0 ih T.c_Test T.m_Test_atoms hr pass0 (pv 1)))
          (fun _ _ _ _ _ => pg_name (i := 2) sc_Test_atoms.nd rfl (Or.inl rfl)) (fun _ _ _ _ _ => pts_nil) (fun _ _ _ _ _ => pv 2)))), ?_⟩)
    · obtain ⟨_, _, rfl, _⟩ := h
      rfl
    obtain ⟨a, t, rfl, ht, hn, hz, q⟩ := h
    obtain ⟨ys, ⟨dx, d, p, ds, ha, hd, hp, hda⟩, hS⟩ := ht.node
    have hlen := tup_pos hS
    refine ⟨_, rfl, a, _, dx, _, _, rfl, ha, T.c_Test, T.n_Test_parts, rfl, !ys.isEmpty, .inr (.inl ⟨ys, SqT.of hp, rfl⟩), ?_⟩
    cases ys with
    | nil =>
      refine iteT ⟨_, rfl, by show 1 ≤ sizeLine; decide, fun l hl => q _ l [.ref a] (same_new hl _) hl upd_same ?_⟩
      rw [nat_subs, if_pos (List.eq_nil_of_length_eq_zero hlen.symm)]
      rfl
    | cons y1 yr =>
      refine iteF ?_
      have hne : subs t ≠ [] := fun e => by
        rw [e] at hlen
        cases hlen
      have hsum : TwP.nat t = sumN (subs t) := by rw [nat_subs, if_neg hne]
      refine ⟨_, rfl, a, _, dx, _, _, rfl, ha, T.c_Test, T.n_Test_parts, rfl, p, rfl, ⟨_, SqT.of hp⟩, fun D hD => ?_⟩
      refine it_tup (K := K) (a := p) (xs := y1 :: yr) (fun i H' => Same H H' ∧ ∃ xs, H' D = some (.lst xs) ∧ xs.length = sumN ((subs t).take i)) ⟨same_new hD _, [], upd_same, rfl⟩ (fun i H' _ h => SqT.of (h.1 _ _ hp)) ?_ ?_
      · rintro i y H1 hi ⟨e1, xs, hxs, hxl⟩
        obtain ⟨s1, b, hs1, rfl, hb⟩ := hS.get hi
        have hmem : s1 ∈ subs t := List.mem_of_getElem? hs1
        have hb1 := hb.same e1
        obtain ⟨dx', fs', hb'⟩ := hb1.ins
        have hsz : sumN ((subs t).take i) + TwP.nat s1 ≤ 1000 := by
          rw [← sumN_take hs1]
          exact Nat.le_trans (sumN_le _) (by omega)
        refine ⟨rfl, tyes (iteT ⟨_, rfl, b, dx', _, rfl, hb', hb1.nolk hb' (by decide), b, s1, rfl, hb1, by have := sub_lev hmem; omega, by omega, fun H2 l xs2 e2 hl hl2 hlx => ?_⟩)⟩
        refine ⟨l, rfl, ⟨_, SqL.of hl2⟩, ?_⟩
        have nlD : l ≠ D := fun z => by rw [z, hxs] at hl; cases hl
        refine it_list (K := K) (a := l) (xs := xs2) (fun j H3 => KeepR D H2 H3 ∧ ∃ zs, H3 D = some (.lst zs) ∧ zs.length = xs.length + j) ⟨KeepR.refl _ _, xs, e2 _ _ hxs, rfl⟩ (fun j H3 _ h => SqL.of (h.1 _ _ nlD hl2)) ?_ ?_
        · rintro j z H3 hj ⟨e3, zs, hzs, hzl⟩
          have hjl : j < xs2.length := by
            rcases Nat.lt_or_ge j xs2.length with h | h
            · exact h
            · rw [List.getElem?_eq_none h] at hj
              cases hj
          refine ⟨rfl, tyes (iteT ⟨_, rfl, zs, hzs, lt_line (by omega), e3.trans (keepR_upd _), zs ++ [z], upd_same, ?_⟩)⟩
          rw [List.length_append, List.length_singleton]
          omega
        · rintro H3 ⟨e3, zs, hzs, hzl⟩
          refine ⟨same_of_keep hD (e1.trans e2) e3, zs, hzs, ?_⟩
          rw [sumN_take hs1]
          omega
      · rintro H1 ⟨e1, xs, hxs, hxl⟩
        refine q H1 D xs e1 hD hxs ?_
        rw [hxl, hlen, List.take_length, hsum]
theorem df_limited (T : Fc K mg) : Df P w K mg base (L2N.CX P w) 15 (He.ga K "limited") ["test"] (spLimited K) := by
  obtain ⟨t1, ha⟩ := T.i_MOST_ATOMS
  obtain ⟨t2, hl⟩ := T.i_MOST_LEVELS
  refine dfN T.e_limited sc_limited (fun vs H Q E h => ?_) (fun cdv A outer s H vs Q E hr h => ⟨_,
    pss_cons (ps_if (pt_cmpR op_gt (pe_callB call_len_seq rfl T.f_len bi_len (pa_cons (pe_dm0 (df_TAtoms T 14) T.c_Test T.m_Test_atoms hr pass0 (pv 0)) pa_nil)) (pe_gI ha) (nomark _))
        (pss_one (ps_raiseE rfl T.ex.bt (room_one hr) tkN (pa_cons pe_str pa_nil))) pss_nil)
      (pss_cons (ps_if (pt_cmpR op_gt (pe_callTy call_int1 rfl T.f_int bi_int (pa_cons (pe_dm0 (df_TLevels T 14) T.c_Test T.m_Test_levels hr pass0 (pv 0)) pa_nil)) (pe_gI hl) (nomark _))
        (pss_one (ps_raiseE rfl T.ex.bt (room_one hr) tkN (pa_cons pe_str pa_nil))) pss_nil)
      (pss_one (ps_ret (pv 0)))), ?_⟩)
  · obtain ⟨_, _, rfl, _⟩ := h
    rfl
  obtain ⟨a, t, rfl, ht, h1, h2, q⟩ := h
  obtain ⟨dx, fs, hins⟩ := ht.ins
  refine ⟨_, rfl, a, dx, _, rfl, hins, ht.nolk hins (by decide), a, t, rfl, ht, by omega, by omega, fun H1 l xs e1 _ hl1 hlx => ?_⟩
  refine ⟨l, xs, rfl, .inl (SqL.of hl1), _, _, rfl, rfl, _, rfl, ?_⟩
  by_cases c1 : (24 : Int) < (xs.length : Int)
  · rw [decide_eq_true c1]
    have hlim : TwP.lim t = none := by
      unfold TwP.lim
      rw [if_neg (by omega)]
    rw [hlim] at q
    exact iteT ⟨_, rfl, fun d hd => q d _ (same_add e1 hd _)⟩
  rw [decide_eq_false c1]
  refine iteF ⟨_, rfl, a, dx, _, rfl, e1 _ _ hins, ht.nolk hins (by decide), a, t, rfl, ht.same e1, by omega, .inl ⟨_, rfl, _, _, rfl, rfl, _, rfl, ?_⟩⟩
  by_cases c2 : (12 : Int) < ((TwP.lev t : Nat) : Int)
  · rw [decide_eq_true c2]
    have hlim : TwP.lim t = none := by
      unfold TwP.lim
      rw [if_pos (by omega), if_neg (by omega)]
    rw [hlim] at q
    exact iteT ⟨_, rfl, fun d hd => q d _ (same_add e1 hd _)⟩
  rw [decide_eq_false c2]
  have hlim : TwP.lim t = some t := TwP.lim_ok (by omega) (by omega)
  rw [hlim] at q
  exact iteF ⟨_, rfl, q H1 a e1 (ht.same e1)⟩
/-- a test that was just made -/
theorem made_same {C : Addr} {H1 : Hp} {x dx : Addr} (nx : H1 x = none) (nd : H1 dx = none) (o : HO) : Same H1 (upd (upd (upd H1 dx (.own x)) x (.ins C dx [])) x o) := fun b u q => by
  rw [upd_ne (ne_of_none q nx), upd_ne (ne_of_none q nx), upd_ne (ne_of_none q nd)]
  exact q
theorem isi_test (T : Fc K mg) {H : Hp} {t : Tr} {a : Addr} (h : TestAt (cT K) H t a) : TyX K H (.ref a) (.ref (cT K)) := by
  obtain ⟨dx, fs, hi⟩ := h.ins
  exact .base (.ins hi T.c_Test T.ex.i1 T.ex.i2 T.ex.i3 T.ex.i4)
theorem tAO_lev {c : Bool} {t u : Tr} : TwP.lev (tAO c t u) = max (TwP.lev t + 1) (TwP.lev u + 1) := by cases c <;> rfl
theorem tAO_nat {c : Bool} {t u : Tr} : TwP.nat (tAO c t u) = TwP.nat t + TwP.nat u := by cases c <;> rfl
theorem tAO_at {C : Addr} {H : Hp} {c : Bool} {t u : Tr} {x dx d p a b : Addr} (hx : H x = some (.ins C dx (tfs (kAO c) d p))) (hd : H d = some (.tup [])) (hp : H p = some (.tup [.ref a, .ref b])) (ht : TestAt C H t a) (hu : TestAt C H u b) : TestAt C H (tAO c t u) x := by
  cases c with
  | true => exact ⟨a, b, ⟨dx, d, p, [], hx, hd, hp, rfl⟩, ht, hu⟩
  | false => exact ⟨a, b, ⟨dx, d, p, [], hx, hd, hp, rfl⟩, ht, hu⟩
theorem resT_same {H H1 : Hp} {Q : VK} {E : XK} {o : Option Tr} (e : Same H H1) (q : resT K H Q E o) : resT K H1 Q E o := by
  cases o with
  | none => exact fun d H' e' => q d H' (e.trans e')
  | some t => exact fun H' a e' h => q H' a (e.trans e') h
theorem df_combine (T : Fc K mg) : Df P w K mg base (L2N.CX P w) 16 (He.ga K "combine") ["kind", "one", "other"] (spCombine K) := by
  refine dfN T.e_combine sc_combine (fun vs H Q E h => ?_) (fun cdv A outer s H vs Q E hr h => ⟨_,
    pss_cons (ps_if (pt_not (pt_val (pe_callB call_isi rfl T.f_isinstance bi_isi (pa_cons (pv 2) (pa_cons (pe_gR T.g_Test) pa_nil))))) (pss_one (ps_raiseE rfl T.ex.bt (room_one hr) tkN (pa_cons pe_str pa_nil))) pss_nil)
      (pss_one (ps_ret (pe_df (df_limited T) T.g_limited hr pxN (pa_cons (pe_dmk (df_TInit T) T.k_Test T.g_Test (hr.mono (by decide)) pass0 (pa_cons (pv 0) (pa_cons (pe_tup pa_nil) (pa_cons (pe_tup (pa_cons (pv 1) (pa_cons (pv 2) pa_nil))) pa_nil)))) pa_nil)))), ?_⟩)
  · obtain ⟨_, _, _, _, _, rfl, _⟩ := h
    rfl
  obtain ⟨c, a, b, t, u, rfl, ht, hu, h1, h2, h3, h4, q⟩ := h
  refine ⟨_, rfl, _, _, _, _, true, rfl, .own _, isi_test T hu, T.ex.i5, true, rfl, iteF ?_⟩
  refine ⟨_, rfl, by show 0 ≤ sizeLine; decide, fun d hd => ⟨_, rfl, _, rfl, by show 2 ≤ sizeLine; decide, fun p hp x dx nx ndx nex => ?_⟩⟩
  refine ⟨x, dx, _, _, _, rfl, upd_same, rfl, ?_⟩
  have e1 : Same H (upd (upd H d (.tup [])) p (.tup [.ref a, .ref b])) := same_add (same_new hd _) hp _
  have e2 := made_same (C := cT K) nx ndx (.ins (cT K) dx (tfs (kAO c) d p))
  have e := e1.trans e2
  have hdd : (upd (upd H d (.tup [])) p (.tup [.ref a, .ref b])) d = some (.tup []) := (same_new hp _) _ _ upd_same
  refine ⟨x, tAO c t u, rfl, tAO_at upd_same (e2 _ _ hdd) (e2 _ _ upd_same) (ht.same e) (hu.same e), ?_, ?_, resT_same e q⟩
  · rw [tAO_lev]
    omega
  · rw [tAO_nat]
    omega
theorem df_and (T : Fc K mg) : Df P w K mg base (L2N.CX P w) 17 (mT K "__and__") ["self", "other"] (spAO K true) := by
  refine dfN T.e_Test_and sc_Test_and (fun vs H Q E h => ?_) (fun cdv A outer s H vs Q E hr h => ⟨_, pss_one (ps_ret (pe_df (df_combine T) T.g_combine hr pxN (pa_cons pe_str (pa_cons (pv 0) (pa_cons (pv 1) pa_nil))))), ?_⟩)
  · obtain ⟨_, _, _, _, rfl, _⟩ := h
    rfl
  obtain ⟨a, b, t, u, rfl, h⟩ := h
  exact ⟨_, rfl, _, rfl, true, a, b, t, u, rfl, h⟩
theorem df_or (T : Fc K mg) : Df P w K mg base (L2N.CX P w) 17 (mT K "__or__") ["self", "other"] (spAO K false) := by
  refine dfN T.e_Test_or sc_Test_or (fun vs H Q E h => ?_) (fun cdv A outer s H vs Q E hr h => ⟨_, pss_one (ps_ret (pe_df (df_combine T) T.g_combine hr pxN (pa_cons pe_str (pa_cons (pv 0) (pa_cons (pv 1) pa_nil))))), ?_⟩)
  · obtain ⟨_, _, _, _, rfl, _⟩ := h
    rfl
  obtain ⟨a, b, t, u, rfl, h⟩ := h
  exact ⟨_, rfl, _, rfl, false, a, b, t, u, rfl, h⟩
theorem df_not (T : Fc K mg) : Df P w K mg base (L2N.CX P w) 16 (mT K "__invert__") ["self"] (spNot K) := by
  refine dfN T.e_Test_invert sc_Test_invert (fun vs H Q E h => ?_) (fun cdv A outer s H vs Q E hr h => ⟨_,
    pss_one (ps_ret (pe_df (df_limited T) T.g_limited hr pxN (pa_cons (pe_dmk (df_TInit T) T.k_Test T.g_Test (hr.mono (by decide)) pass0 (pa_cons pe_str (pa_cons (pe_tup pa_nil) (pa_cons (pe_tup (pa_cons (pv 0) pa_nil)) pa_nil)))) pa_nil))), ?_⟩)
  · obtain ⟨_, _, rfl, _⟩ := h
    rfl
  obtain ⟨a, t, rfl, ht, h1, h2, q⟩ := h
  refine ⟨by show 0 ≤ sizeLine; decide, fun d hd => ⟨_, rfl, by show 1 ≤ sizeLine; decide, fun p hp x dx nx ndx nex => ?_⟩⟩
  refine ⟨x, dx, _, _, _, rfl, upd_same, rfl, ?_⟩
  have e1 : Same H (upd (upd H d (.tup [])) p (.tup [.ref a])) := same_add (same_new hd _) hp _
  have e2 := made_same (C := cT K) nx ndx (.ins (cT K) dx (tfs TwP.kNot d p))
  have e := e1.trans e2
  have hdd : (upd (upd H d (.tup [])) p (.tup [.ref a])) d = some (.tup []) := (same_new hp _) _ _ upd_same
  refine ⟨x, .not t, rfl, ⟨a, ⟨dx, d, p, [], upd_same, e2 _ _ hdd, e2 _ _ upd_same, rfl⟩, ht.same e⟩, ?_, ?_, resT_same e q⟩
  · show TwP.lev t + 1 ≤ 13
    omega
  · show TwP.nat t ≤ 48
    omega
theorem df_sure (T : Fc K mg) : Df P w K mg base (L2N.CX P w) 16 (He.ga K "sure") ["test"] (spSure K) := by
  refine dfN T.e_sure sc_sure (fun vs H Q E h => ?_) (fun cdv A outer s H vs Q E hr h => ⟨_,
    pss_cons (ps_if (pt_not (pt_val (pe_callB call_isi rfl T.f_isinstance bi_isi (pa_cons (pv 0) (pa_cons (pe_gR T.g_Test) pa_nil))))) (pss_one (ps_raiseE rfl T.ex.bt (room_one hr) tkN (pa_cons pe_str pa_nil))) pss_nil)
    (pss_one (ps_ret (pe_df (df_limited T) T.g_limited hr pxN (pa_cons (pe_dmk (df_TInit T) T.k_Test T.g_Test (hr.mono (by decide)) pass0 (pa_cons pe_str (pa_cons (pe_tup pa_nil) (pa_cons (pe_tup (pa_cons (pv 0) pa_nil)) pa_nil)))) pa_nil)))), ?_⟩)
  · obtain ⟨_, _, rfl, _⟩ := h
    rfl
  obtain ⟨a, t, rfl, ht, h1, h2, q⟩ := h
  refine ⟨_, rfl, _, _, _, _, true, rfl, .own _, isi_test T ht, T.ex.i5, true, rfl, iteF ?_⟩
  refine ⟨by show 0 ≤ sizeLine; decide, fun d hd => ⟨_, rfl, by show 1 ≤ sizeLine; decide, fun p hp x dx nx ndx nex => ?_⟩⟩
  refine ⟨x, dx, _, _, _, rfl, upd_same, rfl, ?_⟩
  have e1 : Same H (upd (upd H d (.tup [])) p (.tup [.ref a])) := same_add (same_new hd _) hp _
  have e2 := made_same (C := cT K) nx ndx (.ins (cT K) dx (tfs TwP.kSure d p))
  have e := e1.trans e2
  have hdd : (upd (upd H d (.tup [])) p (.tup [.ref a])) d = some (.tup []) := (same_new hp _) _ _ upd_same
  refine ⟨x, .sure t, rfl, ⟨a, ⟨dx, d, p, [], upd_same, e2 _ _ hdd, e2 _ _ upd_same, rfl⟩, ht.same e⟩, ?_, ?_, resT_same e q⟩
  · show TwP.lev t + 1 ≤ 13
    omega
  · show TwP.nat t ≤ 48
    omega
end
end Tw
end

section
set_option Elab.async false
set_option linter.all false
set_option maxRecDepth 100000
set_option maxHeartbeats 4000000
/-! The walks of the module of logic: the makers of atoms. -/
namespace Tw
open PySem PySem.Spec PyProof.Rows L2
open TwP (Tx Val)
section
variable (K : PySem.W.Frag)
def spIsOp : Sp := fun vs H Q _ => ∃ l : Tx, vs = [sV l] ∧ Q (.bl (TwP.ops.contains l)) H
def spCompare : Sp := fun vs H Q E => ∃ (c op : Tx) (v : Val), vs = [sV c, sV op, vV v] ∧ c.length ≤ 100000 ∧ resT K H Q E (TwP.mkCmp c op v)
def spAgainst : Sp := fun vs H Q E => ∃ (c op o : Tx) (m : Int), vs = [sV c, sV op, sV o, .int m] ∧ c.length ≤ 100000 ∧ o.length ≤ 100000 ∧ resT K H Q E (TwP.mkAgn c op o m)
def spAmong : Sp := fun vs H Q E => ∃ (c : Tx) (q : Addr) (xs : List Val), vs = [sV c, .ref q] ∧ c.length ≤ 100000 ∧ H q = some (.lst (xs.map vV)) ∧ xs.length ≤ 100000 ∧ resT K H Q E (TwP.mkAmg c xs)
def spBegins : Sp := fun vs H Q E => ∃ (c p : Tx), vs = [sV c, sV p] ∧ c.length ≤ 100000 ∧ resT K H Q E (TwP.mkBeg c p)
def spEmpty : Sp := fun vs H Q E => ∃ (c : Tx), vs = [sV c] ∧ c.length ≤ 100000 ∧ resT K H Q E (TwP.mkEmp c)
def spAlways : Sp := fun vs H Q E => vs = [] ∧ resT K H Q E (some .alw)
def spNever : Sp := fun vs H Q E => vs = [] ∧ resT K H Q E (some .nev)
end
theorem kind_non (v : Val) : decide (kindV v = .non) = !TwP.valOk v := by
  cases v with
  | num i => rfl
  | txt l =>
    show decide ((if TwP.isText l = true then sV kText else .non) = .non) = !TwP.isText l
    cases TwP.isText l <;> rfl
section
variable {P : Program} {w : World} {K : PySem.W.Frag} {mg : Str → Option Value} {base : Heap}
theorem df_isOp (T : Fc K mg) : Df P w K mg base CX0 1 (He.ga K "is_operator") ["op"] spIsOp := by
  refine df0 T.e_is_operator sc_is_operator (fun vs H Q E h => ?_) (fun cdv A outer s H vs Q E hr h => ⟨_, pss_one (ps_ret
    (pe_and (pe_callB call_isi rfl T.f_isinstance bi_isi (pa_cons (pv 0) (pa_cons (pe_tyN T.f_str bi_str) pa_nil)))
      (pe_one (pe_cmpR op_in_seq (pv 0) (pe_gR T.g_OPERATORS) rfl)))), ?_⟩)
  · obtain ⟨_, rfl, _⟩ := h
    rfl
  obtain ⟨l, rfl, q⟩ := h
  refine ⟨_, rfl, _, _, _, _, true, rfl, .ty _, isi_str, kit_ty (by decide +kernel), true, rfl, iteT ?_⟩
  refine ⟨_, rfl, _, _, rfl, .inr (T.ex.ops H), rfl, flat_S _, ?_⟩
  show Q (.bl (inV (sV l) (TwP.ops.map sV))) H
  rw [inV_S]
  exact q
theorem df_always (T : Fc K mg) : Df P w K mg base (L2N.CX P w) 3 (He.ga K "always") [] (spAlways K) := by
  refine dfN T.e_always sc_always (fun vs H Q E h => ?_) (fun cdv A outer s H vs Q E hr h => ⟨_, pss_one (ps_ret (pe_dmk (df_TInit T) T.k_Test T.g_Test hr pass0 (pa_cons pe_str (pa_cons (pe_tup pa_nil) (pa_cons (pe_tup pa_nil) pa_nil))))), ?_⟩)
  · obtain ⟨rfl, _⟩ := h
    rfl
  obtain ⟨rfl, q⟩ := h
  refine ⟨by show 0 ≤ sizeLine; decide, fun d hd => ⟨by show 0 ≤ sizeLine; decide, fun p hp x dx nx ndx nex => ?_⟩⟩
  refine ⟨x, dx, _, _, _, rfl, upd_same, rfl, ?_⟩
  have e1 : Same H (upd (upd H d (.tup [])) p (.tup [])) := same_add (same_new hd _) hp _
  have e2 := made_same (C := cT K) nx ndx (.ins (cT K) dx (tfs TwP.kAlways d p))
  have hdd : (upd (upd H d (.tup [])) p (.tup [])) d = some (.tup []) := (same_new hp _) _ _ upd_same
  exact q _ x (e1.trans e2) ⟨dx, d, p, [], upd_same, e2 _ _ hdd, e2 _ _ upd_same, rfl⟩
theorem df_never (T : Fc K mg) : Df P w K mg base (L2N.CX P w) 3 (He.ga K "never") [] (spNever K) := by
  refine dfN T.e_never sc_never (fun vs H Q E h => ?_) (fun cdv A outer s H vs Q E hr h => ⟨_, pss_one (ps_ret (pe_dmk (df_TInit T) T.k_Test T.g_Test hr pass0 (pa_cons pe_str (pa_cons (pe_tup pa_nil) (pa_cons (pe_tup pa_nil) pa_nil))))), ?_⟩)
  · obtain ⟨rfl, _⟩ := h
    rfl
  obtain ⟨rfl, q⟩ := h
  refine ⟨by show 0 ≤ sizeLine; decide, fun d hd => ⟨by show 0 ≤ sizeLine; decide, fun p hp x dx nx ndx nex => ?_⟩⟩
  refine ⟨x, dx, _, _, _, rfl, upd_same, rfl, ?_⟩
  have e1 : Same H (upd (upd H d (.tup [])) p (.tup [])) := same_add (same_new hd _) hp _
  have e2 := made_same (C := cT K) nx ndx (.ins (cT K) dx (tfs TwP.kNever d p))
  have hdd : (upd (upd H d (.tup [])) p (.tup [])) d = some (.tup []) := (same_new hp _) _ _ upd_same
  exact q _ x (e1.trans e2) ⟨dx, d, p, [], upd_same, e2 _ _ hdd, e2 _ _ upd_same, rfl⟩
theorem df_empty (T : Fc K mg) : Df P w K mg base (L2N.CX P w) 3 (He.ga K "empty") ["column"] (spEmpty K) := by
  refine dfN T.e_empty sc_empty (fun vs H Q E h => ?_) (fun cdv A outer s H vs Q E hr h => ⟨_,
    pss_cons (ps_if (pt_not (pt_val (pe_df (df_isName T) T.g_is_name (hr.mono (by decide)) pass0 (pa_cons (pv 0) pa_nil)))) (pss_one (ps_raiseE rfl T.ex.bt (room_one hr) tkN (pa_cons pe_str pa_nil))) pss_nil)
    (pss_one (ps_ret (pe_dmk (df_TInit T) T.k_Test T.g_Test hr pass0 (pa_cons pe_str (pa_cons (pe_tup (pa_cons (pv 0) pa_nil)) (pa_cons (pe_tup pa_nil) pa_nil)))))), ?_⟩)
  · obtain ⟨_, rfl, _⟩ := h
    rfl
  obtain ⟨c, rfl, hz, q⟩ := h
  refine ⟨_, rfl, c, rfl, hz, _, rfl, ?_⟩
  unfold TwP.mkEmp at q
  cases hn : TwP.isName c with
  | false =>
    rw [hn] at q
    exact iteT ⟨_, rfl, fun d hd => q d _ (same_new hd _)⟩
  | true =>
    rw [hn] at q
    refine iteF ⟨_, rfl, by show 1 ≤ sizeLine; decide, fun d hd => ⟨by show 0 ≤ sizeLine; decide, fun p hp x dx nx ndx nex => ?_⟩⟩
    refine ⟨x, dx, _, _, _, rfl, upd_same, rfl, ?_⟩
    have e1 : Same H (upd (upd H d (.tup [sV c])) p (.tup [])) := same_add (same_new hd _) hp _
    have e2 := made_same (C := cT K) nx ndx (.ins (cT K) dx (tfs TwP.kEmpty d p))
    have hdd : (upd (upd H d (.tup [sV c])) p (.tup [])) d = some (.tup [sV c]) := (same_new hp _) _ _ upd_same
    exact q _ x (e1.trans e2) ⟨dx, d, p, [sV c], upd_same, e2 _ _ hdd, e2 _ _ upd_same, rfl⟩
theorem df_begins (T : Fc K mg) : Df P w K mg base (L2N.CX P w) 3 (He.ga K "begins") ["column", "prefix"] (spBegins K) := by
  refine dfN T.e_begins sc_begins (fun vs H Q E h => ?_) (fun cdv A outer s H vs Q E hr h => ⟨_,
    pss_cons (ps_if (pt_not (pt_val (pe_df (df_isName T) T.g_is_name (hr.mono (by decide)) pass0 (pa_cons (pv 0) pa_nil)))) (pss_one (ps_raiseE rfl T.ex.bt (room_one hr) tkN (pa_cons pe_str pa_nil))) pss_nil)
    (pss_cons (ps_if (pt_not (pt_val (pe_df (df_isText T) T.g_is_text (hr.mono (by decide)) pass0 (pa_cons (pv 1) pa_nil)))) (pss_one (ps_raiseE rfl T.ex.bt (room_one hr) tkN (pa_cons pe_str pa_nil))) pss_nil)
    (pss_one (ps_ret (pe_dmk (df_TInit T) T.k_Test T.g_Test hr pass0 (pa_cons pe_str (pa_cons (pe_tup (pa_cons (pv 0) (pa_cons (pv 1) pa_nil))) (pa_cons (pe_tup pa_nil) pa_nil))))))), ?_⟩)
  · obtain ⟨_, _, rfl, _⟩ := h
    rfl
  obtain ⟨c, l, rfl, hz, q⟩ := h
  refine ⟨_, rfl, c, rfl, hz, _, rfl, ?_⟩
  unfold TwP.mkBeg at q
  cases hn : TwP.isName c with
  | false =>
    rw [hn] at q
    exact iteT ⟨_, rfl, fun d hd => q d _ (same_new hd _)⟩
  | true =>
    rw [hn] at q
    refine iteF ⟨_, rfl, _, rfl, .inr ⟨l, rfl, _, rfl, ?_⟩⟩
    cases ht : TwP.isText l with
    | false =>
      rw [ht] at q
      exact iteT ⟨_, rfl, fun d hd => q d _ (same_new hd _)⟩
    | true =>
      rw [ht] at q
      refine iteF ⟨_, rfl, _, rfl, by show 2 ≤ sizeLine; decide, fun d hd => ⟨by show 0 ≤ sizeLine; decide, fun p hp x dx nx ndx nex => ?_⟩⟩
      refine ⟨x, dx, _, _, _, rfl, upd_same, rfl, ?_⟩
      have e1 : Same H (upd (upd H d (.tup [sV c, sV l])) p (.tup [])) := same_add (same_new hd _) hp _
      have e2 := made_same (C := cT K) nx ndx (.ins (cT K) dx (tfs TwP.kBegins d p))
      have hdd : (upd (upd H d (.tup [sV c, sV l])) p (.tup [])) d = some (.tup [sV c, sV l]) := (same_new hp _) _ _ upd_same
      exact q _ x (e1.trans e2) ⟨dx, d, p, _, upd_same, e2 _ _ hdd, e2 _ _ upd_same, rfl⟩
theorem df_compare (T : Fc K mg) : Df P w K mg base (L2N.CX P w) 3 (He.ga K "compare") ["column", "op", "value"] (spCompare K) := by
  refine dfN T.e_compare sc_compare (fun vs H Q E h => ?_) (fun cdv A outer s H vs Q E hr h => ⟨_,
    pss_cons (ps_if (pt_not (pt_val (pe_df (df_isName T) T.g_is_name (hr.mono (by decide)) pass0 (pa_cons (pv 0) pa_nil)))) (pss_one (ps_raiseE rfl T.ex.bt (room_one hr) tkN (pa_cons pe_str pa_nil))) pss_nil)
    (pss_cons (ps_if (pt_not (pt_val (pe_df (df_isOp T) T.g_is_operator (hr.mono (by decide)) pass0 (pa_cons (pv 1) pa_nil)))) (pss_one (ps_raiseE rfl T.ex.bt (room_one hr) tkN (pa_cons pe_str pa_nil))) pss_nil)
    (pss_cons (ps_if (pt_cmp (pc_isN (pe_df (df_kindOf T) T.g_kind_of hr pass0 (pa_cons (pv 2) pa_nil))) rfl) (pss_one (ps_raiseE rfl T.ex.bt (room_one hr) tkN (pa_cons pe_str pa_nil))) pss_nil)
    (pss_one (ps_ret (pe_dmk (df_TInit T) T.k_Test T.g_Test hr pass0 (pa_cons pe_str (pa_cons (pe_tup (pa_cons (pv 0) (pa_cons (pv 1) (pa_cons (pv 2) pa_nil)))) (pa_cons (pe_tup pa_nil) pa_nil)))))))), ?_⟩)
  · obtain ⟨_, _, _, rfl, _⟩ := h
    rfl
  obtain ⟨c, op, v, rfl, hz, q⟩ := h
  refine ⟨_, rfl, c, rfl, hz, _, rfl, ?_⟩
  unfold TwP.mkCmp at q
  cases hn : TwP.isName c with
  | false =>
    rw [hn] at q
    exact iteT ⟨_, rfl, fun d hd => q d _ (same_new hd _)⟩
  | true =>
    rw [hn] at q
    refine iteF ⟨_, rfl, op, rfl, _, rfl, ?_⟩
    cases ho : TwP.ops.contains op with
    | false =>
      rw [ho] at q
      exact iteT ⟨_, rfl, fun d hd => q d _ (same_new hd _)⟩
    | true =>
      rw [ho] at q
      refine iteF ⟨_, rfl, v, rfl, _, rfl, ?_⟩
      show if decide (kindV v = .non) = true then _ else _
      rw [kind_non]
      cases hv : TwP.valOk v with
      | false =>
        rw [hv] at q
        exact iteT ⟨_, rfl, fun d hd => q d _ (same_new hd _)⟩
      | true =>
        rw [hv] at q
        refine iteF ⟨_, rfl, _, rfl, _, rfl, by show 3 ≤ sizeLine; decide, fun d hd => ⟨by show 0 ≤ sizeLine; decide, fun p hp x dx nx ndx nex => ?_⟩⟩
        refine ⟨x, dx, _, _, _, rfl, upd_same, rfl, ?_⟩
        have e1 : Same H (upd (upd H d (.tup [sV c, sV op, vV v])) p (.tup [])) := same_add (same_new hd _) hp _
        have e2 := made_same (C := cT K) nx ndx (.ins (cT K) dx (tfs kCompare d p))
        have hdd : (upd (upd H d (.tup [sV c, sV op, vV v])) p (.tup [])) d = some (.tup [sV c, sV op, vV v]) := (same_new hp _) _ _ upd_same
        exact q _ x (e1.trans e2) ⟨dx, d, p, _, upd_same, e2 _ _ hdd, e2 _ _ upd_same, rfl⟩
/-- against: its last parameter is given by name -/
structure DfAgn (P : Program) (w : World) (K : PySem.W.Frag) (mg : Str → Option Value) (base : Heap) : Prop where
  ex : ∃ fd, FnOk P w K mg base (L2N.CX P w) 3 (He.ga K "against") fd ["column", "op", "other", "more"] (spAgainst K) ∧ KBn K fd ["column", "op", "other", "more"] 3 ["more"] (fun us ws => us ++ ws) (fun vs zs => vs ++ zs)
  kp : PySem.W.keepIn K (.ref (He.ga K "against")) = true
theorem df_against (T : Fc K mg) : DfAgn P w K mg base := by
  obtain ⟨fd, F⟩ := T.e_against
  refine ⟨⟨fd, FunD.ok F sc_against (fun vs H Q E h => ?_) (fun cdv A outer s H vs Q E hr h => ⟨_,
    pss_cons (ps_if (pt_not (pt_val (pe_df (df_isName T) T.g_is_name (hr.mono (by decide)) pass0 (pa_cons (pv 0) pa_nil)))) (pss_one (ps_raiseE rfl T.ex.bt (room_one hr) tkN (pa_cons pe_str pa_nil))) pss_nil)
    (pss_cons (ps_if (pt_not (pt_val (pe_df (df_isOp T) T.g_is_operator (hr.mono (by decide)) pass0 (pa_cons (pv 1) pa_nil)))) (pss_one (ps_raiseE rfl T.ex.bt (room_one hr) tkN (pa_cons pe_str pa_nil))) pss_nil)
    (pss_cons (ps_if (PW.pt (pw_or (pt_not (pt_val (pe_df (df_isName T) T.g_is_name (hr.mono (by decide)) pass0 (pa_cons (pv 2) pa_nil)))) (pw_or1 (pt_cmpR op_eq (pv 2) (pv 0) (nomark _))))) (pss_one (ps_raiseE rfl T.ex.bt (room_one hr) tkN (pa_cons pe_str pa_nil))) pss_nil)
    (pss_cons (ps_if (pt_not (pt_val (pe_df (df_isInt T) T.g_is_integer (hr.mono (by decide)) pass0 (pa_cons (pv 3) pa_nil)))) (pss_one (ps_raiseE rfl T.ex.bt (room_one hr) tkN (pa_cons pe_str pa_nil))) pss_nil)
    (pss_one (ps_ret (pe_dmk (df_TInit T) T.k_Test T.g_Test hr pass0 (pa_cons pe_str (pa_cons (pe_tup (pa_cons (pv 0) (pa_cons (pv 1) (pa_cons (pv 2) (pa_cons (pv 3) pa_nil))))) (pa_cons (pe_tup pa_nil) pa_nil))))))))), ?_⟩), ⟨fun s us ws X h1 h2 => ?_, fun r1 r2 => r1.append r2⟩⟩, F.kp⟩
  · obtain ⟨_, _, _, _, rfl, _⟩ := h
    rfl
  · obtain ⟨c, op, o, m, rfl, hz, hz2, q⟩ := h
    refine ⟨_, rfl, c, rfl, hz, _, rfl, ?_⟩
    unfold TwP.mkAgn at q
    cases hn : TwP.isName c with
    | false =>
      rw [hn] at q
      exact iteT ⟨_, rfl, fun d hd => q d _ (same_new hd _)⟩
    | true =>
      rw [hn] at q
      refine iteF ⟨_, rfl, op, rfl, _, rfl, ?_⟩
      cases ho : TwP.ops.contains op with
      | false =>
        rw [ho] at q
        exact iteT ⟨_, rfl, fun d hd => q d _ (same_new hd _)⟩
      | true =>
        rw [ho] at q
        refine iteF ⟨_, rfl, o, rfl, hz2, _, rfl, ?_⟩
        cases hno : TwP.isName o with
        | false =>
          rw [hno] at q
          rw [if_pos rfl, if_pos rfl, if_neg (by simp)] at q
          exact iteT (iteT ⟨_, rfl, fun d hd => q d _ (same_new hd _)⟩)
        | true =>
          rw [hno] at q
          refine iteF ⟨_, rfl, _, rfl, rfl, _, rfl, ?_⟩
          show if decide (V.str (SX.S o) = V.str (SX.S c)) = true then _ else _
          rw [dec_S]
          by_cases hoc : o = c
          · rw [if_pos rfl, if_pos rfl, if_neg (fun z => z.2 hoc)] at q
            rw [decide_eq_true hoc]
            exact iteT ⟨_, rfl, fun d hd => q d _ (same_new hd _)⟩
          · rw [if_pos rfl, if_pos rfl, if_pos ⟨rfl, hoc⟩] at q
            rw [decide_eq_false hoc]
            refine iteF ⟨_, rfl, _, true, rfl, .inl ⟨m, rfl, rfl⟩, _, rfl, iteF ?_⟩
            refine ⟨_, rfl, _, rfl, _, rfl, _, rfl, by show 4 ≤ sizeLine; decide, fun d hd => ⟨by show 0 ≤ sizeLine; decide, fun p hp x dx nx ndx nex => ?_⟩⟩
            refine ⟨x, dx, _, _, _, rfl, upd_same, rfl, ?_⟩
            have e1 : Same H (upd (upd H d (.tup [sV c, sV op, sV o, .int m])) p (.tup [])) := same_add (same_new hd _) hp _
            have e2 := made_same (C := cT K) nx ndx (.ins (cT K) dx (tfs kAgainst d p))
            have hdd : (upd (upd H d (.tup [sV c, sV op, sV o, .int m])) p (.tup [])) d = some (.tup [sV c, sV op, sV o, .int m]) := (same_new hp _) _ _ upd_same
            exact q _ x (e1.trans e2) ⟨dx, d, p, _, upd_same, e2 _ _ hdd, e2 _ _ upd_same, rfl⟩
  · obtain ⟨oc, od, dV, kV, doc, pm, an, cdv, ct, osl, rfl, lk, hcd, hD, hK⟩ := F.ex
    rcases hD with ⟨_, rfl⟩ | ⟨z, _⟩
    · match us, ws, h1, h2 with
      | [a, b, c], [d], _, _ => exact .of_eq (by first | rfl | with_unfolding_all rfl)
    · exact absurd rfl z
theorem df_among (T : Fc K mg) : Df P w K mg base (L2N.CX P w) 3 (He.ga K "among") ["column", "values"] (spAmong K) := by
  refine dfN T.e_among sc_among (fun vs H Q E h => ?_) (fun cdv A outer s H vs Q E hr h => ⟨_,
    pss_cons (ps_if (pt_not (pt_val (pe_df (df_isName T) T.g_is_name (hr.mono (by decide)) pass0 (pa_cons (pv 0) pa_nil)))) (pss_one (ps_raiseE rfl T.ex.bt (room_one hr) tkN (pa_cons pe_str pa_nil))) pss_nil)
    (pss_cons (ps_if (PW.pt (pw_or (pt_not (pt_val (pe_df (df_isSeq T) T.g_is_sequence (hr.mono (by decide)) pass0 (pa_cons (pv 1) pa_nil))))
      (pw_or1 (pt_not (pt_chain op_le op_le pe_int (pe_callB call_len_seq rfl T.f_len bi_len (pa_cons (pv 1) pa_nil)) pe_int))))) (pss_one (ps_raiseE rfl T.ex.bt (room_one hr) tkN (pa_cons pe_str pa_nil))) pss_nil)
    (pss_cons (ps_for (L2.passes_of rfl) rfl (pi_list (pv 1)) (pg_name (i := 2) sc_among.nd rfl (.inl rfl)) (pss_one (ps_if (pt_cmp (pc_isN (pe_df (df_kindOf T) T.g_kind_of hr pass0 (pa_cons (pv 2) pa_nil))) rfl) (pss_one (ps_raiseE rfl T.ex.bt (room_one hr) tkN (pa_cons pe_str pa_nil))) pss_nil)))
    (pss_one (ps_ret (pe_dmk (df_TInit T) T.k_Test T.g_Test hr pass0 (pa_cons pe_str (pa_cons (pe_tup (pa_cons (pv 0) (pa_cons (pe_callTy call_tuple_of rfl T.f_tuple bi_tuple (pa_cons (pv 1) pa_nil)) pa_nil))) (pa_cons (pe_tup pa_nil) pa_nil)))))))), ?_⟩)
  · obtain ⟨_, _, _, rfl, _⟩ := h
    rfl
  obtain ⟨c, a, xs, rfl, hz, ha, hx, q⟩ := h
  refine ⟨_, rfl, c, rfl, hz, _, rfl, ?_⟩
  unfold TwP.mkAmg at q
  cases hn : TwP.isName c with
  | false =>
    rw [hn] at q
    exact iteT ⟨_, rfl, fun d hd => q d _ (same_new hd _)⟩
  | true =>
    rw [hn, if_pos rfl] at q
    refine iteF ⟨_, rfl, a, _, rfl, ha, fun H1 e1 => ⟨_, rfl, iteF ?_⟩⟩
    have ha1 := e1 _ _ ha
    refine ⟨_, rfl, a, _, rfl, .inl (SqL.of ha1), ?_⟩
    rw [List.length_map]
    refine ⟨_, _, rfl, rfl, _, rfl, ?_⟩
    by_cases h1 : (1 : Int) ≤ (xs.length : Int)
    case neg =>
      rw [decide_eq_false h1]
      rw [if_neg (show ¬ (1 ≤ xs.length ∧ xs.length ≤ 8) by omega)] at q
      exact iteF ⟨_, rfl, iteT ⟨_, rfl, fun d hd => q d _ (same_add e1 hd _)⟩⟩
    rw [decide_eq_true h1]
    refine iteT ⟨_, _, rfl, rfl, _, rfl, ?_⟩
    by_cases h8 : (xs.length : Int) ≤ 8
    case neg =>
      rw [decide_eq_false h8]
      rw [if_neg (show ¬ (1 ≤ xs.length ∧ xs.length ≤ 8) by omega)] at q
      exact iteT ⟨_, rfl, fun d hd => q d _ (same_add e1 hd _)⟩
    rw [decide_eq_true h8]
    rw [if_pos (show 1 ≤ xs.length ∧ xs.length ≤ 8 by omega)] at q
    refine iteF ⟨_, rfl, a, rfl, ⟨_, SqL.of ha1⟩, ?_⟩
    refine for_list (K := K) (a := a) (xs := xs.map vV) (fun i σ H' => H' = H1 ∧ (∃ y, σ = [some (sV c), some (.ref a), y]) ∧ (xs.take i).all TwP.valOk = true) ⟨rfl, ⟨none, rfl⟩, rfl⟩ (fun i σ H' _ h => by rw [h.1]; exact SqL.of ha1) ?_ ?_
    · rintro i y σ H' hi ⟨rfl, ⟨y0, rfl⟩, hall⟩
      obtain ⟨v, hv, rfl⟩ : ∃ v, xs[i]? = some v ∧ y = vV v := by
        rw [List.getElem?_map] at hi
        cases e : xs[i]? with
        | none =>
          rw [e] at hi
          cases hi
        | some v =>
          rw [e] at hi
          exact ⟨v, rfl, (Option.some.inj hi).symm⟩
      refine ⟨_, rfl, v, rfl, _, rfl, ?_⟩
      show if decide (kindV v = .non) = true then _ else _
      rw [kind_non]
      cases hvo : TwP.valOk v with
      | false =>
        have hno : xs.all TwP.valOk = false := by
          cases h : xs.all TwP.valOk with
          | false => rfl
          | true =>
            have := List.all_eq_true.mp h v (List.mem_of_getElem? hv)
            rw [hvo] at this
            cases this
        rw [hno] at q
        exact iteT ⟨_, rfl, fun d hd => q d _ (same_add e1 hd _)⟩
      | true =>
        refine iteF ⟨rfl, ⟨_, rfl⟩, ?_⟩
        rw [List.take_succ, hv, List.all_append, hall]
        show (true && (TwP.valOk v && true)) = true
        rw [hvo]
        rfl
    · rintro σ H' ⟨rfl, ⟨y0, rfl⟩, hall⟩
      rw [List.length_map, List.take_length] at hall
      rw [hall] at q
      refine ⟨_, rfl, _, rfl, a, _, rfl, .inl ⟨SqL.of ha1, fun l hl => ⟨by show 2 ≤ sizeLine; decide, fun d hd => ⟨by show 0 ≤ sizeLine; decide, fun p hp x dx nx ndx nex => ?_⟩⟩⟩⟩
      refine ⟨x, dx, _, _, _, rfl, upd_same, rfl, ?_⟩
      have e3 : Same H' (upd (upd (upd H' l (.tup (xs.map vV))) d (.tup [sV c, .ref l])) p (.tup [])) := same_add (same_add (same_new hl _) hd _) hp _
      have e2 := made_same (C := cT K) nx ndx (.ins (cT K) dx (tfs kAmong d p))
      have hdd : (upd (upd (upd H' l (.tup (xs.map vV))) d (.tup [sV c, .ref l])) p (.tup [])) d = some (.tup [sV c, .ref l]) := (same_new hp _) _ _ upd_same
      have hll : (upd (upd (upd H' l (.tup (xs.map vV))) d (.tup [sV c, .ref l])) p (.tup [])) l = some (.tup (xs.map vV)) := (same_new hp _) _ _ ((same_new hd _) _ _ upd_same)
      exact q _ x (e1.trans (e3.trans e2)) ⟨dx, d, p, _, upd_same, e2 _ _ hdd, e2 _ _ upd_same, l, rfl, e2 _ _ hll⟩
end
end Tw
end

section
set_option Elab.async false
set_option linter.all false
set_option maxRecDepth 100000
set_option maxHeartbeats 4000000
/-! The walks of the module of logic: a test, written. -/
namespace Tw
open PySem PySem.Spec PyProof.Rows L2
open TwP (Tx Val)
/-- texts joined by +, told by their signs -/
def rCatS : R2 := fun x y H Q => ∃ a b : Tx, x = sV a ∧ y = sV b ∧ a.length + b.length ≤ 16777216 ∧ Q (sV (a ++ b)) H
theorem op_catS {X : Cx} : OpR X (binaryOp .Add) rCatS := fun pins s σ H x y v u Q I rx ry h => by
  obtain ⟨a, b, rfl, rfl, hz, q⟩ := h
  refine op_add_str pins s σ H _ _ v u Q I rx ry ⟨_, _, rfl, rfl, ?_, ?_⟩
  · rw [SX.S_len, SX.S_len]
    exact le_line hz
  · rw [SX.S_cat]
    exact q
theorem ifT {c A B : Prop} [Decidable c] (h : c) (a : A) : if c then A else B := by
  rw [if_pos h]
  exact a
theorem ifF {c A B : Prop} [Decidable c] (h : ¬ c) (b : B) : if c then A else B := by
  rw [if_neg h]
  exact b
/-- a test of two texts that is decided -/
theorem ifTb {c : Bool} {A B : Prop} (h : c = true) (a : A) : if c = true then A else B := by
  rw [if_pos h]
  exact a
theorem ifFb {c : Bool} {A B : Prop} (h : c = false) (b : B) : if c = true then A else B := by
  rw [h, if_neg Bool.false_ne_true]
  exact b
theorem str_int_eq (i : Int) : intL i = TwP.intL i := rfl
/-! ### sizes -/
theorem esc_snoc : ∀ (l : Tx) (c : Nat), TwP.esc (l ++ [c]) = TwP.esc l ++ (if c = 34 ∨ c = 92 then [92, c] else [c])
  | [], c => by
    show (if c = 34 ∨ c = 92 then [92, c] else [c]) ++ [] = _
    rw [List.append_nil]
    rfl
  | d :: r, c => by
    show (if d = 34 ∨ d = 92 then [92, d] else [d]) ++ TwP.esc (r ++ [c]) = ((if d = 34 ∨ d = 92 then [92, d] else [d]) ++ TwP.esc r) ++ _
    rw [esc_snoc r c, List.append_assoc]
theorem esc_le (l : Tx) (i : Nat) : (TwP.esc (l.take i)).length ≤ 2 * l.length := by
  have h1 := TwP.esc_len (l.take i)
  rw [List.length_take] at h1
  omega
theorem take_snoc {l : Tx} {i c : Nat} (h : l[i]? = some c) : l.take (i + 1) = l.take i ++ [c] := by
  rw [List.take_succ, h]
  rfl
theorem joinV_L : ∀ vs : List Val, TL.joinL [44, 32] (vs.map TwP.wrV) = TwP.joinV vs
  | [] => rfl
  | [v] => rfl
  | v :: w :: r => by
    show TwP.wrV v ++ ([44, 32] ++ TL.joinL [44, 32] ((w :: r).map TwP.wrV)) = _
    rw [joinV_L (w :: r)]
    rfl
theorem sum_len {N : Nat} : ∀ vs : List Val, (∀ v ∈ vs, TwP.vFine N v) → ((vs.map TwP.wrV).map List.length).sum ≤ vs.length * (2 * N + 1002)
  | [], _ => Nat.zero_le _
  | v :: r, h => by
    have h1 := TwP.wrV_len (h v List.mem_cons_self)
    have h2 := sum_len r fun w hw => h w (List.mem_cons_of_mem _ hw)
    rw [List.map_cons, List.map_cons, List.sum_cons, List.length_cons, Nat.add_mul]
    omega
/-! ### promises -/
def spWV : Sp := fun vs H Q _ => ∃ v : Val, vs = [vV v] ∧ TwP.vFine 20000 v ∧ Q (sV (TwP.wrV v)) H
section
variable (K : PySem.W.Frag)
def spWA : Sp := fun vs H Q _ => ∃ a t, vs = [.ref a] ∧ TestAt (cT K) H t a ∧ subs t = [] ∧ TwP.Fine 20000 t ∧ (TwP.wr t).length ≤ 16000000 ∧ ∀ H', Same H H' → Q (sV (TwP.wr t)) H'
def spBr (n : Nat) : Sp := fun vs H Q _ => ∃ (a : Addr) (t : Tr) (kp : Addr) (ks : List Tx), vs = [.ref a, .ref kp] ∧ TestAt (cT K) H t a ∧ H kp = some (.tup (ks.map sV)) ∧ TwP.lev t < n ∧ TwP.Fine 20000 t ∧ (TwP.wr t).length ≤ 16000000 ∧ ∀ H', Same H H' → Q (sV (TwP.br (ks.contains (kindT t)) (TwP.wr t))) H'
def spWr (n : Nat) : Sp := fun vs H Q _ => ∃ a t, vs = [.ref a] ∧ TestAt (cT K) H t a ∧ TwP.lev t < n ∧ TwP.Fine 20000 t ∧ (TwP.wr t).length ≤ 16000000 ∧ ∀ H', Same H H' → Q (sV (TwP.wr t)) H'
end
section
variable {P : Program} {w : World} {K : PySem.W.Frag} {mg : Str → Option Value} {base : Heap}
theorem df_WV (T : Fc K mg) : Df P w K mg base CX0 1 (He.ga K "written_value") ["value"] spWV := by
  refine df0 T.e_written_value sc_written_value (fun vs H Q E h => ?_) (fun cdv A outer s H vs Q E hr h => ⟨_,
    pss_cons (ps_if (pt_val (pe_callB call_isi rfl T.f_isinstance bi_isi (pa_cons (pv 0) (pa_cons (pe_tyN T.f_str bi_str) pa_nil))))
        (pss_cons (ps_set (i := 1) sc_written_value.nd rfl (.inl rfl) pe_str)
        (pss_cons (ps_for PassesOwn.never rfl (pi_str (pv 0)) (pg_name (i := 2) sc_written_value.nd rfl (.inl rfl))
          (pss_one (ps_set (i := 1) sc_written_value.nd rfl (.inl rfl) (pe_op op_catS (pe_op op_catS (pv 1) (pe_ifExp (pt_cmpR op_in_sign (pv 2) pe_str rfl) pe_str pe_str)) (pv 2)))))
        (pss_one (ps_ret (pe_op op_catS (pe_op op_catS pe_str (pv 1)) pe_str))))) pss_nil)
      (pss_one (ps_ret (pe_callTy (call_strD rfl T.ex.nd) rfl T.f_str bi_str (pa_cons (pv 0) pa_nil)))), ?_⟩)
  · obtain ⟨_, rfl, _⟩ := h
    rfl
  obtain ⟨v, rfl, hv, q⟩ := h
  cases v with
  | num i =>
    refine ⟨_, rfl, _, _, _, _, false, rfl, .ty _, isi_int, kit_ty (by decide +kernel), _, rfl, iteF ?_⟩
    exact ⟨_, rfl, i, rfl, TwP.small_lt hv, q⟩
  | txt l =>
    have hl : l.length ≤ 20000 := hv
    refine ⟨_, rfl, _, _, _, _, true, rfl, .ty _, isi_str, kit_ty (by decide +kernel), _, rfl, iteT ?_⟩
    refine ⟨_, rfl, _, rfl, for_str (l := l) (fun i σ H' => H' = H ∧ ∃ y, σ = [some (sV l), some (sV (TwP.esc (l.take i))), y]) ⟨rfl, none, rfl⟩ ?_ ?_⟩
    · rintro i c σ H' hi ⟨rfl, y, rfl⟩
      have h1 := esc_le l i
      refine ⟨_, rfl, _, rfl, c, Str.ofString "\"\\", rfl, rfl, _, rfl, ?_⟩
      have em : decide (c ∈ (Str.ofString "\"\\").cps.toList) = decide (c = 34 ∨ c = 92) := by
        have e0 : (Str.ofString "\"\\").cps.toList = [34, 92] := rfl
        rw [e0]
        simp
      show if decide (c ∈ (Str.ofString "\"\\").cps.toList) = true then _ else _
      rw [em]
      by_cases hc : c = 34 ∨ c = 92
      · rw [decide_eq_true hc]
        refine iteT ⟨_, [92], rfl, rfl, by rw [List.length_singleton]; omega, _, rfl, _, [c], rfl, rfl, by rw [List.length_append, List.length_singleton, List.length_singleton]; omega, rfl, some (sV [c]), ?_⟩
        rw [take_snoc hi, esc_snoc, if_pos hc, List.append_assoc]
        rfl
      · rw [decide_eq_false hc]
        refine iteF ⟨_, [], rfl, rfl, by rw [List.length_nil]; omega, _, rfl, _, [c], rfl, rfl, by rw [List.length_append, List.length_singleton, List.length_nil]; omega, rfl, some (sV [c]), ?_⟩
        rw [take_snoc hi, esc_snoc, if_neg hc, List.append_nil]
        rfl
    · rintro σ H' ⟨rfl, y, rfl⟩
      rw [List.take_length]
      have h1 := TwP.esc_len l
      refine ⟨_, rfl, [34], _, rfl, rfl, by rw [List.length_singleton]; omega, _, [34], rfl, rfl, by rw [List.length_append, List.length_singleton]; omega, ?_⟩
      have e : ([34] ++ TwP.esc l) ++ [34] = TwP.wrV (.txt l) := rfl
      rw [e]
      exact q
/-- the size of a text as a sum -/
theorem df_WA (T : Fc K mg) : Df P w K mg base CX0 2 (He.ga K "written_atom") ["test"] (spWA K) := by
  refine df0 T.e_written_atom sc_written_atom (fun vs H Q E h => ?_) (fun cdv A outer s H vs Q E hr h => ⟨_,
    pss_cons (ps_set (i := 1) sc_written_atom.nd rfl (.inl rfl) (pe_dm0 (df_TKind T) T.c_Test T.m_Test_kind hr pass0 (pv 0)))
    (pss_cons (ps_set (i := 2) sc_written_atom.nd rfl (.inl rfl) (pe_dm0 (df_TData T) T.c_Test T.m_Test_data hr pass0 (pv 0)))
    (pss_cons (ps_if (pt_cmpR op_eq (pv 1) pe_str (nomark _)) (pss_one (ps_ret
        (pe_op op_catS (pe_op op_catS (pe_op op_catS (pe_op op_catS (pe_ix ix_tup (pv 2) pe_int (fun _ _ => rfl)) pe_str) (pe_ix ix_tup (pv 2) pe_int (fun _ _ => rfl))) pe_str)
          (pe_df (df_WV T) T.g_written_value hr pass0 (pa_cons (pe_ix ix_tup (pv 2) pe_int (fun _ _ => rfl)) pa_nil))))) pss_nil)
    (pss_cons (ps_if (pt_cmpR op_eq (pv 1) pe_str (nomark _)) (pss_one (ps_ret
        (pe_op op_catS (pe_op op_catS (pe_op op_catS (pe_ix ix_tup (pv 2) pe_int (fun _ _ => rfl)) pe_str)
          (pe_join pe_str (pe_lc (own := [("value", 4)]) (g := gName 4) (tt := tYes) (te := tCall spWV [] E0 (tCons (tVar 4) tNil)) rfl sc_written_atom.nd (pi_tup (pe_ix ix_tup (pv 2) pe_int (fun _ _ => rfl)))
            (blkOk_by (N := ["test", "kind", "data", "more", "value"]) (sc := defScope s_written_atom) (by decide +kernel))
            (fun _ _ _ _ _ => pg_name (i := 4) sc_written_atom.nd rfl (Or.inl rfl)) (fun _ _ _ _ _ => pts_nil) (fun _ _ _ _ _ => by exact pe_df (df_WV T) T.g_written_value hr pass0 (pa_cons (pv 4) pa_nil))))) pe_str))) pss_nil)
    (pss_cons (ps_if (pt_cmpR op_eq (pv 1) pe_str (nomark _)) (pss_one (ps_ret
        (pe_op op_catS (pe_op op_catS (pe_ix ix_tup (pv 2) pe_int (fun _ _ => rfl)) pe_str) (pe_df (df_WV T) T.g_written_value hr pass0 (pa_cons (pe_ix ix_tup (pv 2) pe_int (fun _ _ => rfl)) pa_nil))))) pss_nil)
    (pss_cons (ps_if (pt_cmpR op_eq (pv 1) pe_str (nomark _)) (pss_one (ps_ret (pe_op op_catS (pe_ix ix_tup (pv 2) pe_int (fun _ _ => rfl)) pe_str))) pss_nil)
    (pss_cons (ps_if (pt_cmpR op_eq (pv 1) pe_str (nomark _))
        (pss_cons (ps_set (i := 3) sc_written_atom.nd rfl (.inl rfl) pe_str)
        (pss_cons (ps_if (pt_cmpR op_ne (pe_ix ix_tup (pv 2) pe_int (fun _ _ => rfl)) pe_int (nomark _))
          (pss_one (ps_set (i := 3) sc_written_atom.nd rfl (.inl rfl) (pe_ifExp (pt_cmpR op_gt (pe_ix ix_tup (pv 2) pe_int (fun _ _ => rfl)) pe_int (nomark _))
            (pe_op op_catS pe_str (pe_callTy (call_strD rfl T.ex.nd) rfl T.f_str bi_str (pa_cons (pe_ix ix_tup (pv 2) pe_int (fun _ _ => rfl)) pa_nil)))
            (pe_op op_catS pe_str (pe_callTy (call_strD rfl T.ex.nd) rfl T.f_str bi_str (pa_cons (pe_un un_neg (pe_ix ix_tup (pv 2) pe_int (fun _ _ => rfl))) pa_nil)))))) pss_nil)
        (pss_one (ps_ret (pe_op op_catS (pe_op op_catS (pe_op op_catS (pe_op op_catS (pe_op op_catS (pe_ix ix_tup (pv 2) pe_int (fun _ _ => rfl)) pe_str) (pe_ix ix_tup (pv 2) pe_int (fun _ _ => rfl))) pe_str) (pe_ix ix_tup (pv 2) pe_int (fun _ _ => rfl))) (pv 3)))))) pss_nil)
    (pss_one (ps_ret (pv 1))))))))), ?_⟩)
  · obtain ⟨_, _, rfl, _⟩ := h
    rfl
  obtain ⟨a, t, rfl, ht, hsub, hf, hw, q⟩ := h
  obtain ⟨ys, ⟨dx, d, p, ds, ha, hd, hp, hda⟩, hS⟩ := ht.node
  have nk : ∀ m : Str, (m == ("_kind" : Str)) = false ∧ (m == ("_data" : Str)) = false ∧ (m == ("_parts" : Str)) = false → (tfs (kindT t) d p).lookup m = none := fun m hm => ht.nolk ha hm
  have h0 : V.ref a = V.ref a := rfl
  refine ⟨_, rfl, a, dx, _, rfl, ha, nk _ (by decide), a, dx, d, p, _, rfl, ha, ?_⟩
  refine ⟨_, rfl, a, dx, _, rfl, ha, nk _ (by decide), a, dx, d, p, _, rfl, ha, ?_⟩
  cases t with
  | cmp c op v =>
    obtain ⟨f1, f2, f3⟩ := hf
    cases (show ds = [sV c, sV op, vV v] from hda)
    have hw' := hw
    simp only [TwP.wr, List.length_append, List.length_cons] at hw'
    refine ⟨_, rfl, rfl, _, rfl, ifTb rfl ?_⟩
    refine ⟨_, rfl, d, _, _, _, rfl, rfl, SqT.of hd, atI_nat (j := 0) rfl, _, [32], rfl, rfl, by simp only [List.length_append, List.length_cons, List.length_nil]; omega, ?_⟩
    refine ⟨_, rfl, d, _, _, _, rfl, rfl, SqT.of hd, atI_nat (j := 1) rfl, _, _, rfl, rfl, by simp only [List.length_append, List.length_cons, List.length_nil]; omega, _, [32], rfl, rfl, by simp only [List.length_append, List.length_cons, List.length_nil]; omega, ?_⟩
    refine ⟨_, rfl, d, _, _, _, rfl, rfl, SqT.of hd, atI_nat (j := 2) rfl, v, rfl, f3, _, _, rfl, rfl, by simp only [List.length_append, List.length_cons, List.length_nil]; omega, ?_⟩
    have e : (((c ++ [32]) ++ op) ++ [32]) ++ TwP.wrV v = TwP.wr (.cmp c op v) := by simp [TwP.wr]
    rw [e]
    exact q H (Same.refl H)
  | amg c vs =>
    obtain ⟨f1, f2, f3⟩ := hf
    obtain ⟨l, hl, hq⟩ := (show ∃ q, ds = [sV c, .ref q] ∧ H q = some (.tup (vs.map vV)) from hda)
    cases hl
    have hw' := hw
    simp only [TwP.wr, List.length_append, List.length_cons, List.length_nil] at hw'
    refine ⟨_, rfl, rfl, _, rfl, ifFb rfl ?_⟩
    refine ⟨_, rfl, rfl, _, rfl, ifTb rfl ?_⟩
    refine ⟨_, rfl, d, _, _, _, rfl, rfl, SqT.of hd, atI_nat (j := 0) rfl, _, [32, 105, 110, 32, 40], rfl, rfl, by simp only [List.length_append, List.length_cons, List.length_nil]; omega, ?_⟩
    refine ⟨⟨_, rfl⟩, _, rfl, d, _, _, _, rfl, rfl, SqT.of hd, atI_nat (j := 1) rfl, l, rfl, ⟨_, SqT.of hq⟩, fun D hD => ?_⟩
    refine it_tup (K := K) (a := l) (xs := vs.map vV) (fun i H' => Same H H' ∧ H' D = some (.lst (((vs.take i).map TwP.wrV).map sV))) ⟨same_new hD _, upd_same⟩ (fun i H' _ h => SqT.of (h.1 _ _ hq)) ?_ ?_
    · rintro i y H1 hi ⟨e1, hDl⟩
      obtain ⟨v, hv, rfl⟩ : ∃ v, vs[i]? = some v ∧ y = vV v := by
        rw [List.getElem?_map] at hi
        cases e : vs[i]? with
        | none =>
          rw [e] at hi
          cases hi
        | some v =>
          rw [e] at hi
          exact ⟨v, rfl, (Option.some.inj hi).symm⟩
      refine ⟨rfl, tyes (iteT ⟨_, rfl, v, rfl, f3 v (List.mem_of_getElem? hv), _, hDl, ?_, same_of_keep hD e1 (keepR_upd _), ?_⟩)⟩
      · rw [List.length_map, List.length_map, List.length_take]
        exact lt_line (by omega)
      · rw [upd_same, List.take_succ, hv, List.map_append, List.map_append]
        rfl
    · rintro H1 ⟨e1, hDl⟩
      rw [List.length_map, List.take_length] at hDl
      refine ⟨_, D, (vs.map TwP.wrV).map SX.S, rfl, rfl, .inl (SqL.of (by rw [hDl, List.map_map (f := SX.S)]; rfl)), ?_, ?_⟩
      · have h1 : ((vs.map TwP.wrV).map (fun x => x.length)).sum ≤ vs.length * (2 * 20000 + 1002) := sum_len vs f3
        have h2 : vs.length * (2 * 20000 + 1002) ≤ 8 * (2 * 20000 + 1002) := Nat.mul_le_mul_right _ f2
        rw [SX.lens, List.length_map, List.length_map]
        have h3 : (Str.ofString ", ").length = 2 := rfl
        rw [h3]
        exact Nat.le_trans (Nat.add_le_add_right h1 _) (by omega)
      · have ej : Txt.join (Str.ofString ", ") ((vs.map TwP.wrV).map SX.S) = SX.S (TwP.joinV vs) := by
          have := SX.join_S [44, 32] (vs.map TwP.wrV)
          rw [joinV_L] at this
          exact this
        refine ⟨_, TwP.joinV vs, rfl, congrArg V.str ej, by simp only [List.length_append, List.length_cons, List.length_nil]; omega, _, [41], rfl, rfl, by simp only [List.length_append, List.length_cons, List.length_nil]; omega, ?_⟩
        have e : ((c ++ [32, 105, 110, 32, 40]) ++ TwP.joinV vs) ++ [41] = TwP.wr (.amg c vs) := by simp [TwP.wr]
        rw [e]
        exact q H1 e1
  | beg c l =>
    obtain ⟨f1, f2⟩ := hf
    cases (show ds = [sV c, sV l] from hda)
    have hw' := hw
    simp only [TwP.wr, List.length_append, List.length_cons, List.length_nil] at hw'
    refine ⟨_, rfl, rfl, _, rfl, ifFb rfl ?_⟩
    refine ⟨_, rfl, rfl, _, rfl, ifFb rfl ?_⟩
    refine ⟨_, rfl, rfl, _, rfl, ifTb rfl ?_⟩
    refine ⟨_, rfl, d, _, _, _, rfl, rfl, SqT.of hd, atI_nat (j := 0) rfl, _, [32, 98, 101, 103, 105, 110, 115, 32], rfl, rfl, by simp only [List.length_append, List.length_cons, List.length_nil]; omega, ?_⟩
    refine ⟨_, rfl, d, _, _, _, rfl, rfl, SqT.of hd, atI_nat (j := 1) rfl, .txt l, rfl, f2, _, _, rfl, rfl, by simp only [List.length_append, List.length_cons, List.length_nil]; omega, ?_⟩
    have e : (c ++ [32, 98, 101, 103, 105, 110, 115, 32]) ++ TwP.wrV (.txt l) = TwP.wr (.beg c l) := by simp [TwP.wr]
    rw [e]
    exact q H (Same.refl H)
  | emp c =>
    have f1 : c.length ≤ 8 := hf
    cases (show ds = [sV c] from hda)
    refine ⟨_, rfl, rfl, _, rfl, ifFb rfl ?_⟩
    refine ⟨_, rfl, rfl, _, rfl, ifFb rfl ?_⟩
    refine ⟨_, rfl, rfl, _, rfl, ifFb rfl ?_⟩
    refine ⟨_, rfl, rfl, _, rfl, ifTb rfl ?_⟩
    refine ⟨_, rfl, d, _, _, _, rfl, rfl, SqT.of hd, atI_nat (j := 0) rfl, _, [32, 105, 115, 32, 101, 109, 112, 116, 121], rfl, rfl, by simp only [List.length_append, List.length_cons, List.length_nil]; omega, ?_⟩
    exact q H (Same.refl H)
  | agn c op o m =>
    obtain ⟨f1, f2, f3, f4⟩ := hf
    cases (show ds = [sV c, sV op, sV o, .int m] from hda)
    have hw' := hw
    simp only [TwP.wr, List.length_append, List.length_cons, List.length_nil] at hw'
    have fin : ∀ σ : L2.St, σ[2]? = some (some (.ref d)) → σ[3]? = some (some (sV (TwP.wrMore m))) →
        tRet (tOp rCatS (tOp rCatS (tOp rCatS (tOp rCatS (tOp rCatS (tOp (rIxT K) (tVar 2) (tC (.int 0))) (tC (.str " "))) (tOp (rIxT K) (tVar 2) (tC (.int 1)))) (tC (.str " "))) (tOp (rIxT K) (tVar 2) (tC (.int 2)))) (tVar 3)) { nx := fun _ H' => Q .non H', rt := Q } σ H := fun σ h2 h3 => by
      refine ⟨_, h2, d, _, _, _, rfl, rfl, SqT.of hd, atI_nat (j := 0) rfl, _, [32], rfl, rfl, by simp only [List.length_append, List.length_cons, List.length_nil]; omega, ?_⟩
      refine ⟨_, h2, d, _, _, _, rfl, rfl, SqT.of hd, atI_nat (j := 1) rfl, _, _, rfl, rfl, by simp only [List.length_append, List.length_cons, List.length_nil]; omega, _, [32], rfl, rfl, by simp only [List.length_append, List.length_cons, List.length_nil]; omega, ?_⟩
      refine ⟨_, h2, d, _, _, _, rfl, rfl, SqT.of hd, atI_nat (j := 2) rfl, _, _, rfl, rfl, by simp only [List.length_append, List.length_cons, List.length_nil]; omega, _, h3, _, _, rfl, rfl, by simp only [List.length_append, List.length_cons, List.length_nil]; omega, ?_⟩
      have e : ((((c ++ [32]) ++ op) ++ [32]) ++ o) ++ TwP.wrMore m = TwP.wr (.agn c op o m) := by simp [TwP.wr]
      rw [e]
      exact q H (Same.refl H)
    refine ⟨_, rfl, rfl, _, rfl, ifFb rfl ?_⟩
    refine ⟨_, rfl, rfl, _, rfl, ifFb rfl ?_⟩
    refine ⟨_, rfl, rfl, _, rfl, ifFb rfl ?_⟩
    refine ⟨_, rfl, rfl, _, rfl, ifFb rfl ?_⟩
    refine ⟨_, rfl, rfl, _, rfl, ifTb rfl ?_⟩
    refine ⟨_, rfl, d, _, _, _, rfl, rfl, SqT.of hd, atI_nat (j := 3) rfl, rfl, _, rfl, ?_⟩
    show if (!decide (V.int m = V.int 0)) = true then _ else _
    by_cases h0 : m = 0
    · subst h0
      refine ifFb rfl ?_
      exact fin _ rfl rfl
    · have hn : (!decide (V.int m = V.int 0)) = true := by
        rw [decide_eq_false fun z => h0 (V.int.inj z)]
        rfl
      refine ifTb hn ⟨_, rfl, d, _, _, _, rfl, rfl, SqT.of hd, atI_nat (j := 3) rfl, _, _, rfl, rfl, _, rfl, ?_⟩
      by_cases hp : (0 : Int) < m
      · rw [decide_eq_true hp]
        have hi := TwP.intL_len f4
        refine iteT ⟨_, rfl, d, _, _, _, rfl, rfl, SqT.of hd, atI_nat (j := 3) rfl, m, rfl, TwP.small_lt f4, [32, 43, 32], TwP.intL m, rfl, rfl, by simp only [List.length_append, List.length_cons, List.length_nil]; omega, ?_⟩
        refine fin _ rfl ?_
        show some (some (sV ([32, 43, 32] ++ TwP.intL m))) = _
        unfold TwP.wrMore
        rw [if_neg h0, if_pos hp]
      · rw [decide_eq_false hp]
        have f4' : TwP.Small (-m).natAbs := by
          rw [Int.natAbs_neg]
          exact f4
        have hi := TwP.intL_len f4'
        refine iteF ⟨_, rfl, d, _, _, _, rfl, rfl, SqT.of hd, atI_nat (j := 3) rfl, m, rfl, -m, rfl, TwP.small_lt f4', [32, 45, 32], TwP.intL (-m), rfl, rfl, by simp only [List.length_append, List.length_cons, List.length_nil]; omega, ?_⟩
        refine fin _ rfl ?_
        show some (some (sV ([32, 45, 32] ++ TwP.intL (-m)))) = _
        unfold TwP.wrMore
        rw [if_neg h0, if_neg hp]
  | alw =>
    refine ⟨_, rfl, rfl, _, rfl, ifFb rfl ?_⟩
    refine ⟨_, rfl, rfl, _, rfl, ifFb rfl ?_⟩
    refine ⟨_, rfl, rfl, _, rfl, ifFb rfl ?_⟩
    refine ⟨_, rfl, rfl, _, rfl, ifFb rfl ?_⟩
    refine ⟨_, rfl, rfl, _, rfl, ifFb rfl ?_⟩
    exact ⟨_, rfl, q H (Same.refl H)⟩
  | nev =>
    refine ⟨_, rfl, rfl, _, rfl, ifFb rfl ?_⟩
    refine ⟨_, rfl, rfl, _, rfl, ifFb rfl ?_⟩
    refine ⟨_, rfl, rfl, _, rfl, ifFb rfl ?_⟩
    refine ⟨_, rfl, rfl, _, rfl, ifFb rfl ?_⟩
    refine ⟨_, rfl, rfl, _, rfl, ifFb rfl ?_⟩
    exact ⟨_, rfl, q H (Same.refl H)⟩
  | and x y => cases hsub
  | or x y => cases hsub
  | not x => cases hsub
  | sure x => cases hsub
theorem br_ge (b : Bool) (l : Tx) : l.length ≤ (TwP.br b l).length := by
  cases b
  · exact Nat.le_refl _
  · show l.length ≤ (40 :: (l ++ [41])).length
    rw [List.length_cons, List.length_append]
    omega
theorem has_o (t : Tr) : [TwP.kOr].contains (kindT t) = TwP.isO t := by cases t <;> rfl
theorem has_ao (t : Tr) : [TwP.kAnd, TwP.kOr].contains (kindT t) = TwP.isAO t := by cases t <;> rfl
theorem spBr_imp {k : Tx} (x : k = k) : True := trivial
/-- bracketed, by written -/
theorem df_Br (T : Fc K mg) {n k : Nat} (W : Df P w K mg base CX0 (k + 1) (He.ga K "written") ["test"] (spWr K n)) : Df P w K mg base CX0 (k + 2) (He.ga K "bracketed") ["test", "kinds"] (spBr K n) := by
  refine df0 T.e_bracketed sc_bracketed (fun vs H Q E h => ?_) (fun cdv A outer s H vs Q E hr h => ⟨_,
    pss_cons (ps_if (pt_cmpR op_in_seq (pe_dm0 (df_TKind T) T.c_Test T.m_Test_kind (hr.mono (by omega)) pass0 (pv 0)) (pv 1) rfl)
      (pss_one (ps_ret (pe_op op_catS (pe_op op_catS pe_str (pe_df W T.g_written hr pass0 (pa_cons (pv 0) pa_nil))) pe_str))) pss_nil)
    (pss_one (ps_ret (pe_df W T.g_written hr pass0 (pa_cons (pv 0) pa_nil)))), ?_⟩)
  · obtain ⟨_, _, _, _, rfl, _⟩ := h
    rfl
  obtain ⟨a, t, kp, ks, rfl, ht, hk, hn, hf, hw, q⟩ := h
  obtain ⟨ys, ⟨dx, d, p, ds, ha, _⟩, _⟩ := ht.node
  refine ⟨_, rfl, a, dx, _, rfl, ha, ht.nolk ha (by decide), a, dx, d, p, _, rfl, ha, _, rfl, kp, _, rfl, .inr (SqT.of hk), rfl, flat_S _, _, rfl, ?_⟩
  show if (inV (sV (kindT t)) (ks.map sV)) = true then _ else _
  rw [inV_S]
  cases hc : ks.contains (kindT t) with
  | true =>
    rw [hc] at q
    refine iteT ⟨_, rfl, a, t, rfl, ht, hn, hf, hw, fun H1 e1 => ?_⟩
    refine ⟨[40], _, rfl, rfl, by simp only [List.length_cons, List.length_nil]; omega, _, [41], rfl, rfl, by simp only [List.length_append, List.length_cons, List.length_nil]; omega, q H1 e1⟩
  | false =>
    rw [hc] at q
    exact iteF ⟨_, rfl, a, t, rfl, ht, hn, hf, hw, q⟩
theorem df_Wr (T : Fc K mg) : ∀ n : Nat, Df P w K mg base CX0 (2 * n + 3) (He.ga K "written") ["test"] (spWr K n)
  | 0 => df_none T.e_written fun vs H Q E h => by
    obtain ⟨_, _, _, _, h, _⟩ := h
    omega
  | n + 1 => by
    have B := df_Br (k := 2 * n + 2) T (df_Wr T n)
    refine df0 T.e_written sc_written (fun vs H Q E h => ?_) (fun cdv A outer s H vs Q E hr h => ⟨_,
      pss_cons (ps_set (i := 1) sc_written.nd rfl (.inl rfl) (pe_dm0 (df_TKind T) T.c_Test T.m_Test_kind (hr.mono (by omega)) pass0 (pv 0)))
      (pss_cons (ps_set (i := 2) sc_written.nd rfl (.inl rfl) (pe_dm0 (df_TParts T) T.c_Test T.m_Test_parts (hr.mono (by omega)) pass0 (pv 0)))
      (pss_cons (ps_if (pt_not (pt_truth (pv 2) (by intro _; rfl))) (pss_one (ps_ret (pe_df (df_WA T) T.g_written_atom (hr.mono (by omega)) pass0 (pa_cons (pv 0) pa_nil)))) pss_nil)
      (pss_cons (ps_if (pt_cmpR op_eq (pv 1) pe_str (nomark _)) (pss_one (ps_ret (pe_op op_catS (pe_op op_catS (pe_df B T.g_bracketed hr pass0 (pa_cons (pe_ix ix_list (pv 2) pe_int (fun _ _ => rfl)) (pa_cons (pe_tup (pa_cons pe_str pa_nil)) pa_nil))) pe_str)
          (pe_df B T.g_bracketed hr pass0 (pa_cons (pe_ix ix_list (pv 2) pe_int (fun _ _ => rfl)) (pa_cons (pe_tup (pa_cons pe_str (pa_cons pe_str pa_nil))) pa_nil)))))) pss_nil)
      (pss_cons (ps_if (pt_cmpR op_eq (pv 1) pe_str (nomark _)) (pss_one (ps_ret (pe_op op_catS (pe_op op_catS (pe_df B T.g_bracketed hr pass0 (pa_cons (pe_ix ix_list (pv 2) pe_int (fun _ _ => rfl)) (pa_cons (pe_tup pa_nil) pa_nil))) pe_str)
          (pe_df B T.g_bracketed hr pass0 (pa_cons (pe_ix ix_list (pv 2) pe_int (fun _ _ => rfl)) (pa_cons (pe_tup (pa_cons pe_str pa_nil)) pa_nil)))))) pss_nil)
      (pss_one (ps_ret (pe_op op_catS (pe_op op_catS (pv 1) pe_str)
          (pe_df B T.g_bracketed hr pass0 (pa_cons (pe_ix ix_list (pv 2) pe_int (fun _ _ => rfl)) (pa_cons (pe_tup (pa_cons pe_str (pa_cons pe_str pa_nil))) pa_nil)))))))))), ?_⟩)
    · obtain ⟨_, _, rfl, _⟩ := h
      rfl
    obtain ⟨a, t, rfl, ht, hn, hf, hw, q⟩ := h
    obtain ⟨ys, ⟨dx, d, p, ds, ha, hd, hp, hda⟩, hS⟩ := ht.node
    have nk : ∀ m : Str, (m == ("_kind" : Str)) = false ∧ (m == ("_data" : Str)) = false ∧ (m == ("_parts" : Str)) = false → (tfs (kindT t) d p).lookup m = none := fun m hm => ht.nolk ha hm
    refine ⟨_, rfl, a, dx, _, rfl, ha, nk _ (by decide), a, dx, d, p, _, rfl, ha, ?_⟩
    refine ⟨_, rfl, a, dx, _, rfl, ha, nk _ (by decide), a, dx, d, p, _, ys, rfl, ha, hp, fun l hl => ?_⟩
    have e0 : Same H (upd H l (.lst ys)) := same_new hl _
    have hll : (upd H l (.lst ys)) l = some (.lst ys) := upd_same
    refine ⟨_, rfl, _, .inl ⟨ys, SqL.of upd_same, rfl⟩, ?_⟩
    have hlen := tup_pos hS
    cases t with
    | and x y =>
      obtain ⟨ax, ay, _, hx, hy⟩ := ht
      obtain ⟨fx, fy⟩ := hf
      have hlv : max (TwP.lev x + 1) (TwP.lev y + 1) < n + 1 := hn
      have hw' := hw
      simp only [TwP.wr, List.length_append, List.length_cons, List.length_nil] at hw'
      have gx := br_ge (TwP.isO x) (TwP.wr x)
      have gy := br_ge (TwP.isAO y) (TwP.wr y)
      cases hS with
      | cons s1 hS =>
      cases hS with
      | cons s2 hS =>
      cases hS
      obtain ⟨bx, rfl, hbx⟩ := s1
      obtain ⟨by', rfl, hby⟩ := s2
      refine iteF ⟨_, rfl, rfl, _, rfl, ifTb rfl ?_⟩
      refine ⟨_, rfl, l, _, _, _, rfl, rfl, SqL.of hll, atI_nat (j := 0) rfl, by show 1 ≤ sizeLine; decide, fun k1 hk1 => ?_⟩
      refine ⟨bx, x, k1, [TwP.kOr], rfl, hbx.same (same_add e0 hk1 _), upd_same, by omega, fx, by omega, fun H2 e2 => ?_⟩
      rw [has_o]
      refine ⟨_, [32, 97, 110, 100, 32], rfl, rfl, by simp only [List.length_append, List.length_cons, List.length_nil]; omega, ?_⟩
      have e3 := (same_add e0 hk1 (.tup [sV TwP.kOr])).trans e2
      refine ⟨_, rfl, l, _, _, _, rfl, rfl, SqL.of (e2 _ _ ((same_new hk1 _) _ _ hll)), atI_nat (j := 1) rfl, by show 2 ≤ sizeLine; decide, fun k2 hk2 => ?_⟩
      refine ⟨by', y, k2, [TwP.kAnd, TwP.kOr], rfl, hby.same (same_add e3 hk2 _), upd_same, by omega, fy, by omega, fun H4 e4 => ?_⟩
      rw [has_ao]
      refine ⟨_, _, rfl, rfl, by simp only [List.length_append, List.length_cons, List.length_nil]; omega, ?_⟩
      have e : (TwP.br (TwP.isO x) (TwP.wr x) ++ [32, 97, 110, 100, 32]) ++ TwP.br (TwP.isAO y) (TwP.wr y) = TwP.wr (.and x y) := by simp [TwP.wr]
      rw [e]
      exact q H4 ((same_add e3 hk2 _).trans e4)
    | or x y =>
      obtain ⟨ax, ay, _, hx, hy⟩ := ht
      obtain ⟨fx, fy⟩ := hf
      have hlv : max (TwP.lev x + 1) (TwP.lev y + 1) < n + 1 := hn
      have hw' := hw
      simp only [TwP.wr, List.length_append, List.length_cons, List.length_nil] at hw'
      have gy := br_ge (TwP.isO y) (TwP.wr y)
      cases hS with
      | cons s1 hS =>
      cases hS with
      | cons s2 hS =>
      cases hS
      obtain ⟨bx, rfl, hbx⟩ := s1
      obtain ⟨by', rfl, hby⟩ := s2
      refine iteF ⟨_, rfl, rfl, _, rfl, ifFb rfl ?_⟩
      refine ⟨_, rfl, rfl, _, rfl, ifTb rfl ?_⟩
      refine ⟨_, rfl, l, _, _, _, rfl, rfl, SqL.of hll, atI_nat (j := 0) rfl, by show 0 ≤ sizeLine; decide, fun k1 hk1 => ?_⟩
      refine ⟨bx, x, k1, [], rfl, hbx.same (same_add e0 hk1 _), upd_same, by omega, fx, by omega, fun H2 e2 => ?_⟩
      refine ⟨TwP.wr x, [32, 111, 114, 32], rfl, rfl, by simp only [List.length_append, List.length_cons, List.length_nil]; omega, ?_⟩
      have e3 := (same_add e0 hk1 (.tup [])).trans e2
      refine ⟨_, rfl, l, _, _, _, rfl, rfl, SqL.of (e2 _ _ ((same_new hk1 _) _ _ hll)), atI_nat (j := 1) rfl, by show 1 ≤ sizeLine; decide, fun k2 hk2 => ?_⟩
      refine ⟨by', y, k2, [TwP.kOr], rfl, hby.same (same_add e3 hk2 _), upd_same, by omega, fy, by omega, fun H4 e4 => ?_⟩
      rw [has_o]
      refine ⟨_, _, rfl, rfl, by simp only [List.length_append, List.length_cons, List.length_nil]; omega, ?_⟩
      have e : (TwP.wr x ++ [32, 111, 114, 32]) ++ TwP.br (TwP.isO y) (TwP.wr y) = TwP.wr (.or x y) := by simp [TwP.wr]
      rw [e]
      exact q H4 ((same_add e3 hk2 _).trans e4)
    | not x =>
      have hlv : TwP.lev x + 1 < n + 1 := hn
      have fx : TwP.Fine 20000 x := hf
      have hw' := hw
      simp only [TwP.wr, List.length_append, List.length_cons, List.length_nil] at hw'
      have gx := br_ge (TwP.isAO x) (TwP.wr x)
      have kl : TwP.kNot.length = 3 := rfl
      cases hS with
      | cons s1 hS =>
      cases hS
      obtain ⟨bx, rfl, hbx⟩ := s1
      refine iteF ⟨_, rfl, rfl, _, rfl, ifFb rfl ?_⟩
      refine ⟨_, rfl, rfl, _, rfl, ifFb rfl ?_⟩
      refine ⟨_, rfl, TwP.kNot, [32], rfl, rfl, by simp only [List.length_append, List.length_cons, List.length_nil]; omega, ?_⟩
      refine ⟨_, rfl, l, _, _, _, rfl, rfl, SqL.of hll, atI_nat (j := 0) rfl, by show 2 ≤ sizeLine; decide, fun k1 hk1 => ?_⟩
      refine ⟨bx, x, k1, [TwP.kAnd, TwP.kOr], rfl, hbx.same (same_add e0 hk1 _), upd_same, by omega, fx, by omega, fun H2 e2 => ?_⟩
      rw [has_ao]
      refine ⟨_, _, rfl, rfl, by simp only [List.length_append, List.length_cons, List.length_nil]; omega, ?_⟩
      have e : (TwP.kNot ++ [32]) ++ TwP.br (TwP.isAO x) (TwP.wr x) = TwP.wr (.not x) := by simp [TwP.wr]
      rw [e]
      exact q H2 ((same_add e0 hk1 _).trans e2)
    | sure x =>
      have hlv : TwP.lev x + 1 < n + 1 := hn
      have fx : TwP.Fine 20000 x := hf
      have hw' := hw
      simp only [TwP.wr, List.length_append, List.length_cons, List.length_nil] at hw'
      have gx := br_ge (TwP.isAO x) (TwP.wr x)
      have kl : TwP.kSure.length = 4 := rfl
      cases hS with
      | cons s1 hS =>
      cases hS
      obtain ⟨bx, rfl, hbx⟩ := s1
      refine iteF ⟨_, rfl, rfl, _, rfl, ifFb rfl ?_⟩
      refine ⟨_, rfl, rfl, _, rfl, ifFb rfl ?_⟩
      refine ⟨_, rfl, TwP.kSure, [32], rfl, rfl, by simp only [List.length_append, List.length_cons, List.length_nil]; omega, ?_⟩
      refine ⟨_, rfl, l, _, _, _, rfl, rfl, SqL.of hll, atI_nat (j := 0) rfl, by show 2 ≤ sizeLine; decide, fun k1 hk1 => ?_⟩
      refine ⟨bx, x, k1, [TwP.kAnd, TwP.kOr], rfl, hbx.same (same_add e0 hk1 _), upd_same, by omega, fx, by omega, fun H2 e2 => ?_⟩
      rw [has_ao]
      refine ⟨_, _, rfl, rfl, by simp only [List.length_append, List.length_cons, List.length_nil]; omega, ?_⟩
      have e : (TwP.kSure ++ [32]) ++ TwP.br (TwP.isAO x) (TwP.wr x) = TwP.wr (.sure x) := by simp [TwP.wr]
      rw [e]
      exact q H2 ((same_add e0 hk1 _).trans e2)
    | cmp c op v =>
      cases hS
      exact iteT ⟨_, rfl, a, _, rfl, ht.same e0, rfl, hf, hw, fun H2 e2 => q H2 (e0.trans e2)⟩
    | agn c op o m =>
      cases hS
      exact iteT ⟨_, rfl, a, _, rfl, ht.same e0, rfl, hf, hw, fun H2 e2 => q H2 (e0.trans e2)⟩
    | amg c vs =>
      cases hS
      exact iteT ⟨_, rfl, a, _, rfl, ht.same e0, rfl, hf, hw, fun H2 e2 => q H2 (e0.trans e2)⟩
    | beg c l =>
      cases hS
      exact iteT ⟨_, rfl, a, _, rfl, ht.same e0, rfl, hf, hw, fun H2 e2 => q H2 (e0.trans e2)⟩
    | emp c =>
      cases hS
      exact iteT ⟨_, rfl, a, _, rfl, ht.same e0, rfl, hf, hw, fun H2 e2 => q H2 (e0.trans e2)⟩
    | alw =>
      cases hS
      exact iteT ⟨_, rfl, a, _, rfl, ht.same e0, rfl, hf, hw, fun H2 e2 => q H2 (e0.trans e2)⟩
    | nev =>
      cases hS
      exact iteT ⟨_, rfl, a, _, rfl, ht.same e0, rfl, hf, hw, fun H2 e2 => q H2 (e0.trans e2)⟩
/-- __str__ -/
theorem df_Str (T : Fc K mg) : Df P w K mg base CX0 30 (mT K "__str__") ["self"] (spWr K 13) := by
  refine df0 T.e_Test_str sc_Test_str (fun vs H Q E h => ?_) (fun cdv A outer s H vs Q E hr h => ⟨_, pss_one (ps_ret (pe_callTy SkE.call_str_str rfl T.f_str bi_str (pa_cons (pe_df (df_Wr T 13) T.g_written hr pass0 (pa_cons (pv 0) pa_nil)) pa_nil))), ?_⟩)
  · obtain ⟨_, _, rfl, _⟩ := h
    rfl
  obtain ⟨a, t, rfl, ht, hn, hf, hw, q⟩ := h
  exact ⟨_, rfl, a, t, rfl, ht, hn, hf, hw, fun H1 e1 => ⟨_, rfl, q H1 e1⟩⟩
end
end Tw
end

section
set_option Elab.async false
set_option linter.all false
set_option maxRecDepth 100000
set_option maxHeartbeats 4000000
/-! The walks of the module of reading: tokens, unquoted, number_of. -/
namespace Tw
open PySem PySem.Spec PyProof.Rows L2
open TwP (Tx Val)
section
variable (K : PySem.W.Frag)
/-- BadText(0) at H' -/
def B0 (E : XK) (H' : Hp) (dd : Addr) : Prop := H' dd = some (.xd [("line", .int 0)]) → E (.ref (He.ga K "BadText")) (some dd) H'
/-- a number, or BadText(0) -/
def resN (H : Hp) (Q : VK) (E : XK) (s : Nat) : Option Nat → Prop
  | none => ∀ dd H', Same H H' → B0 K E H' dd
  | some k => Q (.int ((s + k : Nat) : Int)) H
def spQEnd : Sp := fun vs H Q E => ∃ (l : Tx) (s : Nat), vs = [sV l, .int (s : Int)] ∧ s < l.length ∧ l.length ≤ 20000 ∧ resN K H Q E (s + 1) (TwP.qLen (l.drop (s + 1)))
def spWEnd : Sp := fun vs H Q E => ∃ (l : Tx) (s : Nat), vs = [sV l, .int (s : Int)] ∧ s < l.length ∧ l.length ≤ 20000 ∧ resN K H Q E s (TwP.wLen (l.drop s))
def spTokens : Sp := fun vs H Q E => ∃ (l : Tx), vs = [sV l] ∧ l.length ≤ 20000 ∧ match TwP.tokens l with
  | none => ∀ dd H', Same H H' → B0 K E H' dd
  | some ts => ∀ H' q, Same H H' → H q = none → H' q = some (.lst (ts.map sV)) → Q (.ref q) H'
def spUnq : Sp := fun vs H Q E => ∃ (t : Tx), vs = [sV t] ∧ t.length ≤ 20000 ∧ match TwP.unq false (TwP.inner t) with
  | none => ∀ dd H', Same H H' → B0 K E H' dd
  | some l => Q (sV l) H
def spNum : Sp := fun vs H Q E => ∃ (t : Tx), vs = [sV t] ∧ t.length ≤ 20000 ∧ match TwP.numOf t with
  | none => ∀ dd H', Same H H' → B0 K E H' dd
  | some n => Q (.int (n : Int)) H
end
theorem drop_cons {l : Tx} {i c : Nat} (h : l[i]? = some c) : l.drop i = c :: l.drop (i + 1) := by
  obtain ⟨h1, h2⟩ := List.getElem?_eq_some_iff.mp h
  rw [← h2]
  exact List.drop_eq_getElem_cons h1
theorem get_lt {l : Tx} {i : Nat} (h : i < l.length) : ∃ c, l[i]? = some c := ⟨l[i], List.getElem?_eq_getElem h⟩
theorem qLen_skip {c d : Nat} {r : Tx} (h1 : c ≠ 34) (h2 : c = 92) : TwP.qLen (c :: d :: r) = (TwP.qLen r).map (· + 2) := by
  conv => lhs; unfold TwP.qLen
  rw [if_neg h1, if_pos h2]
theorem qLen_last {c : Nat} (h1 : c ≠ 34) : TwP.qLen [c] = none := by
  unfold TwP.qLen
  rw [if_neg h1]
theorem qLen_hit (r : Tx) : TwP.qLen (34 :: r) = some 1 := by
  cases r <;> (unfold TwP.qLen; rfl)
theorem qLen_nil : TwP.qLen [] = none := rfl
theorem qLen_one {c : Nat} {r : Tx} (h1 : c ≠ 34) (h2 : c ≠ 92) : TwP.qLen (c :: r) = (TwP.qLen r).map (· + 1) := by
  cases r with
  | nil => rw [qLen_last h1]; rfl
  | cons d r => exact TwP.qLen_plain h1 h2 (by simp)
section
variable {P : Program} {w : World} {K : PySem.W.Frag} {mg : Str → Option Value} {base : Heap}
theorem B0.new {E : XK} {H H1 : Hp} (e : Same H H1) (q : ∀ dd H', Same H H' → B0 K E H' dd) : ∀ d, H1 d = none → E (.ref (He.ga K "BadText")) (some d) (upd H1 d (.xd [(PySem.TwX.Fl.s .line, .int 0)])) := fun d hd => q d _ (same_add e hd _) upd_same
theorem q_int {Q : VK} {i j : Int} {H : Hp} (e : i = j) (q : Q (.int j) H) : Q (.int i) H := by
  rw [e]
  exact q
theorem map_fuse {o : Option Nat} {a b c : Nat} (h : c = b + a) : (o.map (· + a)).map (· + b) = o.map (· + c) := by
  subst h
  cases o with
  | none => rfl
  | some x => show some (x + a + b) = some (x + (b + a)); congr 1; omega
theorem df_QEnd (T : Fc K mg) : Df P w K mg base (L2N.CX P w) 1 (He.ga K "quoted_end") ["text", "start"] (spQEnd K) := by
  refine dfN T.e_quoted_end sc_quoted_end (fun vs H Q E h => ?_) (fun cdv A outer s H vs Q E hr h => ⟨_,
    pss_cons (ps_set (i := 2) sc_quoted_end.nd rfl (.inl rfl) (pe_op op_add (pv 1) pe_int))
    (pss_cons (ps_while (L2.passes_of rfl) (PW.pt (pw_and (pt_cmpR op_lt (pv 2) (pe_callB call_len_str rfl T.f_len bi_len (pa_cons (pv 0) pa_nil)) (nomark _)) (pw_and1 (pt_cmpR op_ne (pe_ix ix_str (pv 0) (pv 2) (fun _ _ => rfl)) pe_str (nomark _)))))
      (pss_one (ps_aug (i := 2) sc_quoted_end.nd rfl (.inl rfl) (pe_ifExp (pt_cmpR op_eq (pe_ix ix_str (pv 0) (pv 2) (fun _ _ => rfl)) pe_str (nomark _)) pe_int pe_int) ip_add)))
    (pss_cons (ps_if (pt_cmpR op_ge (pv 2) (pe_callB call_len_str rfl T.f_len bi_len (pa_cons (pv 0) pa_nil)) (nomark _)) (pss_one (ps_raiseE rfl T.ex.bx (room_one hr) tkN (pa_cons pe_int pa_nil))) pss_nil)
    (pss_one (ps_ret (pe_op op_add (pv 2) pe_int))))), ?_⟩)
  · obtain ⟨_, _, rfl, _⟩ := h
    rfl
  obtain ⟨l, st, rfl, hs, hz, q⟩ := h
  have hline : (SX.S l).length ≤ sizeLine := by rw [len_S]; exact le_line (by omega)
  refine ⟨_, rfl, _, _, rfl, rfl, ?_⟩
  refine ⟨fun m σ H' => ∃ at_ : Nat, m = l.length + 2 - at_ ∧ H' = H ∧ σ = [some (sV l), some (.int (st : Int)), some (.int (at_ : Int))] ∧ st + 1 ≤ at_ ∧ at_ ≤ l.length + 1 ∧ TwP.qLen (l.drop (st + 1)) = (TwP.qLen (l.drop at_)).map (· + (at_ - (st + 1))), ⟨_, st + 1, rfl, rfl, ?_, Nat.le_refl _, by omega, ?_⟩, ?_⟩
  · show [some (sV l), some (V.int (st : Int)), some (V.int ((st : Int) + 1))] = _
    rw [show (st : Int) + 1 = ((st + 1 : Nat) : Int) by omega]
  · rw [Nat.sub_self]
    cases TwP.qLen (l.drop (st + 1)) <;> rfl
  rintro m σ H' ⟨a, rfl, rfl, rfl, h1, h2, hq⟩
  refine ⟨_, rfl, _, rfl, _, rfl, hline, _, _, rfl, rfl, _, rfl, ?_⟩
  rw [len_S]
  by_cases hlt : (a : Int) < (l.length : Int)
  case neg =>
    rw [decide_eq_false hlt]
    refine iteF (iteF ⟨_, rfl, _, rfl, _, rfl, hline, _, _, rfl, rfl, _, rfl, ?_⟩)
    rw [len_S, decide_eq_true (show (l.length : Int) ≤ (a : Int) by omega)]
    rw [List.drop_eq_nil_of_le (show l.length ≤ a by omega), qLen_nil] at hq
    rw [hq] at q
    exact iteT ⟨_, rfl, B0.new (Same.refl _) q⟩
  rw [decide_eq_true hlt]
  obtain ⟨c, hc⟩ := get_lt (show a < l.length by omega)
  refine iteT ⟨_, rfl, _, rfl, _, _, c, rfl, rfl, hline, atI_S hc, rfl, _, rfl, ?_⟩
  show if (!decide (V.str (SX.S [c]) = V.str (SX.S [34]))) = true then _ else _
  rw [dec_S]
  rw [drop_cons hc] at hq
  by_cases h34 : c = 34
  · subst h34
    refine ifFb rfl ⟨_, rfl, _, rfl, _, rfl, hline, _, _, rfl, rfl, _, rfl, ?_⟩
    rw [len_S, decide_eq_false (show ¬ (l.length : Int) ≤ (a : Int) by omega)]
    rw [qLen_hit] at hq
    rw [hq] at q
    refine iteF ⟨_, rfl, _, _, rfl, rfl, ?_⟩
    have q' : Q (.int ((st + 1 + (1 + (a - (st + 1))) : Nat) : Int)) H' := q
    exact q_int (by omega) q'
  · have e34 : (!decide (([c] : Tx) = [34])) = true := by
      rw [decide_eq_false fun z => h34 (List.cons.inj z).1]
      rfl
    refine ifTb e34 ⟨fun σ' H'' => ∃ a' : Nat, (a' = a + 1 ∨ a' = a + 2) ∧ H'' = H' ∧ σ' = [some (sV l), some (.int (st : Int)), some (.int (a' : Int))] ∧ a' ≤ l.length + 1 ∧ TwP.qLen (l.drop (st + 1)) = (TwP.qLen (l.drop a')).map (· + (a' - (st + 1))), ?_, ?_⟩
    · rintro σ' H'' ⟨a', ha', rfl, rfl, hb, hq'⟩
      exact ⟨_, by omega, a', rfl, rfl, rfl, by omega, hb, hq'⟩
    · refine ⟨_, rfl, _, rfl, _, rfl, _, _, c, rfl, rfl, hline, atI_S hc, rfl, _, rfl, ?_⟩
      show if decide (V.str (SX.S [c]) = V.str (SX.S [92])) = true then _ else _
      rw [dec_S]
      by_cases h92 : c = 92
      · rw [decide_eq_true (show ([c] : Tx) = [92] by rw [h92])]
        refine iteT ⟨_, _, rfl, rfl, a + 2, .inr rfl, rfl, rfl, by omega, ?_⟩
        by_cases hl2 : a + 1 < l.length
        · obtain ⟨d, hd⟩ := get_lt hl2
          rw [drop_cons hd, qLen_skip h34 h92, map_fuse (show a + 2 - (st + 1) = (a - (st + 1)) + 2 by omega)] at hq
          exact hq
        · rw [List.drop_eq_nil_of_le (show l.length ≤ a + 1 by omega), qLen_last h34] at hq
          rw [List.drop_eq_nil_of_le (show l.length ≤ a + 2 by omega), qLen_nil]
          exact hq
      · rw [decide_eq_false (show ¬ ([c] : Tx) = [92] from fun z => h92 (List.cons.inj z).1)]
        refine iteF ⟨_, _, rfl, rfl, a + 1, .inl rfl, rfl, rfl, by omega, ?_⟩
        rw [qLen_one h34 h92, map_fuse (show a + 1 - (st + 1) = (a - (st + 1)) + 1 by omega)] at hq
        exact hq
/-- a part of a text -/
theorem cut_SS {l : Tx} {s k : Nat} (hs : s ≤ l.length) : cutS (SX.S l) (some (s : Int)) (some ((s + k : Nat) : Int)) = SX.S ((l.drop s).take k) := by
  rw [cut_S, HT.sIx_nat, HT.sIx_nat, Nat.min_eq_left hs]
  congr 1
  rw [List.take_eq_take_iff]
  rw [List.length_drop]
  omega
/-- how many signs of words stand from a on -/
def aw (l : Tx) (a : Nat) : Nat := ((l.drop a).takeWhile TwP.alnum).length
theorem aw_step {l : Tx} {a c : Nat} (h : l[a]? = some c) : aw l a = if TwP.alnum c then aw l (a + 1) + 1 else 0 := by
  unfold aw
  rw [drop_cons h, List.takeWhile_cons]
  cases TwP.alnum c <;> rfl
theorem aw_end {l : Tx} {a : Nat} (h : l.length ≤ a) : aw l a = 0 := by
  unfold aw
  rw [List.drop_eq_nil_of_le h]
  rfl
theorem if_alnum {c : Nat} : TwP.alnum c = (TwP.isLet c || TwP.isDig c) := rfl
/-- one sign in a text, told by codes -/
def rSign : R2 := fun x y H Q => ∃ (c : Nat) (l : Tx), x = sV [c] ∧ y = sV l ∧ Q (.bl (decide (c ∈ l))) H
theorem op_inS {X : Cx} : OpR X (compareOp .In) rSign := fun pins s σ H x y v u Q I rx ry h => by
  obtain ⟨c, l, rfl, rfl, q⟩ := h
  exact op_in_sign pins s σ H _ _ v u Q I rx ry ⟨c, _, rfl, rfl, q⟩
/-- char in LETTERS or char in DIGITS -/
theorem al_or {ta : TE} {σ : L2.St} {H : Hp} {Q : Bool → Hp → Prop} {c : Nat} (ha : ∀ R : VK, R (sV [c]) H → ta σ H R) (q : Q (TwP.alnum c) H) :
    tOr (tTest (tOp rSign ta (tC (sV lets)))) (tTest (tOp rSign ta (tC (sV digs)))) σ H Q := by
  refine ha _ ⟨c, lets, rfl, rfl, _, rfl, ?_⟩
  rw [mem_lets]
  have e : TwP.alnum c = (TwP.isLet c || TwP.isDig c) := rfl
  rw [e] at q
  cases h1 : TwP.isLet c with
  | true =>
    rw [h1] at q
    exact iteT q
  | false =>
    rw [h1] at q
    refine iteF (ha _ ⟨c, digs, rfl, rfl, _, rfl, ?_⟩)
    rw [mem_digs]
    exact q
theorem df_WEnd (T : Fc K mg) : Df P w K mg base (L2N.CX P w) 2 (He.ga K "word_end") ["text", "start"] (spWEnd K) := by
  obtain ⟨tl, hl⟩ := T.s_LETTERS
  obtain ⟨td, hd⟩ := T.s_DIGITS
  refine dfN T.e_word_end sc_word_end (fun vs H Q E h => ?_) (fun cdv A outer s H vs Q E hr h => ⟨_,
    pss_cons (ps_set (i := 2) sc_word_end.nd rfl (.inl rfl) (pe_ix ix_str (pv 0) (pv 1) (fun _ _ => rfl)))
    (pss_cons (ps_if (pt_cmpR op_eq (pv 2) pe_str (nomark _)) (pss_one (ps_ret (pe_df (df_QEnd T) T.g_quoted_end hr pxN (pa_cons (pv 0) (pa_cons (pv 1) pa_nil))))) pss_nil)
    (pss_cons (ps_if (PW.pt (pw_or (pt_cmpR op_inS (pv 2) (pe_gS hl) rfl) (pw_or1 (pt_cmpR op_inS (pv 2) (pe_gS hd) rfl))))
      (pss_cons (ps_set (i := 3) sc_word_end.nd rfl (.inl rfl) (pv 1))
      (pss_cons (ps_while (L2.passes_of rfl) (PW.pt (pw_and (pt_cmpR op_lt (pv 3) (pe_callB call_len_str rfl T.f_len bi_len (pa_cons (pv 0) pa_nil)) (nomark _))
          (pw_and1 (PW.pt (pw_or (pt_cmpR op_inS (pe_ix ix_str (pv 0) (pv 3) (fun _ _ => rfl)) (pe_gS hl) rfl) (pw_or1 (pt_cmpR op_inS (pe_ix ix_str (pv 0) (pv 3) (fun _ _ => rfl)) (pe_gS hd) rfl)))))))
        (pss_one (ps_aug (i := 3) sc_word_end.nd rfl (.inl rfl) pe_int ip_add)))
      (pss_one (ps_ret (pv 3))))) pss_nil)
    (pss_cons (ps_for (L2.passes_of rfl) rfl (pi_tup (pe_gR T.g_SIGNS)) (pg_name (i := 4) sc_word_end.nd rfl (.inl rfl))
      (pss_one (ps_if (pt_cmpR op_eq (pe_slice sl_str (pv 0) (po_some (pv 1)) (po_some (pe_op op_add (pv 1) (pe_callB call_len_str rfl T.f_len bi_len (pa_cons (pv 4) pa_nil))))) (pv 4) (nomark _))
        (pss_one (ps_ret (pe_op op_add (pv 1) (pe_callB call_len_str rfl T.f_len bi_len (pa_cons (pv 4) pa_nil))))) pss_nil)))
    (pss_one (ps_raiseE rfl T.ex.bx (room_one hr) tkN (pa_cons pe_int pa_nil)))))), ?_⟩)
  · obtain ⟨_, _, rfl, _⟩ := h
    rfl
  obtain ⟨l, st, rfl, hs, hz, q⟩ := h
  have hline : (SX.S l).length ≤ sizeLine := by rw [len_S]; exact le_line (by omega)
  obtain ⟨c, hc⟩ := get_lt hs
  have hdr := drop_cons hc
  rw [hdr] at q
  refine ⟨_, rfl, _, rfl, _, _, c, rfl, rfl, hline, atI_S hc, ?_⟩
  refine ⟨_, rfl, rfl, _, rfl, ?_⟩
  show if decide (V.str (SX.S [c]) = V.str (SX.S [34])) = true then _ else _
  rw [dec_S]
  rw [TwP.wLen_cons] at q
  by_cases h34 : c = 34
  · subst h34
    rw [if_pos rfl] at q
    refine ifTb rfl ⟨_, rfl, _, rfl, l, st, rfl, hs, hz, ?_⟩
    cases hq : TwP.qLen (l.drop (st + 1)) with
    | none =>
      rw [hq] at q
      exact q
    | some k =>
      rw [hq] at q
      have q' : Q (.int ((st + (k + 1) : Nat) : Int)) H := q
      exact q_int (by omega) q'
  rw [if_neg h34] at q
  have e34 : decide (([c] : Tx) = [34]) = false := decide_eq_false fun z => h34 (List.cons.inj z).1
  refine ifFb e34 ?_
  show tOr (tTest (tOp rSign (tVar 2) (tC (sV lets)))) (tTest (tOp rSign (tVar 2) (tC (sV digs)))) _ _ _
  refine al_or (c := c) (fun R hR => ⟨_, rfl, hR⟩) ?_
  cases hal : TwP.alnum c with
  | true =>
    rw [if_pos hal] at q
    have q' : Q (.int ((st + aw l st : Nat) : Int)) H := by
      rw [aw_step hc, if_pos hal]
      exact q
    refine iteT ⟨_, rfl, ?_⟩
    refine ⟨fun m σ H' => ∃ a : Nat, m = l.length - a ∧ H' = H ∧ σ = [some (sV l), some (.int (st : Int)), some (sV [c]), some (.int (a : Int)), none] ∧ st ≤ a ∧ a ≤ l.length ∧ aw l st = (a - st) + aw l a, ⟨_, st, rfl, rfl, rfl, Nat.le_refl _, by omega, by omega⟩, ?_⟩
    rintro m σ H' ⟨a, rfl, rfl, rfl, h1, h2, hq⟩
    refine ⟨_, rfl, _, rfl, _, rfl, hline, _, _, rfl, rfl, _, rfl, ?_⟩
    rw [len_S]
    by_cases hlt : (a : Int) < (l.length : Int)
    case neg =>
      rw [decide_eq_false hlt]
      rw [aw_end (show l.length ≤ a by omega)] at hq
      refine iteF (iteF ⟨_, rfl, ?_⟩)
      exact q_int (by omega) q'
    rw [decide_eq_true hlt]
    obtain ⟨d, hd'⟩ := get_lt (show a < l.length by omega)
    refine iteT ?_
    show tOr (tTest (tOp rSign (tOp rIxS (tVar 0) (tVar 3)) (tC (sV lets)))) (tTest (tOp rSign (tOp rIxS (tVar 0) (tVar 3)) (tC (sV digs)))) _ _ _
    refine al_or (c := d) (fun R hR => ⟨_, rfl, _, rfl, _, _, d, rfl, rfl, hline, atI_S hd', hR⟩) ?_
    rw [aw_step hd'] at hq
    cases hda : TwP.alnum d with
    | false =>
      rw [if_neg (by rw [hda]; decide)] at hq
      refine iteF ⟨_, rfl, ?_⟩
      exact q_int (by omega) q'
    | true =>
      rw [if_pos hda] at hq
      refine iteT ⟨fun σ' H'' => H'' = H' ∧ σ' = [some (sV l), some (.int (st : Int)), some (sV [c]), some (.int ((a + 1 : Nat) : Int)), none], ?_, ?_⟩
      · rintro σ' H'' ⟨rfl, rfl⟩
        exact ⟨_, by omega, a + 1, rfl, rfl, rfl, by omega, by omega, by omega⟩
      · exact ⟨_, rfl, _, _, rfl, rfl, rfl, rfl⟩
  | false =>
    rw [if_neg (by rw [hal]; decide)] at q
    refine iteF ⟨_, rfl, ⟨_, T.ex.signs H⟩, ?_⟩
    have q' : resN K H Q E st ((TwP.signs.find? fun s => (l.drop st).take s.length == s).map List.length) := by
      rw [hdr]
      exact q
    have sl2 : ∀ s ∈ TwP.signs, s.length ≤ 2 := by decide
    refine for_tup (K := K) (a := He.ga K "SIGNS") (xs := TwP.signs.map sV) (fun i σ H' => H' = H ∧ (∃ y, σ = [some (sV l), some (.int (st : Int)), some (sV [c]), none, y]) ∧ ∀ j, j < i → ∀ s, TwP.signs[j]? = some s → ((l.drop st).take s.length == s) = false) ⟨rfl, ⟨none, rfl⟩, fun j hj => absurd hj (Nat.not_lt_zero _)⟩ (fun i σ H' _ h => T.ex.signs H') ?_ ?_
    · rintro i y σ H' hi ⟨rfl, ⟨y0, rfl⟩, hno⟩
      obtain ⟨s, hs', rfl⟩ : ∃ s, TwP.signs[i]? = some s ∧ y = sV s := by
        rw [List.getElem?_map] at hi
        cases e : TwP.signs[i]? with
        | none =>
          rw [e] at hi
          cases hi
        | some s =>
          rw [e] at hi
          exact ⟨s, rfl, (Option.some.inj hi).symm⟩
      have hsl := sl2 s (List.mem_of_getElem? hs')
      have hsline : (SX.S s).length ≤ sizeLine := by rw [len_S]; exact le_line (by omega)
      refine ⟨_, rfl, _, rfl, _, rfl, _, rfl, _, rfl, _, rfl, hsline, _, _, rfl, rfl, _, rfl, _, rfl, hline, _, rfl, rfl, _, rfl, ?_⟩
      have ec : cutS (SX.S l) (some (st : Int)) (some ((st : Int) + ((SX.S s).length : Int))) = SX.S ((l.drop st).take s.length) := by
        rw [len_S, show (st : Int) + (s.length : Int) = ((st + s.length : Nat) : Int) by omega]
        exact cut_SS (by omega)
      show if decide (V.str (cutS (SX.S l) (some (st : Int)) (some ((st : Int) + ((SX.S s).length : Int)))) = V.str (SX.S s)) = true then _ else _
      rw [ec, dec_S]
      cases hm : ((l.drop st).take s.length == s) with
      | true =>
        have hm' : (l.drop st).take s.length = s := beq_iff_eq.mp hm
        rw [decide_eq_true hm']
        have hf : (TwP.signs.find? fun s => (l.drop st).take s.length == s) = some s := by
          obtain ⟨hi1, hi2⟩ := List.getElem?_eq_some_iff.mp hs'
          rw [List.find?_eq_some_iff_getElem]
          refine ⟨hm, i, hi1, hi2, fun j hj => ?_⟩
          have hjl : j < TwP.signs.length := by omega
          rw [hno j hj (TwP.signs[j]) (List.getElem?_eq_getElem hjl)]
          rfl
        rw [hf] at q'
        have q2 : Q (.int ((st + s.length : Nat) : Int)) H' := q'
        refine iteT ⟨_, rfl, _, rfl, _, rfl, hsline, _, _, rfl, rfl, ?_⟩
        exact q_int (by rw [len_S]; omega) q2
      | false =>
        have hm' : ¬ (l.drop st).take s.length = s := fun z => by
          rw [beq_iff_eq.mpr z] at hm
          cases hm
        rw [decide_eq_false hm']
        refine iteF ⟨rfl, ⟨_, rfl⟩, fun j hj s2 hs2 => ?_⟩
        rcases Nat.lt_succ_iff_lt_or_eq.mp hj with h | h
        · exact hno j h s2 hs2
        · subst h
          rw [hs'] at hs2
          cases hs2
          exact hm
    · rintro σ H' ⟨rfl, ⟨y0, rfl⟩, hno⟩
      have hf : (TwP.signs.find? fun s => (l.drop st).take s.length == s) = none := by
        rw [List.find?_eq_none]
        intro s hs'
        obtain ⟨j, hj, hje⟩ := List.getElem_of_mem hs'
        rw [hno j (by rw [List.length_map]; exact hj) s (by rw [List.getElem?_eq_getElem hj, hje])]
        decide
      rw [hf] at q'
      exact ⟨_, rfl, B0.new (Same.refl _) q'⟩
theorem map_app {o : Option (List Tx)} {a : List Tx} : (o.map (a ++ ·)) = o.map fun x => a ++ x := rfl
theorem map_app2 {o : Option (List Tx)} {a : List Tx} {t : Tx} : (o.map (t :: ·)).map (a ++ ·) = o.map ((a ++ [t]) ++ ·) := by
  cases o with
  | none => rfl
  | some x => show some (a ++ t :: x) = some ((a ++ [t]) ++ x); rw [List.append_assoc]; rfl
theorem toks_cnt : ∀ (n : Nat) (l : Tx) (ts : List Tx), TwP.toks n l = some ts → ts.length ≤ l.length
  | _, [], ts, h => by
    have e : ts = [] := by
      rw [show TwP.toks _ [] = some [] by unfold TwP.toks; rfl] at h
      exact (Option.some.inj h).symm
    subst e
    exact Nat.le_refl _
  | 0, _ :: _, _, h => by cases h
  | n + 1, c :: r, ts, h => by
    rw [TwP.toks_cons] at h
    split at h
    · have := toks_cnt n r ts h
      rw [List.length_cons]
      omega
    · cases e : TwP.wLen (c :: r) with
      | none =>
        rw [e] at h
        cases h
      | some k =>
        rw [e] at h
        have h' : (TwP.toks n ((c :: r).drop k)).map ((c :: r).take k :: ·) = some ts := h
        obtain ⟨ts', h1, rfl⟩ := Option.map_eq_some_iff.mp h'
        have hk := TwP.wLen_pos e
        have := toks_cnt n _ ts' h1
        rw [List.length_drop, List.length_cons] at this
        rw [List.length_cons, List.length_cons]
        omega
theorem tokens_cnt {l : Tx} {ts : List Tx} (h : TwP.tokens l = some ts) : ts.length ≤ l.length := toks_cnt _ _ _ h
theorem df_Tokens (T : Fc K mg) : Df P w K mg base (L2N.CX P w) 3 (He.ga K "tokens_of") ["text"] (spTokens K) := by
  refine dfN T.e_tokens_of sc_tokens_of (fun vs H Q E h => ?_) (fun cdv A outer s H vs Q E hr h => ⟨_,
    pss_cons (ps_set (i := 1) sc_tokens_of.nd rfl (.inl rfl) (pe_lst pa_nil))
    (pss_cons (ps_set (i := 2) sc_tokens_of.nd rfl (.inl rfl) pe_int)
    (pss_cons (ps_while (L2.passes_of rfl) (pt_cmpR op_lt (pv 2) (pe_callB call_len_str rfl T.f_len bi_len (pa_cons (pv 0) pa_nil)) (nomark _))
      (pss_one (ps_if (pt_cmpR op_eq (pe_ix ix_str (pv 0) (pv 2) (fun _ _ => rfl)) pe_str (nomark _))
        (pss_one (ps_aug (i := 2) sc_tokens_of.nd rfl (.inl rfl) pe_int ip_add))
        (pss_cons (ps_set (i := 3) sc_tokens_of.nd rfl (.inl rfl) (pe_df (df_WEnd T) T.g_word_end hr pxN (pa_cons (pv 0) (pa_cons (pv 2) pa_nil))))
        (pss_cons (ps_expr (pe_bm PySem.F.plainAttrs_list PySem.F.slot_list_append PySem.F.type_list_append mt_append (pv 1) (pa_cons (pe_slice sl_str (pv 0) (po_some (pv 2)) (po_some (pv 3))) pa_nil)))
        (pss_one (ps_set (i := 2) sc_tokens_of.nd rfl (.inl rfl) (pv 3))))))))
    (pss_one (ps_ret (pv 1))))), ?_⟩)
  · obtain ⟨_, rfl, _⟩ := h
    rfl
  obtain ⟨l, rfl, hz, q⟩ := h
  have hline : (SX.S l).length ≤ sizeLine := by rw [len_S]; exact le_line (by omega)
  refine ⟨by show 0 ≤ sizeLine; decide, fun p hp => ?_⟩
  refine ⟨fun m σ H' => ∃ (a : Nat) (ts : List Tx) (y : Option V), m = l.length - a ∧ Same H H' ∧ H' p = some (.lst (ts.map sV)) ∧ σ = [some (sV l), some (.ref p), some (.int (a : Int)), y] ∧ ts.length ≤ a ∧ TwP.tokens l = (TwP.tokens (l.drop a)).map (ts ++ ·), ⟨_, 0, [], none, rfl, same_new hp _, upd_same, rfl, Nat.le_refl _, ?_⟩, ?_⟩
  · rw [List.drop_zero]
    cases TwP.tokens l <;> rfl
  rintro m σ H' ⟨a, ts, y, rfl, e1, hpl, rfl, hla, ht⟩
  refine ⟨_, rfl, _, rfl, _, rfl, hline, _, _, rfl, rfl, _, rfl, ?_⟩
  rw [len_S]
  by_cases hlt : (a : Int) < (l.length : Int)
  case neg =>
    rw [decide_eq_false hlt]
    rw [List.drop_eq_nil_of_le (show l.length ≤ a by omega)] at ht
    have ht' : TwP.tokens l = some ts := by rw [ht]; show some (ts ++ []) = _; rw [List.append_nil]
    rw [ht'] at q
    exact iteF ⟨_, rfl, q H' p e1 hp hpl⟩
  rw [decide_eq_true hlt]
  obtain ⟨c, hc⟩ := get_lt (show a < l.length by omega)
  rw [drop_cons hc] at ht
  refine iteT ⟨fun σ' H'' => ∃ (a' : Nat) (ts' : List Tx) (y' : Option V), a < a' ∧ Same H H'' ∧ H'' p = some (.lst (ts'.map sV)) ∧ σ' = [some (sV l), some (.ref p), some (.int (a' : Int)), y'] ∧ ts'.length ≤ a' ∧ TwP.tokens l = (TwP.tokens (l.drop a')).map (ts' ++ ·), ?_, ?_⟩
  · rintro σ' H'' ⟨a', ts', y', h0, h1, h2, h3, h4, h5⟩
    exact ⟨_, by omega, a', ts', y', rfl, h1, h2, h3, h4, h5⟩
  refine ⟨_, rfl, _, rfl, _, _, c, rfl, rfl, hline, atI_S hc, rfl, _, rfl, ?_⟩
  show if decide (V.str (SX.S [c]) = V.str (SX.S [32])) = true then _ else _
  rw [dec_S]
  by_cases h32 : c = 32
  · subst h32
    rw [TwP.tokens_sp] at ht
    exact ifTb rfl ⟨_, rfl, _, _, rfl, rfl, a + 1, ts, y, Nat.lt_succ_self _, e1, hpl, rfl, by omega, ht⟩
  · have e32 : decide (([c] : Tx) = [32]) = false := decide_eq_false fun z => h32 (List.cons.inj z).1
    refine ifFb e32 ⟨_, rfl, _, rfl, l, a, rfl, by omega, hz, ?_⟩
    rw [drop_cons hc]
    cases hw : TwP.wLen (c :: l.drop (a + 1)) with
    | none =>
      rw [TwP.tokens_none h32 hw] at ht
      have ht' : TwP.tokens l = none := ht
      rw [ht'] at q
      exact fun dd H'' e => q dd H'' (e1.trans e)
    | some k =>
      have hk := TwP.wLen_pos hw
      rw [TwP.tokens_some h32 hw, map_app2, ← drop_cons hc, List.drop_drop] at ht
      refine ⟨_, rfl, .inl ⟨rfl, _, SqL.of hpl⟩, _, rfl, _, rfl, _, rfl, _, rfl, _, rfl, _, rfl, hline, p, _, _, rfl, rfl, hpl, by rw [List.length_map]; exact lt_line (by omega), ?_⟩
      refine ⟨_, rfl, a + k, ts ++ [(l.drop a).take k], _, by omega, same_of_keep hp e1 (keepR_upd _), ?_, rfl, ?_, ht⟩
      · rw [upd_same, cut_SS (show a ≤ l.length by omega), List.map_append]
        rfl
      · rw [List.length_append, List.length_singleton]
        omega
theorem cut_inner (t : Tx) : cutS (SX.S t) (some 1) (some (-1)) = SX.S (TwP.inner t) := by
  rw [cut_S]
  congr 1
  unfold TwP.inner
  rw [List.dropLast_eq_take, List.length_drop]
  have e1 : HT.sIx t.length 0 (some (1 : Int)) = min 1 t.length := HT.sIx_nat _ _ 1
  have e2 : HT.sIx t.length t.length (some (-1 : Int)) = t.length - 1 := by
    have := HT.clip_eq (-1) t.length t.length
    rw [if_pos (by decide)] at this
    omega
  rw [e1, e2]
  cases t with
  | nil => rfl
  | cons c r =>
    rw [List.length_cons, Nat.min_eq_left (by omega)]
theorem unq_cons (e : Bool) (c : Nat) (r : Tx) : TwP.unq e (c :: r) = if TwP.inCh c then (if c = 92 ∧ e = false then TwP.unq true r else (TwP.unq false r).map (c :: ·)) else none := by
  conv => lhs; unfold TwP.unq
theorem map_app3 {o : Option Tx} {a : Tx} {t : Nat} : (o.map (t :: ·)).map (a ++ ·) = o.map ((a ++ [t]) ++ ·) := by
  cases o with
  | none => rfl
  | some x => show some (a ++ t :: x) = some ((a ++ [t]) ++ x); rw [List.append_assoc]; rfl
theorem df_Unq (T : Fc K mg) : Df P w K mg base (L2N.CX P w) 1 (He.ga K "unquoted") ["token"] (spUnq K) := by
  obtain ⟨tc, hc⟩ := T.s_CHARS
  refine dfN T.e_unquoted sc_unquoted (fun vs H Q E h => ?_) (fun cdv A outer s H vs Q E hr h => ⟨_,
    pss_cons (ps_set (i := 1) sc_unquoted.nd rfl (.inl rfl) pe_str)
    (pss_cons (ps_set (i := 2) sc_unquoted.nd rfl (.inl rfl) pe_bl)
    (pss_cons (ps_for (L2.passes_of rfl) rfl (pi_str (pe_slice sl_str (pv 0) (po_some pe_int) (po_some (pe_un un_neg pe_int)))) (pg_name (i := 3) sc_unquoted.nd rfl (.inl rfl))
      (pss_cons (ps_if (pt_cmpR op_notIn_sign (pv 3) (pe_gS hc) rfl) (pss_one (ps_raiseE rfl T.ex.bx (room_one hr) tkN (pa_cons pe_int pa_nil))) pss_nil)
      (pss_one (ps_if (PW.pt (pw_and (pt_cmpR op_eq (pv 3) pe_str (nomark _)) (pw_and1 (pt_not (pt_val (pv 2))))))
        (pss_one (ps_set (i := 2) sc_unquoted.nd rfl (.inl rfl) pe_bl))
        (pss_cons (ps_set (i := 1) sc_unquoted.nd rfl (.inl rfl) (pe_op op_catS (pv 1) (pv 3))) (pss_one (ps_set (i := 2) sc_unquoted.nd rfl (.inl rfl) pe_bl)))))))
    (pss_one (ps_ret (pv 1))))), ?_⟩)
  · obtain ⟨_, rfl, _⟩ := h
    rfl
  obtain ⟨t, rfl, hz, q⟩ := h
  have hline : (SX.S t).length ≤ sizeLine := by rw [len_S]; exact le_line (by omega)
  have hil := TwP.inner_len t
  refine ⟨_, rfl, _, rfl, _, rfl, _, rfl, _, rfl, hline, _, congrArg V.str (cut_inner t), ?_⟩
  refine for_str (l := TwP.inner t) (fun i σ H' => H' = H ∧ ∃ (m : Tx) (e : Bool) (y : Option V), σ = [some (sV t), some (sV m), some (.bl e), y] ∧ m.length ≤ i ∧ TwP.unq false (TwP.inner t) = (TwP.unq e ((TwP.inner t).drop i)).map (m ++ ·)) ⟨rfl, [], false, none, rfl, Nat.le_refl _, ?_⟩ ?_ ?_
  · rw [List.drop_zero]
    cases TwP.unq false (TwP.inner t) <;> rfl
  · rintro i c σ H' hi ⟨rfl, m, e, y, rfl, hm, hu⟩
    have hil2 : i < (TwP.inner t).length := (List.getElem?_eq_some_iff.mp hi).1
    rw [drop_cons hi, unq_cons] at hu
    refine ⟨_, rfl, c, _, rfl, rfl, _, rfl, ?_⟩
    show if (!decide (c ∈ chars)) = true then _ else _
    rw [mem_chars]
    cases hch : TwP.inCh c with
    | false =>
      rw [hch] at hu
      have hu' : TwP.unq false (TwP.inner t) = none := hu
      rw [hu'] at q
      exact iteT ⟨_, rfl, B0.new (Same.refl _) q⟩
    | true =>
      rw [hch, if_pos rfl] at hu
      refine iteF ⟨_, rfl, rfl, _, rfl, ?_⟩
      show if decide (V.str (SX.S [c]) = V.str (SX.S [92])) = true then _ else _
      rw [dec_S]
      have other : ¬ (c = 92 ∧ e = false) → tSeq (tAsg (tOp rCatS (tVar 1) (tVar 3)) (gName 1)) (tAsg (tC (.bl false)) (gName 2)) { nx := fun σ H'' => H'' = H' ∧ ∃ (m : Tx) (e : Bool) (y : Option V), σ = [some (sV t), some (sV m), some (.bl e), y] ∧ m.length ≤ i + 1 ∧ TwP.unq false (TwP.inner t) = (TwP.unq e ((TwP.inner t).drop (i + 1))).map (m ++ ·), rt := Q } [some (sV t), some (sV m), some (.bl e), some (sV [c])] H' := fun hne => by
        rw [if_neg hne, map_app3] at hu
        refine ⟨_, rfl, _, rfl, m, [c], rfl, rfl, by rw [List.length_singleton]; omega, rfl, m ++ [c], false, some (sV [c]), rfl, ?_, hu⟩
        rw [List.length_append, List.length_singleton]
        omega
      by_cases h92 : c = 92
      · subst h92
        cases e with
        | false =>
          rw [if_pos ⟨rfl, rfl⟩] at hu
          exact ifTb rfl ⟨_, rfl, _, rfl, ifTb rfl ⟨rfl, m, true, some (sV [92]), rfl, by omega, hu⟩⟩
        | true => exact ifTb rfl ⟨_, rfl, _, rfl, ifFb rfl (other fun z => Bool.noConfusion z.2)⟩
      · have e92 : decide (([c] : Tx) = [92]) = false := decide_eq_false fun z => h92 (List.cons.inj z).1
        exact ifFb e92 (ifFb rfl (other fun z => h92 z.1))
  · rintro σ H' ⟨rfl, m, e, y, rfl, hm, hu⟩
    rw [List.drop_length] at hu
    have hu' : TwP.unq false (TwP.inner t) = some m := by
      rw [hu]
      show some (m ++ []) = _
      rw [List.append_nil]
    rw [hu'] at q
    exact ⟨_, rfl, q⟩
theorem df_Num (T : Fc K mg) : Df P w K mg base (L2N.CX P w) 1 (He.ga K "number_of") ["token"] (spNum K) := by
  obtain ⟨td, hd⟩ := T.s_DIGITS
  obtain ⟨tm, hm⟩ := T.i_MOST_DIGITS
  refine dfN T.e_number_of sc_number_of (fun vs H Q E h => ?_) (fun cdv A outer s H vs Q E hr h => ⟨_,
    pss_cons (ps_if (PW.pt (pw_or (pt_cmpR op_eq (pv 0) pe_str (nomark _)) (pw_or1 (pt_cmpR op_gt (pe_callB call_len_str rfl T.f_len bi_len (pa_cons (pv 0) pa_nil)) (pe_gI hm) (nomark _))))) (pss_one (ps_raiseE rfl T.ex.bx (room_one hr) tkN (pa_cons pe_int pa_nil))) pss_nil)
    (pss_cons (ps_for (L2.passes_of rfl) rfl (pi_str (pv 0)) (pg_name (i := 1) sc_number_of.nd rfl (.inl rfl))
      (pss_one (ps_if (pt_cmpR op_notIn_sign (pv 1) (pe_gS hd) rfl) (pss_one (ps_raiseE rfl T.ex.bx (room_one hr) tkN (pa_cons pe_int pa_nil))) pss_nil)))
    (pss_one (ps_ret (pe_callTy (call_intD T.ex.nd) rfl T.f_int bi_int (pa_cons (pv 0) pa_nil))))), ?_⟩)
  · obtain ⟨_, rfl, _⟩ := h
    rfl
  obtain ⟨t, rfl, hz, q⟩ := h
  have hline : (SX.S t).length ≤ sizeLine := by rw [len_S]; exact le_line (by omega)
  refine ⟨_, rfl, rfl, _, rfl, ?_⟩
  show if decide (V.str (SX.S t) = V.str (SX.S [])) = true then _ else _
  rw [dec_S]
  unfold TwP.numOf at q
  by_cases h0 : t = []
  · rw [if_pos h0] at q
    rw [decide_eq_true h0]
    exact iteT (iteT ⟨_, rfl, B0.new (Same.refl _) q⟩)
  rw [if_neg h0] at q
  rw [decide_eq_false h0]
  refine iteF ⟨_, rfl, _, rfl, hline, _, _, rfl, rfl, _, rfl, ?_⟩
  rw [len_S]
  by_cases hl : (1000 : Int) < (t.length : Int)
  · rw [if_neg (show ¬ t.length ≤ 1000 by omega)] at q
    rw [decide_eq_true hl]
    exact iteT ⟨_, rfl, B0.new (Same.refl _) q⟩
  rw [if_pos (show t.length ≤ 1000 by omega)] at q
  rw [decide_eq_false hl]
  refine iteF ⟨_, rfl, _, rfl, ?_⟩
  refine for_str (l := t) (fun i σ H' => H' = H ∧ (∃ y, σ = [some (sV t), y]) ∧ (t.take i).all TwP.isDig = true) ⟨rfl, ⟨none, rfl⟩, rfl⟩ ?_ ?_
  · rintro i c σ H' hi ⟨rfl, ⟨y, rfl⟩, ha⟩
    refine ⟨_, rfl, c, _, rfl, rfl, _, rfl, ?_⟩
    show if (!decide (c ∈ digs)) = true then _ else _
    rw [mem_digs]
    cases hcd : TwP.isDig c with
    | true =>
      refine iteF ⟨rfl, ⟨_, rfl⟩, ?_⟩
      rw [take_snoc hi, List.all_append, ha]
      show (true && (TwP.isDig c && true)) = true
      rw [hcd]
      rfl
    | false =>
      have e : t.all TwP.isDig = false := by
        cases h : t.all TwP.isDig with
        | false => rfl
        | true =>
          have := List.all_eq_true.mp h c (List.mem_of_getElem? hi)
          rw [hcd] at this
          cases this
      rw [e] at q
      exact iteT ⟨_, rfl, B0.new (Same.refl _) q⟩
  · rintro σ H' ⟨rfl, ⟨y, rfl⟩, ha⟩
    rw [List.take_length] at ha
    rw [ha] at q
    refine ⟨_, rfl, t, rfl, fun c hc => ?_, h0, by omega, q⟩
    have := List.all_eq_true.mp ha c hc
    unfold TwP.isDig at this
    rw [Bool.and_eq_true] at this
    exact ⟨of_decide_eq_true this.1, of_decide_eq_true this.2⟩
end
end Tw
end

section
set_option Elab.async false
set_option linter.all false
set_option maxRecDepth 100000
set_option maxHeartbeats 4000000
/-! The walks of the module of reading: the Reader's own methods. -/
namespace Tw
open PySem PySem.Spec PyProof.Rows L2
open TwP (Tx Val)
def rfs (l : Addr) (i d : Int) : List (Str × V) := [("_tokens", .ref l), ("_place", .int i), ("_depth", .int d)]
section
variable (K : PySem.W.Frag)
abbrev cR : Addr := He.ga K "Reader"
abbrev mR (m : Str) : Addr := He.ma K (He.ga K "Reader") m
/-- the reader at r has the tokens rest ahead, and stands d deep -/
def RdAt (H : Hp) (r : Addr) (rest : List Tx) (d : Nat) : Prop := ∃ (dx l : Addr) (ts : List Tx) (i : Nat), H r = some (.ins (cR K) dx (rfs l (i : Int) (d : Int))) ∧ H l = some (.lst (ts.map sV)) ∧ rest = ts.drop i ∧ i ≤ ts.length ∧ ts.length ≤ 20000 ∧ ∀ t ∈ ts, 1 ≤ t.length ∧ t.length ≤ 20000
/-- all but the reader is as it was, and the reader has the same list of tokens -/
def KeepS (r : Addr) (H H' : Hp) : Prop := KeepR r H H' ∧ ∀ dx l i d, H r = some (.ins (cR K) dx (rfs l i d)) → ∃ i' d', H' r = some (.ins (cR K) dx (rfs l i' d'))
/-- one of the two errors -/
def Bad (cls : Value) (d : Option Addr) (H' : Hp) : Prop := (cls = .ref (He.ga K "BadText") ∧ ∃ dd, d = some dd ∧ H' dd = some (.xd [("line", .int 0)])) ∨ (cls = .ref (He.ga K "BadTest") ∧ ∃ dd, d = some dd)
def failR (r : Addr) (H : Hp) (E : XK) : Prop := ∀ cls dd H', KeepS K r H H' → Bad K cls dd H' → E cls dd H'
def spPeek : Sp := fun vs H Q _ => ∃ r rest d, vs = [.ref r] ∧ RdAt K H r rest d ∧ Q (sV (rest.headD [])) H
def spTake : Sp := fun vs H Q E => ∃ r rest d, vs = [.ref r] ∧ RdAt K H r rest d ∧ match TwP.take1 rest with
  | none => failR K r H E
  | some p => ∀ H', KeepS K r H H' → RdAt K H' r p.2 d → Q (sV p.1) H'
def spSkip : Sp := fun vs H Q E => ∃ r rest d w, vs = [.ref r, sV w] ∧ w ≠ [] ∧ RdAt K H r rest d ∧ if TwP.hdIs w rest = true then ∀ H', KeepS K r H H' → RdAt K H' r rest.tail d → Q (.bl true) H' else Q (.bl false) H
def spNeed1 : Sp := fun vs H Q E => ∃ r rest d w p, vs = [.ref r, .ref p] ∧ H p = some (.tup [sV w]) ∧ w ≠ [] ∧ RdAt K H r rest d ∧ match TwP.need w rest with
  | none => failR K r H E
  | some r' => ∀ H', KeepS K r H H' → RdAt K H' r r' d → Q .non H'
/-- need('..') -/
def spNeed : Sp := fun vs H Q E => ∃ r rest d w, vs = [.ref r, sV w] ∧ w ≠ [] ∧ RdAt K H r rest d ∧ match TwP.need w rest with
  | none => failR K r H E
  | some r' => ∀ H', KeepS K r H H' → RdAt K H' r r' d → Q .non H'
def spDeeper : Sp := fun vs H Q E => ∃ (r : Addr) (rest : List Tx) (d d' : Nat) (c : Int), vs = [.ref r, .int c] ∧ RdAt K H r rest d ∧ (d : Int) + c = (d' : Int) ∧ if 24 < d' then failR K r H E else ∀ H', KeepS K r H H' → RdAt K H' r rest d' → Q .non H'
def spRInit : Sp := fun vs H Q E => ∃ (x dx : Addr) (l : Tx), vs = [.ref x, sV l] ∧ H x = some (.ins (cR K) dx []) ∧ l.length ≤ 20000 ∧ match TwP.tokens l with
  | none => ∀ dd H', Same H H' → B0 K E H' dd
  | some ts => ∀ H', KeepS K x H H' → RdAt K H' x ts 0 → Q .non H'
end
section
variable {P : Program} {w : World} {K : PySem.W.Frag} {mg : Str → Option Value} {base : Heap}
theorem rfs_lk {l : Addr} {i d : Int} {m : Str} (hm : (m == ("_tokens" : Str)) = false ∧ (m == ("_place" : Str)) = false ∧ (m == ("_depth" : Str)) = false) : (rfs l i d).lookup m = none := by
  unfold rfs
  rw [List.lookup, hm.1, List.lookup, hm.2.1, List.lookup, hm.2.2]
  rfl
theorem KeepS.refl (r : Addr) (H : Hp) : KeepS K r H H := ⟨KeepR.refl r H, fun dx l i d h => ⟨i, d, h⟩⟩
theorem KeepS.trans {r : Addr} {H H1 H2 : Hp} (a : KeepS K r H H1) (b : KeepS K r H1 H2) : KeepS K r H H2 := ⟨a.1.trans b.1, fun dx l i d h => by
  obtain ⟨i1, d1, h1⟩ := a.2 dx l i d h
  exact b.2 dx l i1 d1 h1⟩
theorem keepS_of {r : Addr} {H H' : Hp} (h : Same H H') : KeepS K r H H' := ⟨keepR_of h, fun dx l i d q => ⟨i, d, h _ _ q⟩⟩
theorem keepS_upd {r dx0 l0 : Addr} {i0 d0 i1 d1 : Int} {H : Hp} {o : HO} (h : H r = some (.ins (cR K) dx0 (rfs l0 i0 d0))) (ho : o = .ins (cR K) dx0 (rfs l0 i1 d1)) : KeepS K r H (upd H r o) := ⟨keepR_upd _, fun dx l i d q => by
  rw [h] at q
  injection q with q
  injection q with _ e1 e2
  injection e2 with e3 _
  injection e3 with _ e4
  injection e4 with e5
  refine ⟨i1, d1, ?_⟩
  rw [upd_same, ho, e1, e5]⟩
/-- the reader is on -/
theorem RdAt.step {H : Hp} {r dx l : Addr} {ts : List Tx} {i d : Nat} {o : HO} (h : H r = some (.ins (cR K) dx (rfs l (i : Int) (d : Int)))) (hl : H l = some (.lst (ts.map sV))) (hi : i ≤ ts.length) (hz : ts.length ≤ 20000) (ht : ∀ t ∈ ts, 1 ≤ t.length ∧ t.length ≤ 20000)
    (i' d' : Nat) (hi' : i' ≤ ts.length) (ho : o = .ins (cR K) dx (rfs l (i' : Int) (d' : Int))) : KeepS K r H (upd H r o) ∧ RdAt K (upd H r o) r (ts.drop i') d' := by
  refine ⟨keepS_upd h ho, dx, l, ts, i', by rw [upd_same, ho], ?_, rfl, hi', hz, ht⟩
  rw [upd_ne (ne_of hl h fun z => by cases z)]
  exact hl
/-- BadText(0), raised over H1 -/
theorem bad0 {r : Addr} {H H1 : Hp} {E : XK} (e : KeepS K r H H1) (q : failR K r H E) : ∀ d, H1 d = none → E (.ref (He.ga K "BadText")) (some d) (upd H1 d (.xd [(PySem.TwX.Fl.s .line, .int 0)])) := fun d hd =>
  q _ _ _ (e.trans (keepS_of (same_new hd _))) (.inl ⟨rfl, d, rfl, upd_same⟩)
theorem drop_head {ts : List Tx} {i : Nat} {t : Tx} (h : ts[i]? = some t) : ts.drop i = t :: ts.drop (i + 1) := by
  obtain ⟨h1, h2⟩ := List.getElem?_eq_some_iff.mp h
  rw [← h2]
  exact List.drop_eq_getElem_cons h1
theorem df_Peek (T : Fc K mg) : Df P w K mg base CX0 1 (mR K "peek") ["self"] (spPeek K) := by
  refine df0 T.e_Reader_peek sc_Reader_peek (fun vs H Q E h => ?_) (fun cdv A outer s H vs Q E hr h => ⟨_,
    pss_cons (ps_if (pt_cmpR op_lt (pe_fld (pv 0) rfl) (pe_callB call_len_seq rfl T.f_len bi_len (pa_cons (pe_fld (pv 0) rfl) pa_nil)) (nomark _)) (pss_one (ps_ret (pe_ix ix_list (pe_fld (pv 0) rfl) (pe_fld (pv 0) rfl) (fun _ _ => rfl)))) pss_nil)
    (pss_one (ps_ret pe_str)), ?_⟩)
  · obtain ⟨_, _, _, rfl, _⟩ := h
    rfl
  obtain ⟨r, rest, d, rfl, ⟨dx, l, ts, i, h1, h2, rfl, h4, h5, h6⟩, q⟩ := h
  refine ⟨_, rfl, r, _, dx, _, _, rfl, h1, T.c_Reader, T.n_Reader_place, rfl, _, rfl, r, _, dx, _, _, rfl, h1, T.c_Reader, T.n_Reader_tokens, rfl, l, _, rfl, .inl (SqL.of h2), _, _, rfl, rfl, _, rfl, ?_⟩
  rw [List.length_map]
  by_cases hlt : (i : Int) < (ts.length : Int)
  · rw [decide_eq_true hlt]
    have hi : ts[i]? = some ts[i] := List.getElem?_eq_getElem (by omega)
    refine iteT ⟨_, rfl, r, _, dx, _, _, rfl, h1, T.c_Reader, T.n_Reader_tokens, rfl, _, rfl, r, _, dx, _, _, rfl, h1, T.c_Reader, T.n_Reader_place, rfl, l, _, _, sV ts[i], rfl, rfl, SqL.of h2, atI_nat (by rw [List.getElem?_map, hi]; rfl), ?_⟩
    rw [drop_head hi] at q
    exact q
  · rw [decide_eq_false hlt]
    refine iteF ?_
    rw [List.drop_eq_nil_of_le (by omega)] at q
    exact q
theorem df_Take (T : Fc K mg) : Df P w K mg base (L2N.CX P w) 2 (mR K "take") ["self"] (spTake K) := by
  refine dfN T.e_Reader_take sc_Reader_take (fun vs H Q E h => ?_) (fun cdv A outer s H vs Q E hr h => ⟨_,
    pss_cons (ps_set (i := 1) sc_Reader_take.nd rfl (.inl rfl) (pe_dm0 (df_Peek T) T.c_Reader T.m_Reader_peek hr pass0 (pv 0)))
    (pss_cons (ps_if (pt_cmpR op_eq (pv 1) pe_str (nomark _)) (pss_one (ps_raiseE rfl T.ex.bx (room_one hr) tkN (pa_cons pe_int pa_nil))) pss_nil)
    (pss_cons (ps_fldaug (pv 0) pe_int in_add) (pss_one (ps_ret (pv 1))))), ?_⟩)
  · obtain ⟨_, _, _, rfl, _⟩ := h
    rfl
  obtain ⟨r, rest, d, rfl, hR, q⟩ := h
  obtain ⟨dx, l, ts, i, h1, h2, rfl, h4, h5, h6⟩ := id hR
  refine ⟨_, rfl, r, dx, _, rfl, h1, rfs_lk (by decide), r, _, d, rfl, hR, ?_⟩
  refine ⟨_, rfl, rfl, _, rfl, ?_⟩
  show if decide (V.str (SX.S ((ts.drop i).headD [])) = V.str (SX.S [])) = true then _ else _
  rw [dec_S]
  rcases Nat.lt_or_ge i ts.length with hlt | hge
  · have hi : ts[i]? = some ts[i] := List.getElem?_eq_getElem hlt
    have hne : ¬ ts[i] = [] := fun z => by
      have := (h6 ts[i] (List.getElem_mem hlt)).1
      rw [z] at this
      exact absurd this (by decide)
    rw [drop_head hi] at q ⊢
    rw [decide_eq_false (show ¬ (ts[i] :: ts.drop (i + 1)).headD [] = [] from hne)]
    refine iteF ⟨_, rfl, r, _, dx, _, _, rfl, h1, T.c_Reader, T.n_Reader_place, rfl, _, _, rfl, rfl, dx, _, h1, by show 3 < 1000; decide, _, rfl, ?_⟩
    obtain ⟨k1, k2⟩ := RdAt.step (o := .ins (cR K) dx (putF "_place" (.int ((i : Int) + 1)) (rfs l (i : Int) (d : Int)))) h1 h2 h4 h5 h6 (i + 1) d (by omega) (by rw [show (i : Int) + 1 = ((i + 1 : Nat) : Int) by omega]; rfl)
    exact q _ k1 k2
  · rw [List.drop_eq_nil_of_le hge] at q ⊢
    exact ifTb rfl ⟨_, rfl, bad0 (KeepS.refl _ _) q⟩
theorem df_Skip (T : Fc K mg) : Df P w K mg base CX0 2 (mR K "skip") ["self", "token"] (spSkip K) := by
  refine df0 T.e_Reader_skip sc_Reader_skip (fun vs H Q E h => ?_) (fun cdv A outer s H vs Q E hr h => ⟨_,
    pss_cons (ps_if (pt_cmpR op_ne (pe_dm0 (df_Peek T) T.c_Reader T.m_Reader_peek hr pass0 (pv 0)) (pv 1) (nomark _)) (pss_one (ps_ret pe_bl)) pss_nil)
    (pss_cons (ps_fldaug (pv 0) pe_int in_add) (pss_one (ps_ret pe_bl))), ?_⟩)
  · obtain ⟨_, _, _, _, rfl, _⟩ := h
    rfl
  obtain ⟨r, rest, d, w, rfl, hw, hR, q⟩ := h
  obtain ⟨dx, l, ts, i, h1, h2, rfl, h4, h5, h6⟩ := id hR
  refine ⟨_, rfl, r, dx, _, rfl, h1, rfs_lk (by decide), r, _, d, rfl, hR, _, rfl, rfl, _, rfl, ?_⟩
  show if (!decide (V.str (SX.S ((ts.drop i).headD [])) = V.str (SX.S w))) = true then _ else _
  rw [dec_S]
  rcases Nat.lt_or_ge i ts.length with hlt | hge
  · have hi : ts[i]? = some ts[i] := List.getElem?_eq_getElem hlt
    rw [drop_head hi] at q ⊢
    have e : TwP.hdIs w (ts[i] :: ts.drop (i + 1)) = decide (ts[i] = w) := rfl
    rw [e] at q
    show if (!decide (ts[i] = w)) = true then _ else _
    by_cases he : ts[i] = w
    · rw [decide_eq_true he] at q ⊢
      rw [if_pos rfl] at q
      refine iteF ⟨_, rfl, r, _, dx, _, _, rfl, h1, T.c_Reader, T.n_Reader_place, rfl, _, _, rfl, rfl, dx, _, h1, by show 3 < 1000; decide, ?_⟩
      obtain ⟨k1, k2⟩ := RdAt.step (o := .ins (cR K) dx (putF "_place" (.int ((i : Int) + 1)) (rfs l (i : Int) (d : Int)))) h1 h2 h4 h5 h6 (i + 1) d (by omega) (by rw [show (i : Int) + 1 = ((i + 1 : Nat) : Int) by omega]; rfl)
      exact q _ k1 k2
    · rw [decide_eq_false he] at q ⊢
      exact iteT q
  · rw [List.drop_eq_nil_of_le hge] at q ⊢
    have e : decide ((([] : List Tx).headD []) = w) = false := decide_eq_false fun z => hw z.symm
    rw [e]
    exact iteT q
theorem cxUpN : StX.CXUp (L2N.CX P w) := by
  intro outer s H s2 H2 E e s' un k os h
  obtain ⟨a, B, H', cls, d, e1, fl, hok, ub, na, os2, ag, q⟩ := h
  refine ⟨a, B, H', cls, d, e1, fl, hok, ⟨fun b o hb n hf => ?_, fun b o hb hf => ?_, fun b o hb n => ?_, fun b o hb hf => ?_, fun b xs hb => ub.tups b xs (un.tups b xs hb), fun b o u hb => ub.frzs b o u (un.frzs b o u hb), fun b ps hb => ?_⟩, na, os2.trans os, ag, q⟩
  · exact ub.keep b o (k b o hb) (un.free b o hb n (by simp)) hf
  · exact ub.slot b o (k b o hb) hf
  · exact ub.free b o (k b o hb) (un.free b o hb n (by simp))
  · exact ub.there b o (k b o hb) hf
  · obtain ⟨m1, q1⟩ := un.tbls b ps hb
    obtain ⟨m2, q2⟩ := ub.tbls b _ q1
    exact ⟨m1 ++ m2, by rw [q2, Array.append_assoc]⟩
theorem sc_need : FnScope ["self", "words", "token"] ((["self"] : List Str) ++ (["words"] : List Str)) (defScope s_Reader_need) := sc_Reader_need
/-- need, by its positional values -/
theorem fr_Need (T : Fc K mg) : FnR P w K mg base (L2N.CX P w) 4 (mR K "need") (spNeed K) := by
  obtain ⟨fd, F⟩ := T.e_Reader_need
  obtain ⟨oc, od, dV, kV, doc, pm, an, cdv, ct, osl, rfl, lk, hcd, hD, hK⟩ := F.ex
  rcases hD with ⟨_, rfl⟩ | ⟨z, _⟩
  rotate_left
  · exact absurd rfl z
  have R : FnR P w K mg base (L2N.CX P w) 4 (mR K "need") (fun vs H Q E => ∃ ws rest, vs = ws ++ rest ∧ ws.length = (["self"] : List Str).length ∧ rest.length ≤ sizeLine ∧ ∀ p, H p = none → spNeed1 K (ws ++ [V.ref p]) (upd H p (.tup rest)) Q E) := by
    refine StX.fn_star (ps := ["self"]) (pv := "words") (N := ["self", "words", "token"]) lk hcd sc_need cxUpN (fun us rest hl => ?_) (fun A outer s H vs Q E hr h => ⟨_,
      pss_one (ps_for (L2.passes_of rfl) rfl (pi_tup (pv 1)) (pg_name (i := 2) sc_Reader_need.nd rfl (.inl rfl))
        (pss_one (ps_if (pt_not (pt_val (pe_dm (df_Skip T) T.c_Reader T.m_Reader_skip (hr.mono (by decide)) pass0 (pv 0) (pa_cons (pv 2) pa_nil)))) (pss_one (ps_raiseE rfl T.ex.bx (room_one hr) tkN (pa_cons pe_int pa_nil))) pss_nil))), ?_⟩)
    · match us, hl, rest with
      | [a], _, [] => first | rfl | with_unfolding_all rfl
      | [a], _, b :: r => first | rfl | with_unfolding_all rfl
    obtain ⟨r, rest, d, w, p, rfl, hp, hw, hR, q⟩ := h
    refine ⟨_, rfl, p, rfl, ⟨_, SqT.of hp⟩, ?_⟩
    obtain ⟨dx, l, ts, i, h1, _⟩ := id hR
    have pr : p ≠ r := ne_of hp h1 fun z => by cases z
    refine for_tup (K := K) (a := p) (xs := [sV w]) (fun j σ H' => (∃ y, σ = [some (.ref r), some (.ref p), y]) ∧ KeepS K r H H' ∧ ((j = 0 ∧ H' = H) ∨ (j = 1 ∧ TwP.hdIs w rest = true ∧ RdAt K H' r rest.tail d))) ⟨⟨none, rfl⟩, KeepS.refl _ _, .inl ⟨rfl, rfl⟩⟩ (fun j σ H' _ h => SqT.of (h.2.1.1 _ _ pr hp)) ?_ ?_
    · rintro j y σ H' hj ⟨⟨y0, rfl⟩, e1, hh⟩
      rcases hh with ⟨rfl, rfl⟩ | ⟨rfl, _, _⟩
      · have ey : y = sV w := by simpa using hj.symm
        subst ey
        refine ⟨_, rfl, r, dx, _, rfl, h1, rfs_lk (by decide), _, rfl, r, rest, d, w, rfl, hw, hR, ?_⟩
        cases hh : TwP.hdIs w rest with
        | true =>
          refine iteT fun H2 e2 hR2 => ⟨_, rfl, iteF ⟨⟨_, rfl⟩, e2, .inr ⟨rfl, rfl, hR2⟩⟩⟩
        | false =>
          have en : TwP.need w rest = none := by
            unfold TwP.need
            rw [hh]
            rfl
          rw [en] at q
          exact iteF ⟨_, rfl, iteT ⟨_, rfl, bad0 (KeepS.refl _ _) q⟩⟩
      · simp at hj
    · rintro σ H' ⟨⟨y0, rfl⟩, e1, hh⟩
      rcases hh with ⟨h, _⟩ | ⟨_, h0, hR2⟩
      · cases h
      · have en : TwP.need w rest = some rest.tail := by
          unfold TwP.need
          rw [if_pos h0]
        rw [en] at q
        exact q H' e1 hR2
  refine R.imp fun vs H Q E h => ?_
  obtain ⟨r, rest, d, w, rfl, hw, hR, q⟩ := h
  refine ⟨[.ref r], [sV w], rfl, rfl, (by show 1 ≤ sizeLine; decide), fun p hp => ?_⟩
  have s0 : Same H (upd H p (.tup [sV w])) := same_new hp _
  obtain ⟨dx, l, ts, i, h1, h2, h3⟩ := hR
  refine ⟨r, rest, d, w, p, rfl, upd_same, hw, ⟨dx, l, ts, i, s0 _ _ h1, s0 _ _ h2, h3⟩, ?_⟩
  cases hn : TwP.need w rest with
  | none =>
    rw [hn] at q
    exact fun cls dd H' e b => q cls dd H' ((keepS_of s0).trans e) b
  | some r' =>
    rw [hn] at q
    exact fun H' e hR => q H' ((keepS_of s0).trans e) hR
theorem df_Deeper (T : Fc K mg) : Df P w K mg base (L2N.CX P w) 1 (mR K "deeper") ["self", "change"] (spDeeper K) := by
  obtain ⟨tm, hm⟩ := T.i_MOST_NESTED
  refine dfN T.e_Reader_deeper sc_Reader_deeper (fun vs H Q E h => ?_) (fun cdv A outer s H vs Q E hr h => ⟨_,
    pss_cons (ps_fldaug (pv 0) (pv 1) in_add) (pss_one (ps_if (pt_cmpR op_gt (pe_fld (pv 0) rfl) (pe_gI hm) (nomark _)) (pss_one (ps_raiseE rfl T.ex.bx (room_one hr) tkN (pa_cons pe_int pa_nil))) pss_nil)), ?_⟩)
  · obtain ⟨_, _, _, _, _, rfl, _⟩ := h
    rfl
  obtain ⟨r, rest, d, d', c, rfl, ⟨dx, l, ts, i, h1, h2, rfl, h4, h5, h6⟩, hd, q⟩ := h
  refine ⟨_, rfl, r, _, dx, _, _, rfl, h1, T.c_Reader, T.n_Reader_depth, rfl, _, rfl, _, _, rfl, rfl, dx, _, h1, by show 3 < 1000; decide, ?_⟩
  obtain ⟨k1, k2⟩ := RdAt.step (o := .ins (cR K) dx (putF "_depth" (.int ((d : Int) + c)) (rfs l (i : Int) (d : Int)))) h1 h2 h4 h5 h6 i d' h4 (by rw [hd]; rfl)
  refine ⟨_, rfl, r, _, dx, _, _, rfl, upd_same, T.c_Reader, T.n_Reader_depth, rfl, _, _, rfl, rfl, _, rfl, ?_⟩
  show if decide ((24 : Int) < (d : Int) + c) = true then _ else _
  by_cases h24 : 24 < d'
  · rw [decide_eq_true (show (24 : Int) < (d : Int) + c by omega)]
    rw [if_pos h24] at q
    exact iteT ⟨_, rfl, bad0 k1 q⟩
  · rw [decide_eq_false (show ¬ (24 : Int) < (d : Int) + c by omega)]
    rw [if_neg h24] at q
    exact iteF (q _ k1 k2)
theorem df_RInit (T : Fc K mg) : Df P w K mg base (L2N.CX P w) 4 (mR K "__init__") ["self", "text"] (spRInit K) := by
  refine dfN T.e_Reader_init sc_Reader_init (fun vs H Q E h => ?_) (fun cdv A outer s H vs Q E hr h => ⟨_,
    pss_cons (ps_fld (pv 0) (pe_df (df_Tokens T) T.g_tokens_of hr pxN (pa_cons (pv 1) pa_nil)) rfl) (pss_cons (ps_fld (pv 0) pe_int rfl) (pss_one (ps_fld (pv 0) pe_int rfl))), ?_⟩)
  · obtain ⟨_, _, _, rfl, _⟩ := h
    rfl
  obtain ⟨x, dx, l, rfl, hx, hz, q⟩ := h
  refine ⟨_, rfl, l, rfl, hz, ?_⟩
  cases ht : TwP.tokens l with
  | none =>
    rw [ht] at q
    exact q
  | some ts =>
    rw [ht] at q
    intro H1 p e1 hp0 hp
    have hx1 := e1 _ _ hx
    refine ⟨_, rfl, x, _, dx, _, rfl, hx1, T.c_Reader, T.n_Reader_tokens, by show 0 < 1000; decide, ?_⟩
    refine ⟨_, rfl, x, _, dx, _, rfl, upd_same, T.c_Reader, T.n_Reader_place, by show 1 < 1000; decide, ?_⟩
    refine ⟨_, rfl, x, _, dx, _, rfl, upd_same, T.c_Reader, T.n_Reader_depth, by show 2 < 1000; decide, ?_⟩
    rw [upd_upd, upd_upd]
    refine q _ ⟨(keepR_of e1).trans (keepR_upd _), fun dx' l' i' d' z => by rw [hx] at z; injection z with z; injection z with _ _ z; cases z⟩ ⟨dx, p, ts, 0, upd_same, ?_, rfl, Nat.zero_le _, Nat.le_trans (tokens_cnt ht) hz, fun t h => ?_⟩
    · rw [upd_ne (ne_of hp hx1 fun z => by cases z)]
      exact hp
    · have := TwP.tokens_le ht t h
      omega
end
end Tw
end

section
set_option Elab.async false
set_option linter.all false
set_option maxRecDepth 100000
set_option maxHeartbeats 4000000
/-! The walks of the module of reading: values, atoms. -/
namespace Tw
open PySem PySem.Spec PyProof.Rows L2
open TwP (Tx Val)
/-! ### list(text) -/
theorem signs_vals : ∀ (l : Tx) (its : List Value) (k : Nat), its.length = l.length → (∀ (j : Nat) (v : Value), its[j]? = some v → ∃ (c : Nat) (u : Tok), l[j]? = some c ∧ v = Value.str ⟨#[c]⟩ u) → Vals (l.map fun c => sV [c]) its
  | [], [], _, _, _ => .nil
  | [], _ :: _, _, h, _ => by simp at h
  | _ :: _, [], _, h, _ => by simp at h
  | c :: l, v :: its, k, h, hs => by
    obtain ⟨c', u, h1, h2⟩ := hs 0 v rfl
    have e : c' = c := by simpa using h1.symm
    subst e
    exact .cons ⟨u, h2⟩ (signs_vals l its k (by simpa using h) fun j w hw => hs (j + 1) w (by simpa using hw))
def rListS : List V → Hp → VK → Prop := fun xs H Q => ∃ l : Tx, xs = [sV l] ∧ l.length ≤ 10000 ∧ ∀ p, H p = none → Q (.ref p) (upd H p (.lst (l.map fun c => sV [c])))
theorem call_listS {X : Cx} (hc : X.calm = true) : CallR X (.type "list") rListS := by
  intro pins s σ H xs us Q I r h
  obtain ⟨l, rfl, hz, q⟩ := h
  obtain ⟨u, rfl, t, rfl⟩ := vals1 r
  have hsz : (SX.S l).cps.size = l.length := by simp [SX.S]
  refine PySem.call_list_str (I.ok.hd hc) (SX.S l) t (fun h' tk acc c' kp hS hI => ?_) (by rw [hsz]; exact le_line (by omega))
  obtain ⟨h1, h2⟩ := hI
  have r' : Vals (l.map fun c => sV [c]) acc.toList := by
    refine signs_vals l acc.toList 0 (by rw [Array.length_toList, h1, hsz]) fun j v hj => ?_
    obtain ⟨c, u, h3, h4⟩ := h2 j v (by simpa using hj)
    exact ⟨c, u, by simpa [SX.S] using h3, h4⟩
  exact ⟨.ref s.heap.objs.size, _, I.laid (t' := tk) kp (Nat.le_refl _) (show ObjOk X.prog X.w _ h' _ (.lst (l.map fun c => sV [c])) from ⟨by rw [List.length_map]; exact le_line (by omega), acc.toList, c', r', by simpa using hS⟩), rfl, q _ (I.hok.fresh (Nat.le_refl _))⟩
/-! ### what a reader of values, of atoms answers -/
section
variable (K : PySem.W.Frag)
def resV (r : Addr) (H : Hp) (d : Nat) (Q : VK) (E : XK) : Option (Val × List Tx) → Prop
  | none => failR K r H E
  | some p => ∀ H', KeepS K r H H' → RdAt K H' r p.2 d → Q (vV p.1) H'
def resL (r : Addr) (H : Hp) (d : Nat) (Q : VK) (E : XK) : Option (List Val × List Tx) → Prop
  | none => failR K r H E
  | some p => ∀ H' l, KeepS K r H H' → RdAt K H' r p.2 d → H' l = some (.lst (p.1.map vV)) → Q (.ref l) H'
def resM (r : Addr) (H : Hp) (d : Nat) (Q : VK) (E : XK) : Option (Int × List Tx) → Prop
  | none => failR K r H E
  | some p => ∀ H', KeepS K r H H' → RdAt K H' r p.2 d → Q (.int p.1) H'
def resA (r : Addr) (H : Hp) (d : Nat) (Q : VK) (E : XK) : Option (Tr × List Tx) → Prop
  | none => failR K r H E
  | some p => ∀ H' a, KeepS K r H H' → RdAt K H' r p.2 d → TestAt (cT K) H' p.1 a → Q (.ref a) H'
def spRVal : Sp := fun vs H Q E => ∃ r rest d, vs = [.ref r] ∧ RdAt K H r rest d ∧ resV K r H d Q E (TwP.rVal rest)
def spRVals : Sp := fun vs H Q E => ∃ r rest d, vs = [.ref r] ∧ RdAt K H r rest d ∧ resL K r H d Q E (TwP.rVals rest)
def spRMore : Sp := fun vs H Q E => ∃ r rest d, vs = [.ref r] ∧ RdAt K H r rest d ∧ resM K r H d Q E (TwP.rMore rest)
def spRAtom : Sp := fun vs H Q E => ∃ r rest d, vs = [.ref r] ∧ RdAt K H r rest d ∧ resA K r H d Q E (TwP.rAtom rest)
end
section
variable {P : Program} {w : World} {K : PySem.W.Frag} {mg : Str → Option Value} {base : Heap}
theorem RdAt.ins {H : Hp} {r : Addr} {rest : List Tx} {d : Nat} (h : RdAt K H r rest d) : ∃ dx l i e, H r = some (.ins (cR K) dx (rfs l i e)) := by
  obtain ⟨dx, l, ts, i, h1, _⟩ := h
  exact ⟨dx, l, _, _, h1⟩
theorem RdAt.same {H H' : Hp} (e : Same H H') {r : Addr} {rest : List Tx} {d : Nat} (h : RdAt K H r rest d) : RdAt K H' r rest d := by
  obtain ⟨dx, l, ts, i, h1, h2, h3⟩ := h
  exact ⟨dx, l, ts, i, e _ _ h1, e _ _ h2, h3⟩
theorem RdAt.bd {H : Hp} {r : Addr} {rest : List Tx} {d : Nat} (h : RdAt K H r rest d) : rest.length ≤ 20000 ∧ ∀ t ∈ rest, 1 ≤ t.length ∧ t.length ≤ 20000 := by
  obtain ⟨dx, l, ts, i, h1, h2, rfl, h4, h5, h6⟩ := h
  exact ⟨by rw [List.length_drop]; omega, fun t ht => h6 t (List.mem_of_mem_drop ht)⟩
theorem RdAt.head {H : Hp} {r : Addr} {rest : List Tx} {d : Nat} (h : RdAt K H r rest d) : (rest.headD []).length ≤ 20000 := by
  have hb := h.bd
  cases rest with
  | nil => exact Nat.zero_le _
  | cons t r' => exact (hb.2 t List.mem_cons_self).2
theorem failB {r : Addr} {H H1 : Hp} {E : XK} (q : failR K r H E) (e : KeepS K r H H1) : ∀ dd H', Same H1 H' → B0 K E H' dd := fun dd H' e' hb => q _ _ _ (e.trans (keepS_of e')) (.inl ⟨rfl, dd, rfl, hb⟩)
theorem failK {r : Addr} {H H1 : Hp} {E : XK} (q : failR K r H E) (e : KeepS K r H H1) : failR K r H1 E := fun cls dd H' e' b => q cls dd H' (e.trans e') b
theorem mk_res {r : Addr} {H H1 : Hp} {d : Nat} {rest : List Tx} {Q : VK} {E : XK} {o : Option Tr} (e : KeepS K r H H1) (hR : RdAt K H1 r rest d) (q : resA K r H d Q E (o.map (·, rest))) : resT K H1 Q E o := by
  cases o with
  | none => exact fun dd H' e' => q _ _ _ (e.trans (keepS_of e')) (.inr ⟨rfl, dd, rfl⟩)
  | some t => exact fun H' a e' ht => q H' a (e.trans (keepS_of e')) (hR.same e') ht
theorem cut1 (t : Tx) : cutS (SX.S t) none (some 1) = SX.S (t.take 1) := by
  rw [cut_S]
  have e1 : HT.sIx t.length t.length (some (1 : Int)) = min 1 t.length := HT.sIx_nat _ _ 1
  rw [e1, HT.sIx_none, List.drop_zero, Nat.sub_zero]
  congr 1
  cases t with
  | nil => rfl
  | cons c r =>
    rw [List.length_cons, Nat.min_eq_left (by omega)]
theorem hdQ_eq (rest : List Tx) : decide ((rest.headD []).take 1 = [34]) = TwP.hdQ rest := by
  cases rest with
  | nil => rfl
  | cons t r =>
    cases t with
    | nil => rfl
    | cons c x =>
      show decide ([c] = [34]) = decide (c = 34)
      by_cases h : c = 34
      · rw [decide_eq_true h, decide_eq_true (by rw [h])]
      · rw [decide_eq_false h, decide_eq_false fun z => h (List.cons.inj z).1]
theorem hd_eq (w : Tx) (hw : w ≠ []) (rest : List Tx) : decide (rest.headD [] = w) = TwP.hdIs w rest := by
  cases rest with
  | nil => exact decide_eq_false fun z => hw z.symm
  | cons t r => rfl
theorem hdD_eq (rest : List Tx) : inV (sV ((rest.headD []).take 1)) (digs.map fun c => sV [c]) = TwP.hdD rest := by
  have e : (digs.map fun c => sV [c]) = (digs.map fun c => ([c] : Tx)).map sV := by rw [List.map_map]; rfl
  rw [e, inV_S]
  cases rest with
  | nil => decide
  | cons t r =>
    cases t with
    | nil => show (digs.map fun c => ([c] : Tx)).contains [] = false; decide
    | cons c x =>
      show (digs.map fun c => ([c] : Tx)).contains [c] = TwP.isDig c
      rw [← mem_digs]
      rw [Bool.eq_iff_iff, List.contains_iff_mem, decide_eq_true_iff, List.mem_map]
      constructor
      · rintro ⟨c', h1, h2⟩
        rw [← (List.cons.inj h2).1]
        exact h1
      · exact fun h => ⟨c, h, rfl⟩
theorem flat_d : (digs.map fun c => sV [c]).all flatV = true := by decide
theorem rnk {l : Addr} {i d : Int} {m : Str} (h : (m == ("_tokens" : Str)) = false ∧ (m == ("_place" : Str)) = false ∧ (m == ("_depth" : Str)) = false := by decide) : (rfs l i d).lookup m = none := rfs_lk h
/-- a number behind the reader's state H1 -/
theorem num_take {r : Addr} {H H1 : Hp} {d : Nat} {E : XK} {ts : List Tx} {σ : L2.St} (hσ : σ[0]? = some (some (.ref r))) (e1 : KeepS K r H H1) (hR1 : RdAt K H1 r ts d) (G : VK) (hg : match TwP.rNum ts with | none => failR K r H E | some p => ∀ H', KeepS K r H H' → RdAt K H' r p.2 d → G (.int (p.1 : Int)) H') :
    tMeth (cR K) "take" (spTake K) [] E (tVar 0) tNil σ H1 (fun x H2 => spNum K [x] H2 G E) := by
  obtain ⟨dx1, l1, i1, e01, h11⟩ := hR1.ins
  refine ⟨_, hσ, r, dx1, _, rfl, h11, rnk, r, ts, d, rfl, hR1, ?_⟩
  cases ts with
  | nil => exact failK hg e1
  | cons t ts' =>
    intro H2 e2 hR2
    have ht := (hR1.bd.2 t List.mem_cons_self).2
    refine ⟨t, rfl, ht, ?_⟩
    cases hn : TwP.numOf t with
    | none =>
      rw [show TwP.rNum (t :: ts') = none by show (TwP.numOf t).map _ = none; rw [hn]; rfl] at hg
      exact failB hg (e1.trans e2)
    | some n =>
      rw [show TwP.rNum (t :: ts') = some (n, ts') by show (TwP.numOf t).map _ = _; rw [hn]; rfl] at hg
      exact hg H2 (e1.trans e2) hR2
/-- a text's inner part behind the reader's state H1 -/
theorem str_take {r : Addr} {H H1 : Hp} {d : Nat} {E : XK} {ts : List Tx} {σ : L2.St} (hσ : σ[0]? = some (some (.ref r))) (hq : TwP.hdQ ts = true) (e1 : KeepS K r H H1) (hR1 : RdAt K H1 r ts d) (G : VK) (hg : match TwP.rStr ts with | none => failR K r H E | some p => ∀ H', KeepS K r H H' → RdAt K H' r p.2 d → G (sV p.1) H') :
    tMeth (cR K) "take" (spTake K) [] E (tVar 0) tNil σ H1 (fun x H2 => spUnq K [x] H2 G E) := by
  obtain ⟨dx1, l1, i1, e01, h11⟩ := hR1.ins
  refine ⟨_, hσ, r, dx1, _, rfl, h11, rnk, r, ts, d, rfl, hR1, ?_⟩
  cases ts with
  | nil => cases hq
  | cons t ts' =>
    intro H2 e2 hR2
    have ht := (hR1.bd.2 t List.mem_cons_self).2
    refine ⟨t, rfl, ht, ?_⟩
    cases hu : TwP.unq false (TwP.inner t) with
    | none =>
      rw [show TwP.rStr (t :: ts') = none by show (TwP.unq false (TwP.inner t)).map _ = none; rw [hu]; rfl] at hg
      exact failB hg (e1.trans e2)
    | some l =>
      rw [show TwP.rStr (t :: ts') = some (l, ts') by show (TwP.unq false (TwP.inner t)).map _ = _; rw [hu]; rfl] at hg
      exact hg H2 (e1.trans e2) hR2
theorem df_RVal (T : Fc K mg) : Df P w K mg base (L2N.CX P w) 3 (He.ga K "read_value") ["reader"] (spRVal K) := by
  refine dfN T.e_read_value sc_read_value (fun vs H Q E h => ?_) (fun cdv A outer s H vs Q E hr h => ⟨_,
    pss_cons (ps_if (pt_cmpR op_eq (pe_slice sl_str (pe_dm0 (df_Peek T) T.c_Reader T.m_Reader_peek (hr.mono (by decide)) pass0 (pv 0)) po_none (po_some pe_int)) pe_str (nomark _))
      (pss_one (ps_ret (pe_df (df_Unq T) T.g_unquoted (hr.mono (by decide)) pxN (pa_cons (pe_dm0 (df_Take T) T.c_Reader T.m_Reader_take hr pxN (pv 0)) pa_nil)))) pss_nil)
    (pss_cons (ps_if (pt_val (pe_dm (df_Skip T) T.c_Reader T.m_Reader_skip hr pass0 (pv 0) (pa_cons pe_str pa_nil)))
      (pss_one (ps_ret (pe_un un_neg (pe_df (df_Num T) T.g_number_of (hr.mono (by decide)) pxN (pa_cons (pe_dm0 (df_Take T) T.c_Reader T.m_Reader_take hr pxN (pv 0)) pa_nil))))) pss_nil)
    (pss_one (ps_ret (pe_df (df_Num T) T.g_number_of (hr.mono (by decide)) pxN (pa_cons (pe_dm0 (df_Take T) T.c_Reader T.m_Reader_take hr pxN (pv 0)) pa_nil))))), ?_⟩)
  · obtain ⟨_, _, _, rfl, _⟩ := h
    rfl
  obtain ⟨r, rest, d, rfl, hR, q⟩ := h
  obtain ⟨dx, l, i, e0, h1⟩ := hR.ins
  have hline : (SX.S (rest.headD [])).length ≤ sizeLine := by rw [len_S]; exact le_line (by have := hR.head; omega)
  refine ⟨_, rfl, r, dx, _, rfl, h1, rnk, r, rest, d, rfl, hR, _, rfl, _, rfl, hline, rfl, _, rfl, ?_⟩
  show if decide (V.str (cutS (SX.S (rest.headD [])) none (some 1)) = V.str (SX.S [34])) = true then _ else _
  rw [cut1, dec_S, hdQ_eq]
  unfold TwP.rVal at q
  cases hq : TwP.hdQ rest with
  | true =>
    rw [hq, if_pos rfl] at q
    refine iteT (str_take rfl hq (KeepS.refl _ _) hR Q ?_)
    cases hn : TwP.rStr rest with
    | none =>
      rw [hn] at q
      exact q
    | some p =>
      rw [hn] at q
      exact q
  | false =>
    rw [hq, if_neg (by decide)] at q
    refine iteF ⟨_, rfl, r, dx, _, rfl, h1, rnk, r, rest, d, [45], rfl, by decide, hR, ?_⟩
    cases hm : TwP.hdIs [45] rest with
    | true =>
      rw [hm, if_pos rfl] at q
      rw [if_pos rfl]
      intro H1 e1 hR1
      refine ⟨_, rfl, iteT ?_⟩
      refine num_take rfl e1 hR1 (fun x H2 => ∃ i, x = .int i ∧ Q (.int (-i)) H2) ?_
      cases hn : TwP.rNum rest.tail with
      | none =>
        rw [hn] at q
        exact q
      | some p =>
        rw [hn] at q
        exact fun H' e' hR' => ⟨_, rfl, q H' e' hR'⟩
    | false =>
      rw [hm, if_neg (by decide)] at q
      rw [if_neg (by decide)]
      refine ⟨_, rfl, iteF ?_⟩
      refine num_take rfl (KeepS.refl _ _) hR Q ?_
      cases hn : TwP.rNum rest with
      | none =>
        rw [hn] at q
        exact q
      | some p =>
        rw [hn] at q
        exact q
/-- another object beside the reader, new since H, is changed -/
theorem KeepS.side {r L : Addr} {H H5 : Hp} {o : HO} (e : KeepS K r H H5) (hL : H L = none) (n : L ≠ r) : KeepS K r H (upd H5 L o) := ⟨fun b u nb q => by
  rw [upd_ne (ne_of_none q hL)]
  exact e.1 b u nb q, fun dx l i d q => by
  rw [upd_ne (Ne.symm n)]
  exact e.2 dx l i d q⟩
theorem RdAt.side {r L : Addr} {H H5 : Hp} {o : HO} {rest0 rest : List Tx} {d0 d : Nat} (h0 : RdAt K H r rest0 d0) (e : KeepS K r H H5) (hL : H L = none) (n : L ≠ r) (h : RdAt K H5 r rest d) : RdAt K (upd H5 L o) r rest d := by
  obtain ⟨dx0, l0, ts0, i0, a1, a2, _⟩ := h0
  obtain ⟨i', d', b1⟩ := e.2 dx0 l0 _ _ a1
  obtain ⟨dx, l, ts, i, c1, c2, c3⟩ := h
  rw [b1] at c1
  injection c1 with c1
  injection c1 with _ e1 e2
  injection e2 with e3 e5
  injection e3 with _ e4
  injection e4 with e4
  have c1' : H5 r = some (.ins (cR K) dx (rfs l (i : Int) (d : Int))) := by
    rw [b1, e1, e4]
    unfold rfs
    rw [e5]
  subst e4
  refine ⟨dx, l0, ts, i, ?_, ?_, c3⟩
  · rw [upd_ne (Ne.symm n)]
    exact c1'
  · rw [upd_ne (ne_of_none a2 hL)]
    exact c2
/-- need('..') in a def of the kind L2N.CX -/
theorem df_RVals (T : Fc K mg) : Df P w K mg base (L2N.CX P w) 5 (He.ga K "read_values") ["reader"] (spRVals K) := by
  refine dfN T.e_read_values sc_read_values (fun vs H Q E h => ?_) (fun cdv A outer s H vs Q E hr h => ⟨_,
    pss_cons (ps_expr (pe_methR (pv 0) T.c_Reader T.m_Reader_need (fr_Need T) hr pxN (pa_cons pe_str pa_nil)))
    (pss_cons (ps_set (i := 1) sc_read_values.nd rfl (.inl rfl) (pe_lst (pa_cons (pe_df (df_RVal T) T.g_read_value (hr.mono (by decide)) pxN (pa_cons (pv 0) pa_nil)) pa_nil)))
    (pss_cons (ps_while (L2.passes_of rfl) (pt_val (pe_dm (df_Skip T) T.c_Reader T.m_Reader_skip (hr.mono (by decide)) pass0 (pv 0) (pa_cons pe_str pa_nil)))
      (pss_one (ps_expr (pe_bm PySem.F.plainAttrs_list PySem.F.slot_list_append PySem.F.type_list_append mt_append (pv 1) (pa_cons (pe_df (df_RVal T) T.g_read_value (hr.mono (by decide)) pxN (pa_cons (pv 0) pa_nil)) pa_nil)))))
    (pss_cons (ps_expr (pe_methR (pv 0) T.c_Reader T.m_Reader_need (fr_Need T) hr pxN (pa_cons pe_str pa_nil)))
    (pss_one (ps_ret (pv 1)))))), ?_⟩)
  · obtain ⟨_, _, _, rfl, _⟩ := h
    rfl
  obtain ⟨r, rest, d, rfl, hR, q⟩ := h
  obtain ⟨dx, l, i, e0, h1⟩ := hR.ins
  unfold TwP.rVals at q
  refine ⟨_, rfl, r, dx, _, rfl, h1, rnk, r, rest, d, [40], rfl, by decide, hR, ?_⟩
  cases hn : TwP.need [40] rest with
  | none =>
    rw [hn] at q
    exact q
  | some rest1 =>
  rw [hn] at q
  intro H1 e1 hR1
  refine ⟨_, rfl, r, rest1, d, rfl, hR1, ?_⟩
  have q1 : resL K r H d Q E ((TwP.rVal rest1).bind fun p => (TwP.rVs p.2.length [p.1] p.2).bind fun q => (TwP.need [41] q.2).map fun r => (q.1, r)) := q
  cases hv : TwP.rVal rest1 with
  | none =>
    rw [hv] at q1
    exact failK q1 e1
  | some p =>
  rw [hv] at q1
  obtain ⟨v0, rest2⟩ := p
  intro H2 e2 hR2
  have q2 : resL K r H d Q E ((TwP.rVs rest2.length [v0] rest2).bind fun q => (TwP.need [41] q.2).map fun r => (q.1, r)) := q1
  refine ⟨by show 1 ≤ sizeLine; decide, fun L hL => ?_⟩
  have hb2 : rest2.length ≤ 20000 := hR2.bd.1
  have hL2 : H2 L = none := hL
  have nLr0 : L ≠ r := fun z => by
    obtain ⟨dx2, l2, i2, e02, h12⟩ := hR2.ins
    rw [z, h12] at hL2
    cases hL2
  have hL0 : H L = none := by
    cases hh : H L with
    | none => rfl
    | some u =>
      have := (e1.trans e2).1 L u nLr0 hh
      rw [hL2] at this
      cases this
  refine ⟨fun m σ H' => ∃ (acc : List Val) (rs : List Tx), KeepS K r H H' ∧ RdAt K H' r rs d ∧ H' L = some (.lst (acc.map vV)) ∧ σ = [some (.ref r), some (.ref L)] ∧ rs.length ≤ m ∧ m ≤ 20000 ∧ acc.length + m ≤ 20001 ∧ TwP.rVs m acc rs = TwP.rVs rest2.length [v0] rest2, ⟨rest2.length, [v0], rest2, (e1.trans e2).trans (keepS_of (same_new hL _)), hR2.same (same_new hL _), upd_same, rfl, Nat.le_refl _, hb2, by rw [List.length_singleton]; omega, rfl⟩, ?_⟩
  rintro m σ H' ⟨acc, rs, e3, hR3, hLl, rfl, hm, hm2, hac, hO⟩
  obtain ⟨dx3, l3, i3, e03, h13⟩ := hR3.ins
  refine ⟨_, rfl, r, dx3, _, rfl, h13, rnk, r, rs, d, [44], rfl, by decide, hR3, ?_⟩
  cases hc : TwP.hdIs [44] rs with
  | true =>
    rw [if_pos rfl]
    intro H4 e4 hR4
    have hLl4 := e4.1 _ _ nLr0 hLl
    cases m with
    | zero =>
      have : rs = [] := List.eq_nil_of_length_eq_zero (by omega)
      rw [this] at hc
      cases hc
    | succ m =>
      have hO' : TwP.rVs rest2.length [v0] rest2 = (TwP.rVal rs.tail).bind fun p => TwP.rVs m (acc ++ [p.1]) p.2 := by
        rw [← hO]
        conv => lhs; unfold TwP.rVs
        rw [if_pos hc]
      have htl : rs.tail.length ≤ m := by
        rw [List.length_tail]
        omega
      refine ⟨_, rfl, iteT ⟨fun σ' H'' => ∃ (acc' : List Val) (rs' : List Tx), KeepS K r H H'' ∧ RdAt K H'' r rs' d ∧ H'' L = some (.lst (acc'.map vV)) ∧ σ' = [some (.ref r), some (.ref L)] ∧ rs'.length ≤ m ∧ acc'.length + m ≤ 20001 ∧ TwP.rVs m acc' rs' = TwP.rVs rest2.length [v0] rest2, ?_, ?_⟩⟩
      · rintro σ' H'' ⟨acc', rs', a1, a2, a3, a4, a5, a6, a7⟩
        exact ⟨m, Nat.lt_succ_self _, acc', rs', a1, a2, a3, a4, a5, by omega, a6, a7⟩
      refine ⟨_, rfl, .inl ⟨rfl, _, SqL.of hLl4⟩, _, rfl, r, rs.tail, d, rfl, hR4, ?_⟩
      cases hv2 : TwP.rVal rs.tail with
      | none =>
        rw [hv2] at hO'
        rw [show TwP.rVs rest2.length [v0] rest2 = none from hO'] at q2
        exact failK q2 (e3.trans e4)
      | some p2 =>
        obtain ⟨v2, rs2⟩ := p2
        rw [hv2] at hO'
        intro H5 e5 hR5
        have hLl5 := e5.1 _ _ nLr0 hLl4
        have hsl := (TwP.sh_val _ _ _ hv2).length_le
        refine ⟨L, _, _, rfl, rfl, hLl5, by rw [List.length_map]; exact lt_line (by omega), acc ++ [v2], rs2, ?_, ?_, ?_, rfl, by omega, ?_, hO'.symm⟩
        · exact ((e3.trans e4).trans e5).side hL0 nLr0
        · exact hR.side ((e3.trans e4).trans e5) hL0 nLr0 hR5
        · rw [upd_same, List.map_append]
          rfl
        · rw [List.length_append, List.length_singleton]
          omega
  | false =>
    rw [if_neg (by decide)]
    have hO' : TwP.rVs rest2.length [v0] rest2 = some (acc, rs) := by
      rw [← hO]
      cases m <;> (unfold TwP.rVs; rw [if_neg (by rw [hc]; decide)])
    rw [hO'] at q2
    refine ⟨_, rfl, iteF ⟨_, rfl, r, dx3, _, rfl, h13, rnk, r, rs, d, [41], rfl, by decide, hR3, ?_⟩⟩
    have q3 : resL K r H d Q E ((TwP.need [41] rs).map fun r => (acc, r)) := q2
    cases hn2 : TwP.need [41] rs with
    | none =>
      rw [hn2] at q3
      exact failK q3 e3
    | some r4 =>
      rw [hn2] at q3
      exact fun H4 e4 hR4 => ⟨_, rfl, q3 H4 L (e3.trans e4) hR4 (e4.1 _ _ nLr0 hLl)⟩
end
end Tw
end

section
set_option Elab.async false
set_option linter.all false
set_option maxRecDepth 100000
set_option maxHeartbeats 4000000
/-! The walks of the module of reading: atoms, parts, and, or. -/
namespace Tw
open PySem PySem.Spec PyProof.Rows L2
open TwP (Tx Val)
section
variable {P : Program} {w : World} {K : PySem.W.Frag} {mg : Str → Option Value} {base : Heap}
theorem rVs_cnt : ∀ (n : Nat) (acc : List Val) (ts : List Tx) (vs : List Val) (r : List Tx), TwP.rVs n acc ts = some (vs, r) → vs.length ≤ acc.length + n
  | 0, acc, ts, vs, r, h => by
    unfold TwP.rVs at h
    split at h
    · cases h
    · cases h
      exact Nat.le_refl _
  | n + 1, acc, ts, vs, r, h => by
    unfold TwP.rVs at h
    split at h
    · obtain ⟨⟨p, q⟩, h1, h2⟩ := Option.bind_eq_some_iff.mp h
      have := rVs_cnt n _ _ _ _ h2
      rw [List.length_append, List.length_singleton] at this
      omega
    · cases h
      omega
theorem rVals_cnt {ts : List Tx} {vs : List Val} {r : List Tx} (h : TwP.rVals ts = some (vs, r)) : vs.length ≤ ts.length + 1 := by
  unfold TwP.rVals at h
  obtain ⟨r1, h1, h⟩ := Option.bind_eq_some_iff.mp h
  obtain ⟨⟨v, r2⟩, h2, h⟩ := Option.bind_eq_some_iff.mp h
  obtain ⟨⟨vs', r3⟩, h3, h⟩ := Option.bind_eq_some_iff.mp h
  obtain ⟨r4, h4, e⟩ := Option.map_eq_some_iff.mp h
  cases e
  have c1 := rVs_cnt _ _ _ _ _ h3
  have c2 := (TwP.sh_val _ _ _ h2).length_le
  have c3 := (TwP.need_suf h1).length_le
  rw [List.length_singleton] at c1
  show vs'.length ≤ _
  have c1' : vs'.length ≤ 1 + r2.length := c1
  omega
theorem df_RMore (T : Fc K mg) : Df P w K mg base (L2N.CX P w) 3 (He.ga K "read_more") ["reader"] (spRMore K) := by
  refine dfN T.e_read_more sc_read_more (fun vs H Q E h => ?_) (fun cdv A outer s H vs Q E hr h => ⟨_,
    pss_cons (ps_if (pt_val (pe_dm (df_Skip T) T.c_Reader T.m_Reader_skip hr pass0 (pv 0) (pa_cons pe_str pa_nil)))
      (pss_one (ps_ret (pe_df (df_Num T) T.g_number_of (hr.mono (by decide)) pxN (pa_cons (pe_dm0 (df_Take T) T.c_Reader T.m_Reader_take hr pxN (pv 0)) pa_nil)))) pss_nil)
    (pss_cons (ps_if (pt_val (pe_dm (df_Skip T) T.c_Reader T.m_Reader_skip hr pass0 (pv 0) (pa_cons pe_str pa_nil)))
      (pss_one (ps_ret (pe_un un_neg (pe_df (df_Num T) T.g_number_of (hr.mono (by decide)) pxN (pa_cons (pe_dm0 (df_Take T) T.c_Reader T.m_Reader_take hr pxN (pv 0)) pa_nil))))) pss_nil)
    (pss_one (ps_ret pe_int))), ?_⟩)
  · obtain ⟨_, _, _, rfl, _⟩ := h
    rfl
  obtain ⟨r, rest, d, rfl, hR, q⟩ := h
  obtain ⟨dx, l, i, e0, h1⟩ := hR.ins
  unfold TwP.rMore at q
  refine ⟨_, rfl, r, dx, _, rfl, h1, rnk, r, rest, d, [43], rfl, by decide, hR, ?_⟩
  cases hp : TwP.hdIs [43] rest with
  | true =>
    rw [hp, if_pos rfl] at q
    rw [if_pos rfl]
    intro H1 e1 hR1
    refine ⟨_, rfl, iteT (num_take rfl e1 hR1 Q ?_)⟩
    cases hn : TwP.rNum rest.tail with
    | none =>
      rw [hn] at q
      exact q
    | some p =>
      rw [hn] at q
      exact q
  | false =>
    rw [hp, if_neg (by decide)] at q
    rw [if_neg (by decide)]
    refine ⟨_, rfl, iteF ⟨_, rfl, r, dx, _, rfl, h1, rnk, r, rest, d, [45], rfl, by decide, hR, ?_⟩⟩
    cases hm : TwP.hdIs [45] rest with
    | true =>
      rw [hm, if_pos rfl] at q
      rw [if_pos rfl]
      intro H1 e1 hR1
      refine ⟨_, rfl, iteT (num_take rfl e1 hR1 (fun x H2 => ∃ i, x = .int i ∧ Q (.int (-i)) H2) ?_)⟩
      cases hn : TwP.rNum rest.tail with
      | none =>
        rw [hn] at q
        exact q
      | some p =>
        rw [hn] at q
        exact fun H' e' hR' => ⟨_, rfl, q H' e' hR'⟩
    | false =>
      rw [hm, if_neg (by decide)] at q
      rw [if_neg (by decide)]
      exact ⟨_, rfl, iteF (q H (KeepS.refl _ _) hR)⟩
theorem df_RAtom (T : Fc K mg) : Df P w K mg base (L2N.CX P w) 6 (He.ga K "read_atom") ["reader"] (spRAtom K) := by
  obtain ⟨td, hd⟩ := T.s_DIGITS
  obtain ⟨⟨fdA, FA, bA⟩, kA⟩ := df_against (P := P) (w := w) (base := base) T
  refine dfN T.e_read_atom sc_read_atom (fun vs H Q E h => ?_) (fun cdv A outer s H vs Q E hr h => ⟨_,
    pss_cons (ps_set (i := 1) sc_read_atom.nd rfl (.inl rfl) (pe_dm0 (df_Take T) T.c_Reader T.m_Reader_take (hr.mono (by decide)) pxN (pv 0)))
    (pss_cons (ps_if (pt_cmpR op_eq (pv 1) pe_str (nomark _)) (pss_one (ps_ret (pe_df0 (df_always T) T.g_always (hr.mono (by decide)) pxN))) pss_nil)
    (pss_cons (ps_if (pt_cmpR op_eq (pv 1) pe_str (nomark _)) (pss_one (ps_ret (pe_df0 (df_never T) T.g_never (hr.mono (by decide)) pxN))) pss_nil)
    (pss_cons (ps_set (i := 2) sc_read_atom.nd rfl (.inl rfl) (pe_dm0 (df_Take T) T.c_Reader T.m_Reader_take (hr.mono (by decide)) pxN (pv 0)))
    (pss_cons (ps_if (pt_cmpR op_eq (pv 2) pe_str (nomark _)) (pss_cons (ps_expr (pe_methR (pv 0) T.c_Reader T.m_Reader_need (fr_Need T) (hr.mono (by decide)) pxN (pa_cons pe_str pa_nil)))
      (pss_one (ps_ret (pe_df (df_empty T) T.g_empty (hr.mono (by decide)) pxN (pa_cons (pv 1) pa_nil))))) pss_nil)
    (pss_cons (ps_if (pt_cmpR op_eq (pv 2) pe_str (nomark _))
      (pss_cons (ps_if (pt_cmpR op_ne (pe_slice sl_str (pe_dm0 (df_Peek T) T.c_Reader T.m_Reader_peek (hr.mono (by decide)) pass0 (pv 0)) po_none (po_some pe_int)) pe_str (nomark _)) (pss_one (ps_raiseE rfl T.ex.bx (room_one hr) tkN (pa_cons pe_int pa_nil))) pss_nil)
      (pss_one (ps_ret (pe_df (df_begins T) T.g_begins (hr.mono (by decide)) pxN (pa_cons (pv 1) (pa_cons (pe_df (df_Unq T) T.g_unquoted (hr.mono (by decide)) pxN (pa_cons (pe_dm0 (df_Take T) T.c_Reader T.m_Reader_take (hr.mono (by decide)) pxN (pv 0)) pa_nil)) pa_nil)))))) pss_nil)
    (pss_cons (ps_if (pt_cmpR op_eq (pv 2) pe_str (nomark _)) (pss_one (ps_ret (pe_df (df_among T) T.g_among (hr.mono (by decide)) pxN (pa_cons (pv 1) (pa_cons (pe_df (df_RVals T) T.g_read_values hr pxN (pa_cons (pv 0) pa_nil)) pa_nil))))) pss_nil)
    (pss_cons (ps_if (PW.pt (pw_or (pt_cmpR op_eq (pe_slice sl_str (pe_dm0 (df_Peek T) T.c_Reader T.m_Reader_peek (hr.mono (by decide)) pass0 (pv 0)) po_none (po_some pe_int)) pe_str (nomark _))
        (pw_or (pt_cmpR op_eq (pe_dm0 (df_Peek T) T.c_Reader T.m_Reader_peek (hr.mono (by decide)) pass0 (pv 0)) pe_str (nomark _))
        (pw_or1 (pt_cmpR op_in_seq (pe_slice sl_str (pe_dm0 (df_Peek T) T.c_Reader T.m_Reader_peek (hr.mono (by decide)) pass0 (pv 0)) po_none (po_some pe_int)) (pe_callTy (call_listS rfl) rfl T.f_list bi_list (pa_cons (pe_gS hd) pa_nil)) rfl)))))
      (pss_one (ps_ret (pe_df (df_compare T) T.g_compare (hr.mono (by decide)) pxN (pa_cons (pv 1) (pa_cons (pv 2) (pa_cons (pe_df (df_RVal T) T.g_read_value (hr.mono (by decide)) pxN (pa_cons (pv 0) pa_nil)) pa_nil)))))) pss_nil)
    (pss_cons (ps_set (i := 3) sc_read_atom.nd rfl (.inl rfl) (pe_dm0 (df_Take T) T.c_Reader T.m_Reader_take (hr.mono (by decide)) pxN (pv 0)))
    (pss_one (ps_ret (pe_callN FA (hr.mono (by decide)) rfl T.g_against kA bA pxN (pa_cons (pv 1) (pa_cons (pv 2) (pa_cons (pv 3) pa_nil))) (pk_cons (pe_df (df_RMore T) T.g_read_more (hr.mono (by decide)) pxN (pa_cons (pv 0) pa_nil)) pk_nil)))))))))))), ?_⟩)
  · obtain ⟨_, _, _, rfl, _⟩ := h
    rfl
  obtain ⟨r, rest, d, rfl, hR, q⟩ := h
  obtain ⟨dx, l, i, e0, h1⟩ := hR.ins
  refine ⟨_, rfl, r, dx, _, rfl, h1, rnk, r, rest, d, rfl, hR, ?_⟩
  cases rest with
  | nil => exact q
  | cons name rest1 =>
  intro H1 e1 hR1
  replace hR1 : RdAt K H1 r rest1 d := hR1
  have hnl : name.length ≤ 20000 := (hR.bd.2 name List.mem_cons_self).2
  have q1 : resA K r H d Q E (if name = TwP.kAlways then some (.alw, rest1) else if name = TwP.kNever then some (.nev, rest1) else (TwP.take1 rest1).bind fun q => TwP.rAt2 name q.1 q.2) := q
  refine ⟨_, rfl, rfl, _, rfl, ?_⟩
  show if decide (V.str (SX.S name) = V.str (SX.S TwP.kAlways)) = true then _ else _
  rw [dec_S]
  by_cases ha : name = TwP.kAlways
  · rw [if_pos ha] at q1
    rw [decide_eq_true ha]
    exact iteT ⟨rfl, mk_res (o := some .alw) e1 hR1 q1⟩
  rw [if_neg ha] at q1
  rw [decide_eq_false ha]
  refine iteF ⟨_, rfl, rfl, _, rfl, ?_⟩
  show if decide (V.str (SX.S name) = V.str (SX.S TwP.kNever)) = true then _ else _
  rw [dec_S]
  by_cases hv : name = TwP.kNever
  · rw [if_pos hv] at q1
    rw [decide_eq_true hv]
    exact iteT ⟨rfl, mk_res (o := some .nev) e1 hR1 q1⟩
  rw [if_neg hv] at q1
  rw [decide_eq_false hv]
  obtain ⟨dx1, l1, i1, e01, h11⟩ := hR1.ins
  refine iteF ⟨_, rfl, r, dx1, _, rfl, h11, rnk, r, rest1, d, rfl, hR1, ?_⟩
  cases rest1 with
  | nil => exact failK q1 e1
  | cons word ts =>
  intro H2 e2 hR2
  replace hR2 : RdAt K H2 r ts d := hR2
  have q2 : resA K r H d Q E (TwP.rAt2 name word ts) := q1
  have e12 := e1.trans e2
  obtain ⟨dx2, l2, i2, e02, h12⟩ := hR2.ins
  unfold TwP.rAt2 at q2
  refine ⟨_, rfl, rfl, _, rfl, ?_⟩
  show if decide (V.str (SX.S word) = V.str (SX.S TwP.kIs)) = true then _ else _
  rw [dec_S]
  by_cases hw1 : word = TwP.kIs
  · rw [if_pos hw1] at q2
    rw [decide_eq_true hw1]
    refine iteT ⟨_, rfl, r, dx2, _, rfl, h12, rnk, r, ts, d, TwP.kEmpty, rfl, by decide, hR2, ?_⟩
    cases hn : TwP.need TwP.kEmpty ts with
    | none =>
      rw [hn] at q2
      exact failK q2 e12
    | some ts1 =>
      rw [hn] at q2
      exact fun H3 e3 hR3 => ⟨_, rfl, name, rfl, by omega, mk_res (e12.trans e3) hR3 q2⟩
  rw [if_neg hw1] at q2
  rw [decide_eq_false hw1]
  refine iteF ⟨_, rfl, rfl, _, rfl, ?_⟩
  show if decide (V.str (SX.S word) = V.str (SX.S TwP.kBegins)) = true then _ else _
  rw [dec_S]
  have hline : (SX.S (ts.headD [])).length ≤ sizeLine := by rw [len_S]; exact le_line (by have := hR2.head; omega)
  by_cases hw2 : word = TwP.kBegins
  · rw [if_pos hw2] at q2
    rw [decide_eq_true hw2]
    refine iteT ⟨_, rfl, r, dx2, _, rfl, h12, rnk, r, ts, d, rfl, hR2, _, rfl, _, rfl, hline, rfl, _, rfl, ?_⟩
    show if (!decide (V.str (cutS (SX.S (ts.headD [])) none (some 1)) = V.str (SX.S [34]))) = true then _ else _
    rw [cut1, dec_S, hdQ_eq]
    cases hq : TwP.hdQ ts with
    | false =>
      rw [hq, if_neg (by decide)] at q2
      exact iteT ⟨_, rfl, bad0 e12 q2⟩
    | true =>
      rw [hq, if_pos rfl] at q2
      refine iteF ⟨_, rfl, ?_⟩
      show tMeth (cR K) "take" (spTake K) [] E (tVar 0) tNil [some (.ref r), some (sV name), some (sV word), none] H2 (fun x H3 => spUnq K [x] H3 (fun y H4 => spBegins K [sV name, y] H4 Q E) E)
      refine str_take (H := H) rfl hq e12 hR2 _ ?_
      cases hs : TwP.rStr ts with
      | none =>
        rw [hs] at q2
        exact q2
      | some p =>
        rw [hs] at q2
        exact fun H3 e3 hR3 => ⟨name, p.1, rfl, by omega, mk_res e3 hR3 q2⟩
  rw [if_neg hw2] at q2
  rw [decide_eq_false hw2]
  refine iteF ⟨_, rfl, rfl, _, rfl, ?_⟩
  show if decide (V.str (SX.S word) = V.str (SX.S TwP.kIn)) = true then _ else _
  rw [dec_S]
  by_cases hw3 : word = TwP.kIn
  · rw [if_pos hw3] at q2
    rw [decide_eq_true hw3]
    refine iteT ⟨_, rfl, _, rfl, r, ts, d, rfl, hR2, ?_⟩
    cases hvs : TwP.rVals ts with
    | none =>
      rw [hvs] at q2
      exact failK q2 e12
    | some p =>
      rw [hvs] at q2
      intro H3 L e3 hR3 hL
      exact ⟨name, L, p.1, rfl, by omega, hL, by have := rVals_cnt hvs; have := hR2.bd.1; omega, mk_res (e12.trans e3) hR3 q2⟩
  rw [if_neg hw3] at q2
  rw [decide_eq_false hw3]
  -- what a value begins with
  have val : (TwP.hdQ ts || TwP.hdIs [45] ts || TwP.hdD ts) = true → ∀ H3, Same H2 H3 → tCall (spCompare K) [] E (tCons (tVar 1) (tCons (tVar 2) (tCons (tCall (spRVal K) [] E (tCons (tVar 0) tNil)) tNil))) [some (.ref r), some (sV name), some (sV word), none] H3 Q := fun hb H3 e3 => by
    rw [hb, if_pos rfl] at q2
    refine ⟨_, rfl, _, rfl, _, rfl, r, ts, d, rfl, hR2.same e3, ?_⟩
    cases hvv : TwP.rVal ts with
    | none =>
      rw [hvv] at q2
      exact failK q2 (e12.trans (keepS_of e3))
    | some p =>
      rw [hvv] at q2
      exact fun H4 e4 hR4 => ⟨name, word, p.1, rfl, by omega, mk_res ((e12.trans (keepS_of e3)).trans e4) hR4 q2⟩
  refine iteF ⟨_, rfl, r, dx2, _, rfl, h12, rnk, r, ts, d, rfl, hR2, _, rfl, _, rfl, hline, rfl, _, rfl, ?_⟩
  show if decide (V.str (cutS (SX.S (ts.headD [])) none (some 1)) = V.str (SX.S [34])) = true then _ else _
  rw [cut1, dec_S, hdQ_eq]
  cases hq : TwP.hdQ ts with
  | true => exact iteT (iteT (val (by rw [hq]; rfl) H2 (Same.refl _)))
  | false =>
  refine iteF ⟨_, rfl, r, dx2, _, rfl, h12, rnk, r, ts, d, rfl, hR2, rfl, _, rfl, ?_⟩
  show if decide (V.str (SX.S (ts.headD [])) = V.str (SX.S [45])) = true then _ else _
  rw [dec_S, hd_eq [45] (by decide)]
  cases hm : TwP.hdIs [45] ts with
  | true => exact iteT (iteT (val (by rw [hq, hm]; rfl) H2 (Same.refl _)))
  | false =>
  refine iteF ⟨_, rfl, r, dx2, _, rfl, h12, rnk, r, ts, d, rfl, hR2, _, rfl, _, rfl, hline, digs, rfl, by decide, fun p hp => ?_⟩
  refine ⟨p, _, rfl, .inl (SqL.of upd_same), rfl, flat_d, _, rfl, ?_⟩
  have e3 : Same H2 (upd H2 p (.lst (digs.map fun c => sV [c]))) := same_new hp _
  show if inV (V.str (cutS (SX.S (ts.headD [])) none (some 1))) (digs.map fun c => sV [c]) = true then _ else _
  rw [cut1, hdD_eq]
  cases hdd : TwP.hdD ts with
  | true => exact iteT (val (by rw [hq, hm, hdd]; rfl) _ e3)
  | false =>
  rw [hq, hm, hdd, if_neg (by decide)] at q2
  have hR3 := hR2.same e3
  refine iteF ⟨_, rfl, r, dx2, _, rfl, e3 _ _ h12, rnk, r, ts, d, rfl, hR3, ?_⟩
  cases ts with
  | nil => exact failK q2 (e12.trans (keepS_of e3))
  | cons other ts1 =>
  intro H4 e4 hR4
  have hol := (hR2.bd.2 other List.mem_cons_self).2
  have e14 := (e12.trans (keepS_of e3)).trans e4
  have q3 : resA K r H d Q E ((TwP.rMore ts1).bind fun q => (TwP.mkAgn name word other q.1).map (·, q.2)) := q2
  refine ⟨_, rfl, _, rfl, _, rfl, _, rfl, r, ts1, d, rfl, hR4, ?_⟩
  cases hmo : TwP.rMore ts1 with
  | none =>
    rw [hmo] at q3
    exact failK q3 e14
  | some p2 =>
    rw [hmo] at q3
    exact fun H5 e5 hR5 => ⟨rfl, rfl, name, word, other, p2.1, rfl, by omega, by omega, mk_res (e14.trans e5) hR5 q3⟩
end
end Tw
end

section
set_option Elab.async false
set_option linter.all false
set_option maxRecDepth 100000
set_option maxHeartbeats 4000000
/-! The walks of the module of reading: parts, and, or. -/
namespace Tw
open PySem PySem.Spec PyProof.Rows L2
open TwP (Tx Val)
section
variable {X : Cx} {CX : CXT} {k : Nat} {f C : Addr} {ps : List Str} {sp : Sp} {E : XK} {m : Str}
theorem op_df {op : Operator} (D : Df X.prog X.w X.K X.mg X.base CX k f ps sp) (hm : Meth X.K C m f) (e : PySem.dunder op.info.2 = m) (hc : PySem.W.selfFirst X.K C = true) (hr : Room k X.A) (hx : Passes CX X E) : OpR X (binaryOp op) (rOwn2 C sp E) := by
  obtain ⟨⟨fd, F, b⟩, kp⟩ := D
  exact op_own F hr b hx hc (by rw [e]; exact hm.at_) hm.fn
theorem un_df (D : Df X.prog X.w X.K X.mg X.base CX k f ps sp) (hm : Meth X.K C "__invert__" f) (hr : Room k X.A) (hx : Passes CX X E) : UnR X (unaryOp .Invert) (rOwn1 C sp E) := by
  obtain ⟨⟨fd, F, b⟩, kp⟩ := D
  exact un_own F hr b hx hm.at_ hm.fn
theorem call_strDf (D : Df X.prog X.w X.K X.mg X.base CX k f ps sp) (hm : Meth X.K C "__str__" f) (hr : Room (k + 2) X.A) (hx : Passes CX X E) : CallR X (.type "str") (rStrOwn C sp E) := by
  obtain ⟨⟨fd, F, b⟩, kp⟩ := D
  exact call_strOwn F hr b hx hm.at_ hm.fn
end
section
variable (K : PySem.W.Frag)
def spPart (m : Nat) : Sp := fun vs H Q E => ∃ r rest, vs = [.ref r] ∧ RdAt K H r rest (24 - m) ∧ resA K r H (24 - m) Q E (TwP.rPart m rest)
def spAnd (m : Nat) : Sp := fun vs H Q E => ∃ r rest, vs = [.ref r] ∧ RdAt K H r rest (24 - m) ∧ resA K r H (24 - m) Q E (TwP.rAnd (TwP.rPart m) rest)
def spOr (m : Nat) : Sp := fun vs H Q E => ∃ r rest, vs = [.ref r] ∧ RdAt K H r rest (24 - m) ∧ resA K r H (24 - m) Q E (TwP.rOr (TwP.rPart m) rest)
end
section
variable {P : Program} {w : World} {K : PySem.W.Frag} {mg : Str → Option Value} {base : Heap}
theorem TestAt.keepS (T : Fc K mg) {H H' : Hp} {r : Addr} {rest : List Tx} {d : Nat} (h : RdAt K H r rest d) (e : KeepS K r H H') {t : Tr} {a : Addr} (ht : TestAt (cT K) H t a) : TestAt (cT K) H' t a := by
  obtain ⟨dx, l, i, d', h1⟩ := h.ins
  exact ht.keep (keepT_ins h1 T.ex.tr e.1)
theorem resT_of {r : Addr} {H H1 : Hp} {E : XK} {o : Option Tr} {Q : VK} (e : KeepS K r H H1) (hn : o = none → failR K r H E) (hs : ∀ t, o = some t → ∀ H' a, Same H1 H' → TestAt (cT K) H' t a → Q (.ref a) H') : resT K H1 Q E o := by
  cases o with
  | none => exact fun d H' e' => hn rfl _ _ _ (e.trans (keepS_of e')) (.inr ⟨rfl, d, rfl⟩)
  | some t => exact hs t rfl
theorem df_RAnd (T : Fc K mg) {m k : Nat} (hk : 17 ≤ k) (D : Df P w K mg base (L2N.CX P w) k (He.ga K "read_part") ["reader"] (spPart K m)) : Df P w K mg base (L2N.CX P w) (k + 1) (He.ga K "read_and") ["reader"] (spAnd K m) := by
  refine dfN T.e_read_and sc_read_and (fun vs H Q E h => ?_) (fun cdv A outer s H vs Q E hr h => ⟨_,
    pss_cons (ps_set (i := 1) sc_read_and.nd rfl (.inl rfl) (pe_df D T.g_read_part hr pxN (pa_cons (pv 0) pa_nil)))
    (pss_cons (ps_while (L2.passes_of rfl) (pt_val (pe_dm (df_Skip T) T.c_Reader T.m_Reader_skip (hr.mono (by omega)) pass0 (pv 0) (pa_cons pe_str pa_nil)))
      (pss_one (ps_set (i := 1) sc_read_and.nd rfl (.inl rfl) (pe_op (op_df (df_and T) T.m_Test_and rfl T.ex.first (hr.mono hk) pxN) (pv 1) (pe_df D T.g_read_part hr pxN (pa_cons (pv 0) pa_nil))))))
    (pss_one (ps_ret (pv 1)))), ?_⟩)
  · obtain ⟨_, _, rfl, _⟩ := h
    rfl
  obtain ⟨r, rest, rfl, hR, q⟩ := h
  have bd : ∀ {H' : Hp} {rs : List Tx} {d : Nat}, RdAt K H' r rs d → TwP.Bd 20000 rs := fun h t ht => (h.bd.2 t ht).2
  refine ⟨_, rfl, r, rest, rfl, hR, ?_⟩
  unfold TwP.rAnd at q
  cases hp : TwP.rPart m rest with
  | none =>
    rw [hp] at q
    exact q
  | some p =>
  rw [hp] at q
  obtain ⟨x, rest1⟩ := p
  have q1 : resA K r H (24 - m) Q E (TwP.loopA (TwP.rPart m) rest1.length x rest1) := q
  have hpst := TwP.pp_part m 20000 _ _ _ (bd hR) hp
  intro H1 a e1 hR1 hx1
  refine ⟨fun n σ H' => ∃ (y : Tr) (b : Addr) (rs : List Tx), σ = [some (.ref r), some (.ref b)] ∧ KeepS K r H H' ∧ RdAt K H' r rs (24 - m) ∧ TestAt (cT K) H' y b ∧ TwP.nat y ≤ 24 ∧ TwP.lev y ≤ 12 ∧ rs.length ≤ n ∧ TwP.loopA (TwP.rPart m) n y rs = TwP.loopA (TwP.rPart m) rest1.length x rest1,
    ⟨rest1.length, x, a, rest1, rfl, e1, hR1, hx1, hpst.2.1, hpst.2.2, Nat.le_refl _, rfl⟩, ?_⟩
  rintro n σ H' ⟨y, b, rs, rfl, e2, hR2, hy, hn, hl, hrs, hO⟩
  obtain ⟨dx, l, i, e0, h1⟩ := hR2.ins
  refine ⟨_, rfl, r, dx, _, rfl, h1, rnk, r, rs, _, TwP.kAnd, rfl, by decide, hR2, ?_⟩
  cases hc : TwP.hdIs TwP.kAnd rs with
  | false =>
    rw [if_neg (by decide)]
    rw [TwP.loopA_stop hc] at hO
    rw [← hO] at q1
    exact ⟨_, rfl, iteF ⟨_, rfl, q1 H' b e2 hR2 hy⟩⟩
  | true =>
    rw [if_pos rfl]
    intro H3 e3 hR3
    cases n with
    | zero =>
      have : rs = [] := List.eq_nil_of_length_eq_zero (by omega)
      rw [this] at hc
      cases hc
    | succ n =>
      rw [TwP.loopA_succ, if_pos hc] at hO
      have htl : rs.tail.length ≤ n := by
        rw [List.length_tail]
        omega
      have hy3 := hy.keepS T hR2 e3
      refine ⟨_, rfl, iteT ⟨fun σ' H'' => ∃ (y : Tr) (b : Addr) (rs : List Tx), σ' = [some (.ref r), some (.ref b)] ∧ KeepS K r H H'' ∧ RdAt K H'' r rs (24 - m) ∧ TestAt (cT K) H'' y b ∧ TwP.nat y ≤ 24 ∧ TwP.lev y ≤ 12 ∧ rs.length ≤ n ∧ TwP.loopA (TwP.rPart m) n y rs = TwP.loopA (TwP.rPart m) rest1.length x rest1, fun σ' H'' hN => ⟨n, Nat.lt_succ_self _, hN⟩, ?_⟩⟩
      refine ⟨_, rfl, _, rfl, r, rs.tail, rfl, hR3, ?_⟩
      cases hp2 : TwP.rPart m rs.tail with
      | none =>
        rw [hp2] at hO
        rw [← hO] at q1
        exact failK q1 (e2.trans e3)
      | some p2 =>
        obtain ⟨y2, rs2⟩ := p2
        rw [hp2] at hO
        have hpst2 := TwP.pp_part m 20000 _ _ _ (bd hR3) hp2
        have hsl := (TwP.sh_part m _ _ _ hp2).length_le
        intro H4 b2 e4 hR4 hy2
        have hy4 := hy3.keepS T hR3 e4
        obtain ⟨dxa, fsa, ia⟩ := hy4.ins
        obtain ⟨dxb, fsb, ib⟩ := hy2.ins
        have hO' : ((TwP.lim (.and y y2)).bind fun z => TwP.loopA (TwP.rPart m) n z rs2) = TwP.loopA (TwP.rPart m) rest1.length x rest1 := hO
        have e24 := (e2.trans e3).trans e4
        refine ⟨b, b2, dxa, dxb, fsa, fsb, rfl, rfl, ia, ib, b, b2, y, y2, rfl, hy4, hy2, hl, hpst2.2.2, hn, hpst2.2.1, ?_⟩
        refine resT_of e24 (fun hz => ?_) (fun z hz H5 c e5 hzt => ?_)
        · rw [show TwP.lim (.and y y2) = none from hz] at hO'
          rw [← hO'] at q1
          exact q1
        · have hz' : TwP.lim (.and y y2) = some z := hz
          obtain ⟨ez, l1, l2⟩ := TwP.lim_some hz'
          rw [hz'] at hO'
          rw [← ez] at l1 l2
          exact ⟨z, c, rs2, rfl, e24.trans (keepS_of e5), hR4.same e5, hzt, l1, l2, by omega, hO'⟩
theorem df_ROr (T : Fc K mg) {m k : Nat} (hk : 17 ≤ k) (D : Df P w K mg base (L2N.CX P w) k (He.ga K "read_and") ["reader"] (spAnd K m)) : Df P w K mg base (L2N.CX P w) (k + 1) (He.ga K "read_or") ["reader"] (spOr K m) := by
  refine dfN T.e_read_or sc_read_or (fun vs H Q E h => ?_) (fun cdv A outer s H vs Q E hr h => ⟨_,
    pss_cons (ps_set (i := 1) sc_read_or.nd rfl (.inl rfl) (pe_df D T.g_read_and hr pxN (pa_cons (pv 0) pa_nil)))
    (pss_cons (ps_while (L2.passes_of rfl) (pt_val (pe_dm (df_Skip T) T.c_Reader T.m_Reader_skip (hr.mono (by omega)) pass0 (pv 0) (pa_cons pe_str pa_nil)))
      (pss_one (ps_set (i := 1) sc_read_or.nd rfl (.inl rfl) (pe_op (op_df (df_or T) T.m_Test_or rfl T.ex.first (hr.mono hk) pxN) (pv 1) (pe_df D T.g_read_and hr pxN (pa_cons (pv 0) pa_nil))))))
    (pss_one (ps_ret (pv 1)))), ?_⟩)
  · obtain ⟨_, _, rfl, _⟩ := h
    rfl
  obtain ⟨r, rest, rfl, hR, q⟩ := h
  have bd : ∀ {H' : Hp} {rs : List Tx} {d : Nat}, RdAt K H' r rs d → TwP.Bd 20000 rs := fun h t ht => (h.bd.2 t ht).2
  have ppA := TwP.pp_and (TwP.sh_part m) (TwP.pp_part m)
  refine ⟨_, rfl, r, rest, rfl, hR, ?_⟩
  unfold TwP.rOr at q
  cases hp : TwP.rAnd (TwP.rPart m) rest with
  | none =>
    rw [hp] at q
    exact q
  | some p =>
  rw [hp] at q
  obtain ⟨x, rest1⟩ := p
  have q1 : resA K r H (24 - m) Q E (TwP.loopO (TwP.rPart m) rest1.length x rest1) := q
  have hpst := ppA 20000 _ _ _ (bd hR) hp
  intro H1 a e1 hR1 hx1
  refine ⟨fun n σ H' => ∃ (y : Tr) (b : Addr) (rs : List Tx), σ = [some (.ref r), some (.ref b)] ∧ KeepS K r H H' ∧ RdAt K H' r rs (24 - m) ∧ TestAt (cT K) H' y b ∧ TwP.nat y ≤ 24 ∧ TwP.lev y ≤ 12 ∧ rs.length ≤ n ∧ TwP.loopO (TwP.rPart m) n y rs = TwP.loopO (TwP.rPart m) rest1.length x rest1,
    ⟨rest1.length, x, a, rest1, rfl, e1, hR1, hx1, hpst.2.1, hpst.2.2, Nat.le_refl _, rfl⟩, ?_⟩
  rintro n σ H' ⟨y, b, rs, rfl, e2, hR2, hy, hn, hl, hrs, hO⟩
  obtain ⟨dx, l, i, e0, h1⟩ := hR2.ins
  refine ⟨_, rfl, r, dx, _, rfl, h1, rnk, r, rs, _, TwP.kOr, rfl, by decide, hR2, ?_⟩
  cases hc : TwP.hdIs TwP.kOr rs with
  | false =>
    rw [if_neg (by decide)]
    rw [TwP.loopO_stop hc] at hO
    rw [← hO] at q1
    exact ⟨_, rfl, iteF ⟨_, rfl, q1 H' b e2 hR2 hy⟩⟩
  | true =>
    rw [if_pos rfl]
    intro H3 e3 hR3
    cases n with
    | zero =>
      have : rs = [] := List.eq_nil_of_length_eq_zero (by omega)
      rw [this] at hc
      cases hc
    | succ n =>
      rw [TwP.loopO_succ, if_pos hc] at hO
      have htl : rs.tail.length ≤ n := by
        rw [List.length_tail]
        omega
      have hy3 := hy.keepS T hR2 e3
      refine ⟨_, rfl, iteT ⟨fun σ' H'' => ∃ (y : Tr) (b : Addr) (rs : List Tx), σ' = [some (.ref r), some (.ref b)] ∧ KeepS K r H H'' ∧ RdAt K H'' r rs (24 - m) ∧ TestAt (cT K) H'' y b ∧ TwP.nat y ≤ 24 ∧ TwP.lev y ≤ 12 ∧ rs.length ≤ n ∧ TwP.loopO (TwP.rPart m) n y rs = TwP.loopO (TwP.rPart m) rest1.length x rest1, fun σ' H'' hN => ⟨n, Nat.lt_succ_self _, hN⟩, ?_⟩⟩
      refine ⟨_, rfl, _, rfl, r, rs.tail, rfl, hR3, ?_⟩
      cases hp2 : TwP.rAnd (TwP.rPart m) rs.tail with
      | none =>
        rw [hp2] at hO
        rw [← hO] at q1
        exact failK q1 (e2.trans e3)
      | some p2 =>
        obtain ⟨y2, rs2⟩ := p2
        rw [hp2] at hO
        have hpst2 := ppA 20000 _ _ _ (bd hR3) hp2
        have hsl := (TwP.sh_and (TwP.sh_part m) _ _ _ hp2).length_le
        intro H4 b2 e4 hR4 hy2
        have hy4 := hy3.keepS T hR3 e4
        obtain ⟨dxa, fsa, ia⟩ := hy4.ins
        obtain ⟨dxb, fsb, ib⟩ := hy2.ins
        have hO' : ((TwP.lim (.or y y2)).bind fun z => TwP.loopO (TwP.rPart m) n z rs2) = TwP.loopO (TwP.rPart m) rest1.length x rest1 := hO
        have e24 := (e2.trans e3).trans e4
        refine ⟨b, b2, dxa, dxb, fsa, fsb, rfl, rfl, ia, ib, b, b2, y, y2, rfl, hy4, hy2, hl, hpst2.2.2, hn, hpst2.2.1, ?_⟩
        refine resT_of e24 (fun hz => ?_) (fun z hz H5 c e5 hzt => ?_)
        · rw [show TwP.lim (.or y y2) = none from hz] at hO'
          rw [← hO'] at q1
          exact q1
        · have hz' : TwP.lim (.or y y2) = some z := hz
          obtain ⟨ez, l1, l2⟩ := TwP.lim_some hz'
          rw [hz'] at hO'
          rw [← ez] at l1 l2
          exact ⟨z, c, rs2, rfl, e24.trans (keepS_of e5), hR4.same e5, hzt, l1, l2, by omega, hO'⟩
/-- behind a part's reading: the depth is as before -/
theorem part_fin (T : Fc K mg) {r : Addr} {H H4 : Hp} {Q : VK} {E : XK} {m : Nat} {a : Addr} {t : Tr} {rs : List Tx} (hm : m < 24) (e4 : KeepS K r H H4) (hR4 : RdAt K H4 r rs (24 - m)) (ht : TestAt (cT K) H4 t a) (q : resA K r H (24 - (m + 1)) Q E (some (t, rs))) :
    tSeq (tDrop (tMeth (cR K) "deeper" (spDeeper K) [] E (tVar 0) (tCons (tUn (rU fun i => .int (-i)) (tC (.int 1))) tNil))) (tRet (tVar 1)) { nx := fun _ H' => Q .non H', rt := Q } [some (.ref r), some (.ref a)] H4 := by
  obtain ⟨dx, l, i, e0, h1⟩ := hR4.ins
  refine ⟨_, rfl, r, dx, _, rfl, h1, rnk, 1, rfl, r, rs, 24 - m, 24 - (m + 1), _, rfl, hR4, by omega, ?_⟩
  rw [if_neg (show ¬ 24 < 24 - (m + 1) by omega)]
  exact fun H5 e5 hR5 => ⟨_, rfl, q H5 a (e4.trans e5) hR5 (ht.keepS T hR4 e5)⟩
theorem df_Part0 (T : Fc K mg) : Df P w K mg base (L2N.CX P w) 2 (He.ga K "read_part") ["reader"] (spPart K 0) := by
  refine dfN T.e_read_part sc_read_part (fun vs H Q E h => ?_) (fun cdv A outer s H vs Q E hr h => ⟨_,
    pss_cons (ps_expr (pe_dm (df_Deeper T) T.c_Reader T.m_Reader_deeper hr pxN (pv 0) (pa_cons pe_int pa_nil))) pss_never, ?_⟩)
  · obtain ⟨_, _, rfl, _⟩ := h
    rfl
  obtain ⟨r, rest, rfl, hR, q⟩ := h
  obtain ⟨dx, l, i, e0, h1⟩ := hR.ins
  refine ⟨_, rfl, r, dx, _, rfl, h1, rnk, r, rest, 24 - 0, 25, _, rfl, hR, by omega, ?_⟩
  rw [if_pos (by decide)]
  exact q
theorem df_PartS (T : Fc K mg) {m k : Nat} (hm : m < 24) (hk : 17 ≤ k) (D : Df P w K mg base (L2N.CX P w) k (He.ga K "read_part") ["reader"] (spPart K m)) (DO : Df P w K mg base (L2N.CX P w) (k + 2) (He.ga K "read_or") ["reader"] (spOr K m)) :
    Df P w K mg base (L2N.CX P w) (k + 3) (He.ga K "read_part") ["reader"] (spPart K (m + 1)) := by
  refine dfN T.e_read_part sc_read_part (fun vs H Q E h => ?_) (fun cdv A outer s H vs Q E hr h => ⟨_,
    pss_cons (ps_expr (pe_dm (df_Deeper T) T.c_Reader T.m_Reader_deeper (hr.mono (by omega)) pxN (pv 0) (pa_cons pe_int pa_nil)))
    (pss_cons (ps_if (pt_val (pe_dm (df_Skip T) T.c_Reader T.m_Reader_skip (hr.mono (by omega)) pass0 (pv 0) (pa_cons pe_str pa_nil)))
        (pss_cons (ps_set (i := 1) sc_read_part.nd rfl (.inl rfl) (pe_df DO T.g_read_or hr pxN (pa_cons (pv 0) pa_nil)))
          (pss_one (ps_expr (pe_methR (pv 0) T.c_Reader T.m_Reader_need (fr_Need T) (hr.mono (by omega)) pxN (pa_cons pe_str pa_nil)))))
        (pss_one (ps_if (pt_val (pe_dm (df_Skip T) T.c_Reader T.m_Reader_skip (hr.mono (by omega)) pass0 (pv 0) (pa_cons pe_str pa_nil)))
          (pss_one (ps_set (i := 1) sc_read_part.nd rfl (.inl rfl) (pe_un (un_df (df_not T) T.m_Test_invert (hr.mono (by omega)) pxN) (pe_df D T.g_read_part (hr.mono (by omega)) pxN (pa_cons (pv 0) pa_nil)))))
          (pss_one (ps_if (pt_val (pe_dm (df_Skip T) T.c_Reader T.m_Reader_skip (hr.mono (by omega)) pass0 (pv 0) (pa_cons pe_str pa_nil)))
            (pss_one (ps_set (i := 1) sc_read_part.nd rfl (.inl rfl) (pe_df (df_sure T) T.g_sure (hr.mono (by omega)) pxN (pa_cons (pe_df D T.g_read_part (hr.mono (by omega)) pxN (pa_cons (pv 0) pa_nil)) pa_nil))))
            (pss_one (ps_set (i := 1) sc_read_part.nd rfl (.inl rfl) (pe_df (df_RAtom T) T.g_read_atom (hr.mono (by omega)) pxN (pa_cons (pv 0) pa_nil)))))))))
    (pss_cons (ps_expr (pe_dm (df_Deeper T) T.c_Reader T.m_Reader_deeper (hr.mono (by omega)) pxN (pv 0) (pa_cons (pe_un un_neg pe_int) pa_nil)))
    (pss_one (ps_ret (pv 1))))), ?_⟩)
  · obtain ⟨_, _, rfl, _⟩ := h
    rfl
  obtain ⟨r, rest, rfl, hR, q⟩ := h
  have bd : ∀ {H' : Hp} {rs : List Tx} {d : Nat}, RdAt K H' r rs d → TwP.Bd 20000 rs := fun h t ht => (h.bd.2 t ht).2
  obtain ⟨dx, l, i, e0, h1⟩ := hR.ins
  refine ⟨_, rfl, r, dx, _, rfl, h1, rnk, r, rest, 24 - (m + 1), 24 - m, _, rfl, hR, by omega, ?_⟩
  rw [if_neg (show ¬ 24 < 24 - m by omega)]
  intro H1 e1 hR1
  rw [TwP.rPart_succ] at q
  obtain ⟨dx1, l1, i1, e01, h11⟩ := hR1.ins
  refine ⟨_, rfl, r, dx1, _, rfl, h11, rnk, r, rest, _, [40], rfl, by decide, hR1, ?_⟩
  cases hc : TwP.hdIs [40] rest with
  | true =>
    rw [hc, if_pos rfl] at q
    rw [if_pos rfl]
    intro H2 e2 hR2
    refine ⟨_, rfl, iteT ⟨_, rfl, r, rest.tail, rfl, hR2, ?_⟩⟩
    cases ho : TwP.rOr (TwP.rPart m) rest.tail with
    | none =>
      rw [ho] at q
      exact failK q (e1.trans e2)
    | some p =>
      obtain ⟨t, rs⟩ := p
      rw [ho] at q
      have q1 : resA K r H (24 - (m + 1)) Q E ((TwP.need [41] rs).map fun r => (t, r)) := q
      intro H3 a e3 hR3 ht
      replace hR3 : RdAt K H3 r rs (24 - m) := hR3
      obtain ⟨dx3, l3, i3, e03, h13⟩ := hR3.ins
      have e13 := (e1.trans e2).trans e3
      refine ⟨_, rfl, r, dx3, _, rfl, h13, rnk, r, rs, _, [41], rfl, by decide, hR3, ?_⟩
      cases hn : TwP.need [41] rs with
      | none =>
        rw [hn] at q1
        exact failK q1 e13
      | some rs2 =>
        rw [hn] at q1
        exact fun H4 e4 hR4 => part_fin T hm (e13.trans e4) hR4 (TestAt.keepS T hR3 e4 ht) q1
  | false =>
  rw [hc, if_neg (by decide)] at q
  rw [if_neg (by decide)]
  refine ⟨_, rfl, iteF ⟨_, rfl, r, dx1, _, rfl, h11, rnk, r, rest, _, TwP.kNot, rfl, by decide, hR1, ?_⟩⟩
  cases hc2 : TwP.hdIs TwP.kNot rest with
  | true =>
    rw [hc2, if_pos rfl] at q
    rw [if_pos rfl]
    intro H2 e2 hR2
    refine ⟨_, rfl, iteT ⟨_, rfl, r, rest.tail, rfl, hR2, ?_⟩⟩
    cases hp : TwP.rPart m rest.tail with
    | none =>
      rw [hp] at q
      exact failK q (e1.trans e2)
    | some p =>
      obtain ⟨t, rs⟩ := p
      rw [hp] at q
      have q1 : resA K r H (24 - (m + 1)) Q E ((TwP.lim (.not t)).map (·, rs)) := q
      have hpst := TwP.pp_part m 20000 _ _ _ (bd hR2) hp
      intro H3 a e3 hR3 ht
      replace hR3 : RdAt K H3 r rs (24 - m) := hR3
      have e13 := (e1.trans e2).trans e3
      obtain ⟨dxa, fsa, ia⟩ := (show TestAt (cT K) H3 t a from ht).ins
      refine ⟨a, dxa, fsa, rfl, ia, a, t, rfl, ht, hpst.2.2, hpst.2.1, ?_⟩
      refine resT_of e13 (fun hz => ?_) (fun z hz H5 c e5 hzt => ?_)
      · rw [hz] at q1
        exact q1
      · rw [hz] at q1
        exact part_fin T hm (e13.trans (keepS_of e5)) (hR3.same e5) hzt q1
  | false =>
  rw [hc2, if_neg (by decide)] at q
  rw [if_neg (by decide)]
  refine ⟨_, rfl, iteF ⟨_, rfl, r, dx1, _, rfl, h11, rnk, r, rest, _, TwP.kSure, rfl, by decide, hR1, ?_⟩⟩
  cases hc3 : TwP.hdIs TwP.kSure rest with
  | true =>
    rw [hc3, if_pos rfl] at q
    rw [if_pos rfl]
    intro H2 e2 hR2
    refine ⟨_, rfl, iteT ⟨_, rfl, r, rest.tail, rfl, hR2, ?_⟩⟩
    cases hp : TwP.rPart m rest.tail with
    | none =>
      rw [hp] at q
      exact failK q (e1.trans e2)
    | some p =>
      obtain ⟨t, rs⟩ := p
      rw [hp] at q
      have q1 : resA K r H (24 - (m + 1)) Q E ((TwP.lim (.sure t)).map (·, rs)) := q
      have hpst := TwP.pp_part m 20000 _ _ _ (bd hR2) hp
      intro H3 a e3 hR3 ht
      replace hR3 : RdAt K H3 r rs (24 - m) := hR3
      have e13 := (e1.trans e2).trans e3
      refine ⟨a, t, rfl, ht, hpst.2.2, hpst.2.1, ?_⟩
      refine resT_of e13 (fun hz => ?_) (fun z hz H5 c e5 hzt => ?_)
      · rw [hz] at q1
        exact q1
      · rw [hz] at q1
        exact part_fin T hm (e13.trans (keepS_of e5)) (hR3.same e5) hzt q1
  | false =>
  rw [hc3, if_neg (by decide)] at q
  rw [if_neg (by decide)]
  refine ⟨_, rfl, iteF ⟨_, rfl, r, rest, _, rfl, hR1, ?_⟩⟩
  cases ha : TwP.rAtom rest with
  | none =>
    rw [ha] at q
    exact failK q e1
  | some p =>
    rw [ha] at q
    exact fun H3 a e3 hR3 ht => part_fin T hm (e1.trans e3) hR3 ht q
theorem df_Parts (T : Fc K mg) : ∀ m : Nat, m ≤ 24 → Df P w K mg base (L2N.CX P w) (20 + 3 * m) (He.ga K "read_part") ["reader"] (spPart K m)
  | 0, _ => (df_Part0 T).mono (by omega)
  | m + 1, h => by
    have D := df_Parts T m (by omega)
    have DA := df_RAnd T (by omega) D
    have DO := df_ROr T (by omega) DA
    exact (df_PartS T (by omega) (by omega) D DO).mono (by omega)
/-- read_or, nothing read so far -/
theorem df_Top (T : Fc K mg) : Df P w K mg base (L2N.CX P w) 94 (He.ga K "read_or") ["reader"] (spOr K 24) :=
  (df_ROr T (by omega) (df_RAnd T (by omega) (df_Parts T 24 (Nat.le_refl _)))).mono (by decide)
end
end Tw
end

section
set_option Elab.async false
set_option linter.all false
set_option maxRecDepth 100000
set_option maxHeartbeats 4000000
/-! The walks of the module of texts, and the law's own reading. -/
namespace Tw
open PySem PySem.Spec PyProof.Rows L2
open TwP (Tx Val)
def kRead : Tx := [114, 101, 97, 100]
def kRefused : Tx := [114, 101, 102, 117, 115, 101, 100]
section
variable (K : PySem.W.Frag)
def NotStr (H : Hp) (v : V) : Prop := ∃ t, TyX K H v t ∧ PySem.W.kitOne K t (.type "str") = some false
def B1 (E : XK) (H' : Hp) (dd : Addr) : Prop := H' dd = some (.xd [("line", .int (-1))]) → E (.ref (He.ga K "BadText")) (some dd) H'
def spNeedS : Sp := fun vs H Q E => ∃ v, vs = [v] ∧ ((∃ l, v = sV l ∧ Q .non H) ∨ (NotStr K H v ∧ ∀ dd H', Same H H' → B1 K E H' dd))
def spExact : Sp := fun vs H Q E => ∃ (l m : Tx) (a : Addr), vs = [sV l, sV m, .ref a] ∧ if m = l then Q (.ref a) H else ∀ dd H', Same H H' → B0 K E H' dd
def spReadT : Sp := fun vs H Q E => ∃ v, vs = [v] ∧ ((∃ l, v = sV l ∧ l.length ≤ 20000 ∧ if TwP.reads l = true then (∀ H' a t, Same H H' → TestAt (cT K) H' t a → TwP.wr t = l → TwP.Pst 20000 t → Q (.ref a) H') else ∀ dd H', Same H H' → B0 K E H' dd) ∨
  (NotStr K H v ∧ ∀ dd H', Same H H' → B1 K E H' dd))
def told (l : Tx) : List V := if TwP.reads l = true then [sV kRead, sV l] else [sV kRefused, .int 0]
def spLRead : Sp := fun vs H Q _ => ∃ v, vs = [v] ∧ ((∃ l, v = sV l ∧ l.length ≤ 20000 ∧ ∀ H' p, Same H H' → H' p = some (.tup (told l)) → Q (.ref p) H') ∨ (NotStr K H v ∧ ∀ H' p, Same H H' → H' p = some (.tup [sV kRefused, .int (-1)]) → Q (.ref p) H'))
end
section
variable {P : Program} {w : World} {K : PySem.W.Frag} {mg : Str → Option Value} {base : Heap}
theorem df_TestText (T : Fc K mg) : Df P w K mg base CX0 33 (He.ga K "test_text") ["test"] (spWr K 13) := by
  refine df0 T.e_test_text sc_test_text (fun vs H Q E h => ?_) (fun cdv A outer s H vs Q E hr h => ⟨_, pss_one (ps_ret (pe_callTy (call_strDf (E := E0) (df_Str T) T.m_Test_str hr pass0) rfl T.f_str bi_str (pa_cons (pv 0) pa_nil))), ?_⟩)
  · obtain ⟨_, _, rfl, _⟩ := h
    rfl
  obtain ⟨a, t, rfl, ht, hn, hf, hw, q⟩ := h
  obtain ⟨dx, fs, hi⟩ := ht.ins
  exact ⟨_, rfl, a, dx, fs, rfl, hi, a, t, rfl, ht, hn, hf, hw, fun H1 e1 => ⟨_, rfl, q H1 e1⟩⟩
theorem df_NeedS (T : Fc K mg) : Df P w K mg base (L2N.CX P w) 2 (He.ga K "need_string") ["text"] (spNeedS K) := by
  refine dfN T.e_need_string sc_need_string (fun vs H Q E h => ?_) (fun cdv A outer s H vs Q E hr h => ⟨_,
    pss_one (ps_if (pt_not (pt_val (pe_callB call_isi rfl T.f_isinstance bi_isi (pa_cons (pv 0) (pa_cons (pe_tyN T.f_str bi_str) pa_nil)))))
      (pss_one (ps_raiseE rfl T.ex.bx (room_one hr) tkN (pa_cons (pe_un un_neg pe_int) pa_nil))) pss_nil), ?_⟩)
  · obtain ⟨_, rfl, _⟩ := h
    rfl
  obtain ⟨v, rfl, ⟨l, rfl, q⟩ | ⟨⟨t, ht, hk⟩, q⟩⟩ := h
  · exact ⟨_, rfl, _, _, _, _, true, rfl, .ty _, isi_str, kit_ty (by decide +kernel), true, rfl, iteF q⟩
  · exact ⟨_, rfl, _, _, _, _, false, rfl, .ty _, ht, hk, false, rfl, iteT ⟨_, rfl, _, rfl, fun d hd => q d _ (same_new hd _) upd_same⟩⟩
theorem df_Exact (T : Fc K mg) : Df P w K mg base (L2N.CX P w) 2 (He.ga K "exactly") ["text", "told", "thing"] (spExact K) := by
  refine dfN T.e_exactly sc_exactly (fun vs H Q E h => ?_) (fun cdv A outer s H vs Q E hr h => ⟨_,
    pss_cons (ps_if (pt_cmpR op_ne (pv 1) (pv 0) (nomark _)) (pss_one (ps_raiseE rfl T.ex.bx (room_one hr) tkN (pa_cons pe_int pa_nil))) pss_nil)
      (pss_one (ps_ret (pv 2))), ?_⟩)
  · obtain ⟨_, _, _, rfl, _⟩ := h
    rfl
  obtain ⟨l, m, a, rfl, q⟩ := h
  refine ⟨_, rfl, _, rfl, rfl, _, rfl, ?_⟩
  show if (!decide (V.str (SX.S m) = V.str (SX.S l))) = true then _ else _
  rw [dec_S]
  by_cases he : m = l
  · rw [if_pos he] at q
    rw [decide_eq_true he]
    exact iteF ⟨_, rfl, q⟩
  · rw [if_neg he] at q
    rw [decide_eq_false he]
    exact iteT ⟨_, rfl, fun d hd => q d _ (same_new hd _) upd_same⟩
theorem df_ReadT (T : Fc K mg) : Df P w K mg base (L2.CX P w) 95 (He.ga K "read_test") ["text"] (spReadT K) := by
  refine dfX T.e_read_test sc_read_test (fun vs H Q E h => ?_) (fun cdv A outer s H vs Q E hr h => ⟨_,
    pss_cons (ps_expr (pe_df (df_NeedS T) T.g_need_string (hr.mono (by decide)) pxNX (pa_cons (pv 0) pa_nil)))
    (pss_cons (L2H.ps_try_onlyX (c := .ref (He.ga K "BadTest")) rfl rfl ⟨rfl, by decide, .inl T.g_BadTest⟩ (L2H.passesAt_of rfl) tkX
      (fun W pn xe tkn tkp _ => pss_one (ps_set (i := 1) sc_read_test.nd rfl (.inl rfl)
        (pe_df (E := fun cls d H => ∀ σ, W cls d σ H) (df_Top T) T.g_read_or hr (L2N.passes_call tkn (fun _ _ _ _ h => h _))
          (pa_cons (pe_dmk (E := fun cls d H => ∀ σ, W cls d σ H) (df_RInit T) T.k_Reader T.g_Reader (hr.mono (by decide)) (L2N.passes_call tkn (fun _ _ _ _ h => h _)) (pa_cons (pv 0) pa_nil)) pa_nil))))
      (fun a oe cls d pn hz hf tk hot => pss_one (ps_raiseEH hot T.ex.bx (by have z := room_one hr; exact z) tk (pa_cons pe_int pa_nil))))
    (pss_one (ps_ret (pe_df (df_Exact T) T.g_exactly (hr.mono (by decide)) pxNX
      (pa_cons (pv 0) (pa_cons (pe_callTy (call_strDf (E := E0) (df_Str T) T.m_Test_str (hr.mono (by decide)) pass0) rfl T.f_str bi_str (pa_cons (pv 1) pa_nil)) (pa_cons (pv 1) pa_nil))))))), ?_⟩)
  · obtain ⟨_, rfl, _⟩ := h
    rfl
  obtain ⟨v, rfl, ⟨l, rfl, hl, q⟩ | ⟨hns, q⟩⟩ := h
  rotate_left
  · exact ⟨_, rfl, v, rfl, .inr ⟨hns, fun dd H' e1 h1 => q dd H' e1 h1⟩⟩
  refine ⟨_, rfl, _, rfl, .inl ⟨l, rfl, ?_⟩⟩
  -- BadText(0)
  have bx : ∀ {H' : Hp} {dd : Addr} {σ : L2.St}, Same H H' → (∀ dd H', Same H H' → B0 K E H' dd) → H' dd = some (.xd [("line", .int 0)]) → ∀ {D : Ends} {ts : Addr → Value → Option Addr → TS}, wOnly K (.ref (He.ga K "BadTest")) ts (fun cls d _ H => E cls d H) D (.ref (He.ga K "BadText")) (some dd) σ H' :=
    fun e1 q h1 => ⟨false, T.ex.xt, fun z => Bool.noConfusion z, fun _ => q _ _ e1 h1⟩
  refine ⟨_, rfl, fun x dx nx ndx nex => ⟨x, dx, l, rfl, upd_same, hl, ?_⟩⟩
  have e0 : Same H (upd (upd H dx (.own x)) x (.ins (cR K) dx [])) := same_add (same_new ndx _) (by rw [upd_ne (Ne.symm nex)]; exact nx) _
  cases ht : TwP.tokens l with
  | none =>
    intro dd H' e1 h1 σ
    have hrd : TwP.reads l = false := by
      unfold TwP.reads TwP.parse
      rw [ht]
      rfl
    rw [hrd, if_neg (by decide)] at q
    exact bx (e0.trans e1) q h1
  | some ts =>
  intro H1 e1 hR1
  refine ⟨rfl, x, ts, rfl, hR1, ?_⟩
  cases ho : TwP.rOr (TwP.rPart 24) ts with
  | none =>
    have hrd : TwP.reads l = false := by
      unfold TwP.reads TwP.parse
      rw [ht]
      show (match ((TwP.rOr (TwP.rPart 24) ts).map (·.1)) with | some t => decide (TwP.wr t = l) | none => false) = false
      rw [ho]
      rfl
    rw [hrd, if_neg (by decide)] at q
    intro cls dd H' e2 hb σ
    have e : Same H H' := same_of_keep nx e0 (e1.1.trans e2.1)
    rcases hb with ⟨rfl, d1, rfl, h1⟩ | ⟨rfl, d1, rfl⟩
    · exact bx e q h1
    · exact ⟨true, T.ex.tt, fun _ a ha => ⟨_, rfl, fun d hd => q d _ (e.trans (same_new hd _)) upd_same⟩, fun z => Bool.noConfusion z⟩
  | some p =>
  obtain ⟨t, rs⟩ := p
  have hrd : TwP.reads l = decide (TwP.wr t = l) := by
    unfold TwP.reads TwP.parse
    rw [ht]
    show (match ((TwP.rOr (TwP.rPart 24) ts).map (·.1)) with | some t => decide (TwP.wr t = l) | none => false) = _
    rw [ho]
    rfl
  rw [hrd] at q
  have hp : TwP.Pst 20000 t := TwP.pp_or (TwP.sh_part 24) (TwP.pp_part 24) 20000 ts t rs (fun y hy => Nat.le_trans (TwP.tokens_le ht y hy).2 hl) ho
  intro H2 a e2 hR2 hta
  have e : Same H H2 := same_of_keep nx e0 (e1.1.trans e2.1)
  obtain ⟨dxa, fsa, ia⟩ := (show TestAt (cT K) H2 t a from hta).ins
  refine ⟨_, rfl, _, rfl, a, dxa, fsa, rfl, ia, a, t, rfl, hta, by have := hp.2.2; omega, hp.1, TwP.pst_len (Nat.le_refl _) hp, fun H3 e3 => ⟨_, rfl, _, rfl, l, TwP.wr t, a, rfl, ?_⟩⟩
  by_cases he : TwP.wr t = l
  · rw [decide_eq_true he, if_pos rfl] at q
    rw [if_pos he]
    exact q H3 a t (e.trans e3) (hta.same e3) he hp
  · rw [decide_eq_false he, if_neg (by decide)] at q
    rw [if_neg he]
    exact fun dd H' e4 => q dd H' ((e.trans e3).trans e4)
/-- the law's reading: told, or refused -/
theorem df_LRead (T : Fc K mg) : Df P w K mg base CX0 96 (He.ga K "_law_read") ["_law_text_here"] (spLRead K) := by
  refine df0 T.e__law_read sc__law_read (fun vs H Q E h => ?_) (fun cdv A outer s H vs Q E hr h => ⟨_,
    pss_cons (L2.ps_try_as (i := 2) (c := .ref (He.ga K "BadText")) rfl rfl sc__law_read.nd rfl rfl ⟨rfl, by decide, .inl T.g_BadText⟩ L2.takes0
      (fun W pn xe tk _ => pss_one (ps_set (i := 1) sc__law_read.nd rfl (.inl rfl) (pe_dfS (E := L2.WE W) (df_ReadT T) T.g_read_test hr (fun σ => L2.passAt tk σ) (pa_cons (pv 0) pa_nil))))
      (fun a oe cls d pn hz hf => pss_one (ps_ret (pe_tup (pa_cons pe_str (pa_cons (pe_byE (X := (cxOf CX0 P w K mg base ["_law_text_here", "_law_test", "e"] "_law_read" (defScope s__law_read) (He.ga K "_law_read") cdv A outer s H E).nox) T.ex.bx hz hf (by exact pv 2)) pa_nil))))))
    (pss_one (ps_ret (pe_tup (pa_cons pe_str (pa_cons (pe_df (df_TestText T) T.g_test_text (hr.mono (by decide)) pass0 (pa_cons (pv 1) pa_nil)) pa_nil))))), ?_⟩)
  · obtain ⟨_, rfl, _⟩ := h
    rfl
  obtain ⟨v, rfl, h⟩ := h
  -- refused
  have bad : ∀ (i : Int) (q : ∀ H' p, Same H H' → H' p = some (.tup [sV kRefused, .int i]) → Q (.ref p) H') (dd : Addr) (H' : Hp), Same H H' → H' dd = some (.xd [("line", .int i)]) → ∀ (a : Addr), H' a = none →
      tRet (tTup (tCons (tC (.str (SX.S kRefused))) (tCons (tByE (He.ga K "BadText") .line a (.ref (He.ga K "BadText")) (some dd) (tVar 2)) tNil))) { nx := fun _ H' => Q .non H', rt := Q } [some v, none, some (.ref a)] H' := fun i q dd H' e1 h1 a ha =>
    ⟨_, rfl, rfl, rfl, dd, _, rfl, h1, by show 2 ≤ sizeLine; decide, fun p hp => q _ p (e1.trans (same_new hp _)) upd_same⟩
  rcases h with ⟨l, rfl, hl, q⟩ | ⟨hns, q⟩
  rotate_left
  · exact ⟨_, rfl, v, rfl, .inr ⟨hns, fun dd H' e1 h1 => ⟨true, T.ex.xx, fun _ a ha => bad (-1) q dd H' e1 h1 a ha, fun z => Bool.noConfusion z⟩⟩⟩
  refine ⟨_, rfl, sV l, rfl, .inl ⟨l, rfl, hl, ?_⟩⟩
  unfold told at q
  cases hrd : TwP.reads l with
  | false =>
    rw [hrd, if_neg (by decide)] at q
    rw [if_neg (by decide)]
    exact fun dd H' e1 h1 => ⟨true, T.ex.xx, fun _ a ha => bad 0 q dd H' e1 h1 a ha, fun z => Bool.noConfusion z⟩
  | true =>
    rw [hrd, if_pos rfl] at q
    rw [if_pos rfl]
    intro H1 a t e1 hta he hp
    subst he
    exact ⟨_, rfl, a, t, rfl, hta, by have := hp.2.2; omega, hp.1, TwP.pst_len (Nat.le_refl _) hp, fun H2 e2 => ⟨by show 2 ≤ sizeLine; decide, fun p hp => q _ p ((e1.trans e2).trans (same_new hp _)) upd_same⟩⟩
end
end Tw
end

section
set_option Elab.async false
set_option linter.all false
set_option maxRecDepth 100000
set_option maxHeartbeats 4000000
/-! The walks of the law: draws, numbers, texts, names. -/
namespace Tw
open PySem PySem.Spec PyProof.Rows L2
open TwP (Tx Val)
/-- the five of a draw -/
abbrev drV (l0 : Addr) (i a b c : Int) : HO := .lst [.ref l0, .int i, .int a, .int b, .int c]
structure DrS (H : Hp) (dr l0 : Addr) (cells : List Int) (i a b c : Int) : Prop where
  at_ : H dr = some (drV l0 i a b c)
  cl : H l0 = some (.lst (cells.map V.int))
  i0 : 0 ≤ i
  i1 : i ≤ cells.length
def DrAt (H : Hp) (dr : Addr) : Prop := ∃ l0 cells i a b c, DrS H dr l0 cells i a b c
/-- what a draw leaves -/
structure Dr (dr : Addr) (H H' : Hp) : Prop where
  keep : KeepR dr H H'
  at_ : DrAt H' dr
  sl : ∀ l0 i a b c, H dr = some (drV l0 i a b c) → ∃ i' a' b' c', H' dr = some (drV l0 i' a' b' c')
def NotDr (o : HO) : Prop := ∀ l0 i a b c, o ≠ drV l0 i a b c
theorem ints_ne (cells : List Int) (l0 : Addr) (i a b c : Int) : (HO.lst (cells.map V.int)) ≠ drV l0 i a b c := fun e => by
  injection e with e
  cases cells with
  | nil => cases e
  | cons x r =>
    injection e with e _
    cases e
theorem DrS.ne {H : Hp} {dr l0 : Addr} {cells : List Int} {i a b c : Int} (D : DrS H dr l0 cells i a b c) : l0 ≠ dr := fun e => by
  have h := D.cl
  rw [e, D.at_] at h
  exact ints_ne cells l0 i a b c (Option.some.inj h).symm
theorem DrS.put {H : Hp} {dr l0 : Addr} {cells : List Int} {i a b c : Int} (D : DrS H dr l0 cells i a b c) (i' a' b' c' : Int) (h0 : 0 ≤ i') (h1 : i' ≤ cells.length) : KeepR dr H (upd H dr (drV l0 i' a' b' c')) ∧ DrS (upd H dr (drV l0 i' a' b' c')) dr l0 cells i' a' b' c' :=
  ⟨keepR_upd _, upd_same, by rw [upd_ne D.ne]; exact D.cl, h0, h1⟩
theorem DrAt.same {H H' : Hp} {dr : Addr} (D : DrAt H dr) (e : Same H H') : DrAt H' dr := by
  obtain ⟨l0, cells, i, a, b, c, D⟩ := D
  exact ⟨l0, cells, i, a, b, c, e _ _ D.at_, e _ _ D.cl, D.i0, D.i1⟩
theorem Dr.refl {H : Hp} {dr : Addr} (D : DrAt H dr) : Dr dr H H := ⟨KeepR.refl _ _, D, fun l0 i a b c h => ⟨i, a, b, c, h⟩⟩
theorem Dr.trans {H H1 H2 : Hp} {dr : Addr} (a : Dr dr H H1) (b : Dr dr H1 H2) : Dr dr H H2 := ⟨a.1.trans b.1, b.2, fun l0 i a1 b1 c1 h => by
  obtain ⟨i2, a2, b2, c2, h2⟩ := a.3 _ _ _ _ _ h
  exact b.3 _ _ _ _ _ h2⟩
theorem Dr.of {H H' : Hp} {dr : Addr} (D : DrAt H dr) (e : Same H H') : Dr dr H H' := ⟨keepR_of e, D.same e, fun l0 i a b c h => ⟨i, a, b, c, e _ _ h⟩⟩
theorem Dr.same {H H1 H2 : Hp} {dr : Addr} (a : Dr dr H H1) (e : Same H1 H2) : Dr dr H H2 := a.trans (Dr.of a.2 e)
theorem Dr.mk3 {H H' : Hp} {dr l0 : Addr} {cells cells' : List Int} {i a b c i' a' b' c' : Int} (k : KeepR dr H H') (D : DrS H dr l0 cells i a b c) (D' : DrS H' dr l0 cells' i' a' b' c') : Dr dr H H' := ⟨k, ⟨l0, cells', i', a', b', c', D'⟩, fun m j x y z h => by
  rw [D.at_] at h
  injection h with h
  injection h with h
  injection h with h _
  injection h with h
  subst h
  exact ⟨i', a', b', c', D'.at_⟩⟩
/-- an object that was not there before is changed, the draw behind it -/
theorem Dr.upd {H H1 : Hp} {dr p : Addr} (D : DrAt H dr) (d : Dr dr H H1) (hp : H p = none) (o : HO) : Dr dr H (upd H1 p o) := by
  obtain ⟨l0, cells, i, a, b, c, D⟩ := D
  obtain ⟨l1, cs, i1, a1, b1, c1, D1⟩ := d.2
  obtain ⟨i2, a2, b2, c2, h2⟩ := d.3 _ _ _ _ _ D.at_
  have hd : dr ≠ p := ne_of_none D.at_ hp
  have hl : l0 ≠ p := ne_of_none D.cl hp
  have e : l1 = l0 := by
    have h := D1.at_
    rw [h2] at h
    injection h with h
    injection h with h
    injection h with h _
    injection h with h
    exact h.symm
  subst e
  refine Dr.mk3 (fun x u n h => ?_) D ⟨by rw [upd_ne hd]; exact D1.at_, by rw [upd_ne hl]; exact D1.cl, D1.i0, D1.i1⟩
  rw [upd_ne (ne_of_none h hp)]
  exact d.1 x u n h
/-- an object that is no draw stays -/
theorem Dr.get {H H' : Hp} {dr b : Addr} {o : HO} (D : DrAt H dr) (d : Dr dr H H') (h : H b = some o) (n : NotDr o) : H' b = some o := by
  obtain ⟨l0, cells, i, a, bb, c, D⟩ := D
  refine d.1 b o (fun e => ?_) h
  rw [e, D.at_] at h
  exact n _ _ _ _ _ (Option.some.inj h).symm
/-- a new object, a draw behind it -/
theorem Dr.none {H : Hp} {dr p : Addr} (D : DrAt H dr) (h : H p = none) : p ≠ dr := fun e => by
  obtain ⟨l0, cells, i, a, bb, c, D⟩ := D
  rw [e, D.at_] at h
  cases h
theorem notDr_tup (xs : List V) : NotDr (.tup xs) := fun _ _ _ _ _ e => by cases e
theorem notDr_vals (vs : List Val) : NotDr (.lst (vs.map vV)) := fun l0 i a b c e => by
  injection e with e
  cases vs with
  | nil => cases e
  | cons x r =>
    injection e with e _
    cases x <;> cases e
theorem notDr_strs (ts : List Tx) : NotDr (.lst (ts.map sV)) := fun l0 i a b c e => by
  injection e with e
  cases ts with
  | nil => cases e
  | cons x r =>
    injection e with e _
    cases e
theorem notDr_refs (ps : List Addr) : NotDr (.lst (ps.map V.ref)) := fun l0 i a b c e => by
  injection e with e
  cases ps with
  | nil => cases e
  | cons x r =>
    injection e with _ e
    cases r with
    | nil => cases e
    | cons y r =>
      injection e with e _
      cases e
/-- one proof for what stands behind an if -/
theorem cut_seq {t1 t2 : TS} {D : Ends} {σ : L2.St} {H : Hp} (Pv : L2.St → Hp → Prop) (h2 : ∀ σ' H', Pv σ' H' → t2 D σ' H') (h1 : (∀ σ' H', Pv σ' H' → t2 D σ' H') → t1 { D with nx := t2 D } σ H) : tSeq t1 t2 D σ H := h1 h2
section
variable (K : PySem.W.Frag)
def spBegin : Sp := fun vs H Q _ => ∃ (a : Addr) (ns : List Int), vs = [.ref a] ∧ SqL K H a (ns.map V.int) ∧ ∀ H' dr, Same H H' → DrAt H' dr → Q (.ref dr) H'
def spTake2 : Sp := fun vs H Q _ => ∃ (dr : Addr) (m : Int), vs = [.ref dr, .int m] ∧ DrAt H dr ∧ 0 < m ∧ m < 2 ^ 200 ∧ ∀ (d : Int) H', Dr dr H H' → 0 ≤ d → d < m → Q (.int d) H'
end
def spChars : Sp := fun vs H Q _ => vs = [] ∧ Q (sV chars) H
/-- a drawn number, drawn text -/
def numOk (n : Int) : Prop := n.natAbs ≤ 10 ^ 30
def txtOk (l : Tx) : Prop := TwP.isText l = true ∧ l.length ≤ 38
def valD : Val → Prop
  | .num n => numOk n
  | .txt l => txtOk l
def spNumD : Sp := fun vs H Q _ => ∃ dr, vs = [.ref dr] ∧ DrAt H dr ∧ ∀ (n : Int) H', Dr dr H H' → numOk n → Q (.int n) H'
def spTxt : Sp := fun vs H Q _ => ∃ dr, vs = [.ref dr] ∧ DrAt H dr ∧ ∀ (l : Tx) H', Dr dr H H' → txtOk l → Q (sV l) H'
def spVal : Sp := fun vs H Q _ => ∃ dr k, vs = [.ref dr, sV k] ∧ DrAt H dr ∧ ∀ (v : Val) H', Dr dr H H' → valD v → Q (vV v) H'
section
variable {P : Program} {w : World} {K : PySem.W.Frag} {mg : Str → Option Value} {base : Heap}
theorem df_Begin (T : Fc K mg) : Df P w K mg base CX0 1 (He.ga K "_law_begin") ["_law_script"] (spBegin K) := by
  refine df0 T.e__law_begin sc__law_begin (fun vs H Q E h => ?_) (fun cdv A outer s H vs Q E hr h => ⟨_,
    pss_one (ps_ret (pe_lst (pa_cons (pe_callTy call_list_of rfl T.f_list bi_list (pa_cons (pe_slice sl_list (pv 0) po_none (po_some pe_int)) pa_nil)) (pa_cons pe_int (pa_cons pe_int (pa_cons pe_int (pa_cons pe_int pa_nil))))))), ?_⟩)
  · obtain ⟨_, _, rfl, _⟩ := h
    rfl
  obtain ⟨a, ns, rfl, ha, q⟩ := h
  refine ⟨_, rfl, _, rfl, a, _, rfl, ha, fun p hp => ⟨p, _, rfl, .inl (SqL.of upd_same), fun l hl => ⟨by show 5 ≤ sizeLine; decide, fun dr hdr => ?_⟩⟩⟩
  have ec : cutV (ns.map V.int) none (some 63) = (((ns.drop (HT.sIx (ns.map V.int).length 0 none)).take (HT.sIx (ns.map V.int).length (ns.map V.int).length (some 63) - HT.sIx (ns.map V.int).length 0 none)).map V.int) := by
    unfold cutV
    rw [← List.map_drop, ← List.map_take]
  rw [ec] at hl hdr ⊢
  generalize (ns.drop (HT.sIx (ns.map V.int).length 0 none)).take (HT.sIx (ns.map V.int).length (ns.map V.int).length (some 63) - HT.sIx (ns.map V.int).length 0 none) = cs at hl hdr ⊢
  exact q _ dr (same_add (same_add (same_new hp _) hl _) hdr _) ⟨l, cs, 0, 0, 1, 0, upd_same, same_new hdr _ _ _ upd_same, by decide, by omega⟩
theorem df_Take2 (T : Fc K mg) : Df P w K mg base CX0 1 (He.ga K "_law_take") ["_law_draw", "_law_many"] spTake2 := by
  have bw : CPowW (10 ^ 60) 15 := ⟨by decide, by decide +kernel⟩
  refine df0 T.e__law_take sc__law_take (fun vs H Q E h => ?_) (fun cdv A outer s H vs Q E hr h => ⟨_,
    pss_cons (ps_if (PW.pt (pw_and (pt_cmpR op_eq (pe_ix ix_list (pv 0) pe_int (fun _ _ => rfl)) pe_int (nomark _)) (pw_and1 (pt_cmpR op_lt (pe_ix ix_list (pv 0) pe_int (fun _ _ => rfl)) (pe_callB call_len_seq rfl T.f_len bi_len (pa_cons (pe_ix ix_list (pv 0) pe_int (fun _ _ => rfl)) pa_nil)) (nomark _)))))
      (pss_cons (ps_set (i := 2) sc__law_take.nd rfl (.inl rfl) (pe_ix ix_list (pe_ix ix_list (pv 0) pe_int (fun _ _ => rfl)) (pe_ix ix_list (pv 0) pe_int (fun _ _ => rfl)) (fun _ _ => rfl)))
      (pss_cons (ps_asg (pe_op op_add (pe_ix ix_list (pv 0) pe_int (fun _ _ => rfl)) pe_int) (pg_sub (pv 0) pe_int set_list))
      (pss_one (ps_if (pt_cmpR op_ge (pv 2) (pe_op op_powW pe_int pe_int) (nomark _))
        (pss_one (ps_asg (pe_op op_mod (pe_callTy call_int1 rfl T.f_int bi_int (pa_cons (pv 2) pa_nil)) (pe_op op_powW (pe_op op_powW pe_int pe_int) pe_int)) (pg_sub (pv 0) pe_int set_list)))
        (pss_one (ps_asg (pe_op op_mod (pe_callTy call_int1 rfl T.f_int bi_int (pa_cons (pe_op op_add (pe_op op_add (pe_op op_mul (pe_ix ix_list (pv 0) pe_int (fun _ _ => rfl)) pe_int) (pe_op op_mod (pe_callTy call_int1 rfl T.f_int bi_int (pa_cons (pv 2) pa_nil)) pe_int)) pe_int) pa_nil)) pe_int) (pg_sub (pv 0) pe_int set_list))))))) pss_nil)
    (pss_cons (ps_if (pt_cmpR op_gt (pe_ix ix_list (pv 0) pe_int (fun _ _ => rfl)) pe_int (nomark _))
      (pss_cons (ps_set (i := 3) sc__law_take.nd rfl (.inl rfl) (pe_op op_mod (pe_callTy call_int1 rfl T.f_int bi_int (pa_cons (pe_ix ix_list (pv 0) pe_int (fun _ _ => rfl)) pa_nil)) (pv 1)))
      (pss_cons (ps_asg (pe_op op_fdivW (pe_ix ix_list (pv 0) pe_int (fun _ _ => rfl)) (pv 1)) (pg_sub (pv 0) pe_int set_list))
      (pss_one (ps_ret (pv 3))))) pss_nil)
    (pss_cons (ps_asg (pe_op op_add (pe_ix ix_list (pv 0) pe_int (fun _ _ => rfl)) pe_int) (pg_sub (pv 0) pe_int set_list))
    (pss_cons (ps_set (i := 4) sc__law_take.nd rfl (.inl rfl) (pe_op op_mod (pe_callTy call_int1 rfl T.f_int bi_int (pa_cons (pe_op op_add (pe_ix ix_list (pv 0) pe_int (fun _ _ => rfl)) (pe_op op_mul pe_int (pe_ix ix_list (pv 0) pe_int (fun _ _ => rfl)))) pa_nil)) pe_int))
    (pss_cons (ps_set (i := 4) sc__law_take.nd rfl (.inl rfl) (pe_op op_mod (pe_callTy call_int1 rfl T.f_int bi_int (pa_cons (pe_op op_pow (pv 4) pe_int) pa_nil)) pe_int))
    (pss_cons (ps_asg (pe_op op_mod (pe_callTy call_int1 rfl T.f_int bi_int (pa_cons (pe_op op_add (pe_op op_mul (pv 4) pe_int) (pe_ix ix_list (pv 0) pe_int (fun _ _ => rfl))) pa_nil)) pe_int) (pg_sub (pv 0) pe_int set_list))
    (pss_one (ps_ret (pe_op op_mod (pe_callTy call_int1 rfl T.f_int bi_int (pa_cons (pe_op op_fdiv (pe_ix ix_list (pv 0) pe_int (fun _ _ => rfl)) pe_int) pa_nil)) (pv 1))))))))), ?_⟩)
  · obtain ⟨_, _, rfl, _⟩ := h
    rfl
  obtain ⟨dr, m, rfl, ⟨l0, cells, i, a, b, c, D⟩, hm, hm2, q⟩ := h
  have D00 := D
  refine cut_seq (fun σ' H' => ∃ c0 i a b c, σ' = [some (.ref dr), some (.int m), c0, none, none] ∧ KeepR dr H H' ∧ DrS H' dr l0 cells i a b c) ?_ (fun fin => ?_)
  · rintro _ H1 ⟨c0, i, a, b, c, rfl, k1, D⟩
    refine ⟨_, rfl, dr, _, 2, _, rfl, rfl, SqL.of D.at_, rfl, _, _, rfl, rfl, _, rfl, ?_⟩
    by_cases hp : a > 0
    · rw [decide_eq_true hp]
      refine iteT ⟨_, rfl, dr, _, 2, _, rfl, rfl, SqL.of D.at_, rfl, .inl ⟨_, rfl, _, rfl, _, _, rfl, rfl, hm, ?_⟩⟩
      obtain ⟨k2, D2⟩ := D.put i (a / m) b c D.i0 D.i1
      refine ⟨_, rfl, dr, _, 2, _, rfl, rfl, SqL.of D.at_, rfl, _, rfl, _, _, rfl, rfl, wide_div hm (b := 200) (by omega) (by decide) (by decide), _, rfl, dr, _, 2, 2, rfl, rfl, D.at_, rfl, ?_⟩
      exact ⟨_, rfl, q _ _ (Dr.mk3 (k1.trans k2) D00 D2) (Int.emod_nonneg _ (by omega)) (Int.emod_lt_of_pos _ hm)⟩
    · rw [decide_eq_false hp]
      obtain ⟨k2, D2⟩ := D.put i a b (c + 1) D.i0 D.i1
      refine iteF ⟨_, rfl, dr, _, 4, _, rfl, rfl, SqL.of D.at_, rfl, _, _, rfl, rfl, _, rfl, dr, _, 4, 4, rfl, rfl, D.at_, rfl, ?_⟩
      refine ⟨_, rfl, dr, _, 3, _, rfl, rfl, SqL.of D2.at_, rfl, _, rfl, dr, _, 4, _, rfl, rfl, SqL.of D2.at_, rfl, _, _, rfl, rfl, .inl ⟨by decide, by decide⟩, _, _, rfl, rfl, .inl ⟨_, rfl, _, _, rfl, rfl, (show (0 : Int) < 2147483647 by decide), ?_⟩⟩
      have e1 := Int.emod_nonneg (b + 40692 * (c + 1)) (show (2147483647 : Int) ≠ 0 by decide)
      have e2 := Int.emod_lt_of_pos (b + 40692 * (c + 1)) (show (0 : Int) < 2147483647 by decide)
      refine ⟨_, rfl, _, _, rfl, rfl, ⟨by decide, by decide, by omega⟩, .inl ⟨_, rfl, _, _, rfl, rfl, (show (0 : Int) < 2147483647 by decide), ?_⟩⟩
      obtain ⟨k3, D3⟩ := D2.put i a (((((b + 40692 * (c + 1)) % 2147483647) ^ (5 : Int).toNat) % 2147483647 * 69621 + (c + 1)) % 2147483629) (c + 1) D.i0 D.i1
      refine ⟨_, rfl, _, _, rfl, rfl, .inr ⟨by decide, by decide⟩, _, rfl, dr, _, 4, _, rfl, rfl, SqL.of D2.at_, rfl, _, _, rfl, rfl, .inl ⟨_, rfl, _, _, rfl, rfl, (show (0 : Int) < 2147483629 by decide), _, rfl, dr, _, 3, 3, rfl, rfl, D2.at_, rfl, ?_⟩⟩
      refine ⟨_, rfl, dr, _, 3, _, rfl, rfl, SqL.of D3.at_, rfl, _, _, rfl, rfl, ⟨by decide, by decide⟩, .inl ⟨_, rfl, _, rfl, _, _, rfl, rfl, hm, ?_⟩⟩
      exact q _ _ (Dr.mk3 ((k1.trans k2).trans k3) D00 D3) (Int.emod_nonneg _ (by omega)) (Int.emod_lt_of_pos _ hm)
  · have go0 : ∀ c0, KeepR dr H H → ∃ c0' i a b c, [some (V.ref dr), some (V.int m), c0, none, none] = [some (.ref dr), some (.int m), c0', none, none] ∧ KeepR dr H H ∧ DrS H dr l0 cells i a b c := fun c0 k => ⟨c0, i, a, b, c, rfl, k, D⟩
    refine ⟨_, rfl, dr, _, 2, _, rfl, rfl, SqL.of D.at_, rfl, rfl, _, rfl, ?_⟩
    by_cases ha : V.int a = V.int 0
    case neg =>
      rw [decide_eq_false ha]
      exact iteF (iteF (fin _ _ (go0 none (KeepR.refl _ _))))
    rw [decide_eq_true ha]
    refine iteT ⟨_, rfl, dr, _, 1, _, rfl, rfl, SqL.of D.at_, rfl, _, rfl, dr, _, 0, _, rfl, rfl, SqL.of D.at_, rfl, l0, _, rfl, .inl (SqL.of D.cl), _, _, rfl, rfl, _, rfl, ?_⟩
    rw [List.length_map]
    by_cases hi : i < (cells.length : Int)
    case neg =>
      rw [decide_eq_false hi]
      exact iteF (fin _ _ (go0 none (KeepR.refl _ _)))
    rw [decide_eq_true hi]
    obtain ⟨n, rfl⟩ := Int.eq_ofNat_of_zero_le D.i0
    have hn : n < cells.length := by omega
    have hx : (cells.map V.int)[n]? = some (.int cells[n]) := by rw [List.getElem?_map, List.getElem?_eq_getElem hn]; rfl
    refine iteT ⟨_, rfl, dr, _, 0, _, rfl, rfl, SqL.of D.at_, rfl, _, rfl, dr, _, 1, _, rfl, rfl, SqL.of D.at_, rfl, l0, _, _, _, rfl, rfl, SqL.of D.cl, atI_nat hx, ?_⟩
    obtain ⟨k1, D1⟩ := D.put ((n : Int) + 1) a b c (by omega) (by omega)
    refine ⟨_, rfl, dr, _, 1, _, rfl, rfl, SqL.of D.at_, rfl, _, _, rfl, rfl, _, rfl, dr, _, 1, 1, rfl, rfl, D.at_, rfl, ?_⟩
    refine ⟨_, rfl, _, _, rfl, rfl, ⟨by decide, by decide +kernel⟩, _, _, rfl, rfl, _, rfl, ?_⟩
    by_cases hb : cells[n] ≥ (10 : Int) ^ (18 : Int).toNat
    · rw [decide_eq_true hb]
      obtain ⟨k2, D2⟩ := D1.put ((n : Int) + 1) (cells[n] % (((10 : Int) ^ (60 : Int).toNat) ^ (15 : Int).toNat)) b c (by omega) (by omega)
      refine iteT ⟨_, rfl, .inl ⟨_, rfl, _, _, rfl, rfl, ⟨by decide, by decide +kernel⟩, _, _, rfl, rfl, bw, _, _, rfl, rfl, ?_, _, rfl, dr, _, 2, 2, rfl, rfl, D1.at_, rfl, ?_⟩⟩
      · exact Int.pow_pos (Int.pow_pos (by decide))
      · exact fin _ _ ⟨_, _, _, _, _, rfl, k1.trans k2, D2⟩
    · rw [decide_eq_false hb]
      obtain ⟨k2, D2⟩ := D1.put ((n : Int) + 1) a ((b * 31 + cells[n] % 2147483629 + 1) % 2147483647) c (by omega) (by omega)
      refine iteF ⟨_, rfl, dr, _, 3, _, rfl, rfl, SqL.of D1.at_, rfl, _, _, rfl, rfl, .inr ⟨by decide, by decide⟩, _, rfl, .inl ⟨_, rfl, _, _, rfl, rfl, (show (0 : Int) < 2147483629 by decide), _, _, rfl, rfl, _, _, rfl, rfl, .inl ⟨_, rfl, _, _, rfl, rfl, (show (0 : Int) < 2147483647 by decide), _, rfl, dr, _, 3, 3, rfl, rfl, D1.at_, rfl, ?_⟩⟩⟩
      exact fin _ _ ⟨_, _, _, _, _, rfl, k1.trans k2, D2⟩
/-- a draw, the whole of its promise in one word -/
theorem df_Chars (T : Fc K mg) : Df P w K mg base CX0 1 (He.ga K "_law_chars") [] spChars := by
  refine df0 T.e__law_chars sc__law_chars (fun vs H Q E h => ?_) (fun cdv A outer s H vs Q E hr h => ⟨_,
    pss_cons (ps_set (i := 0) sc__law_chars.nd rfl (.inl rfl) pe_str) (pss_one (ps_ret (pe_op op_catS (pv 0) pe_str))), ?_⟩)
  · obtain ⟨rfl, _⟩ := h
    rfl
  obtain ⟨rfl, q⟩ := h
  exact ⟨_, rfl, chars.take 64, chars.drop 64, rfl, rfl, by decide, q⟩
end
end Tw
end

section
set_option Elab.async false
set_option linter.all false
set_option maxRecDepth 100000
set_option maxHeartbeats 4000000
/-! The walks of the law: numbers, texts, values, names. -/
namespace Tw
open PySem PySem.Spec PyProof.Rows L2
open TwP (Tx Val)
theorem if_dec {p : Prop} [Decidable p] {A B : Prop} (h1 : p → A) (h2 : ¬ p → B) : if decide p = true then A else B := by
  by_cases h : p
  · rw [if_pos (decide_eq_true h)]
    exact h1 h
  · rw [if_neg (by rw [decide_eq_false h]; decide)]
    exact h2 h
theorem if_int {d n : Int} {A B : Prop} (h1 : d = n → A) (h2 : d ≠ n → B) : if decide (V.int d = V.int n) = true then A else B :=
  if_dec (fun e => h1 (V.int.inj e)) fun e => h2 fun z => e (by rw [z])
theorem if_S {a b : Tx} {A B : Prop} (h1 : a = b → A) (h2 : a ≠ b → B) : if decide (V.str (SX.S a) = V.str (SX.S b)) = true then A else B := by
  rw [dec_S]
  exact if_dec h1 h2
/-- a range in a comprehension -/
theorem it_rng {lo : Int} {n : Nat} {H0 : Hp} {Qd : Hp → Prop} {B : V → Hp → (Hp → Prop) → Prop} (Pv : Nat → Hp → Prop) (h0 : Pv 0 H0)
    (hs : ∀ i H, i < n → Pv i H → B (.int (lo + i)) H (Pv (i + 1))) (hd : ∀ H, Pv n H → Qd H) :
    ∃ W : Nat → Nat → Hp → Prop, (∃ m, W 0 m H0) ∧ ∀ i m H, W i m H → ((Itr lo n).stop i H ∧ Qd H) ∨ ((Itr lo n).go i H ∧ ∃ Nx : Hp → Prop, (∀ H', Nx H' → ∃ m', m' < m ∧ W (i + 1) m' H') ∧ ∀ x H', (Itr lo n).yld i H x H' → B x H' Nx) := by
  refine ⟨fun i m H => m = n - i ∧ i ≤ n ∧ Pv i H, ⟨n, by simp, Nat.zero_le _, h0⟩, ?_⟩
  rintro i m H ⟨rfl, hi, p⟩
  by_cases hlt : i < n
  · refine .inr ⟨hlt, Pv (i + 1), fun H' p' => ⟨n - (i + 1), by omega, rfl, hlt, p'⟩, fun x H' y => ?_⟩
    obtain ⟨e, y⟩ := y
    subst e y
    exact hs i _ hlt p
  · have e : i = n := by omega
    subst e
    exact .inl ⟨Nat.le_refl _, hd H p⟩
theorem big30 : (10 : Int) ^ (30 : Int).toNat = 1000000000000000000000000000000 := by decide +kernel
theorem nbig30 : (10 : Nat) ^ 30 = 1000000000000000000000000000000 := by decide +kernel
section
variable {P : Program} {w : World} {K : PySem.W.Frag} {mg : Str → Option Value} {base : Heap}
theorem df_NumD (T : Fc K mg) : Df P w K mg base CX0 2 (He.ga K "_law_number") ["_law_draw"] spNumD := by
  refine df0 T.e__law_number sc__law_number (fun vs H Q E h => ?_) (fun cdv A outer s H vs Q E hr h => ⟨_,
    pss_cons (ps_set (i := 1) sc__law_number.nd rfl (.inl rfl) (pe_df (df_Take2 T) T.g__law_take hr pass0 (pa_cons (pv 0) (pa_cons pe_int pa_nil))))
    (pss_cons (ps_if (pt_cmpR op_eq (pv 1) pe_int (nomark _)) (pss_one (ps_ret (pe_op op_add (pe_op op_sub (pe_df (df_Take2 T) T.g__law_take hr pass0 (pa_cons (pv 0) (pa_cons (pe_op op_sub (pe_op op_mul pe_int (pe_op op_powW pe_int pe_int)) pe_int) pa_nil))) (pe_op op_powW pe_int pe_int)) pe_int))) pss_nil)
    (pss_cons (ps_if (pt_cmpR op_eq (pv 1) pe_int (nomark _)) (pss_one (ps_ret (pe_op op_sub (pe_df (df_Take2 T) T.g__law_take hr pass0 (pa_cons (pv 0) (pa_cons pe_int pa_nil))) pe_int))) pss_nil)
    (pss_one (ps_ret (pe_op op_sub (pe_df (df_Take2 T) T.g__law_take hr pass0 (pa_cons (pv 0) (pa_cons pe_int pa_nil))) pe_int))))), ?_⟩)
  · obtain ⟨_, rfl, _⟩ := h
    rfl
  obtain ⟨dr, rfl, D, q⟩ := h
  have pw : CPowW 10 30 := ⟨by decide, by decide +kernel⟩
  have b30 := big30
  refine ⟨_, rfl, dr, _, rfl, D, by decide, by decide, fun d H1 d1 h0 h1 => ?_⟩
  refine ⟨_, rfl, rfl, _, rfl, if_int (fun _ => ?_) fun _ => ?_⟩
  · refine ⟨_, rfl, _, _, rfl, rfl, pw, _, _, rfl, rfl, .inl ⟨by decide, by decide⟩, _, _, rfl, rfl, dr, _, rfl, d1.2, ?_, ?_, fun e H2 d2 g0 g1 => ?_⟩
    · rw [b30]; decide
    · rw [b30]; decide
    · rw [b30] at g1
      refine ⟨_, _, rfl, rfl, pw, _, _, rfl, rfl, _, _, rfl, rfl, q _ _ (d1.trans d2) ?_⟩
      unfold numOk
      rw [nbig30, b30]
      omega
  refine ⟨_, rfl, rfl, _, rfl, if_int (fun _ => ?_) fun _ => ?_⟩
  · refine ⟨_, rfl, dr, _, rfl, d1.2, by decide, by decide, fun e H2 d2 g0 g1 => ⟨_, _, rfl, rfl, q _ _ (d1.trans d2) ?_⟩⟩
    unfold numOk
    rw [nbig30]
    omega
  · refine ⟨_, rfl, dr, _, rfl, d1.2, by decide, by decide, fun e H2 d2 g0 g1 => ⟨_, _, rfl, rfl, q _ _ (d1.trans d2) ?_⟩⟩
    unfold numOk
    rw [nbig30]
    omega
theorem joinL_one : ∀ cs : List Nat, TL.joinL [] (cs.map fun c => [c]) = cs
  | [] => rfl
  | [c] => rfl
  | c :: d :: r => by
    have := joinL_one (d :: r)
    show [c] ++ ([] ++ TL.joinL [] ((d :: r).map fun c => [c])) = _
    rw [this]
    rfl
theorem lens_one : ∀ cs : List Nat, ((cs.map fun c => [c]).map List.length).sum = cs.length
  | [] => rfl
  | c :: r => by
    have := lens_one r
    simp only [List.map_cons, List.sum_cons, List.length_cons, this, List.length_nil]
    omega
theorem all_inCh : chars.all TwP.inCh = true := by decide +kernel
theorem len_chars : chars.length = 94 := by decide +kernel
abbrev rLenS : List V → Hp → VK → Prop := fun xs H Q => ∃ z : Str, xs = [.str z] ∧ z.length ≤ sizeLine ∧ Q (.int z.length) H
def small4 : Tx := [32, 97, 126, 98]
theorem df_TxtD (T : Fc K mg) : Df P w K mg base CX0 2 (He.ga K "_law_text") ["_law_draw"] spTxt := by
  refine df0 T.e__law_text sc__law_text (fun vs H Q E h => ?_) (fun cdv A outer s H vs Q E hr h => ⟨_,
    pss_cons (ps_set (i := 1) sc__law_text.nd rfl (.inr rfl) pe_str)
    (pss_cons (ps_set (i := 2) sc__law_text.nd rfl (.inl rfl) (pe_df (df_Take2 T) T.g__law_take hr pass0 (pa_cons (pv 0) (pa_cons pe_int pa_nil))))
    (pss_cons (ps_if (pt_cmpR op_eq (pe_df (df_Take2 T) T.g__law_take hr pass0 (pa_cons (pv 0) (pa_cons pe_int pa_nil))) pe_int (nomark _))
      (pss_cons (ps_set (i := 1) sc__law_text.nd rfl (.inr rfl) (pe_df0 (df_Chars T) T.g__law_chars hr pass0))
      (pss_one (ps_set (i := 2) sc__law_text.nd rfl (.inl rfl) (pe_df (df_Take2 T) T.g__law_take hr pass0 (pa_cons (pv 0) (pa_cons pe_int pa_nil)))))) pss_nil)
    (pss_one (ps_ret (pe_join pe_str (pe_lc (own := [("_law_k", 3)]) (g := gName 3) (tt := tYes)
      (te := tOp rIxS (tVar 1) (tCall spTake2 [] E0 (tCons (tVar 0) (tCons (tCB rLenS (tCons (tVar 1) tNil)) tNil)))) rfl sc__law_text.nd (pi_range1 rfl T.f_range (pa_cons (pv 2) pa_nil))
      (blkOk_by (N := ["_law_draw", "_law_chars_here", "_law_size", "_law_k"]) (sc := defScope s__law_text) (by decide +kernel))
      (fun _ _ _ _ _ => pg_name (i := 3) sc__law_text.nd rfl (Or.inl rfl)) (fun _ _ _ _ _ => pts_nil)
      (fun _ _ _ _ _ => by exact pe_ix ix_str (pv 1) (pe_df (df_Take2 T) T.g__law_take hr pass0 (pa_cons (pv 0) (pa_cons (pe_callB call_len_str rfl T.f_len bi_len (pa_cons (pv 1) pa_nil)) pa_nil))) (fun _ _ => rfl)))))))), ?_⟩)
  · obtain ⟨_, rfl, _⟩ := h
    rfl
  obtain ⟨dr, rfl, D, q⟩ := h
  refine ⟨_, rfl, dr, _, rfl, D, by decide, by decide, fun d H1 d1 h0 h1 => ?_⟩
  dsimp only [gName]
  refine cut_seq (t1 := tIfS _ _ _) (fun σ' H' => ∃ (cs : Tx) (sz : Nat), σ' = [some (.ref dr), some (sV cs), some (.int (sz : Int)), none] ∧ Dr dr H H' ∧ cs.all TwP.inCh = true ∧ 1 ≤ cs.length ∧ cs.length ≤ 94 ∧ sz ≤ 38) ?_ (fun fin => ?_)
  · rintro _ H2 ⟨cs, sz, rfl, d2, ha, hl, hl2, hz⟩
    refine ⟨⟨_, rfl⟩, _, rfl, _, rfl, by omega, by omega, fun D0 hD => ?_⟩
    have ed : D0 ≠ dr := Dr.none d2.2 hD
    refine it_rng (lo := 0) (fun i H' => ∃ xs : Tx, Dr dr H2 H' ∧ H' D0 = some (.lst ((xs.map fun c => [c]).map sV)) ∧ xs.length = i ∧ xs.all TwP.inCh = true) ⟨[], ⟨Dr.of d2.2 (same_new hD _), upd_same, rfl, rfl⟩⟩ ?_ ?_
    · rintro i H3 hi ⟨xs, d3, hx, hxl, hxa⟩
      refine ⟨rfl, tyes (iteT ⟨_, rfl, _, rfl, _, rfl, _, rfl, by rw [len_S]; exact le_line (by omega), dr, _, rfl, d3.2, ?_, ?_, fun e H4 d4 g0 g1 => ?_⟩)⟩
      · rw [len_S]
        omega
      · rw [len_S]
        have : (cs.length : Int) ≤ 94 := by omega
        exact Int.lt_of_le_of_lt this (by decide)
      rw [len_S] at g1
      obtain ⟨n, rfl⟩ := Int.eq_ofNat_of_zero_le g0
      have hn : n < cs.length := by omega
      have hc : cs[n]? = some cs[n] := List.getElem?_eq_getElem hn
      have h4 := Dr.get d3.2 d4 hx (notDr_strs _)
      refine ⟨_, _, _, rfl, rfl, by rw [len_S]; exact le_line (by omega), atI_S hc, _, h4, ?_, xs ++ [cs[n]], ?_, ?_, by rw [List.length_append, hxl]; rfl, ?_⟩
      · rw [List.length_map, List.length_map]
        exact lt_line (by omega)
      · exact Dr.upd d2.2 (d3.trans d4) hD _
      · rw [upd_same, List.map_append, List.map_append]
        rfl
      · rw [List.all_append, hxa]
        have := List.all_eq_true.mp ha cs[n] (List.getElem_mem hn)
        show (true && (TwP.inCh cs[n] && true)) = true
        rw [this]
        rfl
    · rintro H3 ⟨xs, d3, hx, hxl, hxa⟩
      refine ⟨_, D0, (xs.map fun c => [c]).map SX.S, rfl, rfl, .inl (SqL.of (by rw [hx, List.map_map (f := SX.S)]; rfl)), ?_, ?_⟩
      · have e0 : (Str.ofString "").length = 0 := rfl
        rw [SX.lens, lens_one, e0]
        omega
      · have ej : Txt.join (Str.ofString "") ((xs.map fun c => [c]).map SX.S) = SX.S xs := by
          have := SX.join_S [] (xs.map fun c => [c])
          rw [joinL_one] at this
          exact this
        rw [ej]
        exact q xs H3 (d2.trans d3) ⟨hxa, by omega⟩
  · refine ⟨_, rfl, dr, _, rfl, d1.2, by decide, by decide, fun e H2 d2 g0 g1 => ?_⟩
    refine ⟨rfl, _, rfl, if_int (fun _ => ?_) fun _ => ?_⟩
    · refine ⟨rfl, _, rfl, dr, _, rfl, d2.2, by decide, by decide, fun f H3 d3 k0 k1 => ?_⟩
      exact fin _ _ ⟨chars, f.toNat, by rw [Int.toNat_of_nonneg k0]; rfl, (d1.trans d2).trans d3, all_inCh, by rw [len_chars]; decide, by rw [len_chars]; decide, by omega⟩
    · exact fin _ _ ⟨small4, d.toNat, by rw [Int.toNat_of_nonneg h0]; rfl, d1.trans d2, by decide, by decide, by decide, by omega⟩
end
end Tw
end

section
set_option Elab.async false
set_option linter.all false
set_option maxRecDepth 100000
set_option maxHeartbeats 4000000
/-! The walks of the law: values, names. -/
namespace Tw
open PySem PySem.Spec PyProof.Rows L2
open TwP (Tx Val)
section
variable {P : Program} {w : World} {K : PySem.W.Frag} {mg : Str → Option Value} {base : Heap}
theorem df_ValD (T : Fc K mg) : Df P w K mg base CX0 3 (He.ga K "_law_value") ["_law_draw", "_law_kind"] spVal := by
  refine df0 T.e__law_value sc__law_value (fun vs H Q E h => ?_) (fun cdv A outer s H vs Q E hr h => ⟨_,
    pss_cons (ps_if (pt_cmpR op_eq (pv 1) pe_str (nomark _)) (pss_one (ps_ret (pe_df (df_NumD T) T.g__law_number hr pass0 (pa_cons (pv 0) pa_nil)))) pss_nil)
    (pss_one (ps_ret (pe_df (df_TxtD T) T.g__law_text hr pass0 (pa_cons (pv 0) pa_nil)))), ?_⟩)
  · obtain ⟨_, _, rfl, _⟩ := h
    rfl
  obtain ⟨dr, k, rfl, D, q⟩ := h
  refine ⟨_, rfl, rfl, _, rfl, ?_⟩
  show if decide (V.str (SX.S k) = V.str (SX.S kNumber)) = true then _ else _
  refine if_S (fun _ => ⟨_, rfl, dr, rfl, D, fun n H' d hn => q (.num n) H' d hn⟩) fun _ => ⟨_, rfl, dr, rfl, D, fun l H' d hn => q (.txt l) H' d hn⟩
def alns : Tx := lets ++ digs
def spName : Sp := fun vs H Q _ => ∃ (dr lt : Addr) (ts : List Tx), vs = [.ref dr, .ref lt] ∧ DrAt H dr ∧ H lt = some (.lst (ts.map sV)) ∧ ts.length ≤ 2 ∧ ∀ (n : Tx) H', Dr dr H H' → TwP.isName n = true → Q (sV n) H'
theorem lets_let : lets.all TwP.isLet = true := by decide +kernel
theorem alns_alnum : alns.all TwP.alnum = true := by decide +kernel
theorem kept_lets : TwP.kept.all (fun w => w.all TwP.isLet) = true := by decide +kernel
theorem len_lets : lets.length = 26 := by decide +kernel
theorem len_alns : alns.length = 36 := by decide +kernel
/-- a name that is being drawn -/
def preName (n : Tx) (k : Nat) : Prop := ∃ c r, n = c :: r ∧ TwP.isLet c = true ∧ n.all TwP.alnum = true ∧ n.length ≤ k
theorem pre_name {n : Tx} (h : preName n 8) (hk : TwP.kept.contains n = false) : TwP.isName n = true := by
  obtain ⟨c, r, rfl, h1, h2, h3⟩ := h
  show (decide ((c :: r).length ≤ 8) && TwP.isLet c && !(TwP.kept.contains (c :: r)) && (c :: r).all TwP.alnum) = true
  rw [decide_eq_true h3, h1, hk, h2]
  rfl
theorem pre_snoc {n : Tx} {k c : Nat} (h : preName n k) (hc : TwP.alnum c = true) : preName (n ++ [c]) (k + 1) := by
  obtain ⟨d, r, rfl, h1, h2, h3⟩ := h
  refine ⟨d, r ++ [c], rfl, h1, ?_, ?_⟩
  · rw [List.all_append, h2]
    show (true && (TwP.alnum c && true)) = true
    rw [hc]
    rfl
  · rw [List.length_append]
    exact Nat.succ_le_succ h3
theorem pre_take {n : Tx} {k : Nat} (h : preName n k) : preName (n.take 6) 6 := by
  obtain ⟨d, r, rfl, h1, h2, h3⟩ := h
  refine ⟨d, r.take 5, rfl, h1, ?_, ?_⟩
  · rw [List.all_eq_true]
    exact fun x hx => List.all_eq_true.mp h2 x (List.mem_of_mem_take hx)
  · rw [List.length_take]
    omega
theorem num_short : ∀ k, k < 60 → (TL.numL k).length ≤ 2 := by decide +kernel
theorem num_dig (k : Nat) : ∀ c ∈ TL.numL k, TwP.isDig c = true := fun c hc => by
  have h : 48 ≤ c ∧ c ≤ 57 := TL.numL_digits k c hc
  unfold TwP.isDig
  simp [h]
theorem dig_let {c : Nat} (h : TwP.isDig c = true) : TwP.isLet c = false := by
  unfold TwP.isDig at h
  unfold TwP.isLet
  simp only [Bool.and_eq_true, decide_eq_true_eq] at h
  rw [decide_eq_false (show ¬ 97 ≤ c by omega)]
  rfl
theorem pre_num {n : Tx} {k : Nat} (h : preName n 6) (hk : k < 60) : TwP.isName (n ++ TL.numL k) = true := by
  obtain ⟨d, r, rfl, h1, h2, h3⟩ := h
  have hl := num_short k hk
  have hne := TL.numL_ne k
  refine pre_name ⟨d, r ++ TL.numL k, rfl, h1, ?_, ?_⟩ ?_
  · rw [List.all_append, h2, List.all_eq_true.mpr fun c hc => show TwP.alnum c = true by unfold TwP.alnum; rw [num_dig k c hc, Bool.or_true]]
    rfl
  · rw [List.length_append]
    omega
  · rw [Bool.eq_false_iff]
    intro hc
    have hm := List.contains_iff_mem.mp hc
    have ha := List.all_eq_true.mp kept_lets _ hm
    obtain ⟨c, hcm⟩ := List.exists_mem_of_ne_nil _ hne
    have := List.all_eq_true.mp ha c (List.mem_append_right _ hcm)
    rw [dig_let (num_dig k c hcm)] at this
    cases this
/-- of three texts one is not among two -/
theorem three_two {n : Tx} {ts : List Tx} (h2 : ts.length ≤ 2) (h : ∀ j, j < 60 → ts.contains (n ++ TL.numL j) = true) : False := by
  have m0 := List.contains_iff_mem.mp (h 0 (by decide))
  have m1 := List.contains_iff_mem.mp (h 1 (by decide))
  have m2 := List.contains_iff_mem.mp (h 2 (by decide))
  have d : ∀ i j : Nat, TL.numL i ≠ TL.numL j → n ++ TL.numL i ≠ n ++ TL.numL j := fun i j h e => h (List.append_cancel_left e)
  have d01 := d 0 1 (by decide +kernel)
  have d02 := d 0 2 (by decide +kernel)
  have d12 := d 1 2 (by decide +kernel)
  match ts, h2 with
  | [], _ => cases m0
  | [a], _ =>
    rw [List.mem_singleton] at m0 m1
    exact d01 (m0.trans m1.symm)
  | [a, b], _ =>
    simp only [List.mem_cons, List.not_mem_nil, or_false] at m0 m1 m2
    rcases m0 with e0 | e0 <;> rcases m1 with e1 | e1 <;> rcases m2 with e2 | e2
    all_goals first
      | exact d01 (e0.trans e1.symm)
      | exact d02 (e0.trans e2.symm)
      | exact d12 (e1.trans e2.symm)
theorem cut_to (t : Tx) (k : Nat) : cutS (SX.S t) none (some (k : Int)) = SX.S (t.take k) := by
  rw [cut_S, HT.sIx_nat, HT.sIx_none, List.drop_zero, Nat.sub_zero]
  congr 1
  rw [List.take_eq_take_iff]
  omega
theorem cut_from (t : Tx) (k : Nat) : cutS (SX.S t) (some (k : Int)) none = SX.S (t.drop k) := by
  rw [cut_S, HT.sIx_nat, HT.sIx_none]
  congr 1
  by_cases h : k ≤ t.length
  · rw [Nat.min_eq_left h, List.take_of_length_le (by rw [List.length_drop]; exact Nat.le_refl _)]
  · rw [Nat.min_eq_right (by omega), List.drop_eq_nil_of_le (Nat.le_refl _), List.drop_eq_nil_of_le (by omega), List.take_nil]
theorem if_share {c : Bool} {A B : Prop} (hA : A) (hB : A → c = false → B) : if c = true then A else B := by
  cases c with
  | true => exact hA
  | false => exact hB hA rfl
theorem inV_S' (l : Tx) (ts : List Tx) : inV (V.str (SX.S l)) (ts.map sV) = ts.contains l := inV_S l ts
theorem df_NameD (T : Fc K mg) : Df P w K mg base CX0 2 (He.ga K "_law_name") ["_law_draw", "_law_taken"] spName := by
  refine df0 T.e__law_name sc__law_name (fun vs H Q E h => ?_) (fun cdv A outer s H vs Q E hr h => ⟨_,
    pss_cons (ps_set (i := 2) sc__law_name.nd rfl (.inl rfl) pe_str)
    (pss_cons (ps_set (i := 3) sc__law_name.nd rfl (.inl rfl) (pe_op op_catS (pv 2) pe_str))
    (pss_cons (ps_set (i := 4) sc__law_name.nd rfl (.inl rfl) (pe_ix ix_str (pv 2) (pe_df (df_Take2 T) T.g__law_take hr pass0 (pa_cons (pv 0) (pa_cons pe_int pa_nil))) (fun _ _ => rfl)))
    (pss_cons (ps_for PassesOwn.never rfl (pi_range1 rfl T.f_range (pa_cons (pe_df (df_Take2 T) T.g__law_take hr pass0 (pa_cons (pv 0) (pa_cons pe_int pa_nil))) pa_nil)) (pg_name (i := 5) sc__law_name.nd rfl (.inl rfl))
      (pss_one (ps_set (i := 4) sc__law_name.nd rfl (.inl rfl) (pe_op op_catS (pv 4) (pe_ix ix_str (pv 3) (pe_df (df_Take2 T) T.g__law_take hr pass0 (pa_cons (pv 0) (pa_cons pe_int pa_nil))) (fun _ _ => rfl))))))
    (pss_cons (ps_set (i := 6) sc__law_name.nd rfl (.inl rfl) (pe_lst (pa_cons pe_str (pa_cons pe_str (pa_cons pe_str (pa_cons pe_str (pa_cons pe_str (pa_cons pe_str (pa_cons pe_str (pa_cons pe_str (pa_cons pe_str (pa_cons pe_str pa_nil))))))))))))
    (pss_cons (ps_if (PW.pt (pw_or (pt_cmpR op_in_seq (pv 4) (pv 6) rfl) (pw_or1 (pt_cmpR op_in_seq (pv 4) (pv 1) rfl))))
      (pss_cons (ps_set (i := 4) sc__law_name.nd rfl (.inl rfl) (pe_slice sl_str (pv 4) po_none (po_some pe_int)))
      (pss_one (ps_for PassesOwn.never rfl (pi_range1 rfl T.f_range (pa_cons pe_int pa_nil)) (pg_name (i := 5) sc__law_name.nd rfl (.inl rfl))
        (pss_one (ps_if (pt_cmpR op_notIn_seq (pe_op op_catS (pv 4) (pe_callTy (call_strD rfl T.ex.nd) rfl T.f_str bi_str (pa_cons (pv 5) pa_nil))) (pv 1) rfl)
          (pss_one (ps_ret (pe_op op_catS (pv 4) (pe_callTy (call_strD rfl T.ex.nd) rfl T.f_str bi_str (pa_cons (pv 5) pa_nil))))) pss_nil))))) pss_nil)
    (pss_one (ps_ret (pv 4)))))))), ?_⟩)
  · obtain ⟨_, _, _, rfl, _⟩ := h
    rfl
  obtain ⟨dr, lt, ts, rfl, D, hlt, h2, q⟩ := h
  refine ⟨_, rfl, lets, digs, rfl, rfl, by decide, ?_⟩
  refine ⟨_, rfl, _, rfl, dr, _, rfl, D, by decide, by decide, fun d H1 d1 h0 h1 => ?_⟩
  obtain ⟨n0, rfl⟩ := Int.eq_ofNat_of_zero_le h0
  have hn0 : n0 < lets.length := by rw [len_lets]; omega
  refine ⟨_, _, _, rfl, rfl, by show (26 : Nat) ≤ sizeLine; exact le_line (by decide), atI_S (l := lets) (List.getElem?_eq_getElem hn0), ?_⟩
  refine ⟨_, rfl, dr, _, rfl, d1.2, by decide, by decide, fun d' H2 d2 g0 g1 => ⟨_, rfl, by omega, by omega, ?_⟩⟩
  have hp0 : preName [lets[n0]] 1 := by
    have hl := List.all_eq_true.mp lets_let lets[n0] (List.getElem_mem hn0)
    exact ⟨_, [], rfl, hl, by show (TwP.alnum lets[n0] && true) = true; unfold TwP.alnum; rw [hl]; rfl, Nat.le_refl _⟩
  refine for_range (lo := 0) (fun i σ H' => ∃ (n : Tx) (k : Option V), σ = [some (.ref dr), some (.ref lt), some (sV lets), some (sV alns), some (sV n), k, none] ∧ Dr dr H H' ∧ preName n (i + 1)) ⟨[lets[n0]], none, rfl, d1.trans d2, hp0⟩ ?_ ?_
  · rintro i σ H3 hi ⟨n, k, rfl, d3, hn⟩
    refine ⟨_, rfl, _, rfl, _, rfl, dr, _, rfl, d3.2, by decide, by decide, fun e H4 d4 k0 k1 => ?_⟩
    obtain ⟨n1, rfl⟩ := Int.eq_ofNat_of_zero_le k0
    have hn1 : n1 < alns.length := by rw [len_alns]; omega
    have hal := List.all_eq_true.mp alns_alnum alns[n1] (List.getElem_mem hn1)
    have hnl : n.length ≤ 8 := by
      obtain ⟨_, _, _, _, _, h3⟩ := hn
      omega
    exact ⟨_, _, _, rfl, rfl, by rw [len_S, len_alns]; exact le_line (by decide), atI_S (l := alns) (List.getElem?_eq_getElem hn1), n, [alns[n1]], rfl, rfl, by show n.length + 1 ≤ _; omega, _, _, rfl, d3.trans d4, pre_snoc hn hal⟩
  rintro σ H3 ⟨n, k, rfl, d3, hn⟩
  have hn8 : preName n 8 := by
    obtain ⟨c, r, e, h1, h2, h3⟩ := hn
    exact ⟨c, r, e, h1, h2, by omega⟩
  have hlt3 := Dr.get D d3 hlt (notDr_strs _)
  refine ⟨by show 10 ≤ sizeLine; decide, fun p hp => ?_⟩
  have e3 : Same H3 (upd H3 p (.lst (TwP.kept.map sV))) := same_new hp _
  have hlt4 := e3 _ _ hlt3
  have d4 := d3.same e3
  refine ⟨_, rfl, _, rfl, p, _, rfl, .inl (SqL.of upd_same), rfl, flat_S TwP.kept, _, rfl, ?_⟩
  show if inV (V.str (SX.S n)) (TwP.kept.map sV) = true then _ else _
  rw [inV_S']
  refine if_share (iteT ?_) fun hA hk => ?_
  · -- another name
    refine ⟨_, rfl, _, rfl, _, rfl, by rw [len_S]; obtain ⟨_, _, _, _, _, h3⟩ := hn8; exact le_line (by omega), ?_⟩
    have ec : cutS (SX.S n) none (some 6) = SX.S (n.take 6) := cut_to n 6
    rw [ec]
    have hp6 := pre_take hn8
    refine ⟨_, rfl, by decide, by decide, ?_⟩
    refine for_range (lo := 0) (fun i σ H' => ∃ k : Option V, H' = upd H3 p (.lst (TwP.kept.map sV)) ∧ σ = [some (.ref dr), some (.ref lt), some (sV lets), some (sV alns), some (sV (n.take 6)), k, some (.ref p)] ∧ ∀ j, j < i → ts.contains (n.take 6 ++ TL.numL j) = true) ⟨k, rfl, rfl, fun j hj => absurd hj (by omega)⟩ ?_ ?_
    · rintro i σ H' hi ⟨k', rfl, rfl, hj⟩
      have hi60 : i < 60 := hi
      have hl2 := num_short i hi60
      have hl6 : (n.take 6).length ≤ 6 := by rw [List.length_take]; omega
      have ei : (0 : Int) + (i : Int) = ((i : Nat) : Int) := by omega
      have hz : ((0 : Int) + (i : Int)).natAbs < 10 ^ 1001 := by
        rw [ei]
        exact Nat.lt_of_lt_of_le (show (i : Int).natAbs < 100 by omega) (by decide +kernel)
      have eL : intL ((0 : Int) + (i : Int)) = TL.numL i := by rw [ei]; exact intL_nat i
      refine ⟨_, rfl, _, rfl, _, rfl, hz, ?_⟩
      refine ⟨n.take 6, TL.numL i, rfl, congrArg sV eL, by omega, _, rfl, lt, _, rfl, .inl (SqL.of hlt4), rfl, flat_S _, _, rfl, ?_⟩
      show if (!inV (V.str (SX.S (n.take 6 ++ TL.numL i))) (ts.map sV)) = true then _ else _
      rw [inV_S']
      cases hc : ts.contains (n.take 6 ++ TL.numL i) with
      | false =>
        refine iteT ⟨_, rfl, _, rfl, _, rfl, hz, ?_⟩
        exact ⟨n.take 6, TL.numL i, rfl, congrArg sV eL, by omega, q _ _ d4 (pre_num hp6 hi60)⟩
      | true =>
        refine iteF ⟨_, rfl, rfl, fun j hj' => ?_⟩
        by_cases e : j = i
        · rw [e]
          exact hc
        · exact hj j (by omega)
    · rintro σ H' ⟨k', rfl, rfl, hj⟩
      exact (three_two h2 hj).elim
  refine ⟨_, rfl, _, rfl, lt, _, rfl, .inl (SqL.of hlt4), rfl, flat_S _, _, rfl, ?_⟩
  show if inV (V.str (SX.S n)) (ts.map sV) = true then _ else _
  rw [inV_S']
  refine if_share hA fun _ hts => ?_
  exact ⟨_, rfl, q _ _ d4 (pre_name hn8 hk)⟩
end
end Tw
end

section
set_option Elab.async false
set_option linter.all false
set_option maxRecDepth 100000
set_option maxHeartbeats 4000000
/-! The law's forms and columns. -/
namespace Tw
open PySem PySem.Spec PyProof.Rows L2
open TwP (Tx Val)
/-- what forms are made of -/
def Fo (o : HO) : Prop := (∃ xs, o = .tup xs) ∨ ∃ vs : List Val, vs ≠ [] ∧ o = .lst (vs.map vV)
theorem Fo.tup (xs : List V) : Fo (.tup xs) := .inl ⟨xs, rfl⟩
theorem Fo.notDr {o : HO} (h : Fo o) : NotDr o := by
  rcases h with ⟨xs, rfl⟩ | ⟨vs, _, rfl⟩
  · exact notDr_tup xs
  · exact notDr_vals vs
theorem Fo.ne {o : HO} (h : Fo o) (ps : List Addr) : o ≠ .lst (ps.map V.ref) := fun e => by
  rcases h with ⟨xs, rfl⟩ | ⟨vs, hv, rfl⟩
  · cases e
  · injection e with e
    cases vs with
    | nil => exact hv rfl
    | cons v r =>
      cases ps with
      | nil => cases e
      | cons p ps =>
        injection e with e _
        cases v <;> cases e
/-- the law's form at p -/
def FormAt (H : Hp) : Tr → Addr → Prop
  | .cmp c op v, p => H p = some (.tup [sV kCompare, sV c, sV op, vV v])
  | .agn c op o m, p => H p = some (.tup [sV kAgainst, sV c, sV op, sV o, .int m])
  | .amg c vs, p => ∃ l, H p = some (.tup [sV kAmong, sV c, .ref l]) ∧ vs ≠ [] ∧ H l = some (.lst (vs.map vV))
  | .beg c q, p => H p = some (.tup [sV TwP.kBegins, sV c, sV q])
  | .emp c, p => H p = some (.tup [sV TwP.kEmpty, sV c])
  | .alw, p => H p = some (.tup [sV TwP.kAlways])
  | .nev, p => H p = some (.tup [sV TwP.kNever])
  | .and a b, p => ∃ pa pb, H p = some (.tup [sV TwP.kAnd, .ref pa, .ref pb]) ∧ FormAt H a pa ∧ FormAt H b pb
  | .or a b, p => ∃ pa pb, H p = some (.tup [sV TwP.kOr, .ref pa, .ref pb]) ∧ FormAt H a pa ∧ FormAt H b pb
  | .not a, p => ∃ pa, H p = some (.tup [sV TwP.kNot, .ref pa]) ∧ FormAt H a pa
  | .sure a, p => ∃ pa, H p = some (.tup [sV TwP.kSure, .ref pa]) ∧ FormAt H a pa
theorem FormAt.keep {H H' : Hp} (k : ∀ b o, H b = some o → Fo o → H' b = some o) : ∀ {t : Tr} {p : Addr}, FormAt H t p → FormAt H' t p
  | .cmp _ _ _, p, h => k _ _ h (Fo.tup _)
  | .agn _ _ _ _, p, h => k _ _ h (Fo.tup _)
  | .amg _ vs, p, h => by
    obtain ⟨l, h1, hv, h2⟩ := h
    exact ⟨l, k _ _ h1 (Fo.tup _), hv, k _ _ h2 (.inr ⟨vs, hv, rfl⟩)⟩
  | .beg _ _, p, h => k _ _ h (Fo.tup _)
  | .emp _, p, h => k _ _ h (Fo.tup _)
  | .alw, p, h => k _ _ h (Fo.tup _)
  | .nev, p, h => k _ _ h (Fo.tup _)
  | .and a b, p, h => by
    obtain ⟨pa, pb, h1, h2, h3⟩ := h
    exact ⟨pa, pb, k _ _ h1 (Fo.tup _), FormAt.keep k h2, FormAt.keep k h3⟩
  | .or a b, p, h => by
    obtain ⟨pa, pb, h1, h2, h3⟩ := h
    exact ⟨pa, pb, k _ _ h1 (Fo.tup _), FormAt.keep k h2, FormAt.keep k h3⟩
  | .not a, p, h => by
    obtain ⟨pa, h1, h2⟩ := h
    exact ⟨pa, k _ _ h1 (Fo.tup _), FormAt.keep k h2⟩
  | .sure a, p, h => by
    obtain ⟨pa, h1, h2⟩ := h
    exact ⟨pa, k _ _ h1 (Fo.tup _), FormAt.keep k h2⟩
theorem FormAt.dr {H H' : Hp} {dr : Addr} (D : DrAt H dr) (d : Dr dr H H') {t : Tr} {p : Addr} (h : FormAt H t p) : FormAt H' t p := h.keep fun _ _ q n => Dr.get D d q n.notDr
theorem FormAt.same {H H' : Hp} (e : Same H H') {t : Tr} {p : Addr} (h : FormAt H t p) : FormAt H' t p := h.keep fun _ _ q _ => e _ _ q
theorem FormAt.upd {H : Hp} {pl : Addr} {ps : List Addr} {o : HO} (hl : H pl = some (.lst (ps.map V.ref))) {t : Tr} {p : Addr} (h : FormAt H t p) : FormAt (upd H pl o) t p := h.keep fun b u q n => by
  have : b ≠ pl := fun e => by
    rw [e, hl] at q
    exact n.ne ps (Option.some.inj q).symm
  rw [upd_ne this]
  exact q
/-- a tree that the law draws: it can be read, it is short -/
def LG (t : Tr) : Prop := TwP.Good t ∧ (TwP.wr t).length + 16 ≤ 256 * TwP.nat t ∧ TwP.lev t + 1 ≤ 2 * TwP.nat t
/-- one that was not wrapped -/
def LA (t : Tr) : Prop := TwP.Good t ∧ (TwP.wr t).length ≤ 200 ∧ TwP.nat t = 1 ∧ TwP.lev t = 0
theorem num_good {n : Int} (h : numOk n) : TwP.vGood (.num n) ∧ (TwP.wrV (.num n)).length ≤ 78 := by
  have h1 : (TL.numL n.natAbs).length ≤ 31 := TL.numL_len (by decide) (Nat.lt_of_le_of_lt h (by decide +kernel))
  refine ⟨Nat.le_trans h1 (by decide), ?_⟩
  show (TwP.intL n).length ≤ 78
  unfold TwP.intL
  split
  · rw [List.length_cons]
    omega
  · omega
theorem val_good {v : Val} (h : valD v) : TwP.vGood v ∧ (TwP.wrV v).length ≤ 78 := by
  cases v with
  | num n => exact num_good h
  | txt l =>
    obtain ⟨h1, h2⟩ := (show txtOk l from h)
    refine ⟨h1, ?_⟩
    have := TwP.esc_len l
    show (34 :: (TwP.esc l ++ [34])).length ≤ _
    rw [List.length_cons, List.length_append, List.length_singleton]
    omega
theorem op_short {op : Tx} (h : op ∈ TwP.ops) : op.length ≤ 2 := TwP.ops_len (List.contains_iff_mem.mpr h)
/-- a column -/
def ColP (H : Hp) (p : Addr) : Prop := ∃ (n kd : Tx) (b : Bool), H p = some (.tup [sV n, sV kd, .bl b]) ∧ TwP.isName n = true
def ColsAt (H : Hp) (cl : Addr) (ps : List Addr) : Prop := H cl = some (.lst (ps.map V.ref)) ∧ ps ≠ [] ∧ ps.length ≤ 3 ∧ ∀ p ∈ ps, ColP H p
theorem ColP.keep {H H' : Hp} {p : Addr} (k : ∀ b o, H b = some o → NotDr o → H' b = some o) (h : ColP H p) : ColP H' p := by
  obtain ⟨n, kd, b, h1, h2⟩ := h
  exact ⟨n, kd, b, k _ _ h1 (notDr_tup _), h2⟩
theorem ColP.upd {H : Hp} {p l : Addr} {xs : List V} {o : HO} (hl : H l = some (.lst xs)) (h : ColP H p) : ColP (upd H l o) p := by
  obtain ⟨n, kd, b, h1, h2⟩ := h
  exact ⟨n, kd, b, by rw [upd_ne (ne_of h1 hl fun z => by cases z)]; exact h1, h2⟩
theorem ColsAt.dr {H H' : Hp} {dr cl : Addr} {ps : List Addr} (D : DrAt H dr) (d : Dr dr H H') (h : ColsAt H cl ps) : ColsAt H' cl ps :=
  ⟨Dr.get D d h.1 (notDr_refs ps), h.2.1, h.2.2.1, fun p hp => (h.2.2.2 p hp).keep fun _ _ q n => Dr.get D d q n⟩
def spCols : Sp := fun vs H Q _ => ∃ dr, vs = [.ref dr, .int 3] ∧ DrAt H dr ∧ ∀ cl ps H', Dr dr H H' → ColsAt H' cl ps → Q (.ref cl) H'
theorem atI_1 {xs : List V} {k : Nat} {v : V} (h : xs[k]? = some v) : atI xs ((k : Nat) : Int) = some v := atI_nat h
section
variable {P : Program} {w : World} {K : PySem.W.Frag} {mg : Str → Option Value} {base : Heap}
theorem df_Cols (T : Fc K mg) : Df P w K mg base CX0 3 (He.ga K "_law_columns") ["_law_draw", "_law_most"] spCols := by
  refine df0 T.e__law_columns sc__law_columns (fun vs H Q E h => ?_) (fun cdv A outer s H vs Q E hr h => ⟨_,
    pss_cons (ps_set (i := 2) sc__law_columns.nd rfl (.inl rfl) (pe_lst pa_nil))
    (pss_cons (ps_set (i := 3) sc__law_columns.nd rfl (.inl rfl) (pe_lst pa_nil))
    (pss_cons (ps_for PassesOwn.never rfl (pi_range1 rfl T.f_range (pa_cons (pe_op op_add pe_int (pe_df (df_Take2 T) T.g__law_take (hr.mono (by decide)) pass0 (pa_cons (pv 0) (pa_cons (pv 1) pa_nil)))) pa_nil)) (pg_name (i := 4) sc__law_columns.nd rfl (.inl rfl))
      (pss_cons (ps_set (i := 5) sc__law_columns.nd rfl (.inl rfl) (pe_df (df_NameD T) T.g__law_name hr pass0 (pa_cons (pv 0) (pa_cons (pv 2) pa_nil))))
      (pss_cons (ps_expr (pe_bm PySem.F.plainAttrs_list PySem.F.slot_list_append PySem.F.type_list_append mt_append (pv 2) (pa_cons (pv 5) pa_nil)))
      (pss_cons (ps_set (i := 6) sc__law_columns.nd rfl (.inl rfl) (pe_ix ix_list (pe_lst (pa_cons pe_str (pa_cons pe_str pa_nil))) (pe_df (df_Take2 T) T.g__law_take (hr.mono (by decide)) pass0 (pa_cons (pv 0) (pa_cons pe_int pa_nil))) (fun _ _ => rfl)))
      (pss_cons (ps_if (PW.pt (pw_and (pt_cmpR op_gt (pv 4) pe_int (nomark _)) (pw_and1 (pt_cmpR op_eq (pe_df (df_Take2 T) T.g__law_take (hr.mono (by decide)) pass0 (pa_cons (pv 0) (pa_cons pe_int pa_nil))) pe_int (nomark _)))))
        (pss_one (ps_set (i := 6) sc__law_columns.nd rfl (.inl rfl) (pe_ix ix_tup (pe_ix ix_list (pv 3) pe_int (fun _ _ => rfl)) pe_int (fun _ _ => rfl)))) pss_nil)
      (pss_one (ps_expr (pe_bm PySem.F.plainAttrs_list PySem.F.slot_list_append PySem.F.type_list_append mt_append (pv 3)
        (pa_cons (pe_tup (pa_cons (pv 5) (pa_cons (pv 6) (pa_cons (pe_cmpR op_eq (pe_df (df_Take2 T) T.g__law_take (hr.mono (by decide)) pass0 (pa_cons (pv 0) (pa_cons pe_int pa_nil))) pe_int (nomark _)) pa_nil)))) pa_nil)))))))))
    (pss_one (ps_ret (pv 3))))), ?_⟩)
  · obtain ⟨_, rfl, _⟩ := h
    rfl
  obtain ⟨dr, rfl, D, q⟩ := h
  refine ⟨by show 0 ≤ sizeLine; decide, fun ln hln => ⟨by show 0 ≤ sizeLine; decide, fun cl hcl => ?_⟩⟩
  have hln0 : H ln = none := hln
  have nlc : cl ≠ ln := fun e => by rw [e, upd_same] at hcl; cases hcl
  have hcl0 : H cl = none := by rw [upd_ne nlc] at hcl; exact hcl
  have d0 : Dr dr H (upd (upd H ln (.lst [])) cl (.lst [])) := Dr.of D (same_add (same_new hln _) hcl _)
  refine ⟨_, rfl, _, rfl, dr, 3, rfl, d0.2, by decide, by decide, fun e H1 d1 h0 h1 => ⟨1, e, rfl, rfl, ?_⟩⟩
  have D0 := d0.2
  have dH1 := d0.trans d1
  have s1 : H1 ln = some (.lst (([] : List Tx).map sV)) := Dr.get D0 d1 (by rw [upd_ne (Ne.symm nlc), upd_same]; rfl) (notDr_strs [])
  have s2 : H1 cl = some (.lst (([] : List Addr).map V.ref)) := Dr.get D0 d1 (by rw [upd_same]; rfl) (notDr_refs [])
  refine ⟨_, rfl, by omega, by omega, ?_⟩
  refine for_range (lo := 0) (fun i σ H' => ∃ (ts : List Tx) (ps : List Addr) (k n kd : Option V), σ = [some (.ref dr), some (.int 3), some (.ref ln), some (.ref cl), k, n, kd] ∧ Dr dr H H' ∧ H' ln = some (.lst (ts.map sV)) ∧ H' cl = some (.lst (ps.map V.ref)) ∧ ts.length = i ∧ ps.length = i ∧ ∀ p ∈ ps, ColP H' p)
    ⟨[], [], none, none, none, rfl, dH1, s1, s2, rfl, rfl, fun p hp => absurd hp (by simp)⟩ ?_ ?_
  · rintro i σ H2 hi ⟨ts, ps, k, n, kd, rfl, d2, s3, s4, ht, hp, hc⟩
    have hi3 : i ≤ 2 := by omega
    refine ⟨_, rfl, _, rfl, dr, ln, ts, rfl, d2.2, s3, by omega, fun nm H3 d3 hnm => ?_⟩
    have s5 := Dr.get d2.2 d3 s3 (notDr_strs ts)
    have s6 := Dr.get d2.2 d3 s4 (notDr_refs ps)
    have hc3 : ∀ p ∈ ps, ColP H3 p := fun p hp => (hc p hp).keep fun _ _ q n => Dr.get d2.2 d3 q n
    refine ⟨_, rfl, .inl ⟨rfl, _, SqL.of s5⟩, _, rfl, ln, _, _, rfl, rfl, s5, by rw [List.length_map]; exact lt_line (by omega), ?_⟩
    have d4 : Dr dr H (upd H3 ln (.lst (ts.map sV ++ [sV nm]))) := Dr.upd D (d2.trans d3) hln0 _
    have hc4 : ∀ p ∈ ps, ColP (upd H3 ln (.lst (ts.map sV ++ [sV nm]))) p := fun p hp => (hc3 p hp).upd s5
    have s7 : (upd H3 ln (.lst (ts.map sV ++ [sV nm]))) ln = some (.lst ((ts ++ [nm]).map sV)) := by rw [upd_same, List.map_append]; rfl
    have s8 : (upd H3 ln (.lst (ts.map sV ++ [sV nm]))) cl = some (.lst (ps.map V.ref)) := by rw [upd_ne nlc]; exact s6
    generalize upd H3 ln (.lst (ts.map sV ++ [sV nm])) = H4 at d4 hc4 s7 s8 ⊢
    refine ⟨by show 2 ≤ sizeLine; decide, fun p hp0 => ?_⟩
    have e5 : Same H4 (upd H4 p (.lst ([kNumber, kText].map sV))) := same_new hp0 _
    refine ⟨_, rfl, dr, _, rfl, d4.2.same e5, by decide, by decide, fun e H5 d5 g0 g1 => ?_⟩
    obtain ⟨m, rfl⟩ := Int.eq_ofNat_of_zero_le g0
    have d45 := (Dr.of d4.2 e5).trans d5
    have hm : m < [kNumber, kText].length := by show m < 2; omega
    have hkd : ([kNumber, kText].map sV)[m]? = some (sV [kNumber, kText][m]) := by rw [List.getElem?_map, List.getElem?_eq_getElem hm]; rfl
    generalize [kNumber, kText][m] = kd0 at hkd
    refine ⟨p, _, _, _, rfl, rfl, SqL.of (Dr.get (d4.2.same e5) d5 upd_same (notDr_strs [kNumber, kText])), atI_nat hkd, ?_⟩
    have d5 := d4.trans d45
    have hc5 : ∀ p ∈ ps, ColP H5 p := fun p hp => (hc4 p hp).keep fun _ _ q n => Dr.get d4.2 d45 q n
    have s9 := Dr.get d4.2 d45 s7 (notDr_strs _)
    have s10 := Dr.get d4.2 d45 s8 (notDr_refs _)
    dsimp only [gName]
    refine cut_seq (t1 := tIfS _ _ _) (fun σ' H' => ∃ kd1 : Tx, σ' = [some (.ref dr), some (.int 3), some (.ref ln), some (.ref cl), some (.int (0 + (i : Int))), some (sV nm), some (sV kd1)] ∧ Dr dr H H' ∧ H' ln = some (.lst ((ts ++ [nm]).map sV)) ∧ H' cl = some (.lst (ps.map V.ref)) ∧ ∀ p ∈ ps, ColP H' p) ?_ (fun fin => ?_)
    · rintro _ H6 ⟨kd1, rfl, d6, t1, t2, t3⟩
      refine ⟨_, rfl, .inl ⟨rfl, _, SqL.of t2⟩, _, rfl, _, rfl, _, rfl, dr, _, rfl, d6.2, by decide, by decide, fun e H7 d7 k0 k1 => ?_⟩
      refine ⟨rfl, by show 3 ≤ sizeLine; decide, fun c hcn => ?_⟩
      have u1 := Dr.get d6.2 d7 t1 (notDr_strs _)
      have u2 := Dr.get d6.2 d7 t2 (notDr_refs _)
      have e7 : Same H7 (upd H7 c (.tup [sV nm, sV kd1, .bl (decide (V.int e = V.int 0))])) := same_new hcn _
      have u3 := e7 _ _ u1
      have u4 := e7 _ _ u2
      have d8 := (d6.trans d7).same e7
      have hc7 : ∀ p ∈ ps ++ [c], ColP (upd H7 c (.tup [sV nm, sV kd1, .bl (decide (V.int e = V.int 0))])) p := fun p hp => by
        rcases List.mem_append.mp hp with hp | hp
        · exact (t3 p hp).keep fun _ _ q n => e7 _ _ (Dr.get d6.2 d7 q n)
        · rw [List.mem_singleton.mp hp]
          exact ⟨nm, kd1, _, upd_same, hnm⟩
      refine ⟨cl, _, _, rfl, rfl, u4, by rw [List.length_map]; exact lt_line (by omega), ?_⟩
      refine ⟨ts ++ [nm], ps ++ [c], _, _, _, rfl, Dr.upd D d8 hcl0 _, by rw [upd_ne (Ne.symm nlc)]; exact u3, by rw [upd_same, List.map_append]; rfl, by rw [List.length_append, ht]; rfl, by rw [List.length_append, hp]; rfl, fun p hp => (hc7 p hp).upd u4⟩
    · refine ⟨_, rfl, _, _, rfl, rfl, _, rfl, ?_⟩
      by_cases hk : (0 : Int) + (i : Int) > 0
      case neg =>
        rw [decide_eq_false hk]
        exact iteF (iteF (fin _ _ ⟨kd0, rfl, d5, s9, s10, hc5⟩))
      rw [decide_eq_true hk]
      refine iteT ⟨_, rfl, dr, _, rfl, d5.2, by decide, by decide, fun e H6 d6 k0 k1 => ⟨rfl, _, rfl, if_int (fun _ => ?_) fun _ => ?_⟩⟩
      · have t2 := Dr.get d5.2 d6 s10 (notDr_refs _)
        cases ps with
        | nil =>
          have : (0 : Nat) = i := hp
          omega
        | cons p0 ps =>
          have hc6 : ∀ p ∈ p0 :: ps, ColP H6 p := fun p hp => (hc5 p hp).keep fun _ _ q n => Dr.get d5.2 d6 q n
          obtain ⟨n0, kd1, b0, hp0', _⟩ := hc6 p0 List.mem_cons_self
          exact ⟨_, rfl, cl, _, _, _, rfl, rfl, SqL.of t2, atI_nat (j := 0) rfl, p0, _, _, _, rfl, rfl, SqT.of hp0', atI_nat (j := 1) rfl, fin _ _ ⟨kd1, rfl, d5.trans d6, Dr.get d5.2 d6 s9 (notDr_strs _), t2, hc6⟩⟩
      · exact fin _ _ ⟨kd0, rfl, d5.trans d6, Dr.get d5.2 d6 s9 (notDr_strs _), Dr.get d5.2 d6 s10 (notDr_refs _), fun p hp => (hc5 p hp).keep fun _ _ q n => Dr.get d5.2 d6 q n⟩
  · rintro σ H2 ⟨ts, ps, k, n, kd, rfl, d2, s3, s4, ht, hp, hc⟩
    refine ⟨_, rfl, q cl ps H2 d2 ⟨s4, fun z => ?_, by omega, hc⟩⟩
    rw [z] at hp
    have : (0 : Nat) = (1 + e).toNat := hp
    omega
end
end Tw
end

section
set_option Elab.async false
set_option linter.all false
set_option maxRecDepth 100000
set_option maxHeartbeats 8000000
/-! The law's atoms. -/
namespace Tw
open PySem PySem.Spec PyProof.Rows L2
open TwP (Tx Val)
def spAtomD : Sp := fun vs H Q _ => ∃ dr cl ps, vs = [.ref dr, .ref cl] ∧ DrAt H dr ∧ ColsAt H cl ps ∧ ∀ (t : Tr) (p : Addr) H', Dr dr H H' → FormAt H' t p → LA t → Q (.ref p) H'
theorem if_nS {a b : Tx} {A B : Prop} (h1 : a ≠ b → A) (h2 : a = b → B) : if (!decide (V.str (SX.S a) = V.str (SX.S b))) = true then A else B := by
  rw [dec_S]
  by_cases h : a = b
  · rw [decide_eq_true h]
    exact h2 h
  · rw [decide_eq_false h]
    exact h1 h
theorem la_emp {n : Tx} (h : TwP.isName n = true) : LA (.emp n) := by
  have := TwP.name_len h
  refine ⟨h, ?_, rfl, rfl⟩
  simp only [TwP.wr, List.length_append, List.length_cons, List.length_nil]
  omega
theorem la_beg {n l : Tx} (h : TwP.isName n = true) (hl : txtOk l) : LA (.beg n l) := by
  have := TwP.name_len h
  have h2 := (val_good (v := .txt l) hl).2
  refine ⟨⟨h, hl.1⟩, ?_, rfl, rfl⟩
  simp only [TwP.wr, List.length_append, List.length_cons, List.length_nil]
  omega
theorem la_cmp {n op : Tx} {v : Val} (h : TwP.isName n = true) (ho : op ∈ TwP.ops) (hv : valD v) : LA (.cmp n op v) := by
  have := TwP.name_len h
  have h2 := val_good hv
  have h3 := op_short ho
  refine ⟨⟨h, ho, h2.1⟩, ?_, rfl, rfl⟩
  have h4 := h2.2
  simp only [TwP.wr, List.length_append, List.length_cons, List.length_nil]
  omega
theorem la_amg {n : Tx} {vs : List Val} (h : TwP.isName n = true) (h1 : 1 ≤ vs.length) (h2 : vs.length ≤ 2) (hv : ∀ v ∈ vs, valD v) : LA (.amg n vs) := by
  have := TwP.name_len h
  refine ⟨⟨h, h1, by omega, fun v hv' => (val_good (hv v hv')).1⟩, ?_, rfl, rfl⟩
  have hj : (TwP.joinV vs).length ≤ 158 := by
    match vs, h1, h2 with
    | [a], _, _ =>
      have := (val_good (hv a (by simp))).2
      show (TwP.wrV a).length ≤ _
      omega
    | [a, b], _, _ =>
      have ha := (val_good (hv a (by simp))).2
      have hb := (val_good (hv b (by simp))).2
      show (TwP.wrV a ++ ([44, 32] ++ TwP.wrV b)).length ≤ _
      simp only [List.length_append, List.length_cons, List.length_nil]
      omega
  simp only [TwP.wr, List.length_append, List.length_cons, List.length_nil]
  omega
theorem numOk_neg {n : Int} (h : numOk n) : numOk (-n) := by
  unfold numOk at *
  omega
theorem la_agn {n op o : Tx} {m : Int} (h : TwP.isName n = true) (ho : op ∈ TwP.ops) (h2 : TwP.isName o = true) (hne : o ≠ n) (hm : numOk m) : LA (.agn n op o m) := by
  have := TwP.name_len h
  have := TwP.name_len h2
  have h3 := op_short ho
  have g1 := num_good hm
  have g2 := (num_good (numOk_neg hm)).2
  have g3 := g1.2
  refine ⟨⟨h, ho, h2, hne, g1.1⟩, ?_, rfl, rfl⟩
  have hw : (TwP.wrMore m).length ≤ 90 := by
    have a1 : (TwP.intL m).length ≤ 78 := g3
    have a2 : (TwP.intL (-m)).length ≤ 78 := g2
    unfold TwP.wrMore
    split
    · exact Nat.zero_le _
    · split <;> (simp only [List.length_append, List.length_cons, List.length_nil]; omega)
  simp only [TwP.wr, List.length_append, List.length_cons, List.length_nil]
  omega
theorem la_alw : LA .alw := ⟨trivial, by decide, rfl, rfl⟩
theorem la_nev : LA .nev := ⟨trivial, by decide, rfl, rfl⟩
section
variable {P : Program} {w : World} {K : PySem.W.Frag} {mg : Str → Option Value} {base : Heap}
theorem df_AtomD (T : Fc K mg) : Df P w K mg base CX0 4 (He.ga K "_law_atom") ["_law_draw", "_law_columns_here"] spAtomD := by
  have e0 : (0 : Nat) = 0 := rfl
  refine df0 T.e__law_atom sc__law_atom (fun vs H Q E h => ?_) (fun cdv A outer s H vs Q E hr h => ⟨_,
    pss_cons (ps_set (i := 2) sc__law_atom.nd rfl (.inl rfl) (pe_ix ix_list (pv 1) (pe_df (df_Take2 T) T.g__law_take (hr.mono (by decide)) pass0 (pa_cons (pv 0) (pa_cons (pe_callB call_len_seq rfl T.f_len bi_len (pa_cons (pv 1) pa_nil)) pa_nil))) (fun _ _ => rfl)))
    (pss_cons (ps_set (i := 3) sc__law_atom.nd rfl (.inr rfl) (pe_ix ix_tup (pv 2) pe_int (fun _ _ => rfl)))
    (pss_cons (ps_set (i := 4) sc__law_atom.nd rfl (.inr rfl) (pe_ix ix_tup (pv 2) pe_int (fun _ _ => rfl)))
    (pss_cons (ps_set (i := 5) sc__law_atom.nd rfl (.inl rfl) (pe_ix ix_list (pe_lst (pa_cons pe_str (pa_cons pe_str (pa_cons pe_str (pa_cons pe_str (pa_cons pe_str (pa_cons pe_str pa_nil))))))) (pe_df (df_Take2 T) T.g__law_take (hr.mono (by decide)) pass0 (pa_cons (pv 0) (pa_cons pe_int pa_nil))) (fun _ _ => rfl)))
    (pss_cons (ps_set (i := 6) sc__law_atom.nd rfl (.inl rfl) (pe_df (df_Take2 T) T.g__law_take (hr.mono (by decide)) pass0 (pa_cons (pv 0) (pa_cons pe_int pa_nil))))
    (pss_cons (ps_setLc (own := [("_law_one", 9)]) (i := 7) (g := gName 9) (tt := tAnd (tTest (tOp rEq (tOp (rIxT K) (tVar 9) (tC (.int 1))) (tVar 4))) (tTest (tOp rNe (tOp (rIxT K) (tVar 9) (tC (.int 0))) (tVar 3)))) (te := tOp (rIxT K) (tVar 9) (tC (.int 0)))
      rfl sc__law_atom.nd rfl rfl rfl (pi_list (pv 1)) (blkOk_by (N := ["_law_draw", "_law_columns_here", "_law_column", "_law_name_here", "_law_kind", "_law_op", "_law_choice", "_law_others", "_law_added", "_law_one", "_law_k"]) (sc := defScope s__law_atom) (by decide +kernel))
      (fun _ _ _ _ _ => pg_name (i := 9) sc__law_atom.nd rfl (Or.inl rfl))
      (fun _ _ _ _ _ => by exact pts_one (PW.pt (pw_and (pt_cmpR op_eq (pe_ix ix_tup (pv 9) pe_int (fun _ _ => rfl)) (pv 4) (nomark _)) (pw_and1 (pt_cmpR op_ne (pe_ix ix_tup (pv 9) pe_int (fun _ _ => rfl)) (pv 3) (nomark _))))))
      (fun _ _ _ _ _ => by exact pe_ix ix_tup (pv 9) pe_int (fun _ _ => rfl)))
    (pss_cons (ps_if (pt_cmpR op_eq (pv 6) pe_int (nomark _)) (pss_one (ps_ret (pe_tup (pa_cons pe_str pa_nil)))) pss_nil)
    (pss_cons (ps_if (pt_cmpR op_eq (pv 6) pe_int (nomark _)) (pss_one (ps_ret (pe_tup (pa_cons pe_str pa_nil)))) pss_nil)
    (pss_cons (ps_if (pt_cmpR op_eq (pv 6) pe_int (nomark _)) (pss_one (ps_ret (pe_tup (pa_cons pe_str (pa_cons (pv 3) pa_nil))))) pss_nil)
    (pss_cons (ps_if (pt_cmpR op_eq (pv 6) pe_int (nomark _)) (pss_one (ps_ret (pe_tup (pa_cons pe_str (pa_cons (pv 3) (pa_cons
      (pe_lc (own := [("_law_k", 10)]) (g := gName 10) (tt := tYes) (te := tCall spVal [] E0 (tCons (tVar 0) (tCons (tVar 4) tNil))) rfl sc__law_atom.nd
        (pi_range1 rfl T.f_range (pa_cons (pe_op op_add pe_int (pe_df (df_Take2 T) T.g__law_take (hr.mono (by decide)) pass0 (pa_cons (pv 0) (pa_cons pe_int pa_nil)))) pa_nil))
        (blkOk_by (N := ["_law_draw", "_law_columns_here", "_law_column", "_law_name_here", "_law_kind", "_law_op", "_law_choice", "_law_others", "_law_added", "_law_one", "_law_k"]) (sc := defScope s__law_atom) (by decide +kernel))
        (fun _ _ _ _ _ => pg_name (i := 10) sc__law_atom.nd rfl (Or.inl rfl)) (fun _ _ _ _ _ => pts_nil)
        (fun _ _ _ _ _ => by exact pe_df (df_ValD T) T.g__law_value hr pass0 (pa_cons (pv 0) (pa_cons (pv 4) pa_nil)))) pa_nil)))))) pss_nil)
    (pss_cons (ps_if (PW.pt (pw_and (pt_cmpR op_eq (pv 6) pe_int (nomark _)) (pw_and1 (pt_cmpR op_eq (pv 4) pe_str (nomark _))))) (pss_one (ps_ret (pe_tup (pa_cons pe_str (pa_cons (pv 3) (pa_cons (pe_df (df_TxtD T) T.g__law_text (hr.mono (by decide)) pass0 (pa_cons (pv 0) pa_nil)) pa_nil)))))) pss_nil)
    (pss_cons (ps_if (PW.pt (pw_and (pt_cmpR op_gt (pv 6) pe_int (nomark _)) (pw_and1 (pt_cmpR op_gt (pe_callB call_len_seq rfl T.f_len bi_len (pa_cons (pv 7) pa_nil)) pe_int (nomark _)))))
      (pss_cons (ps_set (i := 8) sc__law_atom.nd rfl (.inl rfl) pe_int)
      (pss_cons (ps_if (PW.pt (pw_and (pt_cmpR op_eq (pv 4) pe_str (nomark _)) (pw_and1 (pt_cmpR op_eq (pe_df (df_Take2 T) T.g__law_take (hr.mono (by decide)) pass0 (pa_cons (pv 0) (pa_cons pe_int pa_nil))) pe_int (nomark _)))))
        (pss_one (ps_set (i := 8) sc__law_atom.nd rfl (.inl rfl) (pe_df (df_NumD T) T.g__law_number (hr.mono (by decide)) pass0 (pa_cons (pv 0) pa_nil)))) pss_nil)
      (pss_one (ps_ret (pe_tup (pa_cons pe_str (pa_cons (pv 3) (pa_cons (pv 5) (pa_cons (pe_ix ix_list (pv 7) (pe_df (df_Take2 T) T.g__law_take (hr.mono (by decide)) pass0 (pa_cons (pv 0) (pa_cons (pe_callB call_len_seq rfl T.f_len bi_len (pa_cons (pv 7) pa_nil)) pa_nil))) (fun _ _ => rfl)) (pa_cons (pv 8) pa_nil)))))))))) pss_nil)
    (pss_one (ps_ret (pe_tup (pa_cons pe_str (pa_cons (pv 3) (pa_cons (pv 5) (pa_cons (pe_df (df_ValD T) T.g__law_value hr pass0 (pa_cons (pv 0) (pa_cons (pv 4) pa_nil))) pa_nil)))))))))))))))))), ?_⟩)
  · obtain ⟨_, _, _, rfl, _⟩ := h
    rfl
  obtain ⟨dr, cl, ps, rfl, D, hC, q⟩ := h
  have hpl : 1 ≤ ps.length := by
    have := hC.2.1
    cases ps with
    | nil => exact absurd rfl this
    | cons a r => exact Nat.succ_le_succ (Nat.zero_le _)
  have hp3 := hC.2.2.1
  refine ⟨_, rfl, _, rfl, _, rfl, cl, _, rfl, .inl (SqL.of hC.1), ?_⟩
  rw [List.length_map]
  refine ⟨dr, _, rfl, D, by omega, Int.lt_of_le_of_lt (show (ps.length : Int) ≤ 3 by omega) (by decide), fun e H1 d1 h0 h1 => ?_⟩
  obtain ⟨m, rfl⟩ := Int.eq_ofNat_of_zero_le h0
  have hm : m < ps.length := by omega
  have hC1 := hC.dr D d1
  have hx : (ps.map V.ref)[m]? = some (.ref ps[m]) := by rw [List.getElem?_map, List.getElem?_eq_getElem hm]; rfl
  obtain ⟨n, kd, b0, hcol, hn⟩ := hC1.2.2.2 ps[m] (List.getElem_mem hm)
  refine ⟨cl, _, _, _, rfl, rfl, SqL.of hC1.1, atI_nat hx, _, rfl, _, _, _, _, rfl, rfl, SqT.of hcol, atI_nat (j := 0) rfl, _, rfl, _, _, _, _, rfl, rfl, SqT.of hcol, atI_nat (j := 1) rfl, ?_⟩
  refine ⟨by show 6 ≤ sizeLine; decide, fun p hp0 => ?_⟩
  have e2 : Same H1 (upd H1 p (.lst (TwP.ops.map sV))) := same_new hp0 _
  refine ⟨_, rfl, dr, _, rfl, d1.2.same e2, by decide, by decide, fun e H2 d2 g0 g1 => ?_⟩
  obtain ⟨m2, rfl⟩ := Int.eq_ofNat_of_zero_le g0
  have hm2 : m2 < TwP.ops.length := by show m2 < 6; omega
  have hop : (TwP.ops.map sV)[m2]? = some (sV TwP.ops[m2]) := by rw [List.getElem?_map, List.getElem?_eq_getElem hm2]; rfl
  have hom : TwP.ops[m2] ∈ TwP.ops := List.getElem_mem hm2
  generalize TwP.ops[m2] = op at hop hom
  refine ⟨p, _, _, _, rfl, rfl, SqL.of (Dr.get (d1.2.same e2) d2 upd_same (notDr_strs TwP.ops)), atI_nat hop, ?_⟩
  have d12 := (d1.same e2).trans d2
  refine ⟨_, rfl, dr, _, rfl, d12.2, by decide, by decide, fun ch H3 d3 c0 c1 => ?_⟩
  have d13 := d12.trans d3
  have hC3 := hC.dr D d13
  refine ⟨_, rfl, cl, rfl, ⟨_, SqL.of hC3.1⟩, fun D0 hD => ?_⟩
  refine it_list (K := K) (a := cl) (xs := ps.map V.ref) (fun i H' => ∃ os : List Tx, Same H3 H' ∧ H' D0 = some (.lst (os.map sV)) ∧ os.length ≤ i ∧ ∀ o ∈ os, TwP.isName o = true ∧ o ≠ n) ⟨[], same_new hD _, upd_same, Nat.le_refl _, fun o ho => absurd ho (by simp)⟩
    (fun i H' _ h => by obtain ⟨_, e, _⟩ := h; exact SqL.of (e _ _ hC3.1)) ?_ ?_
  · rintro i x H4 hi ⟨os, e4, ho, hol, hos⟩
    have hi2 : i < ps.length := by
      have := (List.getElem?_eq_some_iff.mp hi).1
      rw [List.length_map] at this
      exact this
    obtain rfl : V.ref ps[i] = x := by
      rw [List.getElem?_map, List.getElem?_eq_getElem hi2] at hi
      exact Option.some.inj hi
    obtain ⟨n1, k1, b1, hc1, hn1⟩ := hC3.2.2.2 ps[i] (List.getElem_mem hi2)
    have hc4 := e4 _ _ hc1
    refine ⟨rfl, _, rfl, _, _, _, _, rfl, rfl, SqT.of hc4, atI_nat (j := 1) rfl, _, rfl, rfl, _, rfl, ?_⟩
    refine if_S (fun _ => ⟨_, rfl, _, _, _, _, rfl, rfl, SqT.of hc4, atI_nat (j := 0) rfl, _, rfl, rfl, _, rfl, ?_⟩) fun _ => iteF ⟨os, e4, ho, by omega, hos⟩
    refine if_nS (fun hne => ⟨_, rfl, _, _, _, _, rfl, rfl, SqT.of hc4, atI_nat (j := 0) rfl, _, ho, ?_, os ++ [n1], same_of_keep hD e4 (keepR_upd _), ?_, ?_, fun o h => ?_⟩) fun _ => ⟨os, e4, ho, by omega, hos⟩
    · rw [List.length_map]
      exact lt_line (by omega)
    · rw [upd_same, List.map_append]
      rfl
    · rw [List.length_append]
      exact Nat.succ_le_succ hol
    · rcases List.mem_append.mp h with h | h
      · exact hos o h
      · rw [List.mem_singleton.mp h]
        exact ⟨hn1, hne⟩
  rintro H4 ⟨os, e4, hos0, hol, hos⟩
  rw [List.length_map] at hol
  have d4 := d13.same e4
  refine ⟨_, rfl, rfl, _, rfl, if_int (fun _ => ⟨by show 1 ≤ sizeLine; decide, fun p hp => q .alw p _ (d4.same (same_new hp _)) upd_same la_alw⟩) fun _ => ?_⟩
  refine ⟨_, rfl, rfl, _, rfl, if_int (fun _ => ⟨by show 1 ≤ sizeLine; decide, fun p hp => q .nev p _ (d4.same (same_new hp _)) upd_same la_nev⟩) fun _ => ?_⟩
  refine ⟨_, rfl, rfl, _, rfl, if_int (fun _ => ⟨_, rfl, by show 2 ≤ sizeLine; decide, fun p hp => q (.emp n) p _ (d4.same (same_new hp _)) upd_same (la_emp hn)⟩) fun _ => ?_⟩
  refine ⟨_, rfl, rfl, _, rfl, if_int (fun _ => ?_) fun _ => ?_⟩
  · refine ⟨_, rfl, _, rfl, dr, _, rfl, d4.2, by decide, by decide, fun e H5 d5 g0 g1 => ⟨_, _, rfl, rfl, _, rfl, by omega, by omega, fun D1 hD1 => ?_⟩⟩
    refine it_rng (lo := 0) (fun i H' => ∃ vs : List Val, Dr dr H5 H' ∧ H' D1 = some (.lst (vs.map vV)) ∧ vs.length = i ∧ ∀ v ∈ vs, valD v) ⟨[], Dr.of d5.2 (same_new hD1 _), upd_same, rfl, fun v hv => absurd hv (by simp)⟩ ?_ ?_
    · rintro i H6 hi ⟨vs, d6, hv, hvl, hva⟩
      refine ⟨rfl, tyes (iteT ⟨_, rfl, _, rfl, dr, kd, rfl, d6.2, fun v H7 d7 hvd => ⟨_, Dr.get d6.2 d7 hv (notDr_vals vs), ?_, vs ++ [v], Dr.upd d5.2 (d6.trans d7) hD1 _, ?_, ?_, fun y hy => ?_⟩⟩)⟩
      · rw [List.length_map]
        exact lt_line (by omega)
      · rw [upd_same, List.map_append]
        rfl
      · rw [List.length_append, hvl]
        rfl
      · rcases List.mem_append.mp hy with hy | hy
        · exact hva y hy
        · rw [List.mem_singleton.mp hy]
          exact hvd
    · rintro H6 ⟨vs, d6, hv, hvl, hva⟩
      exact ⟨by show 3 ≤ sizeLine; decide, fun p hp => q (.amg n vs) p _ (((d4.trans d5).trans d6).same (same_new hp _)) ⟨D1, upd_same, fun z => by rw [z] at hvl; exact absurd hvl (by show ¬ (0 : Nat) = (1 + e).toNat; omega), same_new hp _ _ _ hv⟩ (la_amg hn (by omega) (by omega) hva)⟩
  try dsimp only [gName, tNext]
  refine cut_seq (t1 := tIfS _ _ _) (fun σ' H' => σ' = [some (.ref dr), some (.ref cl), some (.ref ps[m]), some (sV n), some (sV kd), some (sV op), some (.int ch), some (.ref D0), none, none, none] ∧ H4 = H') ?_ (fun fin => ?_)
  rotate_left
  · refine ⟨_, rfl, rfl, _, rfl, if_int (fun _ => ⟨_, rfl, rfl, _, rfl, ?_⟩) fun _ => iteF (fin _ _ ⟨rfl, rfl⟩)⟩
    show if decide (V.str (SX.S kd) = V.str (SX.S kText)) = true then _ else _
    refine if_S (fun _ => ⟨_, rfl, _, rfl, dr, rfl, d4.2, fun l H5 d5 hl => ⟨by show 3 ≤ sizeLine; decide, fun p hp => q (.beg n l) p _ ((d4.trans d5).same (same_new hp _)) upd_same (la_beg hn hl)⟩⟩) fun _ => fin _ _ ⟨rfl, rfl⟩
  rintro _ _ ⟨rfl, rfl⟩
  try dsimp only [gName, tNext]
  refine cut_seq (t1 := tIfS _ _ _) (fun σ' H' => σ' = [some (.ref dr), some (.ref cl), some (.ref ps[m]), some (sV n), some (sV kd), some (sV op), some (.int ch), some (.ref D0), none, none, none] ∧ H4 = H') ?_ (fun fin => ?_)
  · rintro _ _ ⟨rfl, rfl⟩
    exact ⟨_, rfl, _, rfl, _, rfl, _, rfl, dr, kd, rfl, d4.2, fun v H5 d5 hv => ⟨by show 4 ≤ sizeLine; decide, fun p hp => q (.cmp n op v) p _ ((d4.trans d5).same (same_new hp _)) upd_same (la_cmp hn hom hv)⟩⟩
  refine ⟨_, rfl, _, _, rfl, rfl, _, rfl, ?_⟩
  refine if_dec (fun _ => ?_) fun _ => iteF (fin _ _ ⟨rfl, rfl⟩)
  refine ⟨_, rfl, D0, _, rfl, .inl (SqL.of hos0), _, _, rfl, rfl, _, rfl, ?_⟩
  refine if_dec (fun hl0 => ?_) fun _ => fin _ _ ⟨rfl, rfl⟩
  rw [List.length_map] at hl0
  try dsimp only [gName, tNext]
  refine cut_seq (t1 := tAsg _ _) (fun σ' H' => σ' = [some (.ref dr), some (.ref cl), some (.ref ps[m]), some (sV n), some (sV kd), some (sV op), some (.int ch), some (.ref D0), some (.int 0), none, none] ∧ H4 = H') ?_ (fun fin2 => fin2 _ _ ⟨rfl, rfl⟩)
  rintro _ _ ⟨rfl, rfl⟩
  try dsimp only [gName, tNext]
  refine cut_seq (t1 := tIfS _ _ _) (fun σ' H' => ∃ k : Int, σ' = [some (.ref dr), some (.ref cl), some (.ref ps[m]), some (sV n), some (sV kd), some (sV op), some (.int ch), some (.ref D0), some (.int k), none, none] ∧ Dr dr H4 H' ∧ numOk k) ?_ (fun fin3 => ?_)
  · rintro _ H5 ⟨k, rfl, d5, hk⟩
    have ho5 := Dr.get d4.2 d5 hos0 (notDr_strs os)
    refine ⟨_, rfl, _, rfl, _, rfl, _, rfl, _, rfl, D0, _, rfl, .inl (SqL.of ho5), ?_⟩
    rw [List.length_map]
    refine ⟨dr, _, rfl, d5.2, by omega, Int.lt_of_le_of_lt (show (os.length : Int) ≤ 3 by omega) (by decide), fun e H6 d6 g0 g1 => ?_⟩
    obtain ⟨m6, rfl⟩ := Int.eq_ofNat_of_zero_le g0
    have hm6 : m6 < os.length := by omega
    have hx6 : (os.map sV)[m6]? = some (sV os[m6]) := by rw [List.getElem?_map, List.getElem?_eq_getElem hm6]; rfl
    obtain ⟨o1, o2⟩ := hos os[m6] (List.getElem_mem hm6)
    exact ⟨D0, _, _, _, rfl, rfl, SqL.of (Dr.get d5.2 d6 ho5 (notDr_strs os)), atI_nat hx6, _, rfl, by show 5 ≤ sizeLine; decide, fun p hp => q (.agn n op os[m6] k) p _ (((d4.trans d5).trans d6).same (same_new hp _)) upd_same (la_agn hn hom o1 o2 hk)⟩
  · have k0 : numOk 0 := by unfold numOk; decide
    refine ⟨_, rfl, rfl, _, rfl, ?_⟩
    show if decide (V.str (SX.S kd) = V.str (SX.S kNumber)) = true then _ else _
    refine if_S (fun _ => ⟨_, rfl, dr, _, rfl, d4.2, by decide, by decide, fun e H5 d5 g0 g1 => ⟨rfl, _, rfl, if_int (fun _ => ?_) fun _ => fin3 _ _ ⟨0, rfl, d5, k0⟩⟩⟩) fun _ => iteF (fin3 _ _ ⟨0, rfl, Dr.refl d4.2, k0⟩)
    exact ⟨_, rfl, dr, rfl, d5.2, fun k H6 d6 hk => fin3 _ _ ⟨k, rfl, d5.trans d6, hk⟩⟩
end
end Tw
end

section
set_option Elab.async false
set_option linter.all false
set_option maxRecDepth 100000
set_option maxHeartbeats 8000000
/-! The law's forms, things. -/
namespace Tw
open PySem PySem.Spec PyProof.Rows L2
open TwP (Tx Val)
def spWrap : Sp := fun vs H Q _ => ∃ (p : Addr) (ch : Int) (t : Tr), vs = [.ref p, .int ch] ∧ FormAt H t p ∧ ∀ (t' : Tr) (p' : Addr) H', Same H H' → FormAt H' t' p' → (t' = t ∨ t' = .not t ∨ t' = .sure t) → Q (.ref p') H'
/-- what the law's whole form is -/
def LF (t : Tr) : Prop := TwP.Good t ∧ (TwP.wr t).length ≤ 1024 ∧ TwP.lev t ≤ 7 ∧ TwP.nat t ≤ 4
def spFormD : Sp := fun vs H Q _ => ∃ dr cl ps, vs = [.ref dr, .ref cl, .int 4] ∧ DrAt H dr ∧ ColsAt H cl ps ∧ ∀ (t : Tr) (p : Addr) H', Dr dr H H' → FormAt H' t p → LF t → Q (.ref p) H'
theorem br_len (b : Bool) (l : Tx) : (TwP.br b l).length ≤ l.length + 2 := by
  cases b with
  | false => exact Nat.le_add_right _ _
  | true =>
    show (40 :: (l ++ [41])).length ≤ _
    rw [List.length_cons, List.length_append]
    exact Nat.le_refl _
/-- one that stands in the pool's making: seven signs are left -/
def LH (t : Tr) : Prop := TwP.Good t ∧ (TwP.wr t).length + 23 ≤ 256 * TwP.nat t ∧ TwP.lev t + 2 ≤ 2 * TwP.nat t
theorem lh_of_la {t : Tr} (h : LA t) : LH t := ⟨h.1, by have := h.2.1; have := h.2.2.1; omega, by have := h.2.2.1; have := h.2.2.2; omega⟩
theorem lg_wrap {t t' : Tr} (h : LH t) (e : t' = t ∨ t' = .not t ∨ t' = .sure t) : LG t' ∧ TwP.nat t' = TwP.nat t := by
  obtain ⟨h1, h2, h3⟩ := h
  have hb := br_len (TwP.isAO t) (TwP.wr t)
  rcases e with rfl | rfl | rfl
  · exact ⟨⟨h1, by omega, by omega⟩, rfl⟩
  · refine ⟨⟨h1, ?_, ?_⟩, rfl⟩
    · simp only [TwP.wr, TwP.nat, List.length_append, List.length_cons, TwP.kNot, List.length_nil]
      omega
    · show TwP.lev t + 1 + 1 ≤ 2 * TwP.nat t
      omega
  · refine ⟨⟨h1, ?_, ?_⟩, rfl⟩
    · simp only [TwP.wr, TwP.nat, List.length_append, List.length_cons, TwP.kSure, List.length_nil]
      omega
    · show TwP.lev t + 1 + 1 ≤ 2 * TwP.nat t
      omega
theorem nat_pos : ∀ t : Tr, 1 ≤ TwP.nat t
  | .and a b => by have := nat_pos a; show 1 ≤ TwP.nat a + TwP.nat b; omega
  | .or a b => by have := nat_pos a; show 1 ≤ TwP.nat a + TwP.nat b; omega
  | .not a => nat_pos a
  | .sure a => nat_pos a
  | .cmp _ _ _ => Nat.le_refl _
  | .agn _ _ _ _ => Nat.le_refl _
  | .amg _ _ => Nat.le_refl _
  | .beg _ _ => Nat.le_refl _
  | .emp _ => Nat.le_refl _
  | .alw => Nat.le_refl _
  | .nev => Nat.le_refl _
theorem lh_and {a b : Tr} (ha : LG a) (hb : LG b) : LH (.and a b) := by
  obtain ⟨a1, a2, a3⟩ := ha
  obtain ⟨b1, b2, b3⟩ := hb
  have h1 := br_len (TwP.isO a) (TwP.wr a)
  have h2 := br_len (TwP.isAO b) (TwP.wr b)
  refine ⟨⟨a1, b1⟩, ?_, ?_⟩
  · simp only [TwP.wr, TwP.nat, List.length_append, List.length_cons, List.length_nil]
    omega
  · have := nat_pos a
    have := nat_pos b
    show max (TwP.lev a + 1) (TwP.lev b + 1) + 2 ≤ 2 * (TwP.nat a + TwP.nat b)
    omega
theorem lh_or {a b : Tr} (ha : LG a) (hb : LG b) : LH (.or a b) := by
  obtain ⟨a1, a2, a3⟩ := ha
  obtain ⟨b1, b2, b3⟩ := hb
  have h2 := br_len (TwP.isO b) (TwP.wr b)
  refine ⟨⟨a1, b1⟩, ?_, ?_⟩
  · simp only [TwP.wr, TwP.nat, List.length_append, List.length_cons, List.length_nil]
    omega
  · have := nat_pos a
    have := nat_pos b
    show max (TwP.lev a + 1) (TwP.lev b + 1) + 2 ≤ 2 * (TwP.nat a + TwP.nat b)
    omega
theorem cutV_to (xs : List V) (k : Nat) : cutV xs none (some (k : Int)) = xs.take k := by
  unfold cutV
  rw [HT.sIx_nat, HT.sIx_none, List.drop_zero, Nat.sub_zero, List.take_eq_take_iff]
  omega
theorem cutV_from (xs : List V) (k : Nat) : cutV xs (some (k : Int)) none = xs.drop k := by
  unfold cutV
  rw [HT.sIx_nat, HT.sIx_none]
  by_cases h : k ≤ xs.length
  · rw [Nat.min_eq_left h, List.take_of_length_le (by rw [List.length_drop]; exact Nat.le_refl _)]
  · rw [Nat.min_eq_right (by omega), List.drop_eq_nil_of_le (Nat.le_refl _), List.drop_eq_nil_of_le (by omega), List.take_nil]
/-- the pool -/
abbrev TA2 := Tr × Addr
def poolV (xs : List TA2) : List V := (xs.map Prod.snd).map V.ref
def natS (xs : List TA2) : Nat := (xs.map fun x => TwP.nat x.1).sum
def PoolOk (H : Hp) (xs : List TA2) : Prop := ∀ x ∈ xs, FormAt H x.1 x.2 ∧ LG x.1
theorem natS_app (xs ys : List TA2) : natS (xs ++ ys) = natS xs + natS ys := by
  unfold natS
  rw [List.map_append, List.sum_append]
theorem PoolOk.keep {H H' : Hp} {xs : List TA2} (k : ∀ b o, H b = some o → Fo o → H' b = some o) (h : PoolOk H xs) : PoolOk H' xs := fun x hx => ⟨(h x hx).1.keep k, (h x hx).2⟩
theorem split2 {xs : List TA2} {d : Nat} (h : d + 1 < xs.length) : ∃ a b, xs[d]? = some a ∧ xs[d + 1]? = some b ∧ xs = xs.take d ++ (a :: b :: xs.drop (d + 2)) := by
  refine ⟨xs[d], xs[d + 1], List.getElem?_eq_getElem (by omega), List.getElem?_eq_getElem h, ?_⟩
  rw [← List.drop_eq_getElem_cons h, ← List.drop_eq_getElem_cons (show d < xs.length by omega), List.take_append_drop]
section
variable {P : Program} {w : World} {K : PySem.W.Frag} {mg : Str → Option Value} {base : Heap}
theorem df_Wrap (T : Fc K mg) : Df P w K mg base CX0 1 (He.ga K "_law_wrapped") ["_law_form_here", "_law_choice"] spWrap := by
  refine df0 T.e__law_wrapped sc__law_wrapped (fun vs H Q E h => ?_) (fun cdv A outer s H vs Q E hr h => ⟨_,
    pss_cons (ps_if (pt_cmpR op_eq (pv 1) pe_int (nomark _)) (pss_one (ps_ret (pe_tup (pa_cons pe_str (pa_cons (pv 0) pa_nil))))) pss_nil)
    (pss_cons (ps_if (pt_cmpR op_eq (pv 1) pe_int (nomark _)) (pss_one (ps_ret (pe_tup (pa_cons pe_str (pa_cons (pv 0) pa_nil))))) pss_nil)
    (pss_one (ps_ret (pv 0)))), ?_⟩)
  · obtain ⟨_, _, _, rfl, _⟩ := h
    rfl
  obtain ⟨p, ch, t, rfl, hf, q⟩ := h
  refine ⟨_, rfl, rfl, _, rfl, if_int (fun _ => ⟨_, rfl, by show 2 ≤ sizeLine; decide, fun c hc => q (.not t) c _ (same_new hc _) ⟨p, upd_same, hf.same (same_new hc _)⟩ (.inr (.inl rfl))⟩) fun _ => ?_⟩
  refine ⟨_, rfl, rfl, _, rfl, if_int (fun _ => ⟨_, rfl, by show 2 ≤ sizeLine; decide, fun c hc => q (.sure t) c _ (same_new hc _) ⟨p, upd_same, hf.same (same_new hc _)⟩ (.inr (.inr rfl))⟩) fun _ => ?_⟩
  exact ⟨_, rfl, q t p H (Same.refl H) hf (.inl rfl)⟩
theorem df_FormD (T : Fc K mg) : Df P w K mg base CX0 5 (He.ga K "_law_form") ["_law_draw", "_law_columns_here", "_law_most"] spFormD := by
  refine df0 T.e__law_form sc__law_form (fun vs H Q E h => ?_) (fun cdv A outer s H vs Q E hr h => ⟨_,
    pss_cons (ps_set (i := 3) sc__law_form.nd rfl (.inl rfl) (pe_lst pa_nil))
    (pss_cons (ps_for PassesOwn.never rfl (pi_range1 rfl T.f_range (pa_cons (pe_op op_add pe_int (pe_df (df_Take2 T) T.g__law_take (hr.mono (by decide)) pass0 (pa_cons (pv 0) (pa_cons (pv 2) pa_nil)))) pa_nil)) (pg_name (i := 4) sc__law_form.nd rfl (.inl rfl))
      (pss_one (ps_expr (pe_bm PySem.F.plainAttrs_list PySem.F.slot_list_append PySem.F.type_list_append mt_append (pv 3) (pa_cons
        (pe_df (df_Wrap T) T.g__law_wrapped (hr.mono (by decide)) pass0 (pa_cons (pe_df (df_AtomD T) T.g__law_atom hr pass0 (pa_cons (pv 0) (pa_cons (pv 1) pa_nil))) (pa_cons (pe_df (df_Take2 T) T.g__law_take (hr.mono (by decide)) pass0 (pa_cons (pv 0) (pa_cons pe_int pa_nil))) pa_nil))) pa_nil)))))
    (pss_cons (ps_for PassesOwn.never rfl (pi_range1 rfl T.f_range (pa_cons (pe_op op_sub (pe_callB call_len_seq rfl T.f_len bi_len (pa_cons (pv 3) pa_nil)) pe_int) pa_nil)) (pg_name (i := 4) sc__law_form.nd rfl (.inl rfl))
      (pss_cons (ps_set (i := 5) sc__law_form.nd rfl (.inl rfl) (pe_df (df_Take2 T) T.g__law_take (hr.mono (by decide)) pass0 (pa_cons (pv 0) (pa_cons (pe_op op_sub (pe_callB call_len_seq rfl T.f_len bi_len (pa_cons (pv 3) pa_nil)) pe_int) pa_nil))))
      (pss_cons (ps_set (i := 6) sc__law_form.nd rfl (.inl rfl) (pe_ix ix_list (pe_lst (pa_cons pe_str (pa_cons pe_str pa_nil))) (pe_df (df_Take2 T) T.g__law_take (hr.mono (by decide)) pass0 (pa_cons (pv 0) (pa_cons pe_int pa_nil))) (fun _ _ => rfl)))
      (pss_cons (ps_set (i := 7) sc__law_form.nd rfl (.inl rfl) (pe_df (df_Wrap T) T.g__law_wrapped (hr.mono (by decide)) pass0 (pa_cons
        (pe_tup (pa_cons (pv 6) (pa_cons (pe_ix ix_list (pv 3) (pv 5) (fun _ _ => rfl)) (pa_cons (pe_ix ix_list (pv 3) (pe_op op_add (pv 5) pe_int) (fun _ _ => rfl)) pa_nil))))
        (pa_cons (pe_df (df_Take2 T) T.g__law_take (hr.mono (by decide)) pass0 (pa_cons (pv 0) (pa_cons pe_int pa_nil))) pa_nil))))
      (pss_one (ps_set (i := 3) sc__law_form.nd rfl (.inl rfl) (pe_op op_cat (pe_op op_cat (pe_slice sl_list (pv 3) po_none (po_some (pv 5))) (pe_lst (pa_cons (pv 7) pa_nil))) (pe_slice sl_list (pv 3) (po_some (pe_op op_add (pv 5) pe_int)) po_none))))))))
    (pss_one (ps_ret (pe_ix ix_list (pv 3) pe_int (fun _ _ => rfl)))))), ?_⟩)
  · obtain ⟨_, _, _, rfl, _⟩ := h
    rfl
  obtain ⟨dr, cl, ps, rfl, D, hC, q⟩ := h
  refine ⟨by show 0 ≤ sizeLine; decide, fun pl hpl => ?_⟩
  have d0 : Dr dr H (upd H pl (.lst [])) := Dr.of D (same_new hpl _)
  refine ⟨_, rfl, _, rfl, dr, 4, rfl, d0.2, by decide, by decide, fun e H1 d1 h0 h1 => ⟨1, e, rfl, rfl, ?_⟩⟩
  refine ⟨_, rfl, by omega, by omega, ?_⟩
  have s1 : H1 pl = some (.lst (poolV [])) := Dr.get d0.2 d1 upd_same (notDr_refs [])
  refine for_range (lo := 0) (fun i σ H' => ∃ (xs : List TA2) (k : Option V), σ = [some (.ref dr), some (.ref cl), some (.int 4), some (.ref pl), k, none, none, none] ∧ Dr dr H H' ∧ H' pl = some (.lst (poolV xs)) ∧ xs.length = i ∧ natS xs = i ∧ PoolOk H' xs)
    ⟨[], none, rfl, d0.trans d1, s1, rfl, rfl, fun x hx => absurd hx (by simp)⟩ ?_ ?_
  · rintro i σ H2 hi ⟨xs, k, rfl, d2, s2, hl, hn, hx⟩
    refine ⟨_, rfl, .inl ⟨rfl, _, SqL.of s2⟩, _, rfl, _, rfl, dr, cl, ps, rfl, d2.2, hC.dr D d2, fun t p H3 d3 hf hla => ?_⟩
    refine ⟨_, rfl, dr, _, rfl, d3.2, by decide, by decide, fun f H4 d4 g0 g1 => ?_⟩
    refine ⟨p, f, t, rfl, hf.dr d3.2 d4, fun t' p' H5 e5 hf5 ht' => ?_⟩
    have d25 := (d3.trans d4).same e5
    have s5 := Dr.get d2.2 d25 s2 (notDr_refs _)
    obtain ⟨hg, hgn⟩ := lg_wrap (lh_of_la hla) ht'
    refine ⟨pl, _, _, rfl, rfl, s5, by unfold poolV; rw [List.length_map, List.length_map]; exact lt_line (by omega), xs ++ [(t', p')], _, rfl, Dr.upd D (d2.trans d25) hpl _, ?_, by rw [List.length_append, hl]; rfl, ?_, fun x hxm => ?_⟩
    · rw [upd_same]
      unfold poolV
      rw [List.map_append, List.map_append]
      rfl
    · rw [natS_app, hn]
      show i + (TwP.nat t' + 0) = i + 1
      rw [hgn, hla.2.2.1]
    · have stay : ∀ {t : Tr} {p : Addr}, FormAt H5 t p → FormAt (upd H5 pl (.lst (poolV xs ++ [V.ref p']))) t p := fun h => h.upd s5
      rcases List.mem_append.mp hxm with hxm | hxm
      · exact ⟨stay ((hx x hxm).1.dr d2.2 d25), (hx x hxm).2⟩
      · rw [List.mem_singleton.mp hxm]
        exact ⟨stay hf5, hg⟩
  rintro σ H2 ⟨xs, k, rfl, d2, s2, hl, hn, hx⟩
  have hN : (1 + e).toNat ≤ 4 := by omega
  have hN1 : 1 ≤ (1 + e).toNat := by omega
  generalize (1 + e).toNat = N at hl hn hN hN1
  refine ⟨_, rfl, pl, _, rfl, .inl (SqL.of s2), _, _, rfl, rfl, _, rfl, ?_, ?_, ?_⟩
  · have : (poolV xs).length = N := by unfold poolV; rw [List.length_map, List.length_map, hl]
    rw [this]
    omega
  · have : (poolV xs).length = N := by unfold poolV; rw [List.length_map, List.length_map, hl]
    rw [this]
    omega
  have hL : (((poolV xs).length : Int) - 1).toNat = N - 1 := by
    have : (poolV xs).length = N := by unfold poolV; rw [List.length_map, List.length_map, hl]
    rw [this]
    omega
  have plen : ∀ ys : List TA2, (poolV ys).length = ys.length := fun ys => by unfold poolV; rw [List.length_map, List.length_map]
  refine for_range (lo := 0) (fun i σ H' => ∃ (pl' : Addr) (ys : List TA2) (k a w l : Option V), σ = [some (.ref dr), some (.ref cl), some (.int 4), some (.ref pl'), k, a, w, l] ∧ Dr dr H H' ∧ H' pl' = some (.lst (poolV ys)) ∧ ys.length + i = N ∧ natS ys = N ∧ PoolOk H' ys)
    ⟨pl, xs, _, _, _, _, rfl, d2, s2, hl, hn, hx⟩ ?_ ?_
  · rintro i σ H3 hi ⟨pl', ys, k, a, w, l, rfl, d3, s3, hl3, hn3, hx3⟩
    rw [hL] at hi
    refine ⟨_, rfl, _, rfl, pl', _, rfl, .inl (SqL.of s3), _, _, rfl, rfl, ?_⟩
    rw [plen]
    refine ⟨dr, _, rfl, d3.2, by omega, Int.lt_of_le_of_lt (show (ys.length : Int) - 1 ≤ 3 by omega) (by decide), fun d H4 d4 g0 g1 => ?_⟩
    obtain ⟨m, rfl⟩ := Int.eq_ofNat_of_zero_le g0
    have hm : m + 1 < ys.length := by omega
    obtain ⟨x1, x2, hx1, hx2, hsp⟩ := split2 hm
    have m1 : x1 ∈ ys := List.mem_of_getElem? hx1
    have m2 : x2 ∈ ys := List.mem_of_getElem? hx2
    have a1 : (poolV ys)[m]? = some (.ref x1.2) := by unfold poolV; rw [List.getElem?_map, List.getElem?_map, hx1]; rfl
    have a2 : (poolV ys)[m + 1]? = some (.ref x2.2) := by unfold poolV; rw [List.getElem?_map, List.getElem?_map, hx2]; rfl
    have em1 : ((m : Nat) : Int) + 1 = ((m + 1 : Nat) : Int) := by omega
    have em2 : ((m : Nat) : Int) + 2 = ((m + 2 : Nat) : Int) := by omega
    refine ⟨by show 2 ≤ sizeLine; decide, fun p hp0 => ?_⟩
    have e4 : Same H4 (upd H4 p (.lst ([TwP.kAnd, TwP.kOr].map sV))) := same_new hp0 _
    refine ⟨_, rfl, dr, _, rfl, d4.2.same e4, by decide, by decide, fun c H5 d5 c0 c1 => ?_⟩
    have d35 := (d4.same e4).trans d5
    have s5 := Dr.get d3.2 d35 s3 (notDr_refs _)
    have x5 : PoolOk H5 ys := hx3.keep fun _ _ q n => Dr.get d3.2 d35 q n.notDr
    have wd := Dr.get (d4.2.same e4) d5 upd_same (notDr_strs [TwP.kAnd, TwP.kOr])
    -- behind the word
    have fin : ∀ (kw : Tx) (t : Tr), LH t → TwP.nat t = TwP.nat x1.1 + TwP.nat x2.1 → (∀ (H6 : Hp) (b : Addr), Same H5 H6 → H6 b = some (.tup [sV kw, .ref x1.2, .ref x2.2]) → FormAt H6 t b) → c < 2 → ∃ v : Nat, v = 0 := fun _ _ _ _ _ _ => ⟨0, rfl⟩
    have wk : ∃ (kw : Tx) (t : Tr), ([TwP.kAnd, TwP.kOr].map sV)[c.toNat]? = some (sV kw) ∧ LH t ∧ TwP.nat t = TwP.nat x1.1 + TwP.nat x2.1 ∧ ∀ (H6 : Hp) (b : Addr), Same H5 H6 → H6 b = some (.tup [sV kw, .ref x1.2, .ref x2.2]) → FormAt H6 t b := by
      obtain ⟨f1, g1⟩ := x5 x1 m1
      obtain ⟨f2, g2⟩ := x5 x2 m2
      rcases (show c = 0 ∨ c = 1 by omega) with rfl | rfl
      · exact ⟨TwP.kAnd, .and x1.1 x2.1, rfl, lh_and g1 g2, rfl, fun H6 b e6 hb => ⟨x1.2, x2.2, hb, f1.same e6, f2.same e6⟩⟩
      · exact ⟨TwP.kOr, .or x1.1 x2.1, rfl, lh_or g1 g2, rfl, fun H6 b e6 hb => ⟨x1.2, x2.2, hb, f1.same e6, f2.same e6⟩⟩
    clear fin
    obtain ⟨kw, t, hkw, hlh, htn, hform⟩ := wk
    obtain ⟨c', rfl⟩ := Int.eq_ofNat_of_zero_le c0
    refine ⟨p, _, _, _, rfl, rfl, SqL.of wd, atI_nat hkw, ?_⟩
    refine ⟨_, rfl, _, rfl, _, rfl, pl', _, _, _, rfl, rfl, SqL.of s5, atI_nat a1, _, rfl, _, rfl, _, _, rfl, rfl, pl', _, _, _, rfl, rfl, SqL.of s5, by rw [em1]; exact atI_nat a2, by show 3 ≤ sizeLine; decide, fun b hb => ?_⟩
    have e6 : Same H5 (upd H5 b (.tup [sV kw, .ref x1.2, .ref x2.2])) := same_new hb _
    refine ⟨_, rfl, dr, _, rfl, d35.2.same e6, by decide, by decide, fun f H7 d7 f0 f1 => ?_⟩
    refine ⟨b, f, t, rfl, (hform _ b e6 upd_same).dr (d35.2.same e6) d7, fun t' p' H8 e8 hf8 ht' => ?_⟩
    obtain ⟨hg, hgn⟩ := lg_wrap hlh ht'
    have d38 := ((d35.same e6).trans d7).same e8
    have s8 := Dr.get d3.2 d38 s3 (notDr_refs _)
    have x8 : PoolOk H8 ys := hx3.keep fun _ _ q n => Dr.get d3.2 d38 q n.notDr
    refine ⟨_, rfl, _, rfl, _, rfl, pl', _, rfl, SqL.of s8, fun c1 hc1 => ?_⟩
    rw [cutV_to]
    refine ⟨_, rfl, by show 1 ≤ sizeLine; decide, fun c2 hc2 => ?_⟩
    have g1 := same_new hc1 (.lst ((poolV ys).take m))
    have g2 := same_new hc2 (.lst [.ref p'])
    refine ⟨c1, c2, _, _, rfl, rfl, g2 _ _ upd_same, upd_same, ?_, fun c3 hc3 => ?_⟩
    · rw [List.length_take, plen]
      show _ + 1 ≤ sizeLine
      exact le_line (by omega)
    have g3 := same_new hc3 (.lst ((poolV ys).take m ++ [.ref p']))
    refine ⟨_, rfl, _, rfl, _, _, rfl, rfl, _, rfl, pl', _, rfl, SqL.of (g3 _ _ (g2 _ _ (g1 _ _ s8))), fun c4 hc4 => ?_⟩
    rw [em2, cutV_from]
    have g4 := same_new hc4 (.lst ((poolV ys).drop (m + 2)))
    refine ⟨c3, c4, _, _, rfl, rfl, g4 _ _ upd_same, upd_same, ?_, fun c5 hc5 => ?_⟩
    · rw [List.length_append, List.length_take, List.length_drop, plen]
      show _ + 1 + _ ≤ sizeLine
      exact le_line (by omega)
    have g5 := same_new hc5 (.lst (((poolV ys).take m ++ [.ref p']) ++ (poolV ys).drop (m + 2)))
    have gg := (((g1.trans g2).trans g3).trans g4).trans g5
    refine ⟨c5, ys.take m ++ ((t', p') :: ys.drop (m + 2)), _, _, _, _, rfl, (d3.trans d38).same gg, ?_, ?_, ?_, fun x hxm => ?_⟩
    · rw [upd_same]
      unfold poolV
      rw [List.map_append, List.map_append, List.map_take, List.map_take, List.append_assoc]
      show some (HO.lst (_ ++ (V.ref p' :: List.drop (m + 2) _))) = some (HO.lst (_ ++ (V.ref p' :: _)))
      rw [List.map_drop, List.map_drop]
    · rw [List.length_append, List.length_cons, List.length_take, List.length_drop]
      omega
    · have e := natS_app (ys.take m) (x1 :: x2 :: ys.drop (m + 2))
      rw [← hsp, hn3] at e
      rw [natS_app]
      have e2 : natS (x1 :: x2 :: ys.drop (m + 2)) = TwP.nat x1.1 + (TwP.nat x2.1 + natS (ys.drop (m + 2))) := rfl
      have e3 : natS ((t', p') :: ys.drop (m + 2)) = TwP.nat t' + natS (ys.drop (m + 2)) := rfl
      omega
    · rcases List.mem_append.mp hxm with h | h
      · exact ⟨(x8 x (List.mem_of_mem_take h)).1.same gg, (x8 x (List.mem_of_mem_take h)).2⟩
      · rcases List.mem_cons.mp h with rfl | h
        · exact ⟨hf8.same gg, hg⟩
        · exact ⟨(x8 x (List.mem_of_mem_drop h)).1.same gg, (x8 x (List.mem_of_mem_drop h)).2⟩
  · rintro σ H3 ⟨pl', ys, k, a, w, l, rfl, d3, s3, hl3, hn3, hx3⟩
    rw [hL] at hl3
    match ys, hl3, hn3, hx3, s3 with
    | [x], _, hn3, hx3, s3 =>
      obtain ⟨f1, g1⟩ := hx3 x (by simp)
      have hnat : TwP.nat x.1 + 0 = N := hn3
      refine ⟨_, rfl, pl', _, _, _, rfl, rfl, SqL.of s3, atI_nat (j := 0) rfl, q x.1 x.2 H3 d3 f1 ⟨g1.1, ?_, ?_, by omega⟩⟩
      · have := g1.2.1
        omega
      · have := g1.2.2
        omega
    | [], hl3, _, _, _ =>
      have : 0 + (N - 1) = N := hl3
      omega
    | x :: y :: r, hl3, _, _, _ =>
      have : (r.length + 1 + 1) + (N - 1) = N := hl3
      omega
end
end Tw
end

section
set_option Elab.async false
set_option linter.all false
set_option maxRecDepth 100000
set_option maxHeartbeats 8000000
/-! The law's things, the changed text. -/
namespace Tw
open PySem PySem.Spec PyProof.Rows L2
open TwP (Tx Val)
section
variable (K : PySem.W.Frag)
def spThing : Sp := fun vs H Q _ => ∃ dr, vs = [.ref dr] ∧ DrAt H dr ∧ ∀ (v : V) H', Dr dr H H' → ((∃ l, v = sV l) ∨ NotStr K H' v) → Q v H'
end
/-- codes that are signs -/
def okc (c : Nat) : Bool := decide (c < 1114112)
def okS (l : Tx) : Prop := l.all okc = true
def spChanged : Sp := fun vs H Q _ => ∃ (dr : Addr) (l : Tx), vs = [.ref dr, sV l] ∧ DrAt H dr ∧ 1 ≤ l.length ∧ l.length ≤ 2000 ∧ okS l ∧ ∀ (m : Tx) H', Dr dr H H' → m.length ≤ 10000 → okS m → Q (sV m) H'
theorem ns_int {K : PySem.W.Frag} {H : Hp} (i : Int) : NotStr K H (.int i) := ⟨_, .base (.int i), kit_ty (by decide +kernel)⟩
theorem ns_non {K : PySem.W.Frag} {H : Hp} : NotStr K H .non := ⟨_, .base .non, kit_ty (by decide +kernel)⟩
theorem ns_bl {K : PySem.W.Frag} {H : Hp} (b : Bool) : NotStr K H (.bl b) := ⟨_, .base (.bl b), kit_ty (by decide +kernel)⟩
theorem ns_lst {K : PySem.W.Frag} {H : Hp} {a : Addr} {xs : List V} (h : H a = some (.lst xs)) : NotStr K H (.ref a) := ⟨_, .base (.lst h), kit_ty (by decide +kernel)⟩
theorem ns_tup {K : PySem.W.Frag} {H : Hp} {a : Addr} {xs : List V} (h : H a = some (.tup xs)) : NotStr K H (.ref a) := ⟨_, .base (.tup h), kit_ty (by decide +kernel)⟩
theorem ns_dK {K : PySem.W.Frag} {H : Hp} {a : Addr} {kvs : List (Key × V)} (h : H a = some (.dK kvs)) : NotStr K H (.ref a) := ⟨_, .base (.dK h), kit_ty (by decide +kernel)⟩
theorem cut_any {l : Tx} (ok : okS l) (lo hi : Option Int) : ∃ m : Tx, cutS (SX.S l) lo hi = SX.S m ∧ m.length ≤ l.length ∧ okS m := ⟨_, cut_S l lo hi, by rw [List.length_take, List.length_drop]; omega, by
  unfold okS at *
  rw [List.all_eq_true] at *
  exact fun c hc => ok c (List.mem_of_mem_drop (List.mem_of_mem_take hc))⟩
theorem okS_app {a b : Tx} (h : okS a) (h2 : okS b) : okS (a ++ b) := by
  unfold okS at *
  rw [List.all_append, h, h2]
  rfl
theorem ok_chars : okS (chars ++ [10]) := by
  show (chars ++ [10]).all okc = true
  decide +kernel
section
variable {P : Program} {w : World} {K : PySem.W.Frag} {mg : Str → Option Value} {base : Heap}
theorem df_Thing (T : Fc K mg) : Df P w K mg base CX0 3 (He.ga K "_law_thing") ["_law_draw"] (spThing K) := by
  refine df0 T.e__law_thing sc__law_thing (fun vs H Q E h => ?_) (fun cdv A outer s H vs Q E hr h => ⟨_,
    pss_cons (ps_set (i := 1) sc__law_thing.nd rfl (.inl rfl) (pe_df (df_Take2 T) T.g__law_take (hr.mono (by decide)) pass0 (pa_cons (pv 0) (pa_cons pe_int pa_nil))))
    (pss_cons (ps_if (pt_cmpR op_eq (pv 1) pe_int (nomark _)) (pss_one (ps_ret (pe_df (df_NumD T) T.g__law_number hr pass0 (pa_cons (pv 0) pa_nil)))) pss_nil)
    (pss_cons (ps_if (PW.pt (pw_or (pt_cmpR op_eq (pv 1) pe_int (nomark _)) (pw_or1 (pt_cmpR op_eq (pv 1) pe_int (nomark _))))) (pss_one (ps_ret (pe_df (df_TxtD T) T.g__law_text hr pass0 (pa_cons (pv 0) pa_nil)))) pss_nil)
    (pss_cons (ps_if (pt_cmpR op_eq (pv 1) pe_int (nomark _)) (pss_one (ps_ret (pe_lst (pa_cons (pe_df (df_NumD T) T.g__law_number hr pass0 (pa_cons (pv 0) pa_nil)) (pa_cons (pe_df (df_TxtD T) T.g__law_text hr pass0 (pa_cons (pv 0) pa_nil)) pa_nil))))) pss_nil)
    (pss_cons (ps_if (pt_cmpR op_eq (pv 1) pe_int (nomark _)) (pss_one (ps_ret (pe_tup (pa_cons (pe_df (df_TxtD T) T.g__law_text hr pass0 (pa_cons (pv 0) pa_nil)) (pa_cons (pe_df (df_NumD T) T.g__law_number hr pass0 (pa_cons (pv 0) pa_nil)) (pa_cons pe_non pa_nil)))))) pss_nil)
    (pss_cons (ps_if (pt_cmpR op_eq (pv 1) pe_int (nomark _)) (pss_one (ps_ret (pe_disp (pps_cons (pe_df (df_TxtD T) T.g__law_text hr pass0 (pa_cons (pv 0) pa_nil)) (pe_lst (pa_cons (pe_df (df_NumD T) T.g__law_number hr pass0 (pa_cons (pv 0) pa_nil)) pa_nil)) pps_nil) rfl rfl (by decide) (by decide)))) pss_nil)
    (pss_cons (ps_if (pt_cmpR op_eq (pv 1) pe_int (nomark _)) (pss_one (ps_ret pe_dnewK)) pss_nil)
    (pss_one (ps_ret (pe_ix ix_list (pe_lst (pa_cons pe_non (pa_cons pe_bl (pa_cons pe_bl (pa_cons pe_int (pa_cons pe_int (pa_cons pe_int (pa_cons pe_int (pa_cons pe_int (pa_cons pe_int (pa_cons pe_int (pa_cons (pe_lst pa_nil) (pa_cons (pe_tup pa_nil) pa_nil))))))))))))) (pv 1) (fun _ _ => rfl)))))))))), ?_⟩)
  · obtain ⟨_, rfl, _⟩ := h
    rfl
  obtain ⟨dr, rfl, D, q⟩ := h
  refine ⟨_, rfl, dr, _, rfl, D, by decide, by decide, fun d H1 d1 h0 h1 => ?_⟩
  refine ⟨_, rfl, rfl, _, rfl, if_int (fun _ => ⟨_, rfl, dr, rfl, d1.2, fun n H2 d2 _ => q _ _ (d1.trans d2) (.inr (ns_int n))⟩) fun n3 => ?_⟩
  have txt : tRet (tCall spTxt [] E0 (tCons (tVar 0) tNil)) { nx := fun _ H' => Q .non H', rt := Q } [some (.ref dr), some (.int d)] H1 := ⟨_, rfl, dr, rfl, d1.2, fun l H2 d2 _ => q _ _ (d1.trans d2) (.inl ⟨l, rfl⟩)⟩
  refine ⟨_, rfl, rfl, _, rfl, if_int (fun _ => iteT txt) fun n4 => ⟨_, rfl, rfl, _, rfl, if_int (fun _ => txt) fun n5 => ?_⟩⟩
  refine ⟨_, rfl, rfl, _, rfl, if_int (fun _ => ⟨_, rfl, dr, rfl, d1.2, fun n H2 d2 _ => ⟨_, rfl, dr, rfl, d2.2, fun l H3 d3 _ => ⟨by show 2 ≤ sizeLine; decide, fun p hp => q _ _ (((d1.trans d2).trans d3).same (same_new hp _)) (.inr (ns_lst upd_same))⟩⟩⟩) fun n6 => ?_⟩
  refine ⟨_, rfl, rfl, _, rfl, if_int (fun _ => ⟨_, rfl, dr, rfl, d1.2, fun l H2 d2 _ => ⟨_, rfl, dr, rfl, d2.2, fun n H3 d3 _ => ⟨by show 3 ≤ sizeLine; decide, fun p hp => q _ _ (((d1.trans d2).trans d3).same (same_new hp _)) (.inr (ns_tup upd_same))⟩⟩⟩) fun n7 => ?_⟩
  refine ⟨_, rfl, rfl, _, rfl, if_int (fun _ => fun p hp => ?_) fun n8 => ?_⟩
  · have e1 := same_new hp (.dK [])
    refine ⟨_, rfl, dr, rfl, d1.2.same e1, fun l H2 d2 _ => ⟨_, rfl, dr, rfl, d2.2, fun n H3 d3 _ => ⟨by show 1 ≤ sizeLine; decide, fun p2 hp2 => ?_⟩⟩⟩
    have e3 := same_new hp2 (.lst [V.int n])
    have h3 : H3 p = some (.dK []) := Dr.get (d1.2.same e1) (d2.trans d3) upd_same (fun _ _ _ _ _ e => by cases e)
    refine ⟨e3 _ _ h3, [(.inr (SX.S l), .ref p2)], rfl, by show 1 ≤ 15; decide, ?_⟩
    exact q _ _ (d1.trans (Dr.upd d1.2 (((Dr.of d1.2 e1).trans (d2.trans d3)).same e3) hp _)) (.inr (ns_dK upd_same))
  refine ⟨_, rfl, rfl, _, rfl, if_int (fun _ => fun p hp => q _ _ (d1.same (same_new hp _)) (.inr (ns_dK upd_same))) fun n9 => ?_⟩
  refine ⟨by show 0 ≤ sizeLine; decide, fun p1 hp1 => ⟨by show 0 ≤ sizeLine; decide, fun p2 hp2 => ⟨by show 12 ≤ sizeLine; decide, fun p3 hp3 => ?_⟩⟩⟩
  have e1 := same_new hp1 (.lst [])
  have e2 := same_new hp2 (.tup [])
  have e3 := same_new hp3 (.lst [.non, .bl true, .bl false, .int 0, .int 0, .int 0, .int 0, .int 0, .int 0, .int 0, .ref p1, .ref p2])
  have dd := d1.same ((e1.trans e2).trans e3)
  rcases (show d = 0 ∨ d = 1 ∨ d = 2 ∨ d = 10 ∨ d = 11 by omega) with rfl | rfl | rfl | rfl | rfl
  · exact ⟨_, rfl, p3, _, _, _, rfl, rfl, SqL.of upd_same, atI_nat (j := 0) rfl, q _ _ dd (.inr ns_non)⟩
  · exact ⟨_, rfl, p3, _, _, _, rfl, rfl, SqL.of upd_same, atI_nat (j := 1) rfl, q _ _ dd (.inr (ns_bl true))⟩
  · exact ⟨_, rfl, p3, _, _, _, rfl, rfl, SqL.of upd_same, atI_nat (j := 2) rfl, q _ _ dd (.inr (ns_bl false))⟩
  · exact ⟨_, rfl, p3, _, _, _, rfl, rfl, SqL.of upd_same, atI_nat (j := 10) rfl, q _ _ dd (.inr (ns_lst (e3 _ _ (e2 _ _ upd_same))))⟩
  · exact ⟨_, rfl, p3, _, _, _, rfl, rfl, SqL.of upd_same, atI_nat (j := 11) rfl, q _ _ dd (.inr (ns_tup (e3 _ _ upd_same)))⟩
theorem df_Changed (T : Fc K mg) : Df P w K mg base CX0 2 (He.ga K "_law_changed") ["_law_draw", "_law_text_here"] spChanged := by
  refine df0 T.e__law_changed sc__law_changed (fun vs H Q E h => ?_) (fun cdv A outer s H vs Q E hr h => ⟨_,
    pss_cons (ps_set (i := 2) sc__law_changed.nd rfl (.inl rfl) (pe_op op_catS (pe_df0 (df_Chars T) T.g__law_chars hr pass0) pe_str))
    (pss_cons (ps_set (i := 3) sc__law_changed.nd rfl (.inl rfl) (pe_df (df_Take2 T) T.g__law_take hr pass0 (pa_cons (pv 0) (pa_cons (pe_callB call_len_str rfl T.f_len bi_len (pa_cons (pv 1) pa_nil)) pa_nil))))
    (pss_cons (ps_set (i := 4) sc__law_changed.nd rfl (.inl rfl) (pe_df (df_Take2 T) T.g__law_take hr pass0 (pa_cons (pv 0) (pa_cons pe_int pa_nil))))
    (pss_cons (ps_set (i := 5) sc__law_changed.nd rfl (.inl rfl) (pe_ix ix_str (pv 2) (pe_df (df_Take2 T) T.g__law_take hr pass0 (pa_cons (pv 0) (pa_cons (pe_callB call_len_str rfl T.f_len bi_len (pa_cons (pv 2) pa_nil)) pa_nil))) (fun _ _ => rfl)))
    (pss_cons (ps_if (pt_cmpR op_eq (pv 4) pe_int (nomark _)) (pss_one (ps_ret (pe_op op_catS (pe_slice sl_str (pv 1) po_none (po_some (pv 3))) (pe_slice sl_str (pv 1) (po_some (pe_op op_add (pv 3) pe_int)) po_none)))) pss_nil)
    (pss_cons (ps_if (pt_cmpR op_eq (pv 4) pe_int (nomark _)) (pss_one (ps_ret (pe_op op_catS (pe_op op_catS (pe_slice sl_str (pv 1) po_none (po_some (pv 3))) (pv 5)) (pe_slice sl_str (pv 1) (po_some (pv 3)) po_none)))) pss_nil)
    (pss_cons (ps_if (pt_cmpR op_eq (pv 4) pe_int (nomark _)) (pss_one (ps_ret (pe_op op_catS (pe_op op_catS (pe_slice sl_str (pv 1) po_none (po_some (pv 3))) (pv 5)) (pe_slice sl_str (pv 1) (po_some (pe_op op_add (pv 3) pe_int)) po_none)))) pss_nil)
    (pss_one (ps_ret (pe_op op_catS (pe_op op_catS (pe_op op_catS (pe_slice sl_str (pv 1) po_none (po_some (pv 3))) (pe_slice sl_str (pv 1) (po_some (pe_op op_add (pv 3) pe_int)) (po_some (pe_op op_add (pv 3) pe_int)))) (pe_slice sl_str (pv 1) (po_some (pv 3)) (po_some (pe_op op_add (pv 3) pe_int)))) (pe_slice sl_str (pv 1) (po_some (pe_op op_add (pv 3) pe_int)) po_none)))))))))), ?_⟩)
  · obtain ⟨_, _, rfl, _⟩ := h
    rfl
  obtain ⟨dr, l, rfl, D, hl1, hl2, hok, q⟩ := h
  have hz : (SX.S l).length ≤ sizeLine := by rw [len_S]; exact le_line (by omega)
  refine ⟨rfl, chars, [10], rfl, rfl, by decide, ?_⟩
  refine ⟨_, rfl, _, rfl, _, rfl, hz, dr, _, rfl, D, by rw [len_S]; omega, Int.lt_of_le_of_lt (show ((SX.S l).length : Int) ≤ 2000 by rw [len_S]; omega) (by decide), fun a H1 d1 a0 a1 => ?_⟩
  refine ⟨_, rfl, dr, _, rfl, d1.2, by decide, by decide, fun b H2 d2 b0 b1 => ?_⟩
  refine ⟨_, rfl, _, rfl, _, rfl, _, rfl, by rw [len_S]; decide, dr, _, rfl, d2.2, by rw [len_S]; decide, by rw [len_S]; decide, fun c H3 d3 c0 c1 => ?_⟩
  rw [len_S] at c1
  obtain ⟨n, rfl⟩ := Int.eq_ofNat_of_zero_le c0
  have hn : n < (chars ++ [10]).length := by omega
  have hc : (chars ++ [10])[n]? = some (chars ++ [10])[n] := List.getElem?_eq_getElem hn
  have hko : okS [(chars ++ [10])[n]] := by
    have := List.all_eq_true.mp ok_chars _ (List.getElem_mem hn)
    show (okc (chars ++ [10])[n] && true) = true
    rw [this]
    rfl
  generalize (chars ++ [10])[n] = ch at hc hko
  have dd := (d1.trans d2).trans d3
  refine ⟨_, _, _, rfl, rfl, by rw [len_S]; decide, atI_S hc, ?_⟩
  refine ⟨_, rfl, rfl, _, rfl, if_int (fun _ => ?_) fun _ => ?_⟩
  · obtain ⟨m1, e1, l1, k1⟩ := cut_any hok none (some a)
    obtain ⟨m2, e2, l2, k2⟩ := cut_any hok (some (a + 1)) none
    exact ⟨_, rfl, _, rfl, _, rfl, _, rfl, hz, _, rfl, _, rfl, _, _, rfl, rfl, _, rfl, _, rfl, hz, m1, m2, congrArg V.str e1, congrArg V.str e2, by omega, q _ _ dd (by rw [List.length_append]; omega) (okS_app k1 k2)⟩
  refine ⟨_, rfl, rfl, _, rfl, if_int (fun _ => ?_) fun _ => ?_⟩
  · obtain ⟨m1, e1, l1, k1⟩ := cut_any hok none (some a)
    obtain ⟨m2, e2, l2, k2⟩ := cut_any hok (some a) none
    exact ⟨_, rfl, _, rfl, _, rfl, _, rfl, hz, _, rfl, m1, [ch], congrArg V.str e1, rfl, by show m1.length + 1 ≤ _; omega, _, rfl, _, rfl, _, rfl, _, rfl, hz, m1 ++ [ch], m2, rfl, congrArg V.str e2, by rw [List.length_append]; show m1.length + 1 + _ ≤ _; omega, q _ _ dd (by rw [List.length_append, List.length_append]; show m1.length + 1 + _ ≤ _; omega) (okS_app (okS_app k1 hko) k2)⟩
  refine ⟨_, rfl, rfl, _, rfl, if_int (fun _ => ?_) fun _ => ?_⟩
  · obtain ⟨m1, e1, l1, k1⟩ := cut_any hok none (some a)
    obtain ⟨m2, e2, l2, k2⟩ := cut_any hok (some (a + 1)) none
    exact ⟨_, rfl, _, rfl, _, rfl, _, rfl, hz, _, rfl, m1, [ch], congrArg V.str e1, rfl, by show m1.length + 1 ≤ _; omega, _, rfl, _, rfl, _, _, rfl, rfl, _, rfl, _, rfl, hz, m1 ++ [ch], m2, rfl, congrArg V.str e2, by rw [List.length_append]; show m1.length + 1 + _ ≤ _; omega, q _ _ dd (by rw [List.length_append, List.length_append]; show m1.length + 1 + _ ≤ _; omega) (okS_app (okS_app k1 hko) k2)⟩
  · obtain ⟨m1, e1, l1, k1⟩ := cut_any hok none (some a)
    obtain ⟨m2, e2, l2, k2⟩ := cut_any hok (some (a + 1)) (some (a + 2))
    obtain ⟨m3, e3, l3, k3⟩ := cut_any hok (some a) (some (a + 1))
    obtain ⟨m4, e4, l4, k4⟩ := cut_any hok (some (a + 2)) none
    exact ⟨_, rfl, _, rfl, _, rfl, _, rfl, hz, _, rfl, _, rfl, _, _, rfl, rfl, _, rfl, _, rfl, _, _, rfl, rfl, _, rfl, _, rfl, hz, m1, m2, congrArg V.str e1, congrArg V.str e2, by omega,
      _, rfl, _, rfl, _, rfl, _, rfl, _, _, rfl, rfl, _, rfl, _, rfl, hz, m1 ++ m2, m3, rfl, congrArg V.str e3, by rw [List.length_append]; omega,
      _, rfl, _, rfl, _, _, rfl, rfl, _, rfl, _, rfl, hz, (m1 ++ m2) ++ m3, m4, rfl, congrArg V.str e4, by rw [List.length_append, List.length_append]; omega, q _ _ dd (by rw [List.length_append, List.length_append, List.length_append]; omega) (okS_app (okS_app (okS_app k1 k2) k3) k4)⟩
end
/-! ### what the law writes is made of signs -/
theorem ok_of_alnum {l : Tx} (h : l.all TwP.alnum = true) : okS l := by
  unfold okS
  rw [List.all_eq_true] at *
  intro c hc
  have := h c hc
  unfold TwP.alnum TwP.isLet TwP.isDig at this
  simp only [Bool.or_eq_true, Bool.and_eq_true, decide_eq_true_eq] at this
  exact decide_eq_true (by omega)
theorem ok_name {n : Tx} (h : TwP.isName n = true) : okS n := by
  cases n with
  | nil => rfl
  | cons c r =>
    have h : (decide ((c :: r).length ≤ 8) && TwP.isLet c && !(TwP.kept.contains (c :: r)) && (c :: r).all TwP.alnum) = true := h
    simp only [Bool.and_eq_true] at h
    exact ok_of_alnum h.2
theorem ok_num (n : Nat) : okS (TL.numL n) := by
  unfold okS
  rw [List.all_eq_true]
  intro c hc
  have h : 48 ≤ c ∧ c ≤ 57 := TL.numL_digits n c hc
  exact decide_eq_true (by omega)
theorem ok_int (i : Int) : okS (TwP.intL i) := by
  unfold TwP.intL
  split
  · exact okS_app (a := [45]) rfl (ok_num _)
  · exact ok_num _
theorem ok_esc : ∀ l : Tx, TwP.isText l = true → okS (TwP.esc l)
  | [], _ => rfl
  | c :: r, h => by
    have h : (TwP.inCh c && r.all TwP.inCh) = true := h
    rw [Bool.and_eq_true] at h
    have hc := h.1
    unfold TwP.inCh at hc
    simp only [Bool.and_eq_true, decide_eq_true_eq] at hc
    have hk : okc c = true := decide_eq_true (by omega)
    refine okS_app ?_ (ok_esc r h.2)
    split
    · show (okc 92 && (okc c && true)) = true
      rw [hk]
      rfl
    · show (okc c && true) = true
      rw [hk]
      rfl
theorem ok_wrV {v : Val} (h : TwP.vGood v) : okS (TwP.wrV v) := by
  cases v with
  | num i => exact ok_int i
  | txt l => exact okS_app (a := [34]) rfl (okS_app (ok_esc l h) rfl)
theorem ok_joinV : ∀ vs : List Val, (∀ v ∈ vs, TwP.vGood v) → okS (TwP.joinV vs)
  | [], _ => rfl
  | [v], h => ok_wrV (h v (by simp))
  | v :: w :: r, h => okS_app (ok_wrV (h v (by simp))) (okS_app (a := [44, 32]) rfl (ok_joinV (w :: r) fun x hx => h x (List.mem_cons_of_mem _ hx)))
theorem ok_op {op : Tx} (h : op ∈ TwP.ops) : okS op := by
  have k : ∀ op ∈ TwP.ops, op.all okc = true := by decide
  exact k op h
theorem ok_more (m : Int) : okS (TwP.wrMore m) := by
  unfold TwP.wrMore
  split
  · rfl
  · split
    · exact okS_app (a := [32, 43, 32]) rfl (ok_int _)
    · exact okS_app (a := [32, 45, 32]) rfl (ok_int _)
theorem ok_br {b : Bool} {l : Tx} (h : okS l) : okS (TwP.br b l) := by
  cases b
  · exact h
  · exact okS_app (a := [40]) rfl (okS_app h rfl)
theorem ok_wr : ∀ t : Tr, TwP.Good t → okS (TwP.wr t)
  | .cmp c op v, h => okS_app (ok_name h.1) (okS_app (a := [32]) rfl (okS_app (ok_op h.2.1) (okS_app (a := [32]) rfl (ok_wrV h.2.2))))
  | .agn c op o m, h => okS_app (ok_name h.1) (okS_app (a := [32]) rfl (okS_app (ok_op h.2.1) (okS_app (a := [32]) rfl (okS_app (ok_name h.2.2.1) (ok_more m)))))
  | .amg c vs, h => okS_app (ok_name h.1) (okS_app (a := [32, 105, 110, 32, 40]) rfl (okS_app (ok_joinV vs h.2.2.2) rfl))
  | .beg c p, h => okS_app (ok_name h.1) (okS_app (a := [32, 98, 101, 103, 105, 110, 115, 32]) rfl (ok_wrV (v := .txt p) h.2))
  | .emp c, h => okS_app (ok_name h) rfl
  | .alw, _ => rfl
  | .nev, _ => rfl
  | .and a b, h => okS_app (ok_br (ok_wr a h.1)) (okS_app (a := [32, 97, 110, 100, 32]) rfl (ok_br (ok_wr b h.2)))
  | .or a b, h => okS_app (ok_wr a h.1) (okS_app (a := [32, 111, 114, 32]) rfl (ok_br (ok_wr b h.2)))
  | .not a, h => okS_app (a := TwP.kNot) rfl (okS_app (a := [32]) rfl (ok_br (ok_wr a h)))
  | .sure a, h => okS_app (a := TwP.kSure) rfl (okS_app (a := [32]) rfl (ok_br (ok_wr a h)))
theorem ok_rep (k : Nat) : okS (List.replicate k 55) := by
  unfold okS
  rw [List.all_eq_true]
  intro c hc
  rw [(List.mem_replicate.mp hc).2]
  rfl
theorem strOk_S {l : Tx} (h : okS l) : PyData.strOk (SX.S l) = true := by
  have h' : l.all okc = true := h
  show (SX.S l).cps.all _ = true
  simp only [SX.S, Array.all_toList] at *
  first
    | exact h'
    | simpa [okc] using h'
end Tw
end

section
set_option Elab.async false
set_option linter.all false
set_option maxRecDepth 100000
set_option maxHeartbeats 8000000
/-! The law's text that is refused. -/
namespace Tw
open PySem PySem.Spec PyProof.Rows L2
open TwP (Tx Val)
def ncs : List Tx := [[32, 60, 32, 48, 49], [32, 60, 32, 43, 49], [32, 60, 32, 45, 48], [32, 60, 32, 32, 49], [60, 49], [32, 60, 32, 49, 32], [32, 60, 32, 98, 32, 43, 32, 48], [32, 61, 32, 49], [32, 60, 32, 98, 32, 43, 32, 45, 49], [32, 105, 110, 32, 40, 41]]
def fxs : List Tx := [([] : Tx), TwP.kAnd, TwP.kNot, [40, 41], [97, 108, 119, 97, 121, 115, 32, 97, 108, 119, 97, 121, 115], [40, 97, 108, 119, 97, 121, 115], [97, 108, 119, 97, 121, 115, 41], [97, 32, 105, 115], [97, 32, 105, 110, 32, 40, 49, 44, 50, 41], [97, 32, 61, 61, 32, 39, 120, 39]]
def nots : List Tx := [[110, 111, 116, 32], [115, 117, 114, 101, 32]]
theorem ncs_no {n : Tx} (hn : TwP.isName n = true) : ∀ s ∈ ncs, TwP.reads (n ++ s) = false := by
  intro s hs
  simp only [ncs, List.mem_cons, List.not_mem_nil, or_false] at hs
  rcases hs with rfl | rfl | rfl | rfl | rfl | rfl | rfl | rfl | rfl | rfl
  · exact TwP.nc0 hn
  · exact TwP.nc1 hn
  · exact TwP.nc2 hn
  · exact TwP.nc3 hn
  · exact TwP.nc4 hn
  · exact TwP.nc5 hn
  · exact TwP.nc6 hn
  · exact TwP.nc7 hn
  · exact TwP.nc8 hn
  · exact TwP.nc9 hn
theorem ncs_len : ∀ s ∈ ncs, s.length ≤ 20 := by decide
theorem fxs_no : ∀ s ∈ fxs, TwP.reads s = false := fun s hs => by
  have h := List.all_eq_true.mp TwP.no_fixed s hs
  rw [Bool.not_eq_true'] at h
  exact h
theorem fxs_len : ∀ s ∈ fxs, s.length ≤ 20 := by decide
theorem rep_one (k c : Nat) : (List.replicate k [c]).flatten = List.replicate k c := by
  induction k with
  | zero => rfl
  | succ k ih => rw [List.replicate_succ, List.flatten_cons, ih, List.replicate_succ]; rfl
theorem rep_len (k : Nat) (w : Tx) : (List.replicate k w).flatten.length = k * w.length := by
  induction k with
  | zero => simp
  | succ k ih => rw [List.replicate_succ, List.flatten_cons, List.length_append, ih, Nat.succ_mul, Nat.add_comm]
def spRefused : Sp := fun vs H Q _ => ∃ (dr : Addr) (t : Tr) (n : Tx), vs = [.ref dr, sV (TwP.wr t), sV n] ∧ DrAt H dr ∧ LF t ∧ TwP.isName n = true ∧ ∀ (m : Tx) H', Dr dr H H' → m.length ≤ 20000 → TwP.reads m = false → Q (sV m) H'
section
variable {P : Program} {w : World} {K : PySem.W.Frag} {mg : Str → Option Value} {base : Heap}
theorem df_Refused (T : Fc K mg) : Df P w K mg base CX0 2 (He.ga K "_law_refused_text") ["_law_draw", "_law_text_here", "_law_name_here"] spRefused := by
  refine df0 T.e__law_refused_text sc__law_refused_text (fun vs H Q E h => ?_) (fun cdv A outer s H vs Q E hr h => ⟨_,
    pss_cons (ps_set (i := 3) sc__law_refused_text.nd rfl (.inl rfl) (pe_df (df_Take2 T) T.g__law_take hr pass0 (pa_cons (pv 0) (pa_cons pe_int pa_nil))))
    (pss_cons (ps_set (i := 4) sc__law_refused_text.nd rfl (.inl rfl) (pe_op op_add pe_int (pe_df (df_Take2 T) T.g__law_take hr pass0 (pa_cons (pv 0) (pa_cons pe_int pa_nil)))))
    (pss_cons (ps_if (pt_cmpR op_lt (pv 3) pe_int (nomark _)) (pss_one (ps_ret (pe_ix ix_list (pe_lst (pa_cons (pe_op op_catS (pe_op op_catS pe_str (pv 1)) pe_str) (pa_cons (pe_op op_catS pe_str (pv 1)) (pa_cons (pe_op op_catS (pv 1) pe_str) (pa_cons (pe_op op_catS (pv 1) pe_str) pa_nil))))) (pv 3) (fun _ _ => rfl)))) pss_nil)
    (pss_cons (ps_if (pt_cmpR op_eq (pv 3) pe_int (nomark _)) (pss_one (ps_ret (pe_op op_catS (pe_op op_catS (pe_op op_repS pe_str (pv 4)) (pv 1)) (pe_op op_repS pe_str (pv 4))))) pss_nil)
    (pss_cons (ps_if (pt_cmpR op_eq (pv 3) pe_int (nomark _)) (pss_one (ps_ret (pe_op op_catS (pe_op op_repS (pe_ix ix_list (pe_lst (pa_cons pe_str (pa_cons pe_str pa_nil))) (pe_df (df_Take2 T) T.g__law_take hr pass0 (pa_cons (pv 0) (pa_cons pe_int pa_nil))) (fun _ _ => rfl)) (pv 4)) (pv 1)))) pss_nil)
    (pss_cons (ps_if (pt_cmpR op_eq (pv 3) pe_int (nomark _)) (pss_one (ps_ret (pe_op op_repS pe_str (pv 4)))) pss_nil)
    (pss_cons (ps_if (pt_cmpR op_eq (pv 3) pe_int (nomark _)) (pss_one (ps_ret (pe_op op_catS (pv 2) (pe_ix ix_list (pe_lst (pa_cons pe_str (pa_cons pe_str (pa_cons pe_str (pa_cons pe_str (pa_cons pe_str (pa_cons pe_str (pa_cons pe_str (pa_cons pe_str (pa_cons pe_str (pa_cons pe_str pa_nil))))))))))) (pe_df (df_Take2 T) T.g__law_take hr pass0 (pa_cons (pv 0) (pa_cons pe_int pa_nil))) (fun _ _ => rfl))))) pss_nil)
    (pss_cons (ps_if (pt_cmpR op_eq (pv 3) pe_int (nomark _)) (pss_one (ps_ret (pe_op op_catS (pe_op op_catS (pv 2) pe_str) (pe_op op_repS pe_str (pe_op op_add pe_int (pe_df (df_Take2 T) T.g__law_take hr pass0 (pa_cons (pv 0) (pa_cons pe_int pa_nil)))))))) pss_nil)
    (pss_cons (ps_if (pt_cmpR op_eq (pv 3) pe_int (nomark _)) (pss_one (ps_ret (pe_ix ix_list (pe_lst (pa_cons pe_str (pa_cons pe_str (pa_cons pe_str (pa_cons pe_str (pa_cons pe_str (pa_cons pe_str (pa_cons pe_str (pa_cons pe_str (pa_cons pe_str (pa_cons pe_str pa_nil))))))))))) (pe_df (df_Take2 T) T.g__law_take hr pass0 (pa_cons (pv 0) (pa_cons pe_int pa_nil))) (fun _ _ => rfl)))) pss_nil)
    (pss_cons (ps_if (pt_cmpR op_eq (pv 3) pe_int (nomark _)) (pss_one (ps_ret (pe_ix ix_list (pe_lst (pa_cons (pe_op op_catS pe_str (pv 1)) (pa_cons (pe_op op_catS (pv 1) pe_str) (pa_cons (pe_op op_catS (pv 1) pe_str) pa_nil)))) (pe_df (df_Take2 T) T.g__law_take hr pass0 (pa_cons (pv 0) (pa_cons pe_int pa_nil))) (fun _ _ => rfl)))) pss_nil)
    (pss_one (ps_ret (pe_op op_catS (pv 1) pe_str)))))))))))), ?_⟩)
  · obtain ⟨_, _, _, rfl, _⟩ := h
    rfl
  obtain ⟨dr, t, n, rfl, D, ⟨hg, hlen, hlv, hnt⟩, hn, q⟩ := h
  have hnt : TwP.nat t ≤ 24 := by omega
  have hlv : TwP.lev t ≤ 11 := by omega
  have hnl := TwP.name_len hn
  have e1 : ∀ (a : Tx) (c : Nat), (a ++ [c]).length = a.length + 1 := fun a c => by rw [List.length_append]; rfl
  refine ⟨_, rfl, dr, _, rfl, D, by decide, by decide, fun ch H1 d1 h0 h1 => ?_⟩
  refine ⟨_, rfl, dr, _, rfl, d1.2, by decide, by decide, fun d H2 d2 g0 g1 => ⟨_, _, rfl, rfl, ?_⟩⟩
  have dd := d1.trans d2
  obtain ⟨k, hk, hk1, hk2⟩ : ∃ k : Nat, (30 : Int) + d = (k : Int) ∧ 24 ≤ k ∧ k ≤ 1500 := ⟨(30 + d).toNat, by omega, by omega, by omega⟩
  refine ⟨_, rfl, _, _, rfl, rfl, _, rfl, ?_⟩
  refine if_dec (fun hc => ?_) fun hc => ?_
  · refine ⟨_, rfl, [40], TwP.wr t, rfl, rfl, (by simp only [List.length_append, List.length_cons, List.length_nil]; omega), [40] ++ TwP.wr t, [41], rfl, rfl, (by simp only [List.length_append, List.length_cons, List.length_nil]; omega), _, rfl, [32], TwP.wr t, rfl, rfl, (by simp only [List.length_append, List.length_cons, List.length_nil]; omega), _, rfl, TwP.wr t, [32], rfl, rfl, (by simp only [List.length_append, List.length_cons, List.length_nil]; omega), _, rfl, TwP.wr t, [10], rfl, rfl, (by simp only [List.length_append, List.length_cons, List.length_nil]; omega), by show 4 ≤ sizeLine; decide, fun p hp => ?_⟩
    have de := dd.same (same_new hp (.lst [sV (([40] ++ TwP.wr t) ++ [41]), sV ([32] ++ TwP.wr t), sV (TwP.wr t ++ [32]), sV (TwP.wr t ++ [10])]))
    rcases (show ch = 0 ∨ ch = 1 ∨ ch = 2 ∨ ch = 3 by omega) with rfl | rfl | rfl | rfl
    · exact ⟨_, rfl, p, _, _, _, rfl, rfl, SqL.of upd_same, atI_nat (j := 0) rfl, q _ _ de (by simp only [List.length_append, List.length_cons, List.length_nil]; omega) (TwP.no_par hg hnt hlv)⟩
    · exact ⟨_, rfl, p, _, _, _, rfl, rfl, SqL.of upd_same, atI_nat (j := 1) rfl, q _ _ de (by simp only [List.length_append, List.length_cons, List.length_nil]; omega) (TwP.no_pre hg hnt hlv)⟩
    · exact ⟨_, rfl, p, _, _, _, rfl, rfl, SqL.of upd_same, atI_nat (j := 2) rfl, q _ _ de (by simp only [List.length_append, List.length_cons, List.length_nil]; omega) (TwP.no_post hg hnt hlv)⟩
    · exact ⟨_, rfl, p, _, _, _, rfl, rfl, SqL.of upd_same, atI_nat (j := 3) rfl, q _ _ de (by simp only [List.length_append, List.length_cons, List.length_nil]; omega) (TwP.no_line hg)⟩
  refine ⟨_, rfl, rfl, _, rfl, if_int (fun _ => ?_) fun hne => ?_⟩
  · exact ⟨_, rfl, [40], k, rfl, congrArg V.int hk, by decide, by decide, by omega, by omega, _, rfl, _, TwP.wr t, rfl, rfl, (by simp only [List.length_append, rep_len, List.length_cons, List.length_nil]; omega), _, rfl, [41], k, rfl, congrArg V.int hk, by decide, by decide, by omega, by omega, _, _, rfl, rfl, (by simp only [List.length_append, rep_len, List.length_cons, List.length_nil]; omega), q _ _ dd (by simp only [List.length_append, rep_len, List.length_cons, List.length_nil]; omega) (by rw [List.append_assoc]; exact TwP.no_deepPar hk1 _)⟩
  refine ⟨_, rfl, rfl, _, rfl, if_int (fun _ => ?_) fun hne => ?_⟩
  · refine ⟨by show 2 ≤ sizeLine; decide, fun p hp => ⟨_, rfl, dr, _, rfl, dd.2.same (same_new hp (.lst (nots.map sV))), by decide, by decide, fun e H3 d3 k0 k1 => ?_⟩⟩
    have dx := (dd.same (same_new hp (.lst (nots.map sV)))).trans d3
    have hw := Dr.get (dd.2.same (same_new hp (.lst (nots.map sV)))) d3 upd_same (notDr_strs nots)
    rcases (show e = 0 ∨ e = 1 by omega) with rfl | rfl
    · exact ⟨p, _, _, _, rfl, rfl, SqL.of hw, atI_nat (j := 0) rfl, _, rfl, [110, 111, 116, 32], k, rfl, congrArg V.int hk, by decide, by decide, by omega, by omega, _, rfl, _, TwP.wr t, rfl, rfl, (by simp only [List.length_append, rep_len, List.length_cons, List.length_nil]; omega), q _ _ dx (by simp only [List.length_append, rep_len, List.length_cons, List.length_nil]; omega) (TwP.no_deepNot hk1 _)⟩
    · exact ⟨p, _, _, _, rfl, rfl, SqL.of hw, atI_nat (j := 1) rfl, _, rfl, [115, 117, 114, 101, 32], k, rfl, congrArg V.int hk, by decide, by decide, by omega, by omega, _, rfl, _, TwP.wr t, rfl, rfl, (by simp only [List.length_append, rep_len, List.length_cons, List.length_nil]; omega), q _ _ dx (by simp only [List.length_append, rep_len, List.length_cons, List.length_nil]; omega) (TwP.no_deepSure hk1 _)⟩
  refine ⟨_, rfl, rfl, _, rfl, if_int (fun _ => ?_) fun hne => ?_⟩
  · exact ⟨_, rfl, [40], k, rfl, congrArg V.int hk, by decide, by decide, by omega, by omega, q _ _ dd (by simp only [List.length_append, rep_len, List.length_cons, List.length_nil]; omega) (by have z := TwP.no_deepPar hk1 []; rw [List.append_nil] at z; exact z)⟩
  refine ⟨_, rfl, rfl, _, rfl, if_int (fun _ => ?_) fun hne => ?_⟩
  · refine ⟨_, rfl, by show 10 ≤ sizeLine; decide, fun p hp => ⟨_, rfl, dr, _, rfl, dd.2.same (same_new hp (.lst (ncs.map sV))), by decide, by decide, fun e H3 d3 k0 k1 => ?_⟩⟩
    have dx := (dd.same (same_new hp (.lst (ncs.map sV)))).trans d3
    have hw := Dr.get (dd.2.same (same_new hp (.lst (ncs.map sV)))) d3 upd_same (notDr_strs ncs)
    obtain ⟨m, rfl⟩ := Int.eq_ofNat_of_zero_le k0
    have hm : m < ncs.length := by show m < 10; omega
    have hx : (ncs.map sV)[m]? = some (sV ncs[m]) := by rw [List.getElem?_map, List.getElem?_eq_getElem hm]; rfl
    have hi := List.getElem_mem hm
    have hl2 := ncs_len _ hi
    exact ⟨p, _, _, _, rfl, rfl, SqL.of hw, atI_nat hx, n, ncs[m], rfl, rfl, by omega, q _ _ dx (by rw [List.length_append]; omega) (ncs_no hn _ hi)⟩
  refine ⟨_, rfl, rfl, _, rfl, if_int (fun _ => ?_) fun hne => ?_⟩
  · refine ⟨_, rfl, n, [32, 60, 32], rfl, rfl, (by simp only [List.length_append, List.length_cons, List.length_nil]; omega), _, rfl, dr, _, rfl, dd.2, by decide, by decide, fun e H3 d3 k0 k1 => ⟨_, _, rfl, rfl, ?_⟩⟩
    obtain ⟨k', hk', hk3, hk4⟩ : ∃ k : Nat, (1001 : Int) + e = (k : Int) ∧ 1000 < k ∧ k ≤ 7001 := ⟨(1001 + e).toNat, by omega, by omega, by omega⟩
    exact ⟨[57], k', rfl, congrArg V.int hk', by decide, by decide, by omega, by omega, n ++ [32, 60, 32], _, rfl, rfl, (by simp only [List.length_append, rep_len, List.length_cons, List.length_nil]; omega), q _ _ (dd.trans d3) (by simp only [List.length_append, rep_len, List.length_cons, List.length_nil]; omega) (by rw [List.append_assoc, rep_one]; exact TwP.no_nines hn hk3)⟩
  refine ⟨_, rfl, rfl, _, rfl, if_int (fun _ => ?_) fun hne => ?_⟩
  · refine ⟨by show 10 ≤ sizeLine; decide, fun p hp => ⟨_, rfl, dr, _, rfl, dd.2.same (same_new hp (.lst (fxs.map sV))), by decide, by decide, fun e H3 d3 k0 k1 => ?_⟩⟩
    have dx := (dd.same (same_new hp (.lst (fxs.map sV)))).trans d3
    have hw := Dr.get (dd.2.same (same_new hp (.lst (fxs.map sV)))) d3 upd_same (notDr_strs fxs)
    obtain ⟨m, rfl⟩ := Int.eq_ofNat_of_zero_le k0
    have hm : m < fxs.length := by show m < 10; omega
    have hx : (fxs.map sV)[m]? = some (sV fxs[m]) := by rw [List.getElem?_map, List.getElem?_eq_getElem hm]; rfl
    have hi := List.getElem_mem hm
    have hl2 := fxs_len _ hi
    exact ⟨p, _, _, _, rfl, rfl, SqL.of hw, atI_nat hx, q _ _ dx (by omega) (fxs_no _ hi)⟩
  refine ⟨_, rfl, rfl, _, rfl, if_int (fun _ => ?_) fun hne => ?_⟩
  · refine ⟨_, rfl, [40], TwP.wr t, rfl, rfl, (by simp only [List.length_append, List.length_cons, List.length_nil]; omega), _, rfl, TwP.wr t, [41], rfl, rfl, (by simp only [List.length_append, List.length_cons, List.length_nil]; omega), _, rfl, TwP.wr t, [32, 111, 114], rfl, rfl, (by simp only [List.length_append, List.length_cons, List.length_nil]; omega), by show 3 ≤ sizeLine; decide, fun p hp => ?_⟩
    have s0 := same_new hp (.lst ([[40] ++ TwP.wr t, TwP.wr t ++ [41], TwP.wr t ++ [32, 111, 114]].map sV))
    refine ⟨_, rfl, dr, _, rfl, dd.2.same s0, by decide, by decide, fun e H3 d3 k0 k1 => ?_⟩
    have dx := (dd.same s0).trans d3
    have hw := Dr.get (dd.2.same s0) d3 upd_same (notDr_strs [[40] ++ TwP.wr t, TwP.wr t ++ [41], TwP.wr t ++ [32, 111, 114]])
    rcases (show e = 0 ∨ e = 1 ∨ e = 2 by omega) with rfl | rfl | rfl
    · exact ⟨p, _, _, _, rfl, rfl, SqL.of hw, atI_nat (j := 0) rfl, q _ _ dx (by simp only [List.length_append, List.length_cons, List.length_nil]; omega) (TwP.no_open hg hnt hlv)⟩
    · exact ⟨p, _, _, _, rfl, rfl, SqL.of hw, atI_nat (j := 1) rfl, q _ _ dx (by simp only [List.length_append, List.length_cons, List.length_nil]; omega) (TwP.no_close hg hnt hlv)⟩
    · exact ⟨p, _, _, _, rfl, rfl, SqL.of hw, atI_nat (j := 2) rfl, q _ _ dx (by simp only [List.length_append, List.length_cons, List.length_nil]; omega) (TwP.no_or hg hnt hlv)⟩
  exact ⟨_, rfl, TwP.wr t, [32, 97, 110, 100], rfl, rfl, (by simp only [List.length_append, List.length_cons, List.length_nil]; omega), q _ _ dd (by simp only [List.length_append, List.length_cons, List.length_nil]; omega) (TwP.no_and hg hnt hlv)⟩
end
end Tw
end

section
set_option Elab.async false
set_option linter.all false
set_option maxRecDepth 100000
set_option maxHeartbeats 8000000
/-! The law's own writing. -/
namespace Tw
open PySem PySem.Spec PyProof.Rows L2
open TwP (Tx Val)
def spLWA : Sp := fun vs H Q _ => ∃ (p : Addr) (t : Tr), vs = [.ref p] ∧ FormAt H t p ∧ subs t = [] ∧ TwP.Fine 20000 t ∧ (TwP.wr t).length ≤ 16000000 ∧ ∀ H', Same H H' → Q (sV (TwP.wr t)) H'
def spLW (n : Nat) : Sp := fun vs H Q _ => ∃ (p : Addr) (t : Tr), vs = [.ref p] ∧ FormAt H t p ∧ TwP.lev t < n ∧ TwP.Fine 20000 t ∧ (TwP.wr t).length ≤ 16000000 ∧ ∀ H', Same H H' → Q (sV (TwP.wr t)) H'
theorem FormAt.head {H : Hp} : ∀ {t : Tr} {p : Addr}, FormAt H t p → ∃ xs, H p = some (.tup (sV (kindT t) :: xs))
  | .cmp _ _ _, _, h => ⟨_, h⟩
  | .agn _ _ _ _, _, h => ⟨_, h⟩
  | .amg _ _, _, h => by
    obtain ⟨l, h, _⟩ := h
    exact ⟨_, h⟩
  | .beg _ _, _, h => ⟨_, h⟩
  | .emp _, _, h => ⟨_, h⟩
  | .alw, _, h => ⟨_, h⟩
  | .nev, _, h => ⟨_, h⟩
  | .and _ _, _, h => by
    obtain ⟨_, _, h, _⟩ := h
    exact ⟨_, h⟩
  | .or _ _, _, h => by
    obtain ⟨_, _, h, _⟩ := h
    exact ⟨_, h⟩
  | .not _, _, h => by
    obtain ⟨_, h, _⟩ := h
    exact ⟨_, h⟩
  | .sure _, _, h => by
    obtain ⟨_, h, _⟩ := h
    exact ⟨_, h⟩
theorem k_ao1 {x : Tr} (h : kindT x = TwP.kAnd) : TwP.isAO x = true := by
  rw [← has_ao, h]
  decide
theorem k_ao2 {x : Tr} (h : kindT x = TwP.kOr) : TwP.isAO x = true := by
  rw [← has_ao, h]
  decide
theorem k_ao3 {x : Tr} (h : kindT x ≠ TwP.kAnd) (h2 : kindT x ≠ TwP.kOr) : TwP.isAO x = false := by
  rw [← has_ao, Bool.eq_false_iff]
  intro hc
  rcases List.mem_cons.mp (List.contains_iff_mem.mp hc) with e | e
  · exact h e
  · exact h2 (List.mem_singleton.mp e)
theorem k_o1 {x : Tr} (h : kindT x = TwP.kOr) : TwP.isO x = true := by
  rw [← has_o, h]
  decide
theorem k_o2 {x : Tr} (h : kindT x ≠ TwP.kOr) : TwP.isO x = false := by
  rw [← has_o, Bool.eq_false_iff]
  intro hc
  exact h (List.mem_singleton.mp (List.contains_iff_mem.mp hc))
section
variable {P : Program} {w : World} {K : PySem.W.Frag} {mg : Str → Option Value} {base : Heap}
theorem df_LWV (T : Fc K mg) : Df P w K mg base CX0 1 (He.ga K "_law_written_value") ["_law_value_here"] spWV := by
  refine df0 T.e__law_written_value sc__law_written_value (fun vs H Q E h => ?_) (fun cdv A outer s H vs Q E hr h => ⟨_,
    pss_cons (ps_if (pt_not (pt_val (pe_callB call_isi rfl T.f_isinstance bi_isi (pa_cons (pv 0) (pa_cons (pe_tyN T.f_str bi_str) pa_nil))))) (pss_one (ps_ret (pe_callTy (call_strD rfl T.ex.nd) rfl T.f_str bi_str (pa_cons (pv 0) pa_nil)))) pss_nil)
    (pss_cons (ps_set (i := 1) sc__law_written_value.nd rfl (.inl rfl) pe_str)
    (pss_cons (ps_for PassesOwn.never rfl (pi_str (pv 0)) (pg_name (i := 2) sc__law_written_value.nd rfl (.inl rfl))
      (pss_cons (ps_if (PW.pt (pw_or (pt_cmpR op_eq (pv 2) pe_str (nomark _)) (pw_or1 (pt_cmpR op_eq (pv 2) pe_str (nomark _))))) (pss_one (ps_set (i := 1) sc__law_written_value.nd rfl (.inl rfl) (pe_op op_catS (pv 1) pe_str))) pss_nil)
      (pss_one (ps_set (i := 1) sc__law_written_value.nd rfl (.inl rfl) (pe_op op_catS (pv 1) (pv 2))))))
    (pss_one (ps_ret (pe_op op_catS (pe_op op_catS pe_str (pv 1)) pe_str))))), ?_⟩)
  · obtain ⟨_, rfl, _⟩ := h
    rfl
  obtain ⟨v, rfl, hv, q⟩ := h
  cases v with
  | num i =>
    refine ⟨_, rfl, _, _, _, _, false, rfl, .ty _, isi_int, kit_ty (by decide +kernel), _, rfl, iteT ?_⟩
    exact ⟨_, rfl, i, rfl, TwP.small_lt hv, q⟩
  | txt l =>
    have hl : l.length ≤ 20000 := hv
    refine ⟨_, rfl, _, _, _, _, true, rfl, .ty _, isi_str, kit_ty (by decide +kernel), _, rfl, iteF ?_⟩
    refine ⟨_, rfl, _, rfl, for_str (l := l) (fun i σ H' => H' = H ∧ ∃ y, σ = [some (sV l), some (sV (TwP.esc (l.take i))), y]) ⟨rfl, none, rfl⟩ ?_ ?_⟩
    · rintro i c σ H' hi ⟨rfl, y, rfl⟩
      have h1 := esc_le l i
      try dsimp only [gName, tNext]
      refine cut_seq (t1 := tIfS _ _ _) (fun σ' H2 => H' = H2 ∧ σ' = [some (sV l), some (sV (TwP.esc (l.take i) ++ (if c = 34 ∨ c = 92 then [92] else []))), some (sV [c])]) ?_ (fun fin => ?_)
      · rintro _ _ ⟨rfl, rfl⟩
        refine ⟨_, rfl, _, rfl, _, [c], rfl, rfl, ?_, rfl, some (sV [c]), ?_⟩
        · split <;> (simp only [List.length_append, List.length_cons, List.length_nil]; omega)
        · rw [take_snoc hi, esc_snoc]
          by_cases hc : c = 34 ∨ c = 92
          · rw [if_pos hc, if_pos hc, List.append_assoc]
            rfl
          · rw [if_neg hc, if_neg hc, List.append_nil]
            rfl
      · have yes : ∀ hc : c = 34 ∨ c = 92, tAsg (tOp rCatS (tVar 1) (tC (.str (SX.S [92])))) (gName 1) { nx := fun σ' H2 => H' = H2 ∧ σ' = [some (sV l), some (sV (TwP.esc (l.take i) ++ (if c = 34 ∨ c = 92 then [92] else []))), some (sV [c])], rt := Q } [some (sV l), some (sV (TwP.esc (l.take i))), some (sV [c])] H' := fun hc => by
          refine ⟨_, rfl, _, [92], rfl, rfl, by simp only [List.length_cons, List.length_nil]; omega, rfl, ?_⟩
          rw [if_pos hc]
          rfl
        refine ⟨_, rfl, rfl, _, rfl, ?_⟩
        refine if_S (a := [c]) (b := [34]) (fun h => ?_) fun h => ⟨_, rfl, rfl, _, rfl, if_S (a := [c]) (b := [92]) (fun h' => ?_) fun h' => ?_⟩
        · have hc : c = 34 := (List.cons.inj h).1
          refine iteT ⟨_, rfl, _, [92], rfl, rfl, by simp only [List.length_cons, List.length_nil]; omega, fin _ _ ⟨rfl, ?_⟩⟩
          rw [if_pos (.inl hc)]
          rfl
        · have hc : c = 92 := (List.cons.inj h').1
          refine ⟨_, rfl, _, [92], rfl, rfl, by simp only [List.length_cons, List.length_nil]; omega, fin _ _ ⟨rfl, ?_⟩⟩
          rw [if_pos (.inr hc)]
          rfl
        · refine fin _ _ ⟨rfl, ?_⟩
          rw [if_neg (fun z => z.elim (fun z => h (by rw [z])) fun z => h' (by rw [z])), List.append_nil]
          rfl
    · rintro σ H' ⟨rfl, y, rfl⟩
      rw [List.take_length]
      have h1 := TwP.esc_len l
      exact ⟨_, rfl, [34], _, rfl, rfl, by rw [List.length_singleton]; omega, _, [34], rfl, rfl, by rw [List.length_append, List.length_singleton]; omega, q⟩
theorem df_LWA (T : Fc K mg) : Df P w K mg base CX0 2 (He.ga K "_law_written_atom") ["_law_form_here"] spLWA := by
  refine df0 T.e__law_written_atom sc__law_written_atom (fun vs H Q E h => ?_) (fun cdv A outer s H vs Q E hr h => ⟨_,
    pss_cons (ps_set (i := 1) sc__law_written_atom.nd rfl (.inl rfl) (pe_ix ix_tup (pv 0) pe_int (fun _ _ => rfl)))
    (pss_cons (ps_if (PW.pt (pw_or (pt_cmpR op_eq (pv 1) pe_str (nomark _)) (pw_or1 (pt_cmpR op_eq (pv 1) pe_str (nomark _))))) (pss_one (ps_ret (pv 1))) pss_nil)
    (pss_cons (ps_if (pt_cmpR op_eq (pv 1) pe_str (nomark _)) (pss_one (ps_ret (pe_op op_catS (pe_ix ix_tup (pv 0) pe_int (fun _ _ => rfl)) pe_str))) pss_nil)
    (pss_cons (ps_if (pt_cmpR op_eq (pv 1) pe_str (nomark _)) (pss_one (ps_ret (pe_op op_catS (pe_op op_catS (pe_op op_catS (pe_ix ix_tup (pv 0) pe_int (fun _ _ => rfl)) pe_str)
      (pe_join pe_str (pe_lc (own := [("_law_value_here", 3)]) (g := gName 3) (tt := tYes) (te := tCall spWV [] E0 (tCons (tVar 3) tNil)) rfl sc__law_written_atom.nd (pi_list (pe_ix ix_tup (pv 0) pe_int (fun _ _ => rfl)))
            (blkOk_by (N := ["_law_form_here", "_law_word", "_law_text_here", "_law_value_here"]) (sc := defScope s__law_written_atom) (by decide +kernel))
            (fun _ _ _ _ _ => pg_name (i := 3) sc__law_written_atom.nd rfl (Or.inl rfl)) (fun _ _ _ _ _ => pts_nil) (fun _ _ _ _ _ => by exact pe_df (df_LWV T) T.g__law_written_value hr pass0 (pa_cons (pv 3) pa_nil))))) pe_str))) pss_nil)
    (pss_cons (ps_if (pt_cmpR op_eq (pv 1) pe_str (nomark _)) (pss_one (ps_ret (pe_op op_catS (pe_op op_catS (pe_ix ix_tup (pv 0) pe_int (fun _ _ => rfl)) pe_str) (pe_df (df_LWV T) T.g__law_written_value hr pass0 (pa_cons (pe_ix ix_tup (pv 0) pe_int (fun _ _ => rfl)) pa_nil))))) pss_nil)
    (pss_cons (ps_if (pt_cmpR op_eq (pv 1) pe_str (nomark _)) (pss_one (ps_ret (pe_op op_catS (pe_op op_catS (pe_op op_catS (pe_op op_catS (pe_ix ix_tup (pv 0) pe_int (fun _ _ => rfl)) pe_str) (pe_ix ix_tup (pv 0) pe_int (fun _ _ => rfl))) pe_str) (pe_df (df_LWV T) T.g__law_written_value hr pass0 (pa_cons (pe_ix ix_tup (pv 0) pe_int (fun _ _ => rfl)) pa_nil))))) pss_nil)
    (pss_cons (ps_set (i := 2) sc__law_written_atom.nd rfl (.inl rfl) (pe_op op_catS (pe_op op_catS (pe_op op_catS (pe_op op_catS (pe_ix ix_tup (pv 0) pe_int (fun _ _ => rfl)) pe_str) (pe_ix ix_tup (pv 0) pe_int (fun _ _ => rfl))) pe_str) (pe_ix ix_tup (pv 0) pe_int (fun _ _ => rfl))))
    (pss_cons (ps_if (pt_cmpR op_gt (pe_ix ix_tup (pv 0) pe_int (fun _ _ => rfl)) pe_int (nomark _)) (pss_one (ps_ret (pe_op op_catS (pe_op op_catS (pv 2) pe_str) (pe_callTy (call_strD rfl T.ex.nd) rfl T.f_str bi_str (pa_cons (pe_ix ix_tup (pv 0) pe_int (fun _ _ => rfl)) pa_nil))))) pss_nil)
    (pss_cons (ps_if (pt_cmpR op_lt (pe_ix ix_tup (pv 0) pe_int (fun _ _ => rfl)) pe_int (nomark _)) (pss_one (ps_ret (pe_op op_catS (pe_op op_catS (pv 2) pe_str) (pe_callTy (call_strD rfl T.ex.nd) rfl T.f_str bi_str (pa_cons (pe_op op_sub pe_int (pe_ix ix_tup (pv 0) pe_int (fun _ _ => rfl))) pa_nil))))) pss_nil)
    (pss_one (ps_ret (pv 2))))))))))), ?_⟩)
  · obtain ⟨_, _, rfl, _⟩ := h
    rfl
  obtain ⟨p, t, rfl, ht, hsub, hf, hw, q⟩ := h
  have N : ∀ {a b : Tx} {A B : Prop}, a ≠ b → B → if decide (V.str (SX.S a) = V.str (SX.S b)) = true then A else B := fun h hb => if_S (fun e => absurd e h) fun _ => hb
  cases t with
  | cmp c op v =>
    have ht : H p = some (.tup [sV kCompare, sV c, sV op, vV v]) := ht
    obtain ⟨f1, f2, f3⟩ := hf
    have hw' := hw
    simp only [TwP.wr, List.length_append, List.length_cons] at hw'
    refine ⟨_, rfl, p, _, _, _, rfl, rfl, SqT.of ht, atI_nat (j := 0) rfl, _, rfl, rfl, _, rfl, ifFb rfl ⟨_, rfl, rfl, _, rfl, ifFb rfl ?_⟩⟩
    refine ⟨_, rfl, rfl, _, rfl, ifFb rfl ⟨_, rfl, rfl, _, rfl, ifFb rfl ⟨_, rfl, rfl, _, rfl, ifFb rfl ⟨_, rfl, rfl, _, rfl, ifTb rfl ?_⟩⟩⟩⟩
    refine ⟨_, rfl, p, _, _, _, rfl, rfl, SqT.of ht, atI_nat (j := 1) rfl, _, [32], rfl, rfl, (by simp only [List.length_append, List.length_cons, List.length_nil]; omega), _, rfl, p, _, _, _, rfl, rfl, SqT.of ht, atI_nat (j := 2) rfl, _, _, rfl, rfl, (by simp only [List.length_append, List.length_cons, List.length_nil]; omega), _, [32], rfl, rfl, (by simp only [List.length_append, List.length_cons, List.length_nil]; omega), _, rfl, p, _, _, _, rfl, rfl, SqT.of ht, atI_nat (j := 3) rfl, v, rfl, f3, _, _, rfl, rfl, (by simp only [List.length_append, List.length_cons, List.length_nil]; omega), ?_⟩
    have e : (((c ++ [32]) ++ op) ++ [32]) ++ TwP.wrV v = TwP.wr (.cmp c op v) := by simp [TwP.wr]
    rw [e]
    exact q H (Same.refl H)
  | amg c vs =>
    obtain ⟨l, ht, _, hq⟩ := ht
    obtain ⟨f1, f2, f3⟩ := hf
    have hw' := hw
    simp only [TwP.wr, List.length_append, List.length_cons, List.length_nil] at hw'
    refine ⟨_, rfl, p, _, _, _, rfl, rfl, SqT.of ht, atI_nat (j := 0) rfl, _, rfl, rfl, _, rfl, ifFb rfl ⟨_, rfl, rfl, _, rfl, ifFb rfl ?_⟩⟩
    refine ⟨_, rfl, rfl, _, rfl, ifFb rfl ⟨_, rfl, rfl, _, rfl, ifTb rfl ?_⟩⟩
    refine ⟨_, rfl, p, _, _, _, rfl, rfl, SqT.of ht, atI_nat (j := 1) rfl, _, [32, 105, 110, 32, 40], rfl, rfl, (by simp only [List.length_append, List.length_cons, List.length_nil]; omega), ?_⟩
    refine ⟨⟨_, rfl⟩, _, rfl, p, _, _, _, rfl, rfl, SqT.of ht, atI_nat (j := 2) rfl, l, rfl, ⟨_, SqL.of hq⟩, fun D hD => ?_⟩
    refine it_list (K := K) (a := l) (xs := vs.map vV) (fun i H' => Same H H' ∧ H' D = some (.lst (((vs.take i).map TwP.wrV).map sV))) ⟨same_new hD _, upd_same⟩ (fun i H' _ h => SqL.of (h.1 _ _ hq)) ?_ ?_
    · rintro i y H1 hi ⟨e1, hDl⟩
      obtain ⟨v, hv, rfl⟩ : ∃ v, vs[i]? = some v ∧ y = vV v := by
        rw [List.getElem?_map] at hi
        cases e : vs[i]? with
        | none =>
          rw [e] at hi
          cases hi
        | some v =>
          rw [e] at hi
          exact ⟨v, rfl, (Option.some.inj hi).symm⟩
      refine ⟨rfl, tyes (iteT ⟨_, rfl, v, rfl, f3 v (List.mem_of_getElem? hv), _, hDl, ?_, same_of_keep hD e1 (keepR_upd _), ?_⟩)⟩
      · rw [List.length_map, List.length_map, List.length_take]
        exact lt_line (by omega)
      · rw [upd_same, List.take_succ, hv, List.map_append, List.map_append]
        rfl
    · rintro H1 ⟨e1, hDl⟩
      rw [List.length_map, List.take_length] at hDl
      refine ⟨_, D, (vs.map TwP.wrV).map SX.S, rfl, rfl, .inl (SqL.of (by rw [hDl, List.map_map (f := SX.S)]; rfl)), ?_, ?_⟩
      · have h1 : ((vs.map TwP.wrV).map (fun x => x.length)).sum ≤ vs.length * (2 * 20000 + 1002) := sum_len vs f3
        have h2 : vs.length * (2 * 20000 + 1002) ≤ 8 * (2 * 20000 + 1002) := Nat.mul_le_mul_right _ f2
        rw [SX.lens, List.length_map, List.length_map]
        have h3 : (Str.ofString ", ").length = 2 := rfl
        rw [h3]
        exact Nat.le_trans (Nat.add_le_add_right h1 _) (by omega)
      · have ej : Txt.join (Str.ofString ", ") ((vs.map TwP.wrV).map SX.S) = SX.S (TwP.joinV vs) := by
          have := SX.join_S [44, 32] (vs.map TwP.wrV)
          rw [joinV_L] at this
          exact this
        refine ⟨_, TwP.joinV vs, rfl, congrArg V.str ej, (by simp only [List.length_append, List.length_cons, List.length_nil]; omega), _, [41], rfl, rfl, (by simp only [List.length_append, List.length_cons, List.length_nil]; omega), ?_⟩
        have e : ((c ++ [32, 105, 110, 32, 40]) ++ TwP.joinV vs) ++ [41] = TwP.wr (.amg c vs) := by simp [TwP.wr]
        rw [e]
        exact q H1 e1
  | beg c l =>
    have ht : H p = some (.tup [sV TwP.kBegins, sV c, sV l]) := ht
    obtain ⟨f1, f2⟩ := hf
    have hw' := hw
    simp only [TwP.wr, List.length_append, List.length_cons, List.length_nil] at hw'
    refine ⟨_, rfl, p, _, _, _, rfl, rfl, SqT.of ht, atI_nat (j := 0) rfl, _, rfl, rfl, _, rfl, ifFb rfl ⟨_, rfl, rfl, _, rfl, ifFb rfl ?_⟩⟩
    refine ⟨_, rfl, rfl, _, rfl, ifFb rfl ⟨_, rfl, rfl, _, rfl, ifFb rfl ⟨_, rfl, rfl, _, rfl, ifTb rfl ?_⟩⟩⟩
    refine ⟨_, rfl, p, _, _, _, rfl, rfl, SqT.of ht, atI_nat (j := 1) rfl, _, [32, 98, 101, 103, 105, 110, 115, 32], rfl, rfl, (by simp only [List.length_append, List.length_cons, List.length_nil]; omega), _, rfl, p, _, _, _, rfl, rfl, SqT.of ht, atI_nat (j := 2) rfl, .txt l, rfl, f2, _, _, rfl, rfl, (by simp only [List.length_append, List.length_cons, List.length_nil]; omega), ?_⟩
    have e : (c ++ [32, 98, 101, 103, 105, 110, 115, 32]) ++ TwP.wrV (.txt l) = TwP.wr (.beg c l) := by simp [TwP.wr]
    rw [e]
    exact q H (Same.refl H)
  | emp c =>
    have ht : H p = some (.tup [sV TwP.kEmpty, sV c]) := ht
    have f1 : c.length ≤ 8 := hf
    refine ⟨_, rfl, p, _, _, _, rfl, rfl, SqT.of ht, atI_nat (j := 0) rfl, _, rfl, rfl, _, rfl, ifFb rfl ⟨_, rfl, rfl, _, rfl, ifFb rfl ?_⟩⟩
    refine ⟨_, rfl, rfl, _, rfl, ifTb rfl ?_⟩
    exact ⟨_, rfl, p, _, _, _, rfl, rfl, SqT.of ht, atI_nat (j := 1) rfl, _, [32, 105, 115, 32, 101, 109, 112, 116, 121], rfl, rfl, (by simp only [List.length_append, List.length_cons, List.length_nil]; omega), q H (Same.refl H)⟩
  | agn c op o m =>
    have ht : H p = some (.tup [sV kAgainst, sV c, sV op, sV o, .int m]) := ht
    obtain ⟨f1, f2, f3, f4⟩ := hf
    have hw' := hw
    simp only [TwP.wr, List.length_append, List.length_cons, List.length_nil] at hw'
    refine ⟨_, rfl, p, _, _, _, rfl, rfl, SqT.of ht, atI_nat (j := 0) rfl, _, rfl, rfl, _, rfl, ifFb rfl ⟨_, rfl, rfl, _, rfl, ifFb rfl ?_⟩⟩
    refine ⟨_, rfl, rfl, _, rfl, ifFb rfl ⟨_, rfl, rfl, _, rfl, ifFb rfl ⟨_, rfl, rfl, _, rfl, ifFb rfl ⟨_, rfl, rfl, _, rfl, ifFb rfl ?_⟩⟩⟩⟩
    refine ⟨_, rfl, p, _, _, _, rfl, rfl, SqT.of ht, atI_nat (j := 1) rfl, _, [32], rfl, rfl, (by simp only [List.length_append, List.length_cons, List.length_nil]; omega), _, rfl, p, _, _, _, rfl, rfl, SqT.of ht, atI_nat (j := 2) rfl, _, _, rfl, rfl, (by simp only [List.length_append, List.length_cons, List.length_nil]; omega), _, [32], rfl, rfl, (by simp only [List.length_append, List.length_cons, List.length_nil]; omega), _, rfl, p, _, _, _, rfl, rfl, SqT.of ht, atI_nat (j := 3) rfl, _, _, rfl, rfl, (by simp only [List.length_append, List.length_cons, List.length_nil]; omega), ?_⟩
    have e : ((((c ++ [32]) ++ op) ++ [32]) ++ o) ++ TwP.wrMore m = TwP.wr (.agn c op o m) := by simp [TwP.wr]
    refine ⟨_, rfl, p, _, _, _, rfl, rfl, SqT.of ht, atI_nat (j := 4) rfl, _, _, rfl, rfl, _, rfl, if_dec (fun hp => ?_) fun hp => ⟨_, rfl, p, _, _, _, rfl, rfl, SqT.of ht, atI_nat (j := 4) rfl, _, _, rfl, rfl, _, rfl, if_dec (fun hn => ?_) fun hn => ?_⟩⟩
    · have hi := TwP.intL_len f4
      have em : TwP.wrMore m = [32, 43, 32] ++ TwP.intL m := by
        unfold TwP.wrMore
        rw [if_neg (by omega), if_pos (by omega)]
      refine ⟨_, rfl, _, [32, 43, 32], rfl, rfl, (by simp only [List.length_append, List.length_cons, List.length_nil]; omega), _, rfl, p, _, _, _, rfl, rfl, SqT.of ht, atI_nat (j := 4) rfl, m, rfl, TwP.small_lt f4, _, TwP.intL m, rfl, rfl, (by simp only [List.length_append, List.length_cons, List.length_nil]; omega), ?_⟩
      rw [em, ← List.append_assoc] at e
      rw [e]
      exact q H (Same.refl H)
    · have f4' : TwP.Small (0 - m).natAbs := by
        rw [Int.zero_sub, Int.natAbs_neg]
        exact f4
      have hi := TwP.intL_len f4'
      have em : TwP.wrMore m = [32, 45, 32] ++ TwP.intL (0 - m) := by
        unfold TwP.wrMore
        rw [if_neg (by omega), if_neg (by omega), Int.zero_sub]
      refine ⟨_, rfl, _, [32, 45, 32], rfl, rfl, (by simp only [List.length_append, List.length_cons, List.length_nil]; omega), _, rfl, p, _, _, _, rfl, rfl, SqT.of ht, atI_nat (j := 4) rfl, _, _, rfl, rfl, 0 - m, rfl, TwP.small_lt f4', _, TwP.intL (0 - m), rfl, rfl, (by simp only [List.length_append, List.length_cons, List.length_nil]; omega), ?_⟩
      rw [em, ← List.append_assoc] at e
      rw [e]
      exact q H (Same.refl H)
    · have em : TwP.wrMore m = [] := by
        unfold TwP.wrMore
        rw [if_pos (by omega)]
      rw [em, List.append_nil] at e
      rw [← e] at q
      exact ⟨_, rfl, q H (Same.refl H)⟩
  | alw =>
    have ht : H p = some (.tup [sV TwP.kAlways]) := ht
    exact ⟨_, rfl, p, _, _, _, rfl, rfl, SqT.of ht, atI_nat (j := 0) rfl, _, rfl, rfl, _, rfl, ifTb rfl (iteT ⟨_, rfl, q H (Same.refl H)⟩)⟩
  | nev =>
    have ht : H p = some (.tup [sV TwP.kNever]) := ht
    exact ⟨_, rfl, p, _, _, _, rfl, rfl, SqT.of ht, atI_nat (j := 0) rfl, _, rfl, rfl, _, rfl, ifFb rfl ⟨_, rfl, rfl, _, rfl, ifTb rfl ⟨_, rfl, q H (Same.refl H)⟩⟩⟩
  | and x y => cases hsub
  | or x y => cases hsub
  | not x => cases hsub
  | sure x => cases hsub
end
end Tw
end

section
set_option Elab.async false
set_option linter.all false
set_option maxRecDepth 100000
set_option maxHeartbeats 8000000
/-! The law's own writing of trees. -/
namespace Tw
open PySem PySem.Spec PyProof.Rows L2
open TwP (Tx Val)
section
variable {P : Program} {w : World} {K : PySem.W.Frag} {mg : Str → Option Value} {base : Heap}
theorem atom_k {t : Tr} (h : subs t = []) : kindT t ≠ TwP.kNot ∧ kindT t ≠ TwP.kSure ∧ kindT t ≠ TwP.kAnd ∧ kindT t ≠ TwP.kOr := by
  cases t with
  | and _ _ => cases h
  | or _ _ => cases h
  | not _ => cases h
  | sure _ => cases h
  | cmp c op v => exact (by decide : kCompare ≠ TwP.kNot ∧ kCompare ≠ TwP.kSure ∧ kCompare ≠ TwP.kAnd ∧ kCompare ≠ TwP.kOr)
  | agn c op o m => exact (by decide : kAgainst ≠ TwP.kNot ∧ kAgainst ≠ TwP.kSure ∧ kAgainst ≠ TwP.kAnd ∧ kAgainst ≠ TwP.kOr)
  | amg c vs => exact (by decide : kAmong ≠ TwP.kNot ∧ kAmong ≠ TwP.kSure ∧ kAmong ≠ TwP.kAnd ∧ kAmong ≠ TwP.kOr)
  | beg c q => exact (by decide : TwP.kBegins ≠ TwP.kNot ∧ TwP.kBegins ≠ TwP.kSure ∧ TwP.kBegins ≠ TwP.kAnd ∧ TwP.kBegins ≠ TwP.kOr)
  | emp c => exact (by decide : TwP.kEmpty ≠ TwP.kNot ∧ TwP.kEmpty ≠ TwP.kSure ∧ TwP.kEmpty ≠ TwP.kAnd ∧ TwP.kEmpty ≠ TwP.kOr)
  | alw => exact (by decide : TwP.kAlways ≠ TwP.kNot ∧ TwP.kAlways ≠ TwP.kSure ∧ TwP.kAlways ≠ TwP.kAnd ∧ TwP.kAlways ≠ TwP.kOr)
  | nev => exact (by decide : TwP.kNever ≠ TwP.kNot ∧ TwP.kNever ≠ TwP.kSure ∧ TwP.kNever ≠ TwP.kAnd ∧ TwP.kNever ≠ TwP.kOr)
theorem df_LW (T : Fc K mg) : ∀ n : Nat, Df P w K mg base CX0 (n + 3) (He.ga K "_law_written") ["_law_form_here"] (spLW n)
  | 0 => df_none T.e__law_written fun vs H Q E h => by
    obtain ⟨_, _, _, _, h, _⟩ := h
    omega
  | n + 1 => by
    have W := df_LW T n
    refine df0 T.e__law_written sc__law_written (fun vs H Q E h => ?_) (fun cdv A outer s H vs Q E hr h => ⟨_,
      pss_cons (ps_set (i := 1) sc__law_written.nd rfl (.inl rfl) (pe_ix ix_tup (pv 0) pe_int (fun _ _ => rfl)))
      (pss_cons (ps_if (PW.pt (pw_or (pt_cmpR op_eq (pv 1) pe_str (nomark _)) (pw_or1 (pt_cmpR op_eq (pv 1) pe_str (nomark _)))))
        (pss_cons (ps_if (PW.pt (pw_or (pt_cmpR op_eq (pe_ix ix_tup (pe_ix ix_tup (pv 0) pe_int (fun _ _ => rfl)) pe_int (fun _ _ => rfl)) pe_str (nomark _)) (pw_or1 (pt_cmpR op_eq (pe_ix ix_tup (pe_ix ix_tup (pv 0) pe_int (fun _ _ => rfl)) pe_int (fun _ _ => rfl)) pe_str (nomark _)))))
            (pss_one (ps_ret (pe_op op_catS (pe_op op_catS (pe_op op_catS (pv 1) pe_str) (pe_df W T.g__law_written hr pass0 (pa_cons (pe_ix ix_tup (pv 0) pe_int (fun _ _ => rfl)) pa_nil))) pe_str))) pss_nil)
          (pss_one (ps_ret (pe_op op_catS (pe_op op_catS (pv 1) pe_str) (pe_df W T.g__law_written hr pass0 (pa_cons (pe_ix ix_tup (pv 0) pe_int (fun _ _ => rfl)) pa_nil)))))) pss_nil)
      (pss_cons (ps_if (PW.pt (pw_and (pt_cmpR op_ne (pv 1) pe_str (nomark _)) (pw_and1 (pt_cmpR op_ne (pv 1) pe_str (nomark _))))) (pss_one (ps_ret (pe_df (df_LWA T) T.g__law_written_atom (hr.mono (by omega)) pass0 (pa_cons (pv 0) pa_nil)))) pss_nil)
      (pss_cons (ps_set (i := 2) sc__law_written.nd rfl (.inl rfl) (pe_df W T.g__law_written hr pass0 (pa_cons (pe_ix ix_tup (pv 0) pe_int (fun _ _ => rfl)) pa_nil)))
      (pss_cons (ps_set (i := 3) sc__law_written.nd rfl (.inl rfl) (pe_df W T.g__law_written hr pass0 (pa_cons (pe_ix ix_tup (pv 0) pe_int (fun _ _ => rfl)) pa_nil)))
      (pss_cons (ps_if (PW.pt (pw_and (pt_cmpR op_eq (pv 1) pe_str (nomark _)) (pw_and1 (pt_cmpR op_eq (pe_ix ix_tup (pe_ix ix_tup (pv 0) pe_int (fun _ _ => rfl)) pe_int (fun _ _ => rfl)) pe_str (nomark _)))))
        (pss_one (ps_set (i := 2) sc__law_written.nd rfl (.inl rfl) (pe_op op_catS (pe_op op_catS pe_str (pv 2)) pe_str))) pss_nil)
      (pss_cons (ps_if (PW.pt (pw_or (pt_cmpR op_eq (pe_ix ix_tup (pe_ix ix_tup (pv 0) pe_int (fun _ _ => rfl)) pe_int (fun _ _ => rfl)) pe_str (nomark _)) (pw_or1 (PW.pt (pw_and (pt_cmpR op_eq (pv 1) pe_str (nomark _)) (pw_and1 (pt_cmpR op_eq (pe_ix ix_tup (pe_ix ix_tup (pv 0) pe_int (fun _ _ => rfl)) pe_int (fun _ _ => rfl)) pe_str (nomark _))))))))
        (pss_one (ps_set (i := 3) sc__law_written.nd rfl (.inl rfl) (pe_op op_catS (pe_op op_catS pe_str (pv 3)) pe_str))) pss_nil)
      (pss_one (ps_ret (pe_op op_catS (pe_op op_catS (pe_op op_catS (pe_op op_catS (pv 2) pe_str) (pv 1)) pe_str) (pv 3)))))))))), ?_⟩)
    · obtain ⟨_, _, rfl, _⟩ := h
      rfl
    obtain ⟨p, t, rfl, ht, hn, hf, hw, q⟩ := h
    by_cases hsub : subs t = []
    · -- an atom
      obtain ⟨n1, n2, n3, n4⟩ := atom_k hsub
      obtain ⟨xs, hp⟩ := ht.head
      refine ⟨_, rfl, p, _, _, _, rfl, rfl, SqT.of hp, atI_nat (j := 0) rfl, ?_⟩
      refine ⟨_, rfl, rfl, _, rfl, if_S (b := TwP.kNot) (fun e => absurd e n1) fun _ => ⟨_, rfl, rfl, _, rfl, if_S (b := TwP.kSure) (fun e => absurd e n2) fun _ => ?_⟩⟩
      refine ⟨_, rfl, rfl, _, rfl, if_nS (b := TwP.kAnd) (fun _ => ⟨_, rfl, rfl, _, rfl, if_nS (b := TwP.kOr) (fun _ => ?_) fun e => absurd e n4⟩) fun e => absurd e n3⟩
      exact ⟨_, rfl, p, t, rfl, ht, hsub, hf, hw, q⟩
    cases t with
    | cmp c op v => exact absurd rfl hsub
    | agn c op o m => exact absurd rfl hsub
    | amg c vs => exact absurd rfl hsub
    | beg c l => exact absurd rfl hsub
    | emp c => exact absurd rfl hsub
    | alw => exact absurd rfl hsub
    | nev => exact absurd rfl hsub
    | not x =>
      have hlv : TwP.lev x + 1 < n + 1 := hn
      have fx : TwP.Fine 20000 x := hf
      have hw' := hw
      simp only [TwP.wr, List.length_append, List.length_cons, List.length_nil] at hw'
      have gx := br_ge (TwP.isAO x) (TwP.wr x)
      have kl : TwP.kNot.length = 3 := rfl
      obtain ⟨px, hp, hx⟩ := ht
      obtain ⟨xs, hpx⟩ := hx.head
      refine ⟨_, rfl, p, _, _, _, rfl, rfl, SqT.of hp, atI_nat (j := 0) rfl, ?_⟩
      refine ⟨_, rfl, rfl, _, rfl, ifTb rfl (iteT ?_)⟩
      have wrapped : TwP.isAO x = true → tRet (tOp rCatS (tOp rCatS (tOp rCatS (tVar 1) (tC (.str (SX.S [32, 40])))) (tCall (spLW n) [] E0 (tCons (tOp (rIxT K) (tVar 0) (tC (.int 1))) tNil))) (tC (.str (SX.S [41])))) { nx := fun _ H' => Q .non H', rt := Q } [some (.ref p), some (sV TwP.kNot), none, none] H := fun hb => by
        have gx' : (TwP.br true (TwP.wr x)).length = (TwP.wr x).length + 2 := by
          show (40 :: (TwP.wr x ++ [41])).length = _
          rw [List.length_cons, List.length_append]
          rfl
        rw [hb] at hw'
        refine ⟨_, rfl, TwP.kNot, [32, 40], rfl, rfl, (by simp only [List.length_append, List.length_cons, List.length_nil]; omega), _, rfl, p, _, _, _, rfl, rfl, SqT.of hp, atI_nat (j := 1) rfl, px, x, rfl, hx, by omega, fx, by omega, fun H1 e1 => ?_⟩
        refine ⟨TwP.kNot ++ [32, 40], TwP.wr x, rfl, rfl, (by simp only [List.length_append, List.length_cons, List.length_nil]; omega), (TwP.kNot ++ [32, 40]) ++ TwP.wr x, [41], rfl, rfl, (by simp only [List.length_append, List.length_cons, List.length_nil]; omega), ?_⟩
        have e : ((TwP.kNot ++ [32, 40]) ++ TwP.wr x) ++ [41] = TwP.wr (.not x) := by simp [TwP.wr, hb, TwP.br]
        rw [e]
        exact q H1 e1
      refine ⟨_, rfl, p, _, _, _, rfl, rfl, SqT.of hp, atI_nat (j := 1) rfl, px, _, _, _, rfl, rfl, SqT.of hpx, atI_nat (j := 0) rfl, rfl, _, rfl, if_S (b := TwP.kAnd) (fun h => iteT (wrapped (k_ao1 h))) fun h => ⟨_, rfl, p, _, _, _, rfl, rfl, SqT.of hp, atI_nat (j := 1) rfl, px, _, _, _, rfl, rfl, SqT.of hpx, atI_nat (j := 0) rfl, rfl, _, rfl, if_S (b := TwP.kOr) (fun h' => wrapped (k_ao2 h')) fun h' => ?_⟩⟩
      have hb := k_ao3 h h'
      refine ⟨_, rfl, TwP.kNot, [32], rfl, rfl, (by simp only [List.length_append, List.length_cons, List.length_nil]; omega), _, rfl, p, _, _, _, rfl, rfl, SqT.of hp, atI_nat (j := 1) rfl, px, x, rfl, hx, by omega, fx, by omega, fun H1 e1 => ?_⟩
      refine ⟨TwP.kNot ++ [32], TwP.wr x, rfl, rfl, (by simp only [List.length_append, List.length_cons, List.length_nil]; omega), ?_⟩
      have e : (TwP.kNot ++ [32]) ++ TwP.wr x = TwP.wr (.not x) := by simp [TwP.wr, hb, TwP.br]
      rw [e]
      exact q H1 e1
    | sure x =>
      have hlv : TwP.lev x + 1 < n + 1 := hn
      have fx : TwP.Fine 20000 x := hf
      have hw' := hw
      simp only [TwP.wr, List.length_append, List.length_cons, List.length_nil] at hw'
      have gx := br_ge (TwP.isAO x) (TwP.wr x)
      have kl : TwP.kSure.length = 4 := rfl
      obtain ⟨px, hp, hx⟩ := ht
      obtain ⟨xs, hpx⟩ := hx.head
      refine ⟨_, rfl, p, _, _, _, rfl, rfl, SqT.of hp, atI_nat (j := 0) rfl, ?_⟩
      refine ⟨_, rfl, rfl, _, rfl, ifFb rfl ⟨_, rfl, rfl, _, rfl, ifTb rfl ?_⟩⟩
      have wrapped : TwP.isAO x = true → tRet (tOp rCatS (tOp rCatS (tOp rCatS (tVar 1) (tC (.str (SX.S [32, 40])))) (tCall (spLW n) [] E0 (tCons (tOp (rIxT K) (tVar 0) (tC (.int 1))) tNil))) (tC (.str (SX.S [41])))) { nx := fun _ H' => Q .non H', rt := Q } [some (.ref p), some (sV TwP.kSure), none, none] H := fun hb => by
        have gx' : (TwP.br true (TwP.wr x)).length = (TwP.wr x).length + 2 := by
          show (40 :: (TwP.wr x ++ [41])).length = _
          rw [List.length_cons, List.length_append]
          rfl
        rw [hb] at hw'
        refine ⟨_, rfl, TwP.kSure, [32, 40], rfl, rfl, (by simp only [List.length_append, List.length_cons, List.length_nil]; omega), _, rfl, p, _, _, _, rfl, rfl, SqT.of hp, atI_nat (j := 1) rfl, px, x, rfl, hx, by omega, fx, by omega, fun H1 e1 => ?_⟩
        refine ⟨TwP.kSure ++ [32, 40], TwP.wr x, rfl, rfl, (by simp only [List.length_append, List.length_cons, List.length_nil]; omega), (TwP.kSure ++ [32, 40]) ++ TwP.wr x, [41], rfl, rfl, (by simp only [List.length_append, List.length_cons, List.length_nil]; omega), ?_⟩
        have e : ((TwP.kSure ++ [32, 40]) ++ TwP.wr x) ++ [41] = TwP.wr (.sure x) := by simp [TwP.wr, hb, TwP.br]
        rw [e]
        exact q H1 e1
      refine ⟨_, rfl, p, _, _, _, rfl, rfl, SqT.of hp, atI_nat (j := 1) rfl, px, _, _, _, rfl, rfl, SqT.of hpx, atI_nat (j := 0) rfl, rfl, _, rfl, if_S (b := TwP.kAnd) (fun h => iteT (wrapped (k_ao1 h))) fun h => ⟨_, rfl, p, _, _, _, rfl, rfl, SqT.of hp, atI_nat (j := 1) rfl, px, _, _, _, rfl, rfl, SqT.of hpx, atI_nat (j := 0) rfl, rfl, _, rfl, if_S (b := TwP.kOr) (fun h' => wrapped (k_ao2 h')) fun h' => ?_⟩⟩
      have hb := k_ao3 h h'
      refine ⟨_, rfl, TwP.kSure, [32], rfl, rfl, (by simp only [List.length_append, List.length_cons, List.length_nil]; omega), _, rfl, p, _, _, _, rfl, rfl, SqT.of hp, atI_nat (j := 1) rfl, px, x, rfl, hx, by omega, fx, by omega, fun H1 e1 => ?_⟩
      refine ⟨TwP.kSure ++ [32], TwP.wr x, rfl, rfl, (by simp only [List.length_append, List.length_cons, List.length_nil]; omega), ?_⟩
      have e : (TwP.kSure ++ [32]) ++ TwP.wr x = TwP.wr (.sure x) := by simp [TwP.wr, hb, TwP.br]
      rw [e]
      exact q H1 e1
    | and x y =>
      have hlv : max (TwP.lev x + 1) (TwP.lev y + 1) < n + 1 := hn
      obtain ⟨fx, fy⟩ := hf
      have hw' := hw
      simp only [TwP.wr, List.length_append, List.length_cons, List.length_nil] at hw'
      have gx := br_ge (TwP.isO x) (TwP.wr x)
      have gy := br_ge (TwP.isAO y) (TwP.wr y)
      have gy2 := br_ge (TwP.isO y) (TwP.wr y)
      obtain ⟨px, py, hp0, hx0, hy0⟩ := ht
      refine ⟨_, rfl, p, _, _, _, rfl, rfl, SqT.of hp0, atI_nat (j := 0) rfl, ?_⟩
      refine ⟨_, rfl, rfl, _, rfl, ifFb rfl ⟨_, rfl, rfl, _, rfl, ifFb rfl ?_⟩⟩
      refine ⟨_, rfl, rfl, _, rfl, ifFb rfl (iteF ?_)⟩
      refine ⟨_, rfl, p, _, _, _, rfl, rfl, SqT.of hp0, atI_nat (j := 1) rfl, px, x, rfl, hx0, by omega, fx, by omega, fun H1 e1 => ?_⟩
      refine ⟨_, rfl, p, _, _, _, rfl, rfl, SqT.of (e1 _ _ hp0), atI_nat (j := 2) rfl, py, y, rfl, hy0.same e1, by omega, fy, by omega, fun H2 e2 => ?_⟩
      have hp := e2 _ _ (e1 _ _ hp0)
      obtain ⟨xs, hpx⟩ := (hx0.same (e1.trans e2)).head
      obtain ⟨ys, hpy⟩ := (hy0.same (e1.trans e2)).head
      try dsimp only [gName, tNext]
      refine cut_seq (t1 := tIfS _ _ _) (fun σ' H' => σ' = [some (.ref p), some (sV TwP.kAnd), some (sV (TwP.br (TwP.isO x) (TwP.wr x))), some (sV (TwP.wr y))] ∧ H2 = H') ?_ (fun fin => ?_)
      rotate_left
      · refine ⟨_, rfl, rfl, _, rfl, ifTb rfl ⟨_, rfl, p, _, _, _, rfl, rfl, SqT.of hp, atI_nat (j := 1) rfl, px, _, _, _, rfl, rfl, SqT.of hpx, atI_nat (j := 0) rfl, rfl, _, rfl, if_S (b := TwP.kOr) (fun h => ?_) fun h => ?_⟩⟩
        · refine ⟨_, rfl, [40], TwP.wr x, rfl, rfl, (by simp only [List.length_append, List.length_cons, List.length_nil]; omega), [40] ++ TwP.wr x, [41], rfl, rfl, (by simp only [List.length_append, List.length_cons, List.length_nil]; omega), fin _ _ ⟨?_, rfl⟩⟩
          rw [k_o1 h]
          rfl
        · refine fin _ _ ⟨?_, rfl⟩
          rw [k_o2 h]
          rfl
      rintro _ _ ⟨rfl, rfl⟩
      try dsimp only [gName, tNext]
      refine cut_seq (t1 := tIfS _ _ _) (fun σ' H' => σ' = [some (.ref p), some (sV TwP.kAnd), some (sV (TwP.br (TwP.isO x) (TwP.wr x))), some (sV (TwP.br (TwP.isAO y) (TwP.wr y)))] ∧ H2 = H') ?_ (fun fin => ?_)
      rotate_left
      · refine ⟨_, rfl, p, _, _, _, rfl, rfl, SqT.of hp, atI_nat (j := 2) rfl, py, _, _, _, rfl, rfl, SqT.of hpy, atI_nat (j := 0) rfl, rfl, _, rfl, if_S (b := TwP.kOr) (fun h => iteT ?_) fun h => ⟨_, rfl, rfl, _, rfl, ifTb rfl ⟨_, rfl, p, _, _, _, rfl, rfl, SqT.of hp, atI_nat (j := 2) rfl, py, _, _, _, rfl, rfl, SqT.of hpy, atI_nat (j := 0) rfl, rfl, _, rfl, if_S (b := TwP.kAnd) (fun h' => ?_) fun h' => ?_⟩⟩⟩
        · refine ⟨_, rfl, [40], TwP.wr y, rfl, rfl, (by simp only [List.length_append, List.length_cons, List.length_nil]; omega), [40] ++ TwP.wr y, [41], rfl, rfl, (by simp only [List.length_append, List.length_cons, List.length_nil]; omega), fin _ _ ⟨?_, rfl⟩⟩
          rw [k_ao2 h]
          rfl
        · refine ⟨_, rfl, [40], TwP.wr y, rfl, rfl, (by simp only [List.length_append, List.length_cons, List.length_nil]; omega), [40] ++ TwP.wr y, [41], rfl, rfl, (by simp only [List.length_append, List.length_cons, List.length_nil]; omega), fin _ _ ⟨?_, rfl⟩⟩
          rw [k_ao1 h']
          rfl
        · refine fin _ _ ⟨?_, rfl⟩
          rw [k_ao3 h' h]
          rfl
      rintro _ _ ⟨rfl, rfl⟩
      have ka : TwP.kAnd.length = 3 := rfl
      refine ⟨_, rfl, TwP.br (TwP.isO x) (TwP.wr x), [32], rfl, rfl, (by simp only [List.length_append, List.length_cons, List.length_nil]; omega), _, rfl, _, TwP.kAnd, rfl, rfl, (by simp only [List.length_append, List.length_cons, List.length_nil]; omega), _, [32], rfl, rfl, (by simp only [List.length_append, List.length_cons, List.length_nil]; omega), _, rfl, _, TwP.br (TwP.isAO y) (TwP.wr y), rfl, rfl, (by simp only [List.length_append, List.length_cons, List.length_nil]; omega), ?_⟩
      have e : ((((TwP.br (TwP.isO x) (TwP.wr x)) ++ [32]) ++ TwP.kAnd) ++ [32]) ++ TwP.br (TwP.isAO y) (TwP.wr y) = TwP.wr (.and x y) := by simp [TwP.wr, TwP.kAnd]
      rw [e]
      exact q H2 (e1.trans e2)
    | or x y =>
      have hlv : max (TwP.lev x + 1) (TwP.lev y + 1) < n + 1 := hn
      obtain ⟨fx, fy⟩ := hf
      have hw' := hw
      simp only [TwP.wr, List.length_append, List.length_cons, List.length_nil] at hw'
      have gx := br_ge (TwP.isO x) (TwP.wr x)
      have gy := br_ge (TwP.isAO y) (TwP.wr y)
      have gy2 := br_ge (TwP.isO y) (TwP.wr y)
      obtain ⟨px, py, hp0, hx0, hy0⟩ := ht
      refine ⟨_, rfl, p, _, _, _, rfl, rfl, SqT.of hp0, atI_nat (j := 0) rfl, ?_⟩
      refine ⟨_, rfl, rfl, _, rfl, ifFb rfl ⟨_, rfl, rfl, _, rfl, ifFb rfl ?_⟩⟩
      refine ⟨_, rfl, rfl, _, rfl, ifTb rfl ⟨_, rfl, rfl, _, rfl, ifFb rfl ?_⟩⟩
      refine ⟨_, rfl, p, _, _, _, rfl, rfl, SqT.of hp0, atI_nat (j := 1) rfl, px, x, rfl, hx0, by omega, fx, by omega, fun H1 e1 => ?_⟩
      refine ⟨_, rfl, p, _, _, _, rfl, rfl, SqT.of (e1 _ _ hp0), atI_nat (j := 2) rfl, py, y, rfl, hy0.same e1, by omega, fy, by omega, fun H2 e2 => ?_⟩
      have hp := e2 _ _ (e1 _ _ hp0)
      obtain ⟨xs, hpx⟩ := (hx0.same (e1.trans e2)).head
      obtain ⟨ys, hpy⟩ := (hy0.same (e1.trans e2)).head
      refine ⟨_, rfl, rfl, _, rfl, ifFb rfl (iteF ?_)⟩
      try dsimp only [gName, tNext]
      refine cut_seq (t1 := tIfS _ _ _) (fun σ' H' => σ' = [some (.ref p), some (sV TwP.kOr), some (sV (TwP.wr x)), some (sV (TwP.br (TwP.isO y) (TwP.wr y)))] ∧ H2 = H') ?_ (fun fin => ?_)
      rotate_left
      · refine ⟨_, rfl, p, _, _, _, rfl, rfl, SqT.of hp, atI_nat (j := 2) rfl, py, _, _, _, rfl, rfl, SqT.of hpy, atI_nat (j := 0) rfl, rfl, _, rfl, if_S (b := TwP.kOr) (fun h => iteT ?_) fun h => ⟨_, rfl, rfl, _, rfl, ifFb rfl (iteF ?_)⟩⟩
        · refine ⟨_, rfl, [40], TwP.wr y, rfl, rfl, (by simp only [List.length_append, List.length_cons, List.length_nil]; omega), [40] ++ TwP.wr y, [41], rfl, rfl, (by simp only [List.length_append, List.length_cons, List.length_nil]; omega), fin _ _ ⟨?_, rfl⟩⟩
          rw [k_o1 h]
          rfl
        · refine fin _ _ ⟨?_, rfl⟩
          rw [k_o2 h]
          rfl
      rintro _ _ ⟨rfl, rfl⟩
      have ka : TwP.kOr.length = 2 := rfl
      refine ⟨_, rfl, TwP.wr x, [32], rfl, rfl, (by simp only [List.length_append, List.length_cons, List.length_nil]; omega), _, rfl, _, TwP.kOr, rfl, rfl, (by simp only [List.length_append, List.length_cons, List.length_nil]; omega), _, [32], rfl, rfl, (by simp only [List.length_append, List.length_cons, List.length_nil]; omega), _, rfl, _, TwP.br (TwP.isO y) (TwP.wr y), rfl, rfl, (by simp only [List.length_append, List.length_cons, List.length_nil]; omega), ?_⟩
      have e : ((((TwP.wr x) ++ [32]) ++ TwP.kOr) ++ [32]) ++ TwP.br (TwP.isO y) (TwP.wr y) = TwP.wr (.or x y) := by simp [TwP.wr, TwP.kOr]
      rw [e]
      exact q H2 (e1.trans e2)
end
end Tw
end

section
set_option Elab.async false
set_option linter.all false
set_option maxRecDepth 100000
set_option maxHeartbeats 8000000
/-! The law. -/
namespace Tw
open PySem PySem.Spec PyProof.Rows L2
open TwP (Tx Val)
theorem lf_fine {t : Tr} (h : LF t) : TwP.Fine 20000 t := by
  obtain ⟨h1, h2, h3, h4⟩ := h
  have hp := TwP.parse_wr h1 (by omega) (by omega)
  unfold TwP.parse at hp
  obtain ⟨ts, e1, e2⟩ := Option.bind_eq_some_iff.mp hp
  obtain ⟨⟨t', r⟩, e3, e4⟩ := Option.map_eq_some_iff.mp e2
  cases e4
  exact (TwP.pp_or (TwP.sh_part 24) (TwP.pp_part 24) 20000 ts _ r (fun y hy => Nat.le_trans (TwP.tokens_le e1 y hy).2 (by omega)) e3).1
theorem lf_reads {t : Tr} (h : LF t) : TwP.reads (TwP.wr t) = true := TwP.reads_wr h.1 (by have := h.2.2.2; omega) (by have := h.2.2.1; omega)
abbrev dS (l : Tx) : PyData := .str (SX.S l)
theorem S_ne {a b : Tx} (h : a ≠ b) : (SX.S a == SX.S b) = false := by
  rw [SX.S_beq]
  exact beq_eq_false_iff_ne.mpr h
theorem eq_rr (l : Tx) : PyData.eqv (.tuple [dS kRead, dS l]) (.tuple [dS kRead, dS l]) = true := by
  show ((SX.S kRead == SX.S kRead) && ((SX.S l == SX.S l) && true)) = true
  rw [SX.S_beq, SX.S_beq, beq_self_eq_true, beq_self_eq_true]
  rfl
theorem eq_fr (l : Tx) : PyData.eqv (.tuple [dS kRefused, .int 0]) (.tuple [dS kRead, dS l]) = false := by
  show ((SX.S kRefused == SX.S kRead) && (false && true)) = false
  rw [S_ne (show kRefused ≠ kRead by decide)]
  rfl
theorem eq_ff (i : Int) : PyData.eqv (.tuple [dS kRefused, .int i]) (.tuple [dS kRefused, .int i]) = true := by
  show ((SX.S kRefused == SX.S kRefused) && ((i == i) && true)) = true
  rw [SX.S_beq, beq_self_eq_true, beq_self_eq_true]
  rfl
theorem dp_ss {K : PySem.W.Frag} {H : Hp} {p : Addr} {a b : Tx} (h : H p = some (.tup [sV a, sV b])) : Dp K H (.ref p) (.tuple [dS a, dS b]) := .tup (SqT.of h) (.cons (.str _) (.cons (.str _) .nil))
theorem dp_si {K : PySem.W.Frag} {H : Hp} {p : Addr} {a : Tx} {i : Int} (h : H p = some (.tup [sV a, .int i])) : Dp K H (.ref p) (.tuple [dS a, .int i]) := .tup (SqT.of h) (.cons (.str _) (.cons (.int _) .nil))
theorem sh_ss {a b : Tx} (ha : okS a) (hb : okS b) : SeqAt.shaped (.tuple [dS a, dS b]) = true := by
  unfold SeqAt.shaped
  simp [PyData.canLay0, PyData.canLayAll0, PyData.depth, PyData.depthAll, strOk_S ha, strOk_S hb]
theorem sh_si {a : Tx} (ha : okS a) (i : Int) : SeqAt.shaped (.tuple [dS a, .int i]) = true := by
  unfold SeqAt.shaped
  simp [PyData.canLay0, PyData.canLayAll0, PyData.depth, PyData.depthAll, strOk_S ha]
theorem ok_kRead : okS kRead := rfl
theorem ok_kRefused : okS kRefused := rfl
theorem told_yes {l : Tx} (h : TwP.reads l = true) : told l = [sV kRead, sV l] := if_pos h
theorem told_no {l : Tx} (h : TwP.reads l = false) : told l = [sV kRefused, .int 0] := if_neg (by rw [h]; decide)
section
variable (K : PySem.W.Frag)
def spLaw : Sp := fun vs H Q _ => ∃ (a : Addr) (ns : List Int), vs = [.ref a] ∧ SqL K H a (ns.map V.int) ∧ ∀ H', Q (.bl true) H'
end
section
variable {P : Program} {w : World} {K : PySem.W.Frag} {mg : Str → Option Value} {base : Heap}
/-- as df0, the function object named -/
theorem ok0 {k : Nat} {f : Addr} {fd : FuncData} {x qn : Str} {st : Stmt} {N ps : List Str} {sp : Sp} (F : FnP K x qn st f fd) (S : FnScope N ps (defScope st)) (len : ∀ vs H Q E, sp vs H Q E → vs.length = ps.length)
    (hbody : ∀ (cdv : Value) (A : Around) (outer : List Env) (s : Shared) (H : Hp) (vs : List V) (Q : VK) (E : XK), Room k (A.deeper (envOfC qn (defScope st) s.heap.objs.size f cdv)) → sp vs H Q E →
      ∃ t, PSs (cxOf CX0 P w K mg base N qn (defScope st) f cdv A outer s H E).nox (defBody st) t ∧ t { nx := fun _ H' => Q .non H', rt := Q } (start N vs) H) : FnOk P w K mg base CX0 (k + 1) f fd ps sp := by
  refine FunD.ok F S len fun cdv A outer s H vs Q E hr h => ?_
  obtain ⟨t, ht, hq⟩ := hbody cdv A outer s H vs Q E hr h
  exact ⟨t, PSs.nox ht, hq⟩
theorem ok_Law (T : Fc K mg) {fd : FuncData} (F : FnP K "law" "law" s_law (He.ga K "law") fd) : FnOk P w K mg base CX0 97 (He.ga K "law") fd ["_law_script"] (spLaw K) := by
  refine ok0 F sc_law (fun vs H Q E h => ?_) (fun cdv A outer s H vs Q E hr h => ⟨_,
    pss_cons (ps_set (i := 1) sc_law.nd rfl (.inl rfl) (pe_df (df_Begin T) T.g__law_begin (hr.mono (by decide)) pass0 (pa_cons (pv 0) pa_nil)))
    (pss_cons (ps_set (i := 2) sc_law.nd rfl (.inl rfl) (pe_df (df_Cols T) T.g__law_columns (hr.mono (by decide)) pass0 (pa_cons (pv 1) (pa_cons pe_int pa_nil))))
    (pss_cons (ps_set (i := 3) sc_law.nd rfl (.inl rfl) (pe_df (df_LW T 12) T.g__law_written (hr.mono (by decide)) pass0 (pa_cons (pe_df (df_FormD T) T.g__law_form (hr.mono (by decide)) pass0 (pa_cons (pv 1) (pa_cons (pv 2) (pa_cons pe_int pa_nil)))) pa_nil)))
    (pss_cons (ps_set (i := 4) sc_law.nd rfl (.inl rfl) (pe_ix ix_tup (pe_ix ix_list (pv 2) pe_int (fun _ _ => rfl)) pe_int (fun _ _ => rfl)))
    (pss_cons (ps_if (pt_cmpR (op_neD hr.units) (pe_df (df_LRead T) T.g__law_read hr pass0 (pa_cons (pv 3) pa_nil)) (pe_tup (pa_cons pe_str (pa_cons (pv 3) pa_nil))) (nomark _)) (pss_one (ps_ret pe_bl)) pss_nil)
    (pss_cons (ps_for PassesOwn.never rfl (pi_range1 rfl T.f_range (pa_cons (pe_op op_add pe_int (pe_df (df_Take2 T) T.g__law_take (hr.mono (by decide)) pass0 (pa_cons (pv 1) (pa_cons pe_int pa_nil)))) pa_nil)) (pg_name (i := 5) sc_law.nd rfl (.inl rfl))
      (pss_cons (ps_set (i := 6) sc_law.nd rfl (.inl rfl) (pe_df (df_Changed T) T.g__law_changed (hr.mono (by decide)) pass0 (pa_cons (pv 1) (pa_cons (pv 3) pa_nil))))
      (pss_cons (ps_set (i := 7) sc_law.nd rfl (.inl rfl) (pe_df (df_LRead T) T.g__law_read hr pass0 (pa_cons (pv 6) pa_nil)))
      (pss_one (ps_if (PW.pt (pw_and (pt_cmpR (op_neD hr.units) (pv 7) (pe_tup (pa_cons pe_str (pa_cons (pv 6) pa_nil))) (nomark _)) (pw_and1 (pt_cmpR (op_neD hr.units) (pv 7) (pe_tup (pa_cons pe_str (pa_cons pe_int pa_nil))) (nomark _))))) (pss_one (ps_ret pe_bl)) pss_nil)))))
    (pss_cons (ps_if (pt_cmpR (op_neD hr.units) (pe_df (df_LRead T) T.g__law_read hr pass0 (pa_cons (pe_df (df_Refused T) T.g__law_refused_text (hr.mono (by decide)) pass0 (pa_cons (pv 1) (pa_cons (pv 3) (pa_cons (pv 4) pa_nil)))) pa_nil)) (pe_tup (pa_cons pe_str (pa_cons pe_int pa_nil))) (nomark _)) (pss_one (ps_ret pe_bl)) pss_nil)
    (pss_cons (ps_set (i := 8) sc_law.nd rfl (.inl rfl) (pe_op op_repS pe_str (pe_op op_add pe_int (pe_df (df_Take2 T) T.g__law_take (hr.mono (by decide)) pass0 (pa_cons (pv 1) (pa_cons pe_int pa_nil))))))
    (pss_cons (ps_for PassesOwn.never rfl (pi_list (pe_lst (pa_cons (pe_op op_catS (pe_op op_catS (pv 4) pe_str) (pv 8)) (pa_cons (pe_op op_catS (pe_op op_catS (pv 4) pe_str) (pv 8)) (pa_cons (pe_op op_catS (pe_op op_catS (pe_op op_catS (pv 4) pe_str) (pv 8)) pe_str) pa_nil))))) (pg_name (i := 9) sc_law.nd rfl (.inl rfl))
      (pss_one (ps_if (pt_cmpR (op_neD hr.units) (pe_df (df_LRead T) T.g__law_read hr pass0 (pa_cons (pv 9) pa_nil)) (pe_tup (pa_cons pe_str (pa_cons (pv 9) pa_nil))) (nomark _)) (pss_one (ps_ret pe_bl)) pss_nil)))
    (pss_cons (ps_set (i := 10) sc_law.nd rfl (.inl rfl) (pe_df (df_Thing T) T.g__law_thing (hr.mono (by decide)) pass0 (pa_cons (pv 1) pa_nil)))
    (pss_cons (ps_if (pt_val (pe_callB call_isi rfl T.f_isinstance bi_isi (pa_cons (pv 10) (pa_cons (pe_tyN T.f_str bi_str) pa_nil)))) (pss_one (ps_set (i := 10) sc_law.nd rfl (.inl rfl) pe_non)) pss_nil)
    (pss_one (ps_ret (pe_cmpR (op_eqD hr.units) (pe_df (df_LRead T) T.g__law_read hr pass0 (pa_cons (pv 10) pa_nil)) (pe_tup (pa_cons pe_str (pa_cons (pe_un un_neg pe_int) pa_nil))) (nomark _)))))))))))))), ?_⟩)
  · obtain ⟨_, _, rfl, _⟩ := h
    rfl
  obtain ⟨a, ns, rfl, ha, q⟩ := h
  refine ⟨_, rfl, a, ns, rfl, ha, fun H1 dr e1 D => ?_⟩
  refine ⟨_, rfl, dr, rfl, D, fun cl ps H2 d2 hC => ?_⟩
  refine ⟨_, rfl, _, rfl, dr, cl, ps, rfl, d2.2, hC, fun t p H3 d3 hf hL => ?_⟩
  have hC3 := hC.dr d2.2 d3
  have hlen := hL.2.1
  refine ⟨p, t, rfl, hf, by have := hL.2.2.1; omega, lf_fine hL, by omega, fun H4 e4 => ?_⟩
  have D4 := d3.2.same e4
  obtain ⟨p0, ps', rfl⟩ : ∃ p0 ps', ps = p0 :: ps' := by
    cases ps with
    | nil => exact absurd rfl hC.2.1
    | cons p0 ps' => exact ⟨p0, ps', rfl⟩
  obtain ⟨n, kd, b0, hcol, hn⟩ := hC3.2.2.2 p0 List.mem_cons_self
  have hnl := TwP.name_len hn
  refine ⟨_, rfl, cl, _, _, _, rfl, rfl, SqL.of (e4 _ _ hC3.1), atI_nat (j := 0) rfl, p0, _, _, _, rfl, rfl, SqT.of (e4 _ _ hcol), atI_nat (j := 0) rfl, ?_⟩
  -- the text is read
  refine ⟨_, rfl, sV (TwP.wr t), rfl, .inl ⟨TwP.wr t, rfl, by omega, fun H5 r5 e5 h5 => ?_⟩⟩
  rw [told_yes (lf_reads hL)] at h5
  refine ⟨_, rfl, by show 2 ≤ sizeLine; decide, fun p6 hp6 => ?_⟩
  have e6 : Same H5 (upd H5 p6 (.tup [sV kRead, sV (TwP.wr t)])) := same_new hp6 _
  have okt := ok_wr t hL.1
  refine ⟨.tuple [dS kRead, dS (TwP.wr t)], .tuple [dS kRead, dS (TwP.wr t)], dp_ss (e6 _ _ h5), dp_ss upd_same, sh_ss ok_kRead okt, sh_ss ok_kRead okt, _, rfl, ?_⟩
  rw [eq_rr]
  refine iteF ?_
  have D6 := (D4.same e5).same e6
  -- the changed texts
  refine ⟨_, rfl, dr, _, rfl, D6, by decide, by decide, fun e H7 d7 g0 g1 => ⟨1, e, rfl, rfl, _, rfl, by omega, by omega, ?_⟩⟩
  refine for_range (lo := 0) (fun i σ H' => ∃ (k sp tl : Option V), σ = [some (.ref a), some (.ref dr), some (.ref cl), some (sV (TwP.wr t)), some (sV n), k, sp, tl, none, none, none] ∧ DrAt H' dr) ⟨none, none, none, rfl, d7.2⟩ ?_ ?_
  · rintro i σ H8 hi ⟨k, sp, tl, rfl, D8⟩
    have hw1 : 1 ≤ (TwP.wr t).length := by
      have := lf_reads hL
      cases hwt : TwP.wr t with
      | nil =>
        rw [hwt] at this
        exact absurd this (by decide +kernel)
      | cons c r => exact Nat.succ_le_succ (Nat.zero_le _)
    refine ⟨_, rfl, _, rfl, dr, TwP.wr t, rfl, D8, hw1, by omega, okt, fun m H9 d9 hml hmo => ?_⟩
    refine ⟨_, rfl, sV m, rfl, .inl ⟨m, rfl, by omega, fun H10 r10 e10 h10 => ?_⟩⟩
    refine ⟨_, rfl, _, rfl, by show 2 ≤ sizeLine; decide, fun p11 hp11 => ?_⟩
    have e11 : Same H10 (upd H10 p11 (.tup [sV kRead, sV m])) := same_new hp11 _
    have D11 := (d9.2.same e10).same e11
    have t11 := e11 _ _ h10
    cases hrd : TwP.reads m with
    | true =>
      rw [told_yes hrd] at t11
      refine ⟨.tuple [dS kRead, dS m], .tuple [dS kRead, dS m], dp_ss t11, dp_ss upd_same, sh_ss ok_kRead hmo, sh_ss ok_kRead hmo, _, rfl, ?_⟩
      rw [eq_rr]
      exact iteF (iteF ⟨_, _, _, rfl, D11⟩)
    | false =>
      rw [told_no hrd] at t11
      refine ⟨.tuple [dS kRefused, .int 0], .tuple [dS kRead, dS m], dp_si t11, dp_ss upd_same, sh_si ok_kRefused 0, sh_ss ok_kRead hmo, _, rfl, ?_⟩
      rw [eq_fr]
      refine iteT ⟨_, rfl, by show 2 ≤ sizeLine; decide, fun p12 hp12 => ?_⟩
      have e12 : Same (upd H10 p11 (.tup [sV kRead, sV m])) (upd (upd H10 p11 (.tup [sV kRead, sV m])) p12 (.tup [sV kRefused, .int 0])) := same_new hp12 _
      refine ⟨.tuple [dS kRefused, .int 0], .tuple [dS kRefused, .int 0], dp_si (e12 _ _ t11), dp_si upd_same, sh_si ok_kRefused 0, sh_si ok_kRefused 0, _, rfl, ?_⟩
      rw [eq_ff]
      exact iteF ⟨_, _, _, rfl, D11.same e12⟩
  rintro σ H8 ⟨k, sp, tl, rfl, D8⟩
  -- the refused text
  refine ⟨_, rfl, _, rfl, _, rfl, dr, t, n, rfl, D8, hL, hn, fun m H9 d9 hml hmr => ?_⟩
  refine ⟨sV m, rfl, .inl ⟨m, rfl, hml, fun H10 r10 e10 h10 => ?_⟩⟩
  rw [told_no hmr] at h10
  refine ⟨by show 2 ≤ sizeLine; decide, fun p11 hp11 => ?_⟩
  have e11 : Same H10 (upd H10 p11 (.tup [sV kRefused, .int 0])) := same_new hp11 _
  refine ⟨.tuple [dS kRefused, .int 0], .tuple [dS kRefused, .int 0], dp_si (e11 _ _ h10), dp_si upd_same, sh_si ok_kRefused 0, sh_si ok_kRefused 0, _, rfl, ?_⟩
  rw [eq_ff]
  refine iteF ?_
  have D11 := (d9.2.same e10).same e11
  -- the long numbers
  refine ⟨_, rfl, dr, _, rfl, D11, by decide, by decide, fun f H12 d12 f0 f1 => ⟨1, f, rfl, rfl, ?_⟩⟩
  obtain ⟨z, hz, hz1, hz2⟩ : ∃ z : Nat, (1 : Int) + f = (z : Int) ∧ 1 ≤ z ∧ z ≤ 1000 := ⟨(1 + f).toNat, by omega, by omega, by omega⟩
  refine ⟨[55], z, rfl, congrArg V.int hz, by decide, by decide, hz1, by omega, ?_⟩
  have hrl : (List.replicate z [55]).flatten.length = z * 1 := rep_len z [55]
  refine ⟨_, rfl, n, [32, 60, 32], rfl, rfl, by simp only [List.length_append, List.length_cons, List.length_nil]; omega, _, rfl, n ++ [32, 60, 32], _, rfl, rfl, by simp only [List.length_append, List.length_cons, List.length_nil]; omega, ?_⟩
  refine ⟨_, rfl, n, [32, 33, 61, 32, 45], rfl, rfl, by simp only [List.length_append, List.length_cons, List.length_nil]; omega, _, rfl, n ++ [32, 33, 61, 32, 45], _, rfl, rfl, by simp only [List.length_append, List.length_cons, List.length_nil]; omega, ?_⟩
  refine ⟨_, rfl, n, [32, 105, 110, 32, 40], rfl, rfl, by simp only [List.length_append, List.length_cons, List.length_nil]; omega, _, rfl, n ++ [32, 105, 110, 32, 40], _, rfl, rfl, by simp only [List.length_append, List.length_cons, List.length_nil]; omega,
    (n ++ [32, 105, 110, 32, 40]) ++ (List.replicate z [55]).flatten, [44, 32, 45, 49, 41], rfl, rfl, by simp only [List.length_append, List.length_cons, List.length_nil]; omega, ?_⟩
  refine ⟨by show 3 ≤ sizeLine; decide, fun pl hpl => ?_⟩
  have ee : (List.replicate z [55]).flatten = List.replicate z 55 := rep_one z 55
  have lines : ∀ l ∈ [(n ++ [32, 60, 32]) ++ (List.replicate z [55]).flatten, (n ++ [32, 33, 61, 32, 45]) ++ (List.replicate z [55]).flatten, ((n ++ [32, 105, 110, 32, 40]) ++ (List.replicate z [55]).flatten) ++ [44, 32, 45, 49, 41]], TwP.reads l = true ∧ l.length ≤ 20000 ∧ okS l := by
    rw [ee]
    intro l hl
    simp only [List.mem_cons, List.not_mem_nil, or_false] at hl
    rcases hl with rfl | rfl | rfl
    · refine ⟨?_, by simp only [List.length_append, List.length_cons, List.length_nil, List.length_replicate]; omega, okS_app (okS_app (ok_name hn) rfl) (ok_rep z)⟩
      rw [List.append_assoc]
      exact TwP.line0 hn hz1 hz2
    · refine ⟨?_, by simp only [List.length_append, List.length_cons, List.length_nil, List.length_replicate]; omega, okS_app (okS_app (ok_name hn) rfl) (ok_rep z)⟩
      rw [List.append_assoc]
      exact TwP.line1 hn hz1 hz2
    · refine ⟨?_, by simp only [List.length_append, List.length_cons, List.length_nil, List.length_replicate]; omega, okS_app (okS_app (okS_app (ok_name hn) rfl) (ok_rep z)) rfl⟩
      rw [List.append_assoc, List.append_assoc]
      exact TwP.line2 hn hz1 hz2
  generalize hls : [(n ++ [32, 60, 32]) ++ (List.replicate z [55]).flatten, (n ++ [32, 33, 61, 32, 45]) ++ (List.replicate z [55]).flatten, ((n ++ [32, 105, 110, 32, 40]) ++ (List.replicate z [55]).flatten) ++ [44, 32, 45, 49, 41]] = ls at lines
  have hH : upd H12 pl (.lst [sV ((n ++ [32, 60, 32]) ++ (List.replicate z [55]).flatten), sV ((n ++ [32, 33, 61, 32, 45]) ++ (List.replicate z [55]).flatten), sV (((n ++ [32, 105, 110, 32, 40]) ++ (List.replicate z [55]).flatten) ++ [44, 32, 45, 49, 41])]) = upd H12 pl (.lst (ls.map sV)) := by rw [← hls]; rfl
  have e13 : Same H12 (upd H12 pl (.lst (ls.map sV))) := same_new hpl _
  have s13 : (upd H12 pl (.lst (ls.map sV))) pl = some (.lst (ls.map sV)) := upd_same
  have D13 := d12.2.same e13
  show ∃ b, _ ∧ _
  rw [hH]
  generalize upd H12 pl (.lst (ls.map sV)) = H13 at e13 s13 D13
  refine ⟨pl, rfl, ⟨_, SqL.of s13⟩, ?_⟩
  refine for_list (K := K) (a := pl) (xs := ls.map sV) (fun i σ H' => ∃ (ln : Option V), σ = [some (.ref a), some (.ref dr), some (.ref cl), some (sV (TwP.wr t)), some (sV n), k, sp, tl, some (sV (List.replicate z [55]).flatten), ln, none] ∧ Same H13 H') ⟨none, rfl, Same.refl _⟩ (fun i σ H' _ h => by obtain ⟨_, _, e⟩ := h; exact SqL.of (e _ _ s13)) ?_ ?_
  · rintro i x σ H14 hi ⟨ln, rfl, e14⟩
    obtain ⟨l, hl, rfl⟩ : ∃ l, l ∈ ls ∧ sV l = x := List.mem_map.mp (List.mem_of_getElem? hi)
    obtain ⟨h1, h2, h3⟩ := lines l hl
    refine ⟨_, rfl, sV l, rfl, .inl ⟨l, rfl, h2, fun H15 r15 e15 h15 => ?_⟩⟩
    rw [told_yes h1] at h15
    refine ⟨_, rfl, by show 2 ≤ sizeLine; decide, fun p16 hp16 => ?_⟩
    have e16 : Same H15 (upd H15 p16 (.tup [sV kRead, sV l])) := same_new hp16 _
    refine ⟨.tuple [dS kRead, dS l], .tuple [dS kRead, dS l], dp_ss (e16 _ _ h15), dp_ss upd_same, sh_ss ok_kRead h3, sh_ss ok_kRead h3, _, rfl, ?_⟩
    rw [eq_rr]
    exact iteF ⟨_, rfl, (e14.trans e15).trans e16⟩
  rintro σ H14 ⟨ln, rfl, e14⟩
  -- the thing
  refine ⟨_, rfl, dr, rfl, D13.same e14, fun v H15 d15 hv => ?_⟩
  have fin : ∀ (v : V), NotStr K H15 v → tRet (tOp (rEqD K) (tCall (spLRead K) [] E0 (tCons (tVar 10) tNil)) (tTup (tCons (tC (.str (SX.S kRefused))) (tCons (tUn (rU fun i => .int (-i)) (tC (.int 1))) tNil)))) { nx := fun _ H' => Q .non H', rt := Q }
      [some (.ref a), some (.ref dr), some (.ref cl), some (sV (TwP.wr t)), some (sV n), k, sp, tl, some (sV (List.replicate z [55]).flatten), ln, some v] H15 := fun v hv => by
    refine ⟨_, rfl, v, rfl, .inr ⟨hv, fun H16 r16 e16 h16 => ?_⟩⟩
    refine ⟨_, rfl, by show 2 ≤ sizeLine; decide, fun p17 hp17 => ?_⟩
    have e17 : Same H16 (upd H16 p17 (.tup [sV kRefused, .int (-1)])) := same_new hp17 _
    refine ⟨.tuple [dS kRefused, .int (-1)], .tuple [dS kRefused, .int (-1)], dp_si (e17 _ _ h16), dp_si upd_same, sh_si ok_kRefused (-1), sh_si ok_kRefused (-1), ?_⟩
    rw [eq_ff]
    exact q _
  rcases hv with ⟨l, rfl⟩ | hv
  · refine ⟨_, rfl, _, _, _, _, true, rfl, .ty _, isi_str, kit_ty (by decide +kernel), _, rfl, iteT ?_⟩
    exact fin .non ns_non
  · obtain ⟨tv, ht, hkt⟩ := hv
    refine ⟨_, rfl, _, _, _, _, false, rfl, .ty _, ht, hkt, _, rfl, iteF ?_⟩
    exact fin v ⟨tv, ht, hkt⟩
end
end Tw
end

section
set_option Elab.async false
set_option linter.all false
set_option maxRecDepth 100000
set_option maxHeartbeats 0
/-! The end. -/
namespace Tw
open PySem PySem.Spec PyProof.Rows L2
theorem facts {P : Program} {w : World} {K : PySem.W.Frag} {h : Heap} {mg : Str → Option Value} {f : Addr} (X : K.In h) (G : h.Ns mainGlobals mg) (hfa : mg ("law" : Str) = some (.ref f)) (c : He.SaysD fa fn K) (e : exX K = true) :
    ∃ fd : FuncData, (∀ (s : Shared) (v : Value), BindsTo s fd ⟨[v], []⟩ [("_law_script", v)]) ∧ ∀ base : Heap, K.In base → base.Ns mainGlobals mg → FnOk P w K mg base CX0 97 f fd ["_law_script"] (spLaw K) := by
  have T : Fc K mg := { at_ := ⟨h, X, G⟩, says := c, more := e }
  obtain ⟨fd, F, _⟩ := T.e_law
  have ef : f = He.ga K "law" := by
    have := hfa.symm.trans T.g_law
    injection this with this
    injection this
  subst ef
  have b := FunD.bindsA (ps := ["_law_script"]) F fun _ _ _ _ _ _ us hl => match us, hl with | [_], _ => rfl
  exact ⟨fd, fun s v => b s [v] rfl, fun base _ _ => ok_Law T F⟩
end Tw
open PySem PySem.W PySem.Calls PyProof.Rows
theorem PySem.Challenge.cw_tworows_k41_whole_reading_is_exact_holds : PySem.Challenge.rw_tworows_k41_whole_reading_is_exact.Holds := by
  w_on; o_law
  refine HandSHeadRun.head_any (r := OpenLaw.row PySem.Challenge.rw_tworows_k41_whole_reading_is_exact) (q := view (OpenLaw.row PySem.Challenge.rw_tworows_k41_whole_reading_is_exact).prog [78]) (H := Tw.hookW) (ob := Tw.obW) (M := 4000) (loose := Tw.nm1 ++ (Tw.nm2 ++ Tw.nm3)) (d := HandSHeadRun.topDef (OpenLaw.row PySem.Challenge.rw_tworows_k41_whole_reading_is_exact).prog 78) (kwd := []) Tw.obW_eq
    (by kernel_rfl) (fun s => by kernel_rfl) Tw.run (by kernel_rfl) (by kernel_rfl) (by kernel_rfl) (by rfl) (by first | assumption | decide +kernel) (by decide +kernel) ⟨rfl, rfl, rfl, rfl, rfl, by decide +kernel⟩ ?hw ?hc
  case hw => w_witness2
  case hc =>
    refine L2.walk_ofE (l := PySem.Challenge.rw_tworows_k41_whole_reading_is_exact) (n := 63) (k := 97) (x := "_law_script") (CX := L2.CX0) rfl (by decide) (by kernel_rfl) ⟨rfl, by decide, by decide⟩ ?F (fun _ _ _ _ z => z)
    intro w mg fa h Y G hmg0
    obtain ⟨K, KX, c, ex⟩ := Y
    have hmg : mg ("law" : PySem.Str) = some (.ref fa) := by
      have e : (HandSHeadRun.topDef (OpenLaw.row PySem.Challenge.rw_tworows_k41_whole_reading_is_exact).prog 78).name = ("law" : PySem.Str) := by kernel_rfl
      rw [← e]
      exact hmg0
    obtain ⟨fd, hb, hF⟩ := Tw.facts (P := (PySem.Challenge.rw_tworows_k41_whole_reading_is_exact).prog) (w := w) KX G hmg c ex
    exact ⟨K, fd, Tw.spLaw K, KX, hb, fun H a ns hl _ hS => ⟨a, ns, rfl, hS, fun _ => rfl⟩, hF⟩
end
