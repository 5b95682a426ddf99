import PyProof.Rows.All
import Wide.All
import OpenK.AllK
import Wide.FinOn
import HandS.ForMost
import HandS.ForExc
import HandS.More
import HandS.Defaults
import HandS.IsInst
import HandS.Wide
import HandS.TupAny
import HandS.Zip
import HandS.NoneIn
import HandS.ExcInit
import HandS.ExcIs
import HandS.ExcField
import HandS.ClsMeth
import HandS.Steps
import HandS.ReplaceLit
import HandS.ReplaceList
import KE.GoesComp
import HandS.Walk
import HandS.RaiseMore
import HandS.HeadHook4
import PyProof.Rows.SortShellAny
import PyProof.StrBlock2
import HandS.Codes
import HandS.Dict
import HandS.HeadEnd
import PySem.Challenge.RW_loomkeeps_k97_texts_of_no_papers
import KE.IntTextText
import HandS.MakeKwOnly
set_option Elab.async false
set_option linter.all false
set_option maxRecDepth 100000
set_option maxHeartbeats 4000000
/-! The layer of this work over HandS: operators that look at the values, callees by name, a comprehension that lets an exception out, a caught exception that is kept. -/
namespace Lk
open PySem PySem.Spec PyProof.Rows L2

/-! ### operators by the values -/
section
variable {X : Cx}
/-- a + b: numbers, texts, lists -/
def rAddA : V → V → Hp → VK → Prop
  | .int i, .int j, H, Q => Q (.int (i + j)) H
  | .str i, .str j, H, Q => i.length + j.length ≤ sizeLine ∧ Q (.str (i ++ j)) H
  | .ref l, .ref b, H, Q => ∃ xs zs, H l = some (.lst xs) ∧ H b = some (.lst zs) ∧ xs.length + zs.length ≤ sizeLine ∧ ∀ p, H p = none → Q (.ref p) (upd H p (.lst (xs ++ zs)))
  | _, _, _, _ => False
theorem op_addA : OpR X (binaryOp .Add) rAddA := by
  intro pins s σ H x y v u Q I rx ry h
  cases x <;> cases y <;> first
    | exact h.elim
    | exact op_add pins s σ H _ _ v u Q I rx ry ⟨_, _, rfl, rfl, h⟩
    | exact op_add_str pins s σ H _ _ v u Q I rx ry ⟨_, _, rfl, rfl, h⟩
    | (obtain ⟨xs, zs, h1, h2, h3, h4⟩ := h
       exact op_cat pins s σ H _ _ v u Q I rx ry ⟨_, _, xs, zs, rfl, rfl, h1, h2, h3, h4⟩)
def rSubA : V → V → Hp → VK → Prop
  | .int i, .int j, H, Q => Q (.int (i - j)) H
  | _, _, _, _ => False
theorem op_subA : OpR X (binaryOp .Sub) rSubA := by
  intro pins s σ H x y v u Q I rx ry h
  cases x <;> cases y <;> first
    | exact h.elim
    | exact op_sub pins s σ H _ _ v u Q I rx ry ⟨_, _, rfl, rfl, h⟩
/-- a * b, together below a million bits -/
def rMulA : V → V → Hp → VK → Prop
  | .int i, .int j, H, Q => CMulW i j ∧ Q (.int (i * j)) H
  | _, _, _, _ => False
theorem op_mulA : OpR X (binaryOp .Mult) rMulA := by
  intro pins s σ H x y v u Q I rx ry h
  cases x <;> cases y <;> first
    | exact h.elim
    | exact op_mulW pins s σ H _ _ v u Q I rx ry ⟨_, _, rfl, rfl, h.1, h.2⟩
/-- a % b, b positive -/
def rModA : V → V → Hp → VK → Prop
  | .int i, .int j, H, Q => 0 < j ∧ Q (.int (i % j)) H
  | _, _, _, _ => False
theorem op_modA : OpR X (binaryOp .Mod) rModA := by
  intro pins s σ H x y v u Q I rx ry h
  cases x <;> cases y <;> first
    | exact h.elim
    | exact op_mod pins s σ H _ _ v u Q I rx ry ⟨_, _, rfl, rfl, h.1, h.2⟩
/-- a // b -/
def rFdivA : V → V → Hp → VK → Prop
  | .int i, .int j, H, Q => CDivW i j ∧ Q (.int (i / j)) H
  | _, _, _, _ => False
theorem op_fdivA : OpR X (binaryOp .FloorDiv) rFdivA := by
  intro pins s σ H x y v u Q I rx ry h
  cases x <;> cases y <;> first
    | exact h.elim
    | exact op_fdivW pins s σ H _ _ v u Q I rx ry ⟨_, _, rfl, rfl, h.1, h.2⟩
/-- ==, != of scalars -/
def rEqA : V → V → Hp → VK → Prop := fun x y H Q => scal x y = true ∧ Q (.bl (decide (x = y))) H
theorem op_eqA : OpR X (compareOp .Eq) rEqA := op_eq
def rNeA : V → V → Hp → VK → Prop := fun x y H Q => scal x y = true ∧ Q (.bl (!decide (x = y))) H
theorem op_neA : OpR X (compareOp .NotEq) rNeA := op_ne
def rLtA : V → V → Hp → VK → Prop
  | .int i, .int j, H, Q => Q (.bl (decide (i < j))) H
  | .str i, .str j, H, Q => Q (.bl (decide (i.cps.toList < j.cps.toList))) H
  | _, _, _, _ => False
theorem op_ltA : OpR X (compareOp .Lt) rLtA := by
  intro pins s σ H x y v u Q I rx ry h
  cases x <;> cases y <;> first
    | exact h.elim
    | exact op_lt pins s σ H _ _ v u Q I rx ry ⟨_, _, rfl, rfl, h⟩
    | exact op_lt_str pins s σ H _ _ v u Q I rx ry ⟨_, _, rfl, rfl, h⟩
def rLeA : V → V → Hp → VK → Prop
  | .int i, .int j, H, Q => Q (.bl (decide (i ≤ j))) H
  | .str i, .str j, H, Q => Q (.bl (!decide (j.cps.toList < i.cps.toList))) H
  | _, _, _, _ => False
theorem op_leA : OpR X (compareOp .LtE) rLeA := by
  intro pins s σ H x y v u Q I rx ry h
  cases x <;> cases y <;> first
    | exact h.elim
    | exact op_le pins s σ H _ _ v u Q I rx ry ⟨_, _, rfl, rfl, h⟩
    | exact op_le_str pins s σ H _ _ v u Q I rx ry ⟨_, _, rfl, rfl, h⟩
def rGtA : V → V → Hp → VK → Prop
  | .int i, .int j, H, Q => Q (.bl (decide (j < i))) H
  | .str i, .str j, H, Q => Q (.bl (decide (j.cps.toList < i.cps.toList))) H
  | _, _, _, _ => False
theorem op_gtA : OpR X (compareOp .Gt) rGtA := by
  intro pins s σ H x y v u Q I rx ry h
  cases x <;> cases y <;> first
    | exact h.elim
    | exact op_gt pins s σ H _ _ v u Q I rx ry ⟨_, _, rfl, rfl, h⟩
    | exact op_gt_str pins s σ H _ _ v u Q I rx ry ⟨_, _, rfl, rfl, h⟩
def rGeA : V → V → Hp → VK → Prop
  | .int i, .int j, H, Q => Q (.bl (decide (j ≤ i))) H
  | .str i, .str j, H, Q => Q (.bl (!decide (i.cps.toList < j.cps.toList))) H
  | _, _, _, _ => False
theorem op_geA : OpR X (compareOp .GtE) rGeA := by
  intro pins s σ H x y v u Q I rx ry h
  cases x <;> cases y <;> first
    | exact h.elim
    | exact op_ge pins s σ H _ _ v u Q I rx ry ⟨_, _, rfl, rfl, h⟩
    | exact op_ge_str pins s σ H _ _ v u Q I rx ry ⟨_, _, rfl, rfl, h⟩
end

/-! ### a table of the module: a dict with text keys that stands there -/
structure TabK (K : PySem.W.Frag) (w : World) (d : Addr) (kvs : List (Str × V)) : Prop where
  kd : ∃ es n, KDict K w d es n
  look : ∀ z, ∃ r, PySem.W.nsIn K d z = some r ∧ RelO (kvs.lookup z) r
section
variable {X : Cx}
theorem relO_some {a : Option V} {b : Option Value} (r : RelO a b) : b.isSome = a.isSome := by
  cases a with
  | none => cases b with
    | none => rfl
    | some u => exact r.elim
  | some v => cases b with
    | none => exact r.elim
    | some u => rfl
/-- x in y: a sign in a text, a key in a dict of the module or of ours, a flat thing in a list or tuple -/
def rInA (K : PySem.W.Frag) (w : World) (x y : V) (H : Hp) (Q : VK) (neg : Bool) : Prop :=
  match x, y with
  | .str i, .str j => Q (.bl (Bool.xor neg (!(Builtin.Str.occurrences j i 0 j.length 1).isEmpty))) H
  | x, .ref d => (∃ z kvs, x = .str z ∧ TabK K w d kvs ∧ Q (.bl (Bool.xor neg (kvs.lookup z).isSome)) H) ∨ (∃ xs, (SqL K H d xs ∨ SqT K H d xs) ∧ flatV x = true ∧ xs.all flatV = true ∧ Q (.bl (Bool.xor neg (inV x xs))) H)
  | _, _ => False
theorem op_inA : OpR X (compareOp .In) (fun x y H Q => rInA X.K X.w x y H Q false) := by
  intro pins s σ H x y v u Q I rx ry h
  unfold rInA at h
  split at h
  · refine op_in_str pins s σ H _ _ v u Q I rx ry ⟨_, _, rfl, rfl, ?_⟩
    rw [Bool.false_xor] at h
    exact h
  · rcases h with ⟨z, kvs, rfl, T, q⟩ | ⟨xs, h1, h2, h3, q⟩
    · obtain ⟨es, n, D⟩ := T.kd
      obtain ⟨r, e, ro⟩ := T.look z
      refine op_in_kd D pins s σ H _ _ v u Q I rx ry ⟨z, r, rfl, rfl, e, ?_⟩
      rw [Bool.false_xor] at q
      rw [relO_some ro]
      exact q
    · refine op_in_seq pins s σ H _ _ v u Q I rx ry ⟨_, xs, rfl, h1, h2, h3, ?_⟩
      rw [Bool.false_xor] at q
      exact q
  · exact h.elim
theorem op_notInA : OpR X (compareOp .NotIn) (fun x y H Q => rInA X.K X.w x y H Q true) := by
  intro pins s σ H x y v u Q I rx ry h
  unfold rInA at h
  split at h
  · refine op_notin_str pins s σ H _ _ v u Q I rx ry ⟨_, _, rfl, rfl, ?_⟩
    rw [Bool.true_xor] at h
    exact h
  · rcases h with ⟨z, kvs, rfl, T, q⟩ | ⟨xs, h1, h2, h3, q⟩
    · obtain ⟨es, n, D⟩ := T.kd
      obtain ⟨r, e, ro⟩ := T.look z
      refine op_notIn_kd D pins s σ H _ _ v u Q I rx ry ⟨z, r, rfl, rfl, e, ?_⟩
      rw [Bool.true_xor] at q
      rw [relO_some ro]
      exact q
    · refine op_notIn_seq pins s σ H _ _ v u Q I rx ry ⟨_, xs, rfl, h1, h2, h3, ?_⟩
      rw [Bool.true_xor] at q
      exact q
  · exact h.elim
end

/-! ### ** of any base -/
section
variable {X : Cx}
def CPowA (i j : Int) : Prop := 0 ≤ j ∧ (Builtin.Int.intBits i : Int) * j ≤ 2 ^ 27
def rPowA : V → V → Hp → VK → Prop
  | .int i, .int j, H, Q => CPowA i j ∧ Q (.int (i ^ j.toNat)) H
  | _, _, _, _ => False
theorem op_powA : OpR X (binaryOp .Pow) rPowA := by
  intro pins s σ H x y v u Q I rx ry h
  cases x <;> cases y <;> first
    | exact h.elim
    | (obtain ⟨t, rfl⟩ := rx
       obtain ⟨t', rfl⟩ := ry
       obtain ⟨hc, q⟩ := h
       exact pow_int hc.1 hc.2 ⟨.int _, H, I.tok _, ⟨_, rfl⟩, q⟩)
end

/-! ### callees by their names -/
/-- the module's name x is a def that keeps sp, at level k; dvs: the defaults that fill up -/
structure Fn (P : Program) (w : World) (K : PySem.W.Frag) (mg : Str → Option Value) (base : Heap) (k : Nat) (x : Str) (dvs : List V) (sp : Sp) : Prop where
  ex : ∃ f fd ps ds, mg x = some (.ref f) ∧ FnOk P w K mg base (L2.CX P w) k f fd ps sp ∧ PySem.W.keepIn K (.ref f) = true ∧ Binds K fd ps ds ∧ Vals dvs ds
/-- the method m of the class at C -/
structure Mt (P : Program) (w : World) (K : PySem.W.Frag) (mg : Str → Option Value) (base : Heap) (k : Nat) (C : Addr) (m : Str) (sp : Sp) : Prop where
  cl : Cls K C
  ex : ∃ f fd ps, Meth K C m f ∧ FnOk P w K mg base (L2.CX P w) k f fd ps sp ∧ Binds K fd ps []
/-- a new instance of the class at C, by its __init__ -/
structure Ini (P : Program) (w : World) (K : PySem.W.Frag) (mg : Str → Option Value) (base : Heap) (k : Nat) (x : Str) (C : Addr) (sp : Sp) : Prop where
  ex : ∃ f fd ps, mg x = some (.ref C) ∧ Mk K C f ∧ FnOk P w K mg base (L2.CX P w) k f fd ps sp ∧ Binds K fd ps []
/-- a call with keywords alone, in the order ks -/
structure Kw (P : Program) (w : World) (K : PySem.W.Frag) (mg : Str → Option Value) (base : Heap) (k n : Nat) (x : Str) (ks : List Str) (gV : List V → List V → List V) (sp : Sp) : Prop where
  ex : ∃ f fd ps g, mg x = some (.ref f) ∧ FnOk P w K mg base (L2.CX P w) k f fd ps sp ∧ PySem.W.keepIn K (.ref f) = true ∧ KBn K fd ps n ks g gV
section
variable {X : Cx} {k n : Nat} {x m : Str} {dvs : List V} {sp : Sp} {E : XK} {p pos apos : Pos} {e o : Expr} {es : List Expr} {t tk : TA} {ta : TE} {C : Addr}
theorem pe_fn (c : Fn X.prog X.w X.K X.mg X.base k x dvs sp) (hr : Room k X.A) (hx : Passes (L2.CX X.prog X.w) X E) (ha : PA X (e :: es) t) (hg : Gl X x := by rfl)
    (hdb : (x == ("__debug__" : Str)) = false := by decide) (he : starEach (e :: es) X.env = (false, eval e X.env) :: starEach es X.env := by rfl) (hpl : (backTo pos (starEach es X.env)).any (·.1) = false := by rfl) :
    PE X (.Call (.Name x p) (e :: es) [] pos) (tCall sp dvs E t) := by
  obtain ⟨f, fd, ps, ds, hm, F, hk, hb, hd⟩ := c.ex
  exact pe_call F hr hg hm hk hb hd hx ha hdb he hpl
theorem pe_mt {pl : Sem Bool} (c : Mt X.prog X.w X.K X.mg X.base k C m sp) (hr : Room k X.A) (hx : Passes (L2.CX X.prog X.w) X E) (ho : PE X o ta) (ha : PA X (e :: es) t)
    (hst : starEach (e :: es) X.env = (false, eval e X.env) :: starEach es X.env := by rfl) (hpl : (backTo pos (starEach es X.env)).any (·.1) = false := by rfl)
    (ht : eval (.Call (.Attribute o m apos) (e :: es) [] pos) X.env = (do
      let ov ← eval o X.env
      standAt apos.atName
      let (f, first) ← holding [ov] (getMethod ov m pl)
      callWith pos f first (backTo pos (starEach (e :: es) X.env)) (backToKw pos (keywordEach [] X.env))) := by rfl) :
    PE X (.Call (.Attribute o m apos) (e :: es) [] pos) (tMeth C m sp [] E ta t) := by
  obtain ⟨f, fd, ps, hm, F, hb⟩ := c.ex
  exact pe_meth (pl := pl) ho c.cl hm F hr hb .nil hx ha hst hpl ht
theorem pe_mt0 {pl : Sem Bool} (c : Mt X.prog X.w X.K X.mg X.base k C m sp) (hr : Room k X.A) (hx : Passes (L2.CX X.prog X.w) X E) (ho : PE X o ta)
    (ht : eval (.Call (.Attribute o m apos) [] [] pos) X.env = (do
      let ov ← eval o X.env
      standAt apos.atName
      let (f, first) ← holding [ov] (getMethod ov m pl)
      callWith pos f first (backTo pos (starEach [] X.env)) (backToKw pos (keywordEach [] X.env))) := by rfl) :
    PE X (.Call (.Attribute o m apos) [] [] pos) (tMeth C m sp [] E ta tNil) := by
  obtain ⟨f, fd, ps, hm, F, hb⟩ := c.ex
  exact pe_meth0 (pl := pl) ho c.cl hm F hr hb .nil hx ht
theorem pe_ini (c : Ini X.prog X.w X.K X.mg X.base k x C sp) (hr : Room (k + 1) X.A) (hx : Passes (L2.CX X.prog X.w) X E) (ha : PA X (e :: es) t) (hg : Gl X x := by rfl)
    (hdb : (x == ("__debug__" : Str)) = false := by decide) (he : starEach (e :: es) X.env = (false, eval e X.env) :: starEach es X.env := by rfl) (hpl : (backTo pos (starEach es X.env)).any (·.1) = false := by rfl) :
    PE X (.Call (.Name x p) (e :: es) [] pos) (tMake C sp [] E t) := by
  obtain ⟨f, fd, ps, hm, M, F, hb⟩ := c.ex
  exact pe_make M F hr hg hm hb .nil hx ha hdb he hpl
/-- f(e, .., k = v, ..) -/
theorem pe_kw {kws : List Keyword} {ks : List Str} {gV : List V → List V → List V} (c : Kw X.prog X.w X.K X.mg X.base k n x ks gV sp) (hr : Room k X.A) (hx : Passes (L2.CX X.prog X.w) X E) (ha : PA X (e :: es) t) (hkw : PK X kws tk) (hg : Gl X x := by rfl)
    (hall : (backToKw pos (keywordEach kws X.env)).all (·.1.isSome) = true := by rfl) (hks : (backToKw pos (keywordEach kws X.env)).filterMap (·.1) = ks := by rfl)
    (hdb : (x == ("__debug__" : Str)) = false := by decide) (he : starEach (e :: es) X.env = (false, eval e X.env) :: starEach es X.env := by rfl)
    (hpl : ((backTo pos (starEach (e :: es) X.env)).any (·.1) || (backToKw pos (keywordEach kws X.env)).any (·.1.isNone)) = false := by rfl) :
    PE X (.Call (.Name x p) (e :: es) kws pos) (tCallN n ks.length sp gV E t tk) := by
  obtain ⟨f, fd, ps, g, hm, F, hk, hb⟩ := c.ex
  exact pe_callN F hr hg hm hk hb hx ha hkw hall hks hdb he hpl
/-- f(k = v, ..) -/
theorem pe_kw0 {kw : Keyword} {kws : List Keyword} {ks : List Str} {gV : List V → List V → List V} (c : Kw X.prog X.w X.K X.mg X.base k 0 x ks gV sp) (hr : Room k X.A) (hx : Passes (L2.CX X.prog X.w) X E) (hkw : PK X (kw :: kws) tk) (hg : Gl X x := by rfl)
    (hall : (backToKw pos (keywordEach (kw :: kws) X.env)).all (·.1.isSome) = true := by rfl) (hks : (backToKw pos (keywordEach (kw :: kws) X.env)).filterMap (·.1) = ks := by rfl)
    (hdb : (x == ("__debug__" : Str)) = false := by decide)
    (hpl : ((backTo pos (starEach [] X.env)).any (·.1) || (backToKw pos (keywordEach (kw :: kws) X.env)).any (·.1.isNone)) = false := by rfl) :
    PE X (.Call (.Name x p) [] (kw :: kws) pos) (tCallN 0 ks.length sp gV E tNil tk) := by
  obtain ⟨f, fd, ps, g, hm, F, hk, hb⟩ := c.ex
  refine ⟨fun pins s σ H Q I h => ?_⟩
  refine wpAny_Call_Name_kw (ld_glob I hg hm ?_ hdb)
  refine PySem.W.callWith_KW0 (h₀ := X.base) I.ok.mod.kin hk hall (thn (hkw.run pos pins s σ H _ I h) fun ws s2 ⟨zs, H2, I2, rz, l1, l2, q2⟩ => ⟨I2.kIn, ?_⟩) hpl
  rw [hks]
  exact run_fnN (us := []) F hr hb hx I2 .nil rz l1 l2 q2
end
/-- what a callee lets out leaves the def -/
theorem pass_def {P : Program} {w : World} {K : PySem.W.Frag} {mg : Str → Option Value} {base : Heap} {N : List Str} {qual : Str} {scope : Scope} {f : Addr} {cd : Value} {A : Around} {outer : List Env} {s : Shared} {H : Hp} {E : XK} :
    Passes (L2.CX P w) (cxOf (L2.CX P w) P w K mg base N qual scope f cd A outer s H E) E :=
  passes_call (X := cxOf (L2.CX P w) P w K mg base N qual scope f cd A outer s H E) (W := fun cls d _ H => E cls d H) (takes_of rfl rfl rfl rfl) fun _ _ _ _ h => h
theorem own_def {P : Program} {w : World} {K : PySem.W.Frag} {mg : Str → Option Value} {base : Heap} {N : List Str} {qual : Str} {scope : Scope} {f : Addr} {cd : Value} {A : Around} {outer : List Env} {s : Shared} {H : Hp} {E : XK} :
    PassesOwn (model P w) (cxOf (L2.CX P w) P w K mg base N qual scope f cd A outer s H E).A (cxOf (L2.CX P w) P w K mg base N qual scope f cd A outer s H E).env (cxOf (L2.CX P w) P w K mg base N qual scope f cd A outer s H E).xe :=
  passes_of (X := cxOf (L2.CX P w) P w K mg base N qual scope f cd A outer s H E) rfl
theorem body_ok {T : Type} {P Q : T → Prop} {t : T} (h : P t) (q : Q t) : ∃ t, P t ∧ Q t := ⟨t, h, q⟩
end Lk

set_option Elab.async false
set_option linter.all false
set_option maxRecDepth 100000
set_option maxHeartbeats 4000000
/-! A list comprehension out of whose element a callee's exception goes. -/
namespace Lk
open PySem PySem.Spec PyProof.Rows L2

theorem funFrames_but {h h' B : Heap} {C : Addr} (k : ∀ b, b ≠ C → h'.get? b = h.get? b) : ∀ {l : List Env}, C ∉ frs l → h.FunFrames B l → h'.FunFrames B l
  | [], _, _ => trivial
  | env :: r, hC, hl => by
    obtain ⟨hk, ⟨L, o, hf, hn, ho, hd⟩, hr⟩ := hl
    have e : frs (env :: r) = L :: frs r := by unfold frs; rw [List.filterMap_cons, hf]
    rw [e] at hC
    have hLC : L ≠ C := fun z => hC (by rw [z]; exact List.mem_cons_self)
    exact ⟨hk, ⟨L, o, hf, hn, (k L hLC).trans ho, hd⟩, funFrames_but k (fun z => hC (List.mem_cons_of_mem _ z)) hr⟩
theorem frs_nil_base {h B B2 : Heap} : ∀ {l : List Env}, (∀ b o, B2.get? b = some o → B.get? b = some o) → h.FunFrames B l → h.FunFrames B2 l
  | [], _, _ => trivial
  | env :: r, k, hl => by
    obtain ⟨hk, ⟨L, o, hf, hn, ho, hd⟩, hr⟩ := hl
    refine ⟨hk, ⟨L, o, hf, ?_, ho, hd⟩, frs_nil_base k hr⟩
    cases e : B2.get? L with
    | none => rfl
    | some u =>
      rw [k L u e] at hn
      cases hn

section
variable {X : Cx} {pins : List (Addr × Obj)} {σ : L2.St} {H3 : Hp} {s3 : Shared}
/-- what a callee lets out of the block goes out of the def around -/
theorem pass_blk {E : XK} {scope : Scope} {fp : List Addr} (tk : Takes X (fun cls d _ H => E cls d H)) (hs : X.stack = X.env :: X.outer) (hf : X.env.frame = some X.env.locals)
    (I3 : Inv X pins σ H3 s3) (f3 : ∀ b ∈ fp, FpOk X pins H3 b) (cenv : Env) (hcl : cenv.locals = s3.heap.objs.size) (hcf : cenv.frame = X.env.frame) :
    Passes (L2.CX X.prog X.w) (Cx.wish (X.blk s3 H3 scope cenv fp) (notedBy (model X.prog X.w) X.A cenv (CompFails (model X.prog X.w) X.A X.xe cenv))) E := by
  intro pins' σ' H s e s' I c
  obtain ⟨a, B, H', cls, d, rfl, fl, hok, ub, na, os, ag, hE⟩ := c
  show wpAny (model X.prog X.w) X.A (noteFrame (.ref a) cenv) (fun _ s'' => CompFails (model X.prog X.w) X.A X.xe cenv (.ref a) s'') (CompFails (model X.prog X.w) X.A X.xe cenv) s'
  have hfr : X.A.frames = some (X.env :: X.outer) := by rw [I3.ok.frames, hs]
  have en : noteFrame (.ref a) cenv = noteFrame (.ref a) X.env := by
    unfold noteFrame PySem.frameOf
    rw [hcf]
  rw [en]
  have fl' : HandSPX.FlyingZ B (X.env :: X.outer) a (Zc cls d) s'.heap := hs ▸ fl
  refine HandSPX.looks_onZ Zc.steady hfr hf fl' fun h1 hh1 up1 => ?_
  -- the block's names
  obtain ⟨mC, hnC, _⟩ := I.loc
  have hnC : s.heap.Ns cenv.locals mC := hnC
  have hC0 : H cenv.locals = none := I.free
  have lt3 : ∀ {b : Addr} {o : Obj}, s3.heap.get? b = some o → b ≠ cenv.locals := fun {b o} q => by
    rw [hcl]
    exact Nat.ne_of_lt (Heap.lt_size q)
  have nCf : cenv.locals ∉ frs X.stack := fun hm => by
    obtain ⟨_, o, ho, _⟩ := I3.stack.mem hm
    exact lt3 ho rfl
  obtain ⟨oC, esC, epC, hoC, rC⟩ := id hnC
  have BC : B.get? cenv.locals = some oC := ub.keep _ _ hoC hC0 nCf
  have nC1 : H' cenv.locals = none := ub.free _ _ hoC hC0
  have hB1 : B.StaysIn h1 := hh1.1
  have hns1 : h1.Ns cenv.locals mC := hnC.at fun o q => by
    rw [hoC] at q
    cases q
    exact hB1 _ _ BC
  refine ⟨mC, hns1, fun h' m' hn' sb => ?_⟩
  obtain ⟨k1, k2, k3, oe, vs, T, oT, ts, he, hz, hd, hv1, hnT, hTe, hT, hdT, h3⟩ := hh1
  have haC : a ≠ cenv.locals := fun z => by
    rw [z, BC] at k2
    cases k2
  have hTC : T ≠ cenv.locals := fun z => by
    rw [z, BC] at hnT
    cases hnT
  -- the ground without the block's names
  obtain ⟨B2, b1, b2⟩ := restrict B fun b => decide (b ≠ cenv.locals)
  have bk : ∀ b, b ≠ cenv.locals → B2.get? b = B.get? b := fun b hb => b1 b (decide_eq_true hb)
  have bC : B2.get? cenv.locals = none := b2 _ (by simp)
  have b2B : ∀ b o, B2.get? b = some o → b ≠ cenv.locals ∧ B.get? b = some o := fun b o q => by
    have hb : b ≠ cenv.locals := fun z => by
      rw [z, bC] at q
      cases q
    exact ⟨hb, (bk b hb).symm.trans q⟩
  have kh : ∀ b, b ≠ cenv.locals → h'.get? b = h1.get? b := fun b hb => sb.2 b hb
  have hB2 : B2.StaysIn h' := fun b o q => by
    obtain ⟨hb, q2⟩ := b2B b o q
    exact (kh b hb).trans (k1 b o q2)
  have k3' : h1.FunFrames B X.stack := hs ▸ k3
  have ff2 : h'.FunFrames B2 X.stack := funFrames_but kh nCf (frs_nil_base (fun b o q => (b2B b o q).2) k3')
  have hh2 : HandSPX.HeldZ B2 (X.env :: X.outer) a (Zc cls d) X.env.locals h' := by
    refine ⟨hB2, ?_, hs ▸ ff2, oe, vs, T, oT, ts, (kh a haC).trans he, hz, hd, hv1, ?_, hTe, (kh T hTC).trans hT, hdT, h3⟩
    · rw [bk a haC]
      exact k2
    · rw [bk T hTC]
      exact hnT
  show wpAny (model X.prog X.w) X.A (PySem.passOn "comprehension.variables-let-go" (.ref a) cenv : Sem Value) (fun _ _ => False) X.xe { s' with heap := h' }
  unfold PySem.passOn
  refine wpAny_bind (wpAny_field ((kh a haC).trans he) hd hv1 ?_)
  rw [if_neg (show ¬ ((Value.ref T == Value.none) = true) from by simp)]
  have fin : wpAny (model X.prog X.w) X.A (setFlight (.ref a) cenv.frame) (fun _ s4 => wpAny (model X.prog X.w) X.A (throw (.ref a) : Sem Value) (fun _ _ => False) X.xe s4) X.xe { s' with heap := h' } := by
    rw [hcf, hf]
    refine HandSPX.setFlight_onZ hh2 fun h4 hh4 up4 => wpAny_throw (tk _ _ ?_)
    -- the state without the exception
    obtain ⟨G, g1, g2⟩ := restrict s'.heap fun b => (B2.get? b).isSome || decide (b ∈ frs X.stack)
    have st : B.StaysIn s'.heap := fl.1
    have gB : ∀ b o, B2.get? b = some o → G.get? b = some o := fun b o q => by
      rw [g1 b (by simp [q])]
      exact st b o (b2B b o q).2
    have gF : ∀ b, b ∈ frs X.stack → G.get? b = s'.heap.get? b := fun b hb => g1 b (by simp [hb])
    have og : ∀ b o, G.get? b = some o → s'.heap.get? b = some o ∧ ((B2.get? b).isSome = true ∨ b ∈ frs X.stack) := fun b o q => by
      cases z : ((B2.get? b).isSome || decide (b ∈ frs X.stack)) with
      | false =>
        rw [g2 b z] at q
        cases q
      | true =>
        rw [g1 b z] at q
        exact ⟨q, by simpa [Bool.or_eq_true] using z⟩
    have gC : ∀ b o, G.get? b = some o → b ≠ cenv.locals := fun b o q z => by
      rcases (og b o q).2 with w1 | w1
      · rw [z, bC] at w1
        cases w1
      · exact nCf (z ▸ w1)
    have Un3 : Un (frs X.stack) fp H3 H' s3.heap G := {
      keep := fun b o q n hb hx => by
        have q1 := I.base.keep b o q n hb hx
        have n1 := I.base.free b o q n hx
        exact gB b o ((bk b (lt3 q)).trans (ub.keep b o q1 n1 hb))
      slot := fun b o q n hb hx => by
        obtain ⟨sl, q1⟩ := I.base.slot b o q n hb hx
        obtain ⟨sl2, q2⟩ := ub.slot b _ q1 hb
        exact ⟨sl2, by rw [gF b hb]; exact q2⟩
      free := fun b o q n hx => by
        obtain ⟨o', q1⟩ := I.base.there b o q hx
        exact ub.free b o' q1 (I.base.free b o q n hx)
      there := fun b o q hx => by
        obtain ⟨o', q1⟩ := I.base.there b o q hx
        by_cases hb : b ∈ frs X.stack
        · obtain ⟨sl, q2⟩ := ub.slot b _ q1 hb
          exact ⟨_, by rw [gF b hb]; exact q2⟩
        · obtain ⟨o2, q2⟩ := ub.there b _ q1 hb
          exact ⟨o2, gB b o2 ((bk b (lt3 q)).trans q2)⟩
      tups := fun b xs q => ub.tups b xs (I.base.tups b xs q)
      frzs := fun b o xs q => ub.frzs b o xs (I.base.frzs b o xs q)
      tbls := fun b ps q => by
        obtain ⟨m1, e1⟩ := I.base.tbls b ps q
        obtain ⟨m2, e2⟩ := ub.tbls b _ e1
        exact ⟨m1 ++ m2, by rw [e2, Array.append_assoc]⟩ }
    have hokG : HOk X.prog X.w H' G := fun b o q => (hok b o q).stay (fun c v hc z => by
        have hcC : c ≠ cenv.locals := fun w1 => by
          rcases hc with hc | hc
          · rw [← hc, w1, nC1] at q
            cases q
          · rw [w1, nC1] at hc
            cases hc
        exact gB c v ((bk c hcC).trans z)) (fun _ z => z) fun _ _ z => z
    have J : Inv X pins σ H' { s3 with heap := G, gens := s'.gens, drawn := s'.drawn, toks := s'.toks } :=
      I3.call (ch := fp) Un3 hokG ag fun b hb => ⟨(f3 b hb).2.2.2.1, (f3 b hb).2.1, (f3 b hb).2.2.2.2.1, (f3 b hb).2.2.2.2.2⟩
    refine ⟨a, B2, _, pins, σ, H', cls, d, rfl, J, fun b o q hb => ?_, fun b o q nf => ?_, .inr (.inr (hs ▸ hh4)), na, ?_, ag, hE⟩
    · obtain ⟨q1, w1⟩ := og b o q
      rcases w1 with w1 | w1
      · obtain ⟨o', q2⟩ := Option.isSome_iff_exists.mp w1
        have z := st b o' (b2B b o' q2).2
        rw [q1] at z
        cases z
        exact q2
      · exact absurd w1 hb
    · obtain ⟨q1, _⟩ := og b o q
      obtain ⟨sl1, q2⟩ := up1 b o q1 nf
      have q3 : h'.get? b = some { o with slots := sl1 } := (kh b (gC b o q)).trans q2
      exact up4 b { o with slots := sl1 } q3 nf
    · show s'.os = s3.os
      exact os.trans I.os
  first
    | exact wpAny_bind (wpAny_pure (wpAny_bind fin))
    | exact wpAny_bind fin
end

section
variable {X : Cx} {E : XK}
/-- the context of the block -/
abbrev blkX (X : Cx) (s : Shared) (H : Hp) (scope : Scope) (cenv : Env) (fp : List Addr) (xe : Value → Shared → Prop) : Cx := Cx.wish (X.blk s H scope cenv fp) xe
theorem lc_coreX {pins : List (Addr × Obj)} {s : Shared} {σ : L2.St} {H : Hp} {Q : VK} {elt tg iter : Expr} {ifs : List Expr} {scope : Scope} {own : List (Str × Nat)} {pos pos' : Pos} {wi : TI} {g : TG} {tt : TT} {te : TE} {use : Option (Value → Sem Unit)} {Qf : Value → Shared → Prop}
    (hc : X.calm = true) (hN : X.N.Nodup) (tk : Takes X (fun cls d _ H => E cls d H)) (hst : X.stack = X.env :: X.outer) (hfr : X.env.frame = some X.env.locals) (I : Inv X pins σ H s) (hi : PI X tg iter wi) (ok : BlkOk X.N X.env.scope scope own)
    (hg : ∀ (s : Shared) (H : Hp) (C : Addr) (cl : List (Str × Addr)) (fp : List Addr) (xe : Value → Shared → Prop), PG (blkX X s H scope (compEnvC scope cl C X.env) fp xe) tg g)
    (ht : ∀ (s : Shared) (H : Hp) (C : Addr) (cl : List (Str × Addr)) (fp : List Addr) (xe : Value → Shared → Prop), Passes (L2.CX X.prog X.w) (blkX X s H scope (compEnvC scope cl C X.env) fp xe) E → PTs (blkX X s H scope (compEnvC scope cl C X.env) fp xe) ifs tt)
    (he : ∀ (s : Shared) (H : Hp) (C : Addr) (cl : List (Str × Addr)) (fp : List Addr) (xe : Value → Shared → Prop), Passes (L2.CX X.prog X.w) (blkX X s H scope (compEnvC scope cl C X.env) fp xe) E → PE (blkX X s H scope (compEnvC scope cl C X.env) fp xe) elt te)
    (hs : ∀ x, foldedSetIterable iter X.env x = pure x)
    (h : tLc wi g tt te (own.map (·.2)) σ H Q)
    (hRR : ∀ D C s' m H' cenv, Inv X pins σ H' s' → Q (.ref D) H' → s'.heap.Ns C m → FpOk X pins H' C → cenv.locals = C → compEnds (model X.prog X.w) X.A X.xe use Qf (.ref D) cenv (.ok .next) s') :
    wpAny (model X.prog X.w) X.A (comprehension (.ListComp elt [⟨tg, iter, ifs, 0⟩] scope pos) scope X.env pos' (newList []) false (eval iter X.env) use) Qf X.xe s := by
  have hfree : ∀ y ∈ scope.names, y.2 = .free → ∃ c, X.env.cells.lookup y.1 = some c := fun y hy e => by
    rcases ok.free y hy e with k | k
    · exact I.ok.has _ (.inl k)
    · exact I.ok.has _ (.inr k)
  refine comprehension_at (use := use) rfl hs (closure_ok hfree) ok.kind (fun y hy e => by rw [ok.uniq y hy, e])
    (thn (hi.run pins s σ H _ I h) fun xv s1 hx => thn hx fun itv s2 h2 => ?_)
  obtain ⟨it, fp, tn, J, H2, e, I2, T, st2, f2, q⟩ := h2
  subst e
  refine wpAny_newObj_type (newEnv_comp ?_) (by show 0 ≤ sizeLine; decide)
  generalize hD : s2.heap.objs.size = D
  have hDn : H2 D = none := I2.hok.fresh (Nat.le_of_eq hD)
  obtain ⟨W, ⟨m0, w0⟩, turn⟩ := q D hDn
  -- the new list
  generalize hs3 : ({ s2 with heap := s2.heap.push { cls := .type "list", data := .seq ([] : List Value).toArray } } : Shared) = s3
  have I3 : Inv X pins σ (upd H2 D (.lst [])) s3 := by
    rw [← hs3]
    refine I2.laid (t' := s2.toks) (fun b o e => Heap.get?_push_of_some _ e) (Nat.le_of_eq hD) ⟨Nat.zero_le _, [], 0, .nil, ?_⟩
    rw [← hD]
    exact Heap.get?_push_size _ rfl
  have h3 : s3.heap = s2.heap.push { cls := .type "list", data := .seq ([] : List Value).toArray } := by rw [← hs3]
  have sz : ∀ b ∈ fp, b < s2.heap.objs.size := fun b hb => by
    obtain ⟨o, e, _⟩ := T.obj _ _ st2 b hb
    exact Heap.lt_size e
  have f3 : ∀ b ∈ fp, FpOk X pins (upd H2 D (.lst [])) b ∧ b < s3.heap.objs.size := fun b hb => by
    have hlt := sz b hb
    refine ⟨⟨?_, (f2 b hb).2⟩, by rw [h3, Heap.size_push]; exact Nat.lt_succ_of_lt hlt⟩
    rw [upd_ne (by rw [← hD]; exact Nat.ne_of_lt hlt)]
    exact (f2 b hb).1
  have st3 : tn 0 s3.heap := T.keep _ _ _ st2 fun b _ o e => by rw [h3]; exact Heap.get?_push_of_some _ e
  have I4 := block_start I3 ok hN f3
  have pg := hg s3 (upd H2 D (.lst [])) s3.heap.objs.size (cellsFrom (s3.heap.objs.size + 1) scope.names (cloFrom X.env.cells scope.names [])) fp
  have pt := ht s3 (upd H2 D (.lst [])) s3.heap.objs.size (cellsFrom (s3.heap.objs.size + 1) scope.names (cloFrom X.env.cells scope.names [])) fp
  have pe := he s3 (upd H2 D (.lst [])) s3.heap.objs.size (cellsFrom (s3.heap.objs.size + 1) scope.names (cloFrom X.env.cells scope.names [])) fp
  show codeAny _ _ (.compStart (.ListComp elt [⟨tg, iter, ifs, 0⟩] scope pos) 0 (.ref it) (.ref D) (compEnvC scope (cellsFrom (s3.heap.objs.size + 1) scope.names (cloFrom X.env.cells scope.names [])) s3.heap.objs.size X.env)) (compEnds (model X.prog X.w) X.A X.xe use Qf (.ref D) (compEnvC scope (cellsFrom (s3.heap.objs.size + 1) scope.names (cloFrom X.env.cells scope.names [])) s3.heap.objs.size X.env)) { s3 with heap := pushCells (s3.heap.push { cls := .type "dict", data := .dict #[] }) scope.names }
  have nfp : ∀ b ∈ fp, (upd H2 D (.lst [])) b = none := fun b hb => (f3 b hb).1.1
  generalize hce : compEnvC scope (cellsFrom (s3.heap.objs.size + 1) scope.names (cloFrom X.env.cells scope.names [])) s3.heap.objs.size X.env = ce at I4 pg pt pe ⊢
  have cL : ce.locals = s3.heap.objs.size := by subst hce; rfl
  have cF : ce.frame = X.env.frame := by subst hce; rfl
  generalize hH3 : upd H2 D (.lst []) = H3 at I3 I4 pg pt pe w0 nfp f3
  generalize hs4 : ({ s3 with heap := pushCells (s3.heap.push { cls := .type "dict", data := .dict #[] }) scope.names } : Shared) = s4 at I4 ⊢
  have st4 : tn 0 s4.heap := T.keep _ _ _ st3 fun b _ o e => by rw [← hs4]; exact pushCells_keeps _ _ _ _ (Heap.get?_push_of_some _ e)
  generalize hxe : notedBy (model X.prog X.w) X.A ce (CompFails (model X.prog X.w) X.A X.xe ce) = xe
  have hpass : Passes (L2.CX X.prog X.w) (blkX X s3 H3 scope ce fp xe) E := by
    rw [← hxe]
    exact pass_blk tk hst hfr I3 (fun b hb => (f3 b hb).1) ce cL cF
  have pg := pg xe
  have pt := pt xe hpass
  have pe := pe xe hpass
  have I4 := I4.wish xe
  have stat : ∀ {σ' : L2.St} {H' : Hp} {s' : Shared}, Inv (blkX X s3 H3 scope ce fp xe) [] σ' H' s' → (∀ b ∈ fp, H' b = none) → ∀ b ∈ fp, FpOk (blkX X s3 H3 scope ce fp xe) [] H' b := fun {σ' H' s'} I' hn b hb =>
    ⟨hn b hb, (I'.ok.exf b hb).1, I'.ok.exfs b hb, .inl hb, fun x c e => (I'.ok.exf b hb).2 x c e, fun p hp => absurd (show p ∈ ([] : List (Addr × Obj)) ++ [] from hp) (by simp)⟩
  have err : (notedBy (model X.prog X.w) X.A ce fun e s' => compEnds (model X.prog X.w) X.A X.xe use Qf (.ref D) ce (.error e) s') = xe := by
    rw [← hxe]
    cases use <;> rfl
  have loop : codeAny (model X.prog X.w) X.A (.compLoop (.ListComp elt [⟨tg, iter, ifs, 0⟩] scope pos) 0 (.ref it) (.ref D) ce) (compEnds (model X.prog X.w) X.A X.xe use Qf (.ref D) ce) s4 := by
    refine compLoop_any (fun n s' => ∃ i H', Inv (blkX X s3 H3 scope ce fp xe) [] (wipe σ (own.map (·.2))) H' s' ∧ tn i s'.heap ∧ (∀ b ∈ fp, H' b = none) ∧ W i n H') ?_ m0 ⟨0, H3, I4, st4, nfp, w0⟩
    rintro n s5 ⟨i, H5, I5, st5, n5, w5⟩
    rw [err]
    rcases turn i n H5 w5 with ⟨stop, qq⟩ | ⟨go, Nx, hNx, step⟩
    · have td := T.done (blkX X s3 H3 scope ce fp xe) rfl rfl rfl hc i [] s5 _ H5 xe I5 (stat I5 n5) st5 stop
      refine thn td fun r s6 ⟨hr, I6⟩ => ?_
      subst hr
      -- back in the def's context
      have I7 : Inv X pins σ H5 s6 := I3.call' (ch := fp) I6.os I6.base I6.hok I6.bare fun b hb => ⟨(f3 b hb).1.2.2.2.1, (f3 b hb).1.2.1, (f3 b hb).1.2.2.2.2.1, (f3 b hb).1.2.2.2.2.2⟩
      have nC : H5 s3.heap.objs.size = none := by
        have z : H5 ce.locals = none := I6.free
        rw [cL] at z
        exact z
      obtain ⟨m, hn, _⟩ := I6.loc
      have hn : s6.heap.Ns ce.locals m := hn
      rw [cL] at hn
      exact hRR D s3.heap.objs.size s6 m H5 ce I7 qq hn (I3.fpOk (Nat.le_refl _) nC) cL
    · have ti := T.item (blkX X s3 H3 scope ce fp xe) rfl rfl rfl hc i [] s5 _ H5 xe I5 (stat I5 n5) st5 go
      refine thn ti fun r s6 ⟨u, hr, h6⟩ => ?_
      subst hr
      refine thn h6 fun _ s7 ⟨x, H7, I7, r7, y7, st7, n7⟩ => ?_
      have I7' := I7.pinned (stat I7 n7) (T.obj _ _ st7)
      refine thn (pg.run _ s7 _ H7 x u _ I7' r7 (step x H7 y7)) fun _ s8 ⟨σ8, H8, I8, hw8, q8⟩ => ?_
      refine thn (pt.run _ s8 σ8 H8 _ I8 q8) fun b s9 ⟨H9, I9, q9⟩ => ?_
      -- the turn's end
      have fin : ∀ {s' : Shared} {H' : Hp}, Inv (blkX X s3 H3 scope ce fp xe) ([] ++ pinsAt fp s7.heap) σ8 H' s' → Nx H' → ∃ m, m < n ∧ ∃ i H', Inv (blkX X s3 H3 scope ce fp xe) [] (wipe σ (own.map (·.2))) H' s' ∧ tn i s'.heap ∧ (∀ b ∈ fp, H' b = none) ∧ W i m H' := fun {s' H'} I' nx => by
        obtain ⟨m', hm, w'⟩ := hNx H' nx
        have pin' : ∀ b ∈ fp, ∀ o, s7.heap.get? b = some o → s'.heap.get? b = some o ∧ H' b = none := fun b hb o e =>
          let z := I'.pin (b, o) (List.mem_append_right _ (List.mem_append_right _ (mem_pinsAt hb e)))
          ⟨z.1, z.2.1⟩
        have hl : (wipe σ (own.map (·.2))).length = σ8.length := by rw [← hw8, wipe_length]
        refine ⟨m', hm, i + 1, H', (I'.unpinned (pins := [])).weak hl (fun j v e => ?_), T.keep _ _ _ st7 fun b hb o e => (pin' b hb o e).1, fun b hb => ?_, w'⟩
        · rw [← hw8] at e
          exact (wipe_some e).1
        · obtain ⟨o, e, _⟩ := T.obj _ _ st7 b hb
          exact (pin' b hb o e).2
      cases b with
      | false =>
        simp only [Bool.false_eq_true, if_false] at q9 ⊢
        exact fin I9 q9
      | true =>
        simp only [if_true] at q9 ⊢
        refine thn (pe.run _ s9 σ8 H9 _ I9 q9) fun z s10 ⟨yv, H10, I10, r10, acc, hD10, hz10, nx⟩ => ?_
        exact app_ok (X := blkX X s3 H3 scope ce fp xe) I10 hD10 hz10 r10 fun s11 I11 => fin I11 nx
  exact codeAny_compStart_list loop (T.self X.A 0 _ _ _ st4 loop)
/-- as a value -/
theorem pe_lcX {elt tg iter : Expr} {ifs : List Expr} {scope : Scope} {own : List (Str × Nat)} {pos : Pos} {wi : TI} {g : TG} {tt : TT} {te : TE} (tk : Takes X (fun cls d _ H => E cls d H)) (hst : X.stack = X.env :: X.outer) (hfr : X.env.frame = some X.env.locals)
    (hc : X.calm = true) (hN : X.N.Nodup) (ok : BlkOk X.N X.env.scope scope own) (hi : PI X tg iter wi)
    (hg : ∀ (s : Shared) (H : Hp) (C : Addr) (cl : List (Str × Addr)) (fp : List Addr) (xe : Value → Shared → Prop), PG (blkX X s H scope (compEnvC scope cl C X.env) fp xe) tg g)
    (ht : ∀ (s : Shared) (H : Hp) (C : Addr) (cl : List (Str × Addr)) (fp : List Addr) (xe : Value → Shared → Prop), Passes (L2.CX X.prog X.w) (blkX X s H scope (compEnvC scope cl C X.env) fp xe) E → PTs (blkX X s H scope (compEnvC scope cl C X.env) fp xe) ifs tt)
    (he : ∀ (s : Shared) (H : Hp) (C : Addr) (cl : List (Str × Addr)) (fp : List Addr) (xe : Value → Shared → Prop), Passes (L2.CX X.prog X.w) (blkX X s H scope (compEnvC scope cl C X.env) fp xe) E → PE (blkX X s H scope (compEnvC scope cl C X.env) fp xe) elt te)
    (hs : ∀ x, foldedSetIterable iter X.env x = pure x := by intro _; rfl) :
    PE X (.ListComp elt [⟨tg, iter, ifs, 0⟩] scope pos) (tLc wi g tt te (own.map (·.2))) := by
  refine ⟨fun pins s σ H Q I h => ?_⟩
  rw [eval_ListComp]
  refine lc_coreX (use := none) hc hN tk hst hfr I hi ok hg ht he hs h fun D C s' m H' cenv I' q hn f hcl => ?_
  subst hcl
  refine ⟨m, hn, fun h'' sb => ?_⟩
  obtain ⟨f0, f1, f2, f3, f4, f5⟩ := f
  exact ⟨.ref D, H', I'.turned (t' := s'.toks) (fun b o hb e => (sb.2 b hb).trans e) f0 f1 f3 f4 f5, rfl, q⟩
/-- name = [..] on one line, the name a local -/
theorem ps_setLcX {i : Nat} {y : Str} {py : Pos} {elt tg iter : Expr} {ifs : List Expr} {scope : Scope} {own : List (Str × Nat)} {pos spos : Pos} {wi : TI} {g : TG} {tt : TT} {te : TE} (tk : Takes X (fun cls d _ H => E cls d H)) (hst : X.stack = X.env :: X.outer) (hfr : X.env.frame = some X.env.locals)
    (hc : X.calm = true) (hN : X.N.Nodup) (hy : X.N[i]? = some y) (hyl : X.env.scope.names.lookup y = some .local)
    (hsw : swapsWith (.ListComp elt [⟨tg, iter, ifs, 0⟩] scope pos) (some (.Name y py)) spos.line X.env = pure true) (ok : BlkOk X.N X.env.scope scope own) (hi : PI X tg iter wi)
    (hg : ∀ (s : Shared) (H : Hp) (C : Addr) (cl : List (Str × Addr)) (fp : List Addr) (xe : Value → Shared → Prop), PG (blkX X s H scope (compEnvC scope cl C X.env) fp xe) tg g)
    (ht : ∀ (s : Shared) (H : Hp) (C : Addr) (cl : List (Str × Addr)) (fp : List Addr) (xe : Value → Shared → Prop), Passes (L2.CX X.prog X.w) (blkX X s H scope (compEnvC scope cl C X.env) fp xe) E → PTs (blkX X s H scope (compEnvC scope cl C X.env) fp xe) ifs tt)
    (he : ∀ (s : Shared) (H : Hp) (C : Addr) (cl : List (Str × Addr)) (fp : List Addr) (xe : Value → Shared → Prop), Passes (L2.CX X.prog X.w) (blkX X s H scope (compEnvC scope cl C X.env) fp xe) E → PE (blkX X s H scope (compEnvC scope cl C X.env) fp xe) elt te)
    (hs : ∀ x, foldedSetIterable iter X.env x = pure x := by intro _; rfl) :
    PS X (.Assign [.Name y py] (.ListComp elt [⟨tg, iter, ifs, 0⟩] scope pos) spos) (tAsg (tLc wi g tt te (own.map (·.2))) (gName i)) := by
  refine ⟨fun pins s σ H D I h => ?_⟩
  rw [exec_Assign_Name_used _ _ _ _ hsw]
  refine wpAny_bind (wpAny_standAt (wpAny_bind ?_))
  show wpAny _ X.A (do let _ ← comprehension (.ListComp elt [⟨tg, iter, ifs, 0⟩] scope pos) scope X.env (firstIterPos [⟨tg, iter, ifs, 0⟩] pos) (newList []) false (eval iter X.env) (some (assign (.Name y py) X.env))) _ _ s
  have h : tLc wi g tt te (own.map (·.2)) σ H (fun x H1 => gName i x σ H1 D.nx) := h
  refine wpAny_bind (thn (lc_coreX (Qf := fun _ s' => SP X pins D .next s') hc hN tk hst hfr I hi ok hg ht he hs h fun L C s' m H' cenv I' q hn f hcl => ?_) fun _ s' hq => wpAny_pure (wpAny_pure hq))
  subst hcl
  show wpAny _ _ (assign (.Name y py) X.env (.ref L)) _ _ _
  refine wpAny_assign_Name (store_ok2 (v := V.ref L) I' hN hy (.inl hyl) rfl (fun s2 I2 ⟨a, sb, ha⟩ => ?_) (.inr hyl))
  obtain ⟨f0, f1, f2, f3, f4, f5⟩ := f
  have haC : cenv.locals ≠ a := by
    rcases ha with z | z
    · rw [z]; exact f1
    · exact fun e => f4 y a z e.symm
  refine ⟨m, hn.sameBut sb haC, fun h3 sb3 => ?_⟩
  exact ⟨_, H', I2.turned (t' := s2.toks) (fun b o hb e => (sb3.2 b hb).trans e) f0 f1 f3 f4 f5, q⟩
end
end Lk

set_option Elab.async false
set_option linter.all false
set_option maxRecDepth 100000
set_option maxHeartbeats 4000000
/-! A caught exception that is kept: tracked from the suite on; isinstance of it, its fields. -/
namespace Lk
open PySem PySem.Spec PyProof.Rows L2

/-- at a: an exception of the class cls, its dict d -/
def excK (a : Addr) (cls : Value) (d : Option Addr) : HO := .ext fun h => ∃ oe vs, h.get? a = some oe ∧ Zc cls d oe ∧ oe.data = .fields vs
theorem excK_tup {a : Addr} {cls : Value} {d : Option Addr} {xs : List V} : excK a cls d ≠ .tup xs := fun z => by
  have z' : HO.ext _ = HO.tup xs := z
  cases z'
theorem excK_own {a x : Addr} {cls : Value} {d : Option Addr} : excK a cls d ≠ .own x := fun z => by
  have z' : HO.ext _ = HO.own x := z
  cases z'
theorem excK_ok {P : Program} {w : World} {H : Hp} {h : Heap} {a : Addr} {cls : Value} {d : Option Addr} {oe : Obj} {vs : Array Value} (he : h.get? a = some oe) (hz : Zc cls d oe) (hd : oe.data = .fields vs) : ObjOk P w H h a (excK a cls d) :=
  ⟨⟨oe, vs, he, hz, hd⟩, ⟨oe, he⟩, fun h1 h2 z k => by
    obtain ⟨oe1, vs1, q1, q2, q3⟩ := z
    exact ⟨oe1, vs1, k _ q1, q2, q3⟩⟩
theorem excK_at {P : Program} {w : World} {H : Hp} {h : Heap} {a : Addr} {cls : Value} {d : Option Addr} (hok : HOk P w H h) (he : H a = some (excK a cls d)) : ∃ oe vs, h.get? a = some oe ∧ Zc cls d oe ∧ oe.data = .fields vs := by
  have x : ObjOk P w H h a (.ext fun h => ∃ oe vs, h.get? a = some oe ∧ Zc cls d oe ∧ oe.data = .fields vs) := hok a _ he
  exact x.1
section
variable {X : Cx} {pins : List (Addr × Obj)} {σ : L2.St} {H : Hp} {s : Shared} {a : Addr} {o : HO}
/-- an object that stood untracked, younger than the entry, is tracked from now on -/
theorem track (I : Inv X pins σ H s) (na : H a = none) (n0 : X.s_0.heap.get? a = none) (nL : a ≠ X.env.locals) (nc : ∀ x c, X.env.cells.lookup x = some c → c ≠ a) (np : ∀ p ∈ X.pn ++ pins, p.1 ≠ a) (new : ObjOk X.prog X.w (upd H a o) s.heap a o) : Inv X pins σ (upd H a o) s := by
  have nea : ∀ {b : Addr} {u : HO}, H b = some u → b ≠ a := fun {b u} q z => by
    rw [z, na] at q
    cases q
  refine ⟨I.ok, I.os, I.bare, ⟨I.base.keep, I.base.slot, fun b u q n hx => ?_, I.base.there, fun b xs q => ?_, fun b u xs q => ?_, fun b ps q => ?_⟩, I.loc, I.cell, ?_, fun x c q => ?_, fun p hp => ?_, fun b u q => ?_, I.len⟩
  · have hb : b ≠ a := fun z => by
      rw [z, n0] at q
      cases q
    rw [upd_ne hb]
    exact I.base.free b u q n hx
  · have z := I.base.tups b xs q
    rw [upd_ne (nea z)]
    exact z
  · have z := I.base.frzs b u xs q
    rw [upd_ne (nea z)]
    exact z
  · obtain ⟨m, z⟩ := I.base.tbls b ps q
    exact ⟨m, by rw [upd_ne (nea z)]; exact z⟩
  · rw [upd_ne (Ne.symm nL)]
    exact I.free
  · rw [upd_ne (nc x c q)]
    exact I.freeC x c q
  · obtain ⟨q1, q2, q3⟩ := I.pin p hp
    refine ⟨q1, ?_, q3⟩
    rw [upd_ne (np p hp)]
    exact q2
  · by_cases hb : b = a
    · subst hb
      rw [upd_same] at q
      cases q
      exact new
    · rw [upd_ne hb] at q
      refine (I.hok b u q).stay (fun _ _ _ z => z) (fun c z => ?_) fun c xs z => ?_
      · rw [upd_ne (nea z)]
        exact z
      · rw [upd_ne (nea z)]
        exact z
theorem suiteT (I : Inv X pins σ H s) (a : Addr) : Inv (X.suite a (X.pn ++ pins)) [] σ H s :=
  ⟨I.ok.suite _ _, I.os, I.bare, I.base, I.loc, I.cell, I.free, I.freeC, fun p hp => I.pin p (by rw [List.append_nil] at hp; exact hp), I.hok, I.len⟩
theorem unsuiteT {pn' : List (Addr × Obj)} (I : Inv (X.suite a (X.pn ++ pins)) pn' σ H s) (ok : X.Ok) : Inv X pins σ H s :=
  ⟨ok, I.os, I.bare, I.base, I.loc, I.cell, I.free, I.freeC, fun p hp => I.pin p (List.mem_append_left _ hp), I.hok, I.len⟩
end
/-- what the clause 'except x as n' wishes of an exception of the body; slot i is n's; the exception is tracked -/
def wAsT (K : PySem.W.Frag) (c : Value) (i : Nat) (ts : TS) (Wout : WX) (D : Ends) : WX := fun cls d σ H =>
  ∃ b, PySem.W.exmOne K cls c = some b ∧ (b = true → ∀ a, H a = none → ts { nx := fun σ' H' => D.nx (σ'.set i none) H', rt := D.rt, bk := fun σ' H' => D.bk (σ'.set i none) H', ct := fun σ' H' => D.ct (σ'.set i none) H' } (σ.set i (some (.ref a))) (upd H a (excK a cls d))) ∧
    (b = false → Wout cls d σ H)
section
variable {X : Cx} {x n : Str} {c : Value} {i : Nat} {body suite : List Stmt} {b₀ : Stmt} {np pos pos' : Pos} {tb : WX → TS} {ts : TS} {Wout : WX}
theorem ps_try_asT (hs : X.stack = X.env :: X.outer) (hf : X.env.frame = some X.env.locals) (hex : X.ex = []) (hN : X.N.Nodup) (hi : X.N[i]? = some n) (hln : X.env.kindOf n = some .local) (hc : Names X x c) (tk : Takes X Wout)
    (hb : ∀ (W : WX) (pn : List (Addr × Obj)) (xe : Value → Shared → Prop), Takes (X.tr pn xe) W → PassesOwn (model X.prog X.w) X.A X.env xe → PSs (X.tr pn xe) body (tb W))
    (hsu : ∀ (a : Addr) (pn : List (Addr × Obj)), PSs (X.suite a pn) (b₀ :: suite) ts) :
    PS X (.Try body [.ExceptHandler (some (.Name x np)) (some n) (b₀ :: suite) pos'] [] [] pos) (fun D σ H => tb (wAsT X.K c i ts Wout D) D σ H) := by
  refine ⟨fun pins s σ H D I h => ?_⟩
  have ok := I.ok
  have hfr : X.A.frames = some (X.env :: X.outer) := by rw [ok.frames, hs]
  have hloc : Loc X.env.scope n := .inl hln
  refine wpAny_Try_except ?_
  refine wpAny_mono ((hb (wAsT X.K c i ts Wout D) (X.pn ++ pins) (fun e s₁ => wpAny (model X.prog X.w) X.A (noteFrame e X.env) (fun _ s₂ => wpAny (model X.prog X.w) X.A (setFlight e none) (fun _ s₃ =>
    wpAny (model X.prog X.w) X.A (handleBy e X.env [.ExceptHandler (some (.Name x np)) (some n) (b₀ :: suite) pos']) (SP X pins D) X.xe s₃) X.xe s₂) X.xe s₁) (fun u s' xx => ?_) PassesOwn.looking).run [] s σ H D (I.toTry _) h) (fun f s1 hsp => ?_) (fun e s1 he => he)
  · -- the catch
    obtain ⟨a, B, sI, pins', σ', H', cls, d, rfl, J', nb, up, sky, na, os, ag, b, hb1, hyes, hno⟩ := xx
    have J : Inv X pins σ' H' sI := J'.ofTry ok
    have sky' : Sky B (X.env :: X.outer) a (Zc cls d) X.env.locals s'.heap := by rw [← hs]; exact sky
    show wpAny (model X.prog X.w) X.A (noteFrame (.ref a) X.env) _ _ _
    refine Sky.land Zc.steady hfr hf sky' fun h3 fl3 up3 => ?_
    have J3 : Inv X pins σ' H' { s' with heap := h3 } := J.landed nb fl3.1 (up.trans up3) os ag
    obtain ⟨oe3, vs3, he3, hz3, hd3⟩ := fl3.there
    have notFr : ∀ {h : Heap} {o : Obj} {vs : Array Value}, h.FunFrames B (X.env :: X.outer) → h.get? a = some o → o.data = .fields vs → a ∉ frs (X.env :: X.outer) := fun {h o vs} ff e dd hm => by
      obtain ⟨_, o', e', hnf⟩ := ff.mem hm
      rw [e] at e'; cases e'
      exact hnf _ dd
    have nfr := notFr fl3.2.2.1 he3 hd3
    have nL : a ≠ X.env.locals := fun z => nfr (List.mem_filterMap.mpr ⟨X.env, List.mem_cons_self, by rw [hf, z]⟩)
    have nF : a ∉ X.fs := fun hm => by
      obtain ⟨e, he, q⟩ := List.mem_filterMap.mp hm
      exact nfr (List.mem_filterMap.mpr ⟨e, List.mem_cons_of_mem _ he, q⟩)
    -- the exception is younger than the entry
    have nI : sI.heap.get? a = none := by
      cases e : sI.heap.get? a with
      | none => rfl
      | some o =>
        have z := nb a o e (by rw [hs]; exact nfr)
        have z2 : B.get? a = none := fl3.2.1
        rw [z2] at z
        cases z
    have n0 : X.s_0.heap.get? a = none := by
      cases e : X.s_0.heap.get? a with
      | none => rfl
      | some o =>
        obtain ⟨o', z⟩ := J.base.there a o e (by rw [hex]; simp)
        rw [nI] at z
        cases z
    have nCell : ∀ y c, X.env.cells.lookup y = some c → c ≠ a := fun y c e z => by
      obtain ⟨v, o, ho, _⟩ := J.cell y c e
      rw [z, nI] at ho
      cases ho
    have nPin : ∀ p ∈ X.pn ++ pins, p.1 ≠ a := fun p hp z => by
      have q := (J.pin p hp).1
      rw [z, nI] at q
      cases q
    have S3 := J3.suite he3 hd3 na nL nF
    refine wpAny_handleBy_cons (codeAny_handlers_test ?_) (by intro q; cases q)
    have LT : PySem.W.Looks (model X.prog X.w) h3 (typeOf (.ref a)) cls := fun A Q E s k q => wpAny_typeOf_ref (k _ _ he3) (by rw [hz3.1]; exact q)
    have LM := PySem.W.exm_one (M := model X.prog X.w) (J3.kIn) LT hb1
    have test : ∀ {Q : Value → Shared → Prop} {E : Value → Shared → Prop}, Q c { s' with heap := h3 } → wpAny (model X.prog X.w) (X.A.mark (some (.ref a))) (eval (.Name x np) X.env) Q E { s' with heap := h3 } := fun {Q E} q => by
      obtain ⟨hg, hdbg, hm | ⟨hm, hv, hnn⟩⟩ := hc
      · exact ld_glob (X := X.suite a ((a, oe3) :: (X.pn ++ pins))) S3 hg hm q hdbg
      · exact ld_blt (X := X.suite a ((a, oe3) :: (X.pn ++ pins))) S3 hg hm hv q hnn hdbg
    refine test (LM.here ?_)
    cases b with
    | true =>
      refine codeAny_handlers_suite_as ?_
      refine HandSPX.lands_againZ fl3 fun h4 fl4 up4 => ?_
      have J4 : Inv X pins σ' H' { s' with heap := h4 } := J.landed nb fl4.1 ((up.trans up3).trans up4) os ag
      obtain ⟨oe4, vs4, he4, hz4, hd4⟩ := fl4.there
      have J5 : Inv X pins σ' (upd H' a (excK a cls d)) { s' with heap := h4 } := track J4 na n0 nL nCell nPin (excK_ok he4 hz4 hd4)
      have S4 := suiteT J5 a
      refine store_ok (X := X.suite a (X.pn ++ pins)) (v := .ref a) S4 hN hi hloc rfl (fun s5 S5 => ?_) (.inr hln)
      refine wpAny_mono ((hsu a (X.pn ++ pins)).run [] s5 _ _ _ S5 (hyes rfl a na)) (fun f s6 hsp => ?_) (fun _ _ z => False.elim z)
      have end_ : ∀ {σ6 : L2.St} {H6 : Hp} {Q : Shared → Prop}, Inv (X.suite a (X.pn ++ pins)) [] σ6 H6 s6 → (∀ s7, Inv X pins (σ6.set i none) H6 s7 → Q s7) →
          wpAny (model X.prog X.w) X.A (do bindName X.env n .none; unbindBehindTheSuite X.env n pos') (fun _ s7 => Q s7) X.xe s6 := fun {σ6 H6 Q} S6 hq => gone_ok (unsuiteT S6 ok) hN hi hln hq
      cases f with
      | next =>
        obtain ⟨σ6, H6, S6, q6⟩ := hsp
        exact end_ S6 fun s7 J7 => ⟨_, _, J7, q6⟩
      | brk =>
        obtain ⟨σ6, H6, S6, q6⟩ := hsp
        exact end_ S6 fun s7 J7 => ⟨_, _, J7, q6⟩
      | cont =>
        obtain ⟨σ6, H6, S6, q6⟩ := hsp
        exact end_ S6 fun s7 J7 => ⟨_, _, J7, q6⟩
      | ret u =>
        obtain ⟨v6, σ6, H6, S6, r6, q6⟩ := hsp
        exact end_ S6 fun s7 J7 => ⟨_, _, _, J7, r6, q6⟩
    | false =>
      show wpAny _ X.A (handleBy (.ref a) X.env []) _ _ _
      refine wpAny_handleBy_nil ?_
      obtain ⟨k1, k2, k3, oe, vs, T, oT, ts', he, hz, hd, h1, hr⟩ := id fl3
      unfold PySem.passOn
      refine wpAny_bind (wpAny_field he hd h1 ?_)
      rw [if_neg (show ¬ ((Value.ref T == Value.none) = true) from by simp)]
      have fin : wpAny (model X.prog X.w) X.A (setFlight (.ref a) X.env.frame) (fun _ s4 => wpAny (model X.prog X.w) X.A (throw (.ref a) : Sem Flow) (SP X pins D) X.xe s4) X.xe { s' with heap := h3 } := by
        rw [hf]
        refine HandSPX.setFlight_upZ fl3 fun h4 hh4 up4 => wpAny_throw (tk _ _ ?_)
        exact ⟨a, B, sI, pins, σ', H', cls, d, rfl, J, nb, (up.trans up3).trans up4, .inr (.inr (by rw [hs]; exact hh4)), na, os, ag, hno rfl⟩
      first
        | exact wpAny_bind (wpAny_pure (wpAny_bind fin))
        | exact wpAny_bind fin
  · cases f with
    | next =>
      obtain ⟨σ', H', J', q⟩ := hsp
      exact wpAny_execs_nil ⟨σ', H', J'.ofTry ok, q⟩
    | brk =>
      obtain ⟨σ', H', J', q⟩ := hsp
      exact ⟨σ', H', J'.ofTry ok, q⟩
    | cont =>
      obtain ⟨σ', H', J', q⟩ := hsp
      exact ⟨σ', H', J'.ofTry ok, q⟩
    | ret u =>
      obtain ⟨v, σ', H', J', r, q⟩ := hsp
      exact ⟨v, σ', H', J'.ofTry ok, r, q⟩
end
end Lk

namespace PySem.W
open PySem PySem.Spec PySem.Calls PyProof.Rows
section
variable {prog : Program} {w : World} {A : Around} {E : Value → Shared → Prop} {s : Shared} {K : Frag} {x D : Addr} {ox : Obj} {od : Option Obj}
theorem lk_findObj_data {C : Addr} {name : Str} {a g : Value} (hc : (clsIn K C).isSome = true) (ha : findIn K (.ref C) name = some (some a)) (hg : specialIn K a "__get__" = some (some g)) (ht : takesIn K a = some true) : findObj K C od name = some (.bind g a) := by
  obtain ⟨cd, hc⟩ := Option.isSome_iff_exists.mp hc
  unfold findObj
  rw [hc, Option.bind_some, ha, Option.bind_some]
  simp [hg, ht]
theorem lk_kin_classE {Q : Option Value → Shared → Prop} (hga : findIn K (.ref D) "__getattribute__" = some (some (.builtin "BaseException.__getattribute__"))) (hgt : findIn K (.ref D) "__getattr__" = some none) (hsub : subIn K (.ref D) (.type "BaseException") = some true)
    (hdct : hasDictIn K D = true) (ha : findIn K (.ref D) "__class__" = some (some (.builtin "object.__class__")))
    (hn : specialIn K (.builtin "object.__class__") "__get__" = some (some (.builtin "getset_descriptor.__get__"))) (htk : takesIn K (.builtin "object.__class__") = some true) (hm : mroIn K D (.type "object") = some true)
    (X : K.In s.heap) (I : InstAt s.heap x ox D od) (h : Q (some (.ref D)) { s with toks := s.toks + 1 }) : wpAny (model prog w) A (getAttr? (.ref x) "__class__") Q E s := by
  have hf : findObj K D od "__class__" = some (.bind (.builtin "getset_descriptor.__get__") (.builtin "object.__class__")) := lk_findObj_data (by obtain ⟨cd, hc, _⟩ := any_some hdct; rw [hc]; rfl) ha hn htk
  obtain ⟨hp, g, d, t, os⟩ := s
  have L0 := I.type (M := model prog w)
  have L1 := looks_findIn (M := model prog w) X hga
  have L2 := looks_findIn (M := model prog w) X hgt
  have L3 := looks_find (M := model prog w) X I hf
  have sub : Looks (model prog w) hp (isInstance (.ref x) (.type "BaseException")) true := L0.andThen (looks_subIn X hsub)
  have hx0 : (false && onTheHeap (Value.builtin "BaseException.__getattribute__")) = false := rfl
  have hx2 : (Value.builtin "BaseException.__getattribute__" == Value.builtin "object.__getattribute__") = false := by decide +kernel
  have hx1 : (onTheHeap (Value.ref D) && Value.builtin "BaseException.__getattribute__" == Value.builtin "object.__getattribute__") = false := by rw [hx2]; rfl
  unfold getAttr? getAttrBy? getAttrBy
  refine wpAny_bind (wpAny_mkText (wpAny_bind (wpAny_attempt (wpAny_holding (wpAny_bind (L0.at (wpAny_bind (L1.at ?_))))))))
  show wpAny _ _ (if (onTheHeap (Value.ref D) && Value.builtin "BaseException.__getattribute__" == Value.builtin "object.__getattribute__") = true then _ else _) _ _ _
  rw [hx1, if_neg Bool.false_ne_true]
  unfold getAttrByItsOwn hookBefore
  refine wpAny_bind ?_
  rw [if_pos (show onTheHeap (Value.ref D) = true from rfl)]
  refine L2.at ?_
  refine wpAny_bind (wpAny_attempt (wpAny_holding ?_))
  unfold callGetattribute
  rw [hx0, if_neg Bool.false_ne_true]
  unfold boundAndCalled
  rw [PySem.F.excAttr_ValueError.ga.bind (.ref x)]
  refine wpAny_bind (wpAny_pure ?_)
  show wpAny _ _ (call (.builtin "BaseException.__getattribute__") [.ref x, .str "__class__" t]) _ _ _
  refine wpAny_call (codeAny_call_builtin PySem.F.excAttr_ValueError.ga.plain PySem.F.entry_bexc_ga ?_)
  refine @check_slot (model prog w) _ _ ⟨hp, g, d, t + 1, os⟩ "BaseException.__getattribute__" "BaseException" "__getattribute__" (.ref x) [.str "__class__" t] [] _ (by decide +kernel) (by decide +kernel) sub (PySem.F.args_bexc_ga (.ref x) (.str "__class__" t)) ?_
  unfold Builtin.«object.__getattribute__»
  refine wpAny_bind (wpAny_of_eq (a := ((Value.ref x : Value), [Value.str "__class__" t])) (by first | rfl | (simp only [slotArgs]; rfl)) ?_)
  refine wpAny_bind (wpAny_pure (wpAny_bind (L0.at (wpAny_bind (L3.at ?_)))))
  show wpAny _ _ (holding [Value.builtin "object.__class__"] (call (.builtin "getset_descriptor.__get__") [.builtin "object.__class__", .ref x, .ref D]) >>= ret) _ _ _
  refine wpAny_bind (wpAny_holding (wpAny_call (class_get (s := ⟨hp, g, d, t + 1, os⟩) (ox := ox) (od := od) X I hm ?_)))
  refine wpAny_pure ?_
  show wpAny _ _ (handedOut (.ref D)) _ _ _
  rw [handedOut_of (v := .ref D) rfl]
  first
    | exact wpAny_pure (wpAny_pure h)
    | exact wpAny_pure h
    | exact wpAny_pure (wpAny_bind (wpAny_pure (wpAny_pure h)))
theorem lk_kitx_exc (hga : findIn K (.ref D) "__getattribute__" = some (some (.builtin "BaseException.__getattribute__"))) (hgt : findIn K (.ref D) "__getattr__" = some none) (hsub : subIn K (.ref D) (.type "BaseException") = some true) (hdct : hasDictIn K D = true) (ha : findIn K (.ref D) "__class__" = some (some (.builtin "object.__class__")))
    (hn : specialIn K (.builtin "object.__class__") "__get__" = some (some (.builtin "getset_descriptor.__get__"))) (htk : takesIn K (.builtin "object.__class__") = some true) (hm : mroIn K D (.type "object") = some true) :
    KitX K (.ref x) (.ref D) (fun h => ∃ ox od, InstAt h x ox D od) where
  ty := fun _ _ _ ⟨_, _, I⟩ => I.type
  it := fun _ _ X _ => by
    obtain ⟨cdD, hcD, _⟩ := any_some hdct
    unfold clsIn at hcD
    split at hcD
    · rename_i c' d' cd' sl' ho
      intro A' Q' E' s' k q
      unfold isType loadHead
      exact wpAny_bind (wpAny_loadPart (k _ _ (X _ _ ho)) (wpAny_pure q))
    · cases hcD
  ne := fun h tp dd its n sl X htp => by
    obtain ⟨cdD, hcD, _⟩ := any_some hdct
    refine Bool.eq_false_iff.mpr fun q => ?_
    have e : D = tp := Value.ref.inj (beq_iff_eq.mp q)
    subst e
    unfold clsIn at hcD
    split at hcD
    · rename_i c' d' cd' sl' ho
      have z := (X _ _ ho).symm.trans htp
      cases z
    · cases hcD
  ca := fun X ⟨_, _, I⟩ k => lk_kin_classE hga hgt hsub hdct ha hn htk hm X I k
end
end PySem.W

namespace Lk
open PySem PySem.Spec PyProof.Rows L2
/-- the dict of a tracked exception: none, or tracked -/
def ExcD (H : Hp) : Option Addr → Prop
  | none => True
  | some dd => ∃ fs, H dd = some (.xd fs)
section
variable {X : Cx} {pins : List (Addr × Obj)} {σ : L2.St} {H : Hp} {s : Shared}
theorem exc_inst {a C : Addr} {d : Option Addr} (I : Inv X pins σ H s) (h : H a = some (excK a (.ref C) d)) (hd : ExcD H d) : ∃ ox od, PySem.W.InstAt s.heap a ox C od := by
  obtain ⟨oe, vs, he, hz, hv⟩ := excK_at I.hok h
  cases d with
  | none => exact ⟨oe, none, he, hz.1, by unfold PySem.W.notCls; rw [hv] <;> rfl, by rw [hz.2] <;> trivial⟩
  | some dd =>
    obtain ⟨fs, q⟩ := hd
    have hx : ObjOk X.prog X.w H s.heap dd (.xd fs) := I.hok dd _ q
    obtain ⟨mA, ⟨od, es, ep, ho, _⟩, _⟩ := hx
    exact ⟨oe, some od, he, hz.1, by unfold PySem.W.notCls; rw [hv] <;> rfl, by rw [hz.2]; exact ho⟩
/-- isinstance(x, c): a plain value, or a caught exception -/
def rIsA (K : PySem.W.Frag) : List V → Hp → VK → Prop := fun xs H Q => ∃ (x c : V) (u : Value) (b : Bool), xs = [x, c] ∧ ClsV c u ∧
  ((∃ t, TyX K H x t ∧ PySem.W.kitOne K t u = some b) ∨ ∃ a C d, x = .ref a ∧ H a = some (excK a (.ref C) d) ∧ ExcD H d ∧ ExcC K C ∧ PySem.W.kitOne K (.ref C) u = some b) ∧ Q (.bl b) H
theorem call_isA : CallR X (.builtin "isinstance") (rIsA X.K) := by
  intro pins s σ H xs us Q I r h
  obtain ⟨x, c, u, b, rfl, k, h, q⟩ := h
  rcases h with ⟨t, ty, e⟩ | ⟨a, C, d, rfl, ha, hd, hC, e⟩
  · exact call_isi pins s σ H _ us Q I r ⟨x, c, t, u, b, rfl, k, ty, e, q⟩
  · obtain ⟨u1, u2, rfl, r1, r2⟩ := vals2 r
    have e2 := k.eq r2
    subst e2
    cases r1
    exact PySem.W.kia_one (PySem.W.lk_kitx_exc hC.hg hC.hk hC.hs hC.hd hC.ha hC.hn hC.ht hC.hm) I.kIn (exc_inst I ha hd) e (fun z => nomatch z) fun tk => ⟨.bl b, H, I.tok tk, rfl, q⟩
/-- e.f: of an instance with a dict, or of a caught exception -/
def tAtr (K : PySem.W.Frag) (ta : TE) (f : Str) : TE := fun σ H Q => ta σ H fun x H1 => ∃ a, x = .ref a ∧
  ((∃ C dx fs v, H1 a = some (.ins C dx fs) ∧ Cls K C ∧ NoAttr K C f ∧ fs.lookup f = some v ∧ Q v H1) ∨
    ∃ C dd fs v, H1 a = some (excK a (.ref C) (some dd)) ∧ H1 dd = some (.xd fs) ∧ XfC K C ∧ PySem.W.findIn K (.ref C) f = some none ∧ fs.lookup f = some v ∧ Q v H1)
theorem pe_atr {e : Expr} {ta : TE} {f : Str} {pos : Pos} (he : PE X e ta) (hb : attributeBase e f X.env (eval e X.env) = eval e X.env := by rfl) : PE X (.Attribute e f pos) (tAtr X.K ta f) := by
  refine ⟨fun pins s σ H Q I h => ?_⟩
  refine attr_of hb (thn (he.run pins s σ H _ I h) fun u s1 ⟨x, H1, I1, rx, a, ex, q⟩ => ?_)
  subst ex
  obtain rfl : u = Value.ref a := rx
  rcases q with ⟨C, dx, fs, v, ea, c, n, l, q⟩ | ⟨C, dd, fs, v, ea, ed, T, hno, l, q⟩
  · exact getattr_ok I1 ea c n l fun s2 u2 I2 r2 => ⟨v, H1, I2, r2, q⟩
  · obtain ⟨oe, vs, ha, hz, hd⟩ := excK_at I1.hok ea
    have hx : ObjOk X.prog X.w H1 s1.heap dd (.xd fs) := I1.hok dd _ ed
    obtain ⟨mA, hns, hr⟩ := hx
    obtain ⟨od, ho, hl⟩ := lookIn_ns hns
    obtain ⟨u, hu, ru⟩ := RelO.some_of (v := v) (o := mA f) (by rw [← l]; exact hr f)
    have J : PySem.W.InstAt s1.heap a oe C (some od) := ⟨ha, hz.1, by unfold PySem.W.notCls; rw [hd] <;> rfl, by rw [hz.2]; exact ho⟩
    exact HandSPX.exc_get I1.kIn J T.ga T.gg T.exC (PySem.W.findObj_own T.hdC hno rfl (by rw [hl, hu])) (handed_of ru) ⟨v, H1, I1.tok _, ru, q⟩
end
end Lk

set_option Elab.async false
set_option linter.all false
set_option maxRecDepth 100000
set_option maxHeartbeats 4000000
/-! What a for walks, by the value: a text, a list, a tuple, a locked dict; enumerate of a text; the base class's __init__; replace; a table's get. -/
namespace Lk
open PySem PySem.Spec PyProof.Rows L2
section
variable {X : Cx} {tg : Expr}
/-- for x in e, by the value -/
def iAny (K : PySem.W.Frag) (te : TE) : TI := fun σ H R => te σ H fun v H1 => match v with
  | .str x => R (Its x) H1
  | .ref a => (∃ xs, SqL K H1 a xs ∧ R (Itl K a) H1) ∨ (∃ xs, SqT K H1 a xs ∧ R (Itt K a) H1)
  | _ => False
theorem pi_any {e : Expr} {te : TE} (he : PE X e te) : PI X tg e (iAny X.K te) := by
  refine ⟨fun pins s σ H R I h => ?_⟩
  refine thn (he.run pins s σ H _ I h) fun v s1 ⟨y, H1, I1, r1, q⟩ => ?_
  cases y with
  | str x =>
    obtain ⟨t, rfl⟩ := r1
    cases ha : x.cps.all (· < 128)
    · exact wpAny_pyIter_wide ha (pi_one (tk := s1.toks) I1 _ (turn_str _ x t "str_iterator" (.inr rfl)) ⟨_, Heap.get?_push_size _ rfl, rfl, rfl⟩ q)
    · exact wpAny_pyIter_ascii ha (pi_one (tk := s1.toks) I1 _ (turn_str _ x t "str_ascii_iterator" (.inl rfl)) ⟨_, Heap.get?_push_size _ rfl, rfl, rfl⟩ q)
  | ref a =>
    cases r1
    rcases q with ⟨xs, hq, q⟩ | ⟨xs, hq, q⟩
    · obtain ⟨its, rv, p, hz⟩ := I1.list hq
      refine wpAny_pyIter_list p.isList ?_
      refine ⟨s1.heap.objs.size, [s1.heap.objs.size], _, _, H1, rfl, I1.kept (t' := s1.toks) fun b o e => Heap.get?_push_of_some _ e, turn_list a _, ⟨_, Heap.get?_push_size _ rfl, rfl, rfl⟩, fun b hb => ?_, q⟩
      have e : b = s1.heap.objs.size := by simpa using hb
      subst e
      exact I1.fpOk (Nat.le_refl _) (I1.hok.fresh (Nat.le_refl _))
    · obtain ⟨its, rv, p, hz⟩ := I1.tuple hq
      refine wpAny_pyIter_tuple (show s1.heap.IsTuple a its.toArray from p) ?_
      refine ⟨s1.heap.objs.size, [s1.heap.objs.size], _, _, H1, rfl, I1.kept (t' := s1.toks) fun b o e => Heap.get?_push_of_some _ e, turn_tuple a _, ⟨_, Heap.get?_push_size _ rfl, rfl, rfl⟩, fun b hb => ?_, q⟩
      have e : b = s1.heap.objs.size := by simpa using hb
      subst e
      exact I1.fpOk (Nat.le_refl _) (I1.hok.fresh (Nat.le_refl _))
  | _ => exact q.elim

/-! ### enumerate(text) -/
def Ites (x : Str) : It :=
  ⟨fun i _ => i < x.cps.size, fun i H v H' => ∃ T c, v = .ref T ∧ H T = none ∧ H' = upd H T (.tup [.int (i : Nat), .str ⟨#[c]⟩]) ∧ x.cps[i]? = some c, fun i _ => x.cps.size ≤ i⟩
theorem turn_enumS {P : Program} {w : World} {K : PySem.W.Frag} {elts : List Expr} {kk : Nat} {tpos : Pos} (e it : Addr) (x : Str) (t : Tok) (ty : String) (hty : ty = "str_ascii_iterator" ∨ ty = "str_iterator") :
    Turn P w K (.Tuple elts kk tpos) (Ites x) [e, it] e (fun i h => (∃ old, IsEnum h e it ((i : Nat) : Int) old) ∧ h.IsStrIter it ty x t i ∧ e ≠ it) where
  mem := by simp
  obj := fun i h st b hb => by
    obtain ⟨⟨old, he⟩, ⟨o, ho, hc, hd⟩, _⟩ := st
    have e' : b = e ∨ b = it := by simpa using hb
    rcases e' with z | z
    · rw [z]; exact ⟨_, he, fun v q => nomatch q⟩
    · rw [z]; exact ⟨o, ho, fun v q => by rw [hd] at q; cases q⟩
  keep := fun i h h' st k => let ⟨⟨old, he⟩, ⟨o, ho, r⟩, hne⟩ := st; ⟨⟨old, k e (by simp) _ he⟩, ⟨o, k it (by simp) o ho, r⟩, hne⟩
  item := by
    intro X hP hw hK hc i pins s σ H E I hf st hg
    subst hP hw hK
    obtain ⟨⟨old, he⟩, hit, hne⟩ := st
    have hel : e < s.heap.objs.size := Heap.lt_size he
    have hil : it < s.heap.objs.size := by obtain ⟨_, q, _⟩ := hit; exact Heap.lt_size q
    have D : Draws X.prog X.w X.A.in1 it [it] x.cps.size (fun i v => ∃ c u, x.cps[i]? = some c ∧ v = .str ⟨#[c]⟩ u) (fun i h => h.IsStrIter it ty x t i) := by
      rcases hty with e | e
      · rw [e]; exact Draws.strAscii (A := X.A.in1) (show X.A.in1.handled = none from I.ok.hd hc) it x t
      · rw [e]; exact Draws.strWide (A := X.A.in1) (show X.A.in1.handled = none from I.ok.hd hc) it x t
    refine wpAny_pyNext_enum_itemD D he hit hg hne (by simpa using hne) fun v h' tk hP ho hit' hT hsz hk => ?_
    obtain ⟨c, u, hcx, rfl⟩ := hP
    refine ⟨_, rfl, wpAny_letOwnedTupleGo_enum (s := { s with heap := h', toks := tk + 1 }) ho fun h'' he' sb => ?_⟩
    have hT2 : h''.get? s.heap.objs.size = some { cls := .type "tuple", data := .seq #[.int i tk, .str ⟨#[c]⟩ u] } := (sb.2 _ (Nat.ne_of_gt hel)).trans hT
    have new : ObjOk X.prog X.w (upd H s.heap.objs.size (.tup [.int (i : Nat), .str ⟨#[c]⟩])) h'' s.heap.objs.size (.tup [.int (i : Nat), .str ⟨#[c]⟩]) :=
      ⟨by show 2 ≤ sizeLine; decide, [.int i tk, .str ⟨#[c]⟩ u], .cons ⟨_, rfl⟩ (.cons ⟨_, rfl⟩ .nil), ⟨_, hT2, rfl, _, rfl⟩⟩
    have I1 : Inv X pins σ (upd H s.heap.objs.size (.tup [.int (i : Nat), .str ⟨#[c]⟩])) { s with heap := h'', toks := tk + 1 } :=
      I.turnedNew (ch := [e, it]) (fun b ob hb q => (sb.2 b (fun z => hb (by simp [z]))).trans (hk b ob (fun z => hb (by simp [z])) (fun z => hb (by simp [z])) q)) hf (Nat.le_refl _) new
    refine ⟨.ref s.heap.objs.size, _, I1, rfl, ⟨_, c, rfl, I.hok.fresh (Nat.le_refl _), rfl, hcx⟩, ⟨⟨.str ⟨#[c]⟩ u, ?_⟩, ?_, hne⟩, fun b hb => ?_⟩
    · have e1 : ((i + 1 : Nat) : Int) = (i : Int) + 1 := by omega
      rw [e1]; exact he'
    · obtain ⟨o, ho2, r⟩ := hit'
      exact ⟨o, (sb.2 it (Ne.symm hne)).trans ho2, r⟩
    · have hb' : b < s.heap.objs.size := by
        have e' : b = e ∨ b = it := by simpa using hb
        rcases e' with z | z
        · rw [z]; exact hel
        · rw [z]; exact hil
      rw [upd_ne (Nat.ne_of_lt hb')]
      exact (hf b hb).1
  done := by
    intro X hP hw hK hc i pins s σ H E I hf st hg
    subst hP hw hK
    obtain ⟨⟨old, he⟩, hit, hne⟩ := st
    have hit2 : s.heap.IsStrIter it ty x t i := hit
    have hx : x.cps[i]? = none := Array.getElem?_eq_none hg
    have fin : ∀ h', Heap.ExtBut it s.heap h' → Inv X pins σ H { s with heap := h' } := fun h' eb => by
      obtain ⟨f0, f1, f2, f3, f4, f5⟩ := hf it (by simp)
      exact I.turned (t' := s.toks) (fun b o hb q => eb b o hb q) f0 f1 f3 f4 f5
    have hT : s.TypeIs (.ref e) "enumerate" := ⟨_, he, rfl⟩
    unfold pyNext
    refine wpAny_bind (wpAny_attempt (wpAny_callSpecial?_slot (name := Str.ofString "__next__") hT F.slot_enumerate_next
      (wpAny_call_entry F.slot_enumerate_next hT F.entry_enumerate_next ?_ (F.args_enumerate_next_1 _))))
    show wpAny _ _ (field (.ref e) 2 >>= _) _ _ _
    refine wpAny_bind (wpAny_field he rfl (x := .ref it) rfl ?_)
    have last : ∀ h' (x' : Addr), Heap.ExtBut it s.heap h' → (∃ o, h'.get? x' = some o ∧ o.cls = .type "StopIteration") → True := fun _ _ _ _ => trivial
    rcases hty with q | q
    · rw [q] at hit2
      refine wpAny_bind (wpAny_nextOf_ascii_end (show X.A.in1.handled = none from I.ok.hd hc) hit2 hx fun h' x' he' hx' => ?_)
      obtain ⟨o, ho, hc2⟩ := hx'
      refine wpAny_bind (wpAny_isInstance (T := "StopIteration") (b := true) ⟨o, ho, hc2⟩ isSubtype_stop ?_)
      exact wpAny_pure ⟨rfl, fin h' he'⟩
    · rw [q] at hit2
      refine wpAny_bind (wpAny_nextOf_wide_end (show X.A.in1.handled = none from I.ok.hd hc) hit2 hx fun h' x' he' hx' => ?_)
      obtain ⟨o, ho, hc2⟩ := hx'
      refine wpAny_bind (wpAny_isInstance (T := "StopIteration") (b := true) ⟨o, ho, hc2⟩ isSubtype_stop ?_)
      exact wpAny_pure ⟨rfl, fin h' he'⟩
  self := fun A i s Q E st h => let ⟨⟨_, he⟩, _⟩ := st; wpAny_pyIter_enum he h
/-- enumerate(e), by the value: a text, a list -/
def iEnumA (K : PySem.W.Frag) (ta : TA) : TI := fun σ H R => ta σ H fun vs H1 => (∃ x, vs = [.str x] ∧ R (Ites x) H1) ∨ ∃ a xs, vs = [.ref a] ∧ SqL K H1 a xs ∧ R (Ite K a) H1
theorem pi_enumA {e : Expr} {ta : TA} {p pos tpos : Pos} {elts : List Expr} {kk : Nat} (hm : X.mg "enumerate" = none) (ha : PA X [e] ta) (hg : Gl X "enumerate" := by rfl) (hs : starEach [e] X.env = [(false, eval e X.env)] := by rfl) :
    PI X (.Tuple elts kk tpos) (.Call (.Name "enumerate" p) [e] [] pos) (iEnumA X.K ta) := by
  refine ⟨fun pins s σ H R I h => ?_⟩
  refine Call_ (ld_blt I hg hm boot_enumerate (PyProof.Rows.callWith_type1 (thn (ha.run pos pins s σ H _ I h) fun us s1 ⟨vs, H1, I1, r1, q1⟩ => ?_) hs rfl))
  have two : ∀ b ∈ [s1.heap.objs.size + 1, s1.heap.objs.size], FpOk X pins H1 b := fun b hb => by
    have e' : b = s1.heap.objs.size + 1 ∨ b = s1.heap.objs.size := by simpa using hb
    have hle : s1.heap.objs.size ≤ b := by
      rcases e' with z | z
      · rw [z]; exact Nat.le_add_right _ _
      · rw [z]; exact Nat.le_refl _
    exact I1.fpOk hle (I1.hok.fresh hle)
  rcases q1 with ⟨x, ex, q⟩ | ⟨a, xs, ex, hq, q⟩
  · subst ex
    obtain ⟨u, rfl, ru⟩ := vals1 r1
    obtain ⟨t, rfl⟩ := ru
    refine call_enumerate_str fun h' he hit hsz hk => wpAny_pyIter_enum he ?_
    have I2 : Inv X pins σ H1 { s1 with heap := h' } := I1.kept (t' := s1.toks) hk
    cases ha : x.cps.all (· < 128)
    · have hit' : h'.IsStrIter s1.heap.objs.size "str_iterator" x t 0 := by simpa [strIterType, ha] using hit
      exact ⟨s1.heap.objs.size + 1, [s1.heap.objs.size + 1, s1.heap.objs.size], _, _, H1, rfl, I2, turn_enumS (s1.heap.objs.size + 1) s1.heap.objs.size x t "str_iterator" (.inr rfl), ⟨⟨.none, he⟩, hit', Nat.succ_ne_self _⟩, two, q⟩
    · have hit' : h'.IsStrIter s1.heap.objs.size "str_ascii_iterator" x t 0 := by simpa [strIterType, ha] using hit
      exact ⟨s1.heap.objs.size + 1, [s1.heap.objs.size + 1, s1.heap.objs.size], _, _, H1, rfl, I2, turn_enumS (s1.heap.objs.size + 1) s1.heap.objs.size x t "str_ascii_iterator" (.inl rfl), ⟨⟨.none, he⟩, hit', Nat.succ_ne_self _⟩, two, q⟩
  · subst ex
    obtain ⟨u, rfl, ru⟩ := vals1 r1
    cases ru
    obtain ⟨its, rv, p', hz⟩ := I1.list hq
    refine call_enumerate_list p'.isList fun h' he hit hsz hk => wpAny_pyIter_enum he ?_
    have I2 : Inv X pins σ H1 { s1 with heap := h' } := I1.kept (t' := s1.toks) hk
    exact ⟨s1.heap.objs.size + 1, [s1.heap.objs.size + 1, s1.heap.objs.size], _, _, H1, rfl, I2, turn_enum a (s1.heap.objs.size + 1) s1.heap.objs.size, ⟨⟨.none, he⟩, hit, Nat.succ_ne_self _⟩, two, q⟩
end

/-! ### B.__init__(self, ..), B an own class that inherits ValueError's -/
section
variable {X : Cx} {e : Expr} {es : List Expr} {ta : TA} {p1 p2 pos : Pos} {x : Str} {B : Addr} {mc : Value}
theorem pe_binit {pl : Sem Bool} (hm : X.mg x = some (.ref B)) (rd : ClX.CRead X.K B mc) (k : PySem.W.findCls X.K (.ref B) mc "__init__" = some (.val (.builtin "ValueError.__init__"))) (ha : PA X (e :: es) ta) (hg : Gl X x := by rfl)
    (hdb : (x == ("__debug__" : Str)) = false := by decide)
    (hc : eval (.Call (.Attribute (.Name x p1) "__init__" p2) (e :: es) [] pos) X.env = (do
      let ov ← eval (.Name x p1) X.env
      standAt p2.atName
      let (f, first) ← holding [ov] (getMethod ov "__init__" pl)
      callWith pos f first (backTo pos (starEach (e :: es) X.env)) (backToKw pos (keywordEach [] X.env))) := by rfl)
    (he : starEach (e :: es) X.env = (false, eval e X.env) :: starEach es X.env := by rfl) (hpl : (backTo pos (starEach es X.env)).any (·.1) = false := by rfl) :
    PE X (.Call (.Attribute (.Name x p1) "__init__" p2) (e :: es) [] pos) (tVeI X.K ta) := by
  refine ⟨fun pins s σ H Q I h => ?_⟩
  refine PySem.W.methodCall_KW (ld_glob I hg hm ?_ hdb) hc
  refine PySem.W.method_cls I.kIn rd.ga (PySem.W.cls_value I.kIn rd.rd k (by decide +kernel) ?_)
  show wpAny _ _ (callWith pos (Value.builtin "ValueError.__init__") [] (backTo pos (starEach (e :: es) X.env)) []) _ _ _
  refine PyProof.Rows.callWith_method1 (thn (ha.run pos pins _ σ H _ (I.tok _) h) fun us s1 ⟨vs, H1, I1, r1, a, C, ws, ev, hl, T, ea, q⟩ => ?_) he hpl
  subst ev
  cases r1 with
  | @cons _ u0 _ ur ra rw' =>
    obtain rfl : u0 = Value.ref a := ra
    have hlen : ur.length ≤ sizeLine := by
      rw [← Paired.length rw', sizeLine_eq]
      omega
    exact oinit_ok T I1 ea hlen fun s' J => ⟨.non, H1, J, rfl, q⟩
end
end Lk

set_option Elab.async false
set_option linter.all false
set_option maxRecDepth 100000
set_option maxHeartbeats 4000000
/-! One rule a form of text, by the values: indexes, slices, ==, +=, calls of built-ins, a table's get, append. -/
namespace Lk
open PySem PySem.Spec PyProof.Rows L2
section
variable {X : Cx}
/-! ### += -/
def rIaddA : V → V → Hp → VK → Prop
  | .int i, .int j, H, Q => Q (.int (i + j)) H
  | .str i, .str j, H, Q => i.length + j.length ≤ sizeLine ∧ Q (.str (i ++ j)) H
  | _, _, _, _ => False
theorem iop_addA : OpR X (inplaceOp .Add) rIaddA := by
  intro pins s σ H x y v u Q I rx ry h
  cases x <;> cases y <;> first
    | exact h.elim
    | exact iop_add pins s σ H _ _ v u Q I rx ry ⟨_, _, rfl, rfl, h⟩
    | exact iop_add_str pins s σ H _ _ v u Q I rx ry ⟨_, _, rfl, rfl, h⟩
theorem in_addA : InOp X .Add rIaddA := fun pins s σ H x y u v Q I rx ry h => iop_addA pins s σ H x y u v Q I rx ry h
/-! ### == of scalars and of lists of scalars -/
theorem eqAt_cast {A : Around} {s : Shared} {u v : Value} {b c : Bool} (e : c = b) (h : SeqAt.EqAt A s u v b) : SeqAt.EqAt A s u v c := by
  subst e
  exact h
theorem eqAt_sc {A : Around} {s : Shared} {x y : V} {u v : Value} (h : scal x y = true) (rx : L2.RelV x u) (ry : L2.RelV y v) (hb : ∀ b, x ≠ .byt b) : SeqAt.EqAt A s u v (decide (x = y)) := by
  cases x with
  | non =>
    cases rx
    cases y with
    | non => cases ry; exact eqAt_cast (by simp) (SeqAt.EqAt.same _)
    | bl j => cases ry; exact eqAt_cast (by simp) (SeqAt.EqAt.none_bool _)
    | int j => obtain ⟨t', rfl⟩ := ry; exact eqAt_cast (by simp) (SeqAt.EqAt.none_int _ _)
    | str j => obtain ⟨t', rfl⟩ := ry; exact eqAt_cast (by simp) (SeqAt.EqAt.none_str _ _)
    | _ => exact absurd (show false = true from h) Bool.false_ne_true
  | bl i =>
    cases rx
    cases y with
    | non => cases ry; exact eqAt_cast (by simp) (SeqAt.EqAt.bool_none _)
    | bl j => cases ry; exact eqAt_cast dec_bl (SeqAt.EqAt.bool_bool _ _)
    | str j => obtain ⟨t', rfl⟩ := ry; exact eqAt_cast (by simp) (SeqAt.EqAt.bool_str _ _ _)
    | _ => exact absurd (show false = true from h) Bool.false_ne_true
  | int i =>
    obtain ⟨t, rfl⟩ := rx
    cases y with
    | non => cases ry; exact eqAt_cast (by simp) (SeqAt.EqAt.int_none _ _)
    | int j => obtain ⟨t', rfl⟩ := ry; exact eqAt_cast dec_int (SeqAt.EqAt.int_int _ _ _ _)
    | str j => obtain ⟨t', rfl⟩ := ry; exact eqAt_cast (by simp) (SeqAt.EqAt.int_str _ _ _ _)
    | _ => exact absurd (show false = true from h) Bool.false_ne_true
  | str i =>
    obtain ⟨t, rfl⟩ := rx
    cases y with
    | non => cases ry; exact eqAt_cast (by simp) (SeqAt.EqAt.str_none _ _)
    | bl j => cases ry; exact eqAt_cast (by simp) (SeqAt.EqAt.str_bool _ _ _)
    | int j => obtain ⟨t', rfl⟩ := ry; exact eqAt_cast (by simp) (SeqAt.EqAt.str_int _ _ _ _)
    | str j => obtain ⟨t', rfl⟩ := ry; exact eqAt_cast dec_str (SeqAt.EqAt.str_str _ _ _ _)
    | _ => exact absurd (show false = true from h) Bool.false_ne_true
  | byt i => exact absurd rfl (hb i)
  | _ => cases y <;> exact absurd (show false = true from h) Bool.false_ne_true

/-- the items of two lists, place by place -/
def scals : List V → List V → Bool
  | x :: xs, y :: ys => scal x y && (match x with | .byt _ => false | _ => true) && scals xs ys
  | _, _ => true
theorem scals_get : ∀ {xs ys : List V} {i : Nat} {x y : V}, scals xs ys = true → xs[i]? = some x → ys[i]? = some y → scal x y = true ∧ ∀ b, x ≠ .byt b
  | [], _, i, _, _, _, e, _ => by simp at e
  | _ :: _, [], i, _, _, _, _, e => by simp at e
  | a :: xs, b :: ys, 0, x, y, h, e1, e2 => by
    simp only [List.getElem?_cons_zero, Option.some.injEq] at e1 e2
    subst e1 e2
    unfold scals at h
    rw [Bool.and_eq_true, Bool.and_eq_true] at h
    refine ⟨h.1.1, fun b z => ?_⟩
    subst z
    exact absurd (show false = true from h.1.2) Bool.false_ne_true
  | a :: xs, b :: ys, i + 1, x, y, h, e1, e2 => by
    unfold scals at h
    rw [Bool.and_eq_true] at h
    exact scals_get h.2 (by simpa using e1) (by simpa using e2)
theorem all_eq : ∀ {xs ys : List V}, xs.length = ys.length → (List.range xs.length).all (fun j => decide (xs[j]? = ys[j]?)) = decide (xs = ys) := fun {xs ys} hl => by
  rw [Bool.eq_iff_iff]
  simp only [List.all_eq_true, List.mem_range, decide_eq_true_eq]
  constructor
  · intro h
    refine List.ext_getElem? fun i => ?_
    by_cases hi : i < xs.length
    · exact h i hi
    · rw [List.getElem?_eq_none (by omega), List.getElem?_eq_none (by omega)]
  · intro h i _
    rw [h]
/-- two lists: of other length, or scalars place by place; or two scalars -/
def rEqQ (K : PySem.W.Frag) (neg : Bool) : V → V → Hp → VK → Prop
  | .ref a, .ref b, H, Q => ∃ xs ys, SqL K H a xs ∧ SqL K H b ys ∧ (xs.length = ys.length → scals xs ys = true) ∧ Q (.bl (neg.xor (decide (xs = ys)))) H
  | x, y, H, Q => scal x y = true ∧ Q (.bl (neg.xor (decide (x = y)))) H
theorem list_at {pins : List (Addr × Obj)} {σ : L2.St} {H : Hp} {s : Shared} {xs ys : List V} {its its2 : List Value} {A : Around} (r1 : Vals xs its) (r2 : Vals ys its2) (hl : xs.length = ys.length) (sc : scals xs ys = true) :
    ∀ j (h1 : j < its.toArray.size) (h2 : j < its2.toArray.size), SeqAt.EqAt A s its.toArray[j] its2.toArray[j] (decide (xs[j]? = ys[j]?)) := fun j h1 h2 => by
  have l1 := r1.length
  have l2 := r2.length
  simp only [List.size_toArray] at h1 h2
  obtain ⟨x, hx⟩ : ∃ x, xs[j]? = some x := ⟨xs[j]'(by omega), by simp [show j < xs.length by omega]⟩
  obtain ⟨y, hy⟩ : ∃ y, ys[j]? = some y := ⟨ys[j]'(by omega), by simp [show j < ys.length by omega]⟩
  obtain ⟨u, hu, ru⟩ := r1.get hx
  obtain ⟨v, hv, rv⟩ := r2.get hy
  have e1 : its.toArray[j] = u := by
    rw [List.getElem?_eq_getElem h1] at hu
    simpa using hu
  have e2 : its2.toArray[j] = v := by
    rw [List.getElem?_eq_getElem h2] at hv
    simpa using hv
  rw [e1, e2, hx, hy]
  obtain ⟨s1, s2⟩ := scals_get sc hx hy
  have := eqAt_sc (A := A) (s := s) s1 ru rv s2
  exact eqAt_cast (by rw [Bool.eq_iff_iff]; simp) this
theorem op_eqQ (hu : X.A.units < cLine) : OpR X (compareOp .Eq) (rEqQ X.K false) := by
  intro pins s σ H x y v u Q I rx ry h
  unfold rEqQ at h
  split at h
  · obtain ⟨xs, ys, h1, h2, sc, q⟩ := h
    cases rx
    cases ry
    obtain ⟨its, r1, p1, _⟩ := I.list h1
    obtain ⟨its2, r2, p2, _⟩ := I.list h2
    have l1 := r1.length
    have l2 := r2.length
    by_cases hl : xs.length = ys.length
    · have e := all_eq hl
      refine SeqAt.eq_listAt p1.isList p2.isList (by simp only [List.size_toArray]; omega) hu (list_at (pins := pins) (σ := σ) (H := H) r1 r2 hl (sc hl)) ?_
      rw [List.size_toArray, ← l1, e]
      exact fin_bl I q (by simp)
    · refine SeqAt.eq_list_lengthsAt p1.isList p2.isList (by simp only [List.size_toArray, bne_iff_ne, ne_eq]; omega) hu (fin_bl I q ?_)
      rw [decide_eq_false (fun e => hl (by rw [e]))]
      rfl
  · obtain ⟨sc, q⟩ := h
    exact op_eq pins s σ H _ _ v u Q I rx ry ⟨sc, by rw [Bool.false_xor] at q; exact q⟩
theorem op_neQ (hu : X.A.units < cLine) : OpR X (compareOp .NotEq) (rEqQ X.K true) := by
  intro pins s σ H x y v u Q I rx ry h
  unfold rEqQ at h
  split at h
  · obtain ⟨xs, ys, h1, h2, sc, q⟩ := h
    cases rx
    cases ry
    obtain ⟨its, r1, p1, _⟩ := I.list h1
    obtain ⟨its2, r2, p2, _⟩ := I.list h2
    have l1 := r1.length
    have l2 := r2.length
    by_cases hl : xs.length = ys.length
    · have e := all_eq hl
      refine SeqAt.RcNeAt.lists p1.isList p2.isList (by simp only [List.size_toArray]; omega) hu (list_at (pins := pins) (σ := σ) (H := H) r1 r2 hl (sc hl)) _ _ _ _ ?_
      rw [List.size_toArray, ← l1, e]
      exact fin_bl I q (by simp)
    · refine SeqAt.RcNeAt.lists_lengths p1.isList p2.isList (by simp only [List.size_toArray, bne_iff_ne, ne_eq]; omega) hu _ _ _ _ (fin_bl I q ?_)
      rw [decide_eq_false (fun e => hl (by rw [e]))]
      rfl
  · obtain ⟨sc, q⟩ := h
    exact op_ne pins s σ H _ _ v u Q I rx ry ⟨sc, by rw [Bool.true_xor] at q; exact q⟩
end

/-! ### x[i] -/
section
variable {X : Cx}
def rIxA (K : PySem.W.Frag) (w : World) : V → V → Hp → VK → Prop
  | .str z, .int i, H, Q => z.length ≤ sizeLine ∧ ∃ c, atI z.cps.toList i = some c ∧ Q (.str ⟨#[c]⟩) H
  | .ref p, .int i, H, Q => ∃ xs v, (SqL K H p xs ∨ SqT K H p xs) ∧ atI xs i = some v ∧ Q v H
  | .ref p, .str z, H, Q => (∃ kvs v, TabK K w p kvs ∧ kvs.lookup z = some v ∧ Q v H) ∨ ∃ kvs v, Rd H p (.dK kvs) ∧ valV kvs (Sum.inr z) = some v ∧ Q v H
  | _, _, _, _ => False
theorem ixA : IxR X (rIxA X.K X.w) := by
  intro value slice pins s σ H x y v u Q I rx ry h hs
  unfold rIxA at h
  split at h
  · obtain ⟨h1, c, h2, q⟩ := h
    exact ix_str value slice pins s σ H _ _ v u Q I rx ry ⟨_, _, _, rfl, rfl, h1, h2, q⟩ hs
  · obtain ⟨xs, z, h1, h2, q⟩ := h
    rcases h1 with h1 | h1
    · exact ix_list value slice pins s σ H _ _ v u Q I rx ry ⟨_, _, _, _, rfl, rfl, h1, h2, q⟩ hs
    · exact ix_tup value slice pins s σ H _ _ v u Q I rx ry ⟨_, _, _, _, rfl, rfl, h1, h2, q⟩ hs
  · rename_i p z
    rcases h with ⟨kvs, r, T, l, q⟩ | ⟨kvs, r, hd, l, q⟩
    · obtain ⟨es, n, D⟩ := T.kd
      obtain ⟨o, e, ro⟩ := T.look z
      rw [l] at ro
      cases o with
      | none => exact ro.elim
      | some u0 => exact ix_kdict value slice pins s σ H _ _ v u Q I rx ry ⟨_, _, _, rfl, rfl, ⟨es, n, u0, D.at_, D.lit, e, ro⟩, q⟩ hs
    · obtain rfl : v = Value.ref p := rx
      obtain ⟨_, hz, vs, rel, dd⟩ := dk_rd I.hok hd
      have ro := rel.val (Sum.inr z)
      rw [l] at ro
      obtain ⟨t, rfl⟩ := (show ∃ t, u = Value.str z t from ry)
      obtain ⟨u0, e0, r0⟩ : ∃ u0, valueAt vs (Sum.inr z) = some u0 ∧ L2.RelV r u0 := by
        cases e : valueAt vs (Sum.inr z) with
        | none => rw [e] at ro; exact ro.elim
        | some u0 => rw [e] at ro; exact ⟨u0, rfl, ro⟩
      exact tail_any dd.typeIs slot_dict_getitem.lookup (wpAny_getItem_of (mixKind_str X.prog X.w z t) dd.mapOf e0 ⟨r, H, I.tok _, r0, q⟩) hs
  · exact h.elim
/-! ### x[a:b] -/
def rSlA (K : PySem.W.Frag) : V → Option Int → Option Int → Hp → VK → Prop
  | .str z, lo, hi, H, Q => z.length ≤ sizeLine ∧ Q (.str (cutS z lo hi)) H
  | .ref a, lo, hi, H, Q => ∃ xs, SqL K H a xs ∧ ∀ p, H p = none → Q (.ref p) (upd H p (.lst (cutV xs lo hi)))
  | _, _, _, _, _ => False
theorem slA : SlR X (rSlA X.K) := by
  intro pins s σ H x v vl vu lo hi sl Q I rx hs pl pu h
  cases x with
  | str z => exact sl_str pins s σ H _ v vl vu lo hi sl Q I rx hs pl pu ⟨z, rfl, h.1, h.2⟩
  | ref a =>
    obtain ⟨xs, h1, h2⟩ := h
    exact sl_list pins s σ H _ v vl vu lo hi sl Q I rx hs pl pu ⟨a, xs, rfl, h1, h2⟩
  | _ => exact h.elim
end

/-! ### a table's get, texts put together with one that is exchanged, locks -/
section
variable {X : Cx} {o e f : Expr} {apos cpos pos : Pos} {td ty tx tb te : TE}
def tTGet (K : PySem.W.Frag) (w : World) (td ty tx : TE) : TE := fun σ H Q => td σ H fun x H1 => ∃ a kvs, x = .ref a ∧ TabK K w a kvs ∧ ty σ H1 fun y H2 => tx σ H2 fun z H3 => ∃ k, y = .str k ∧ Q ((kvs.lookup k).getD z) H3
theorem pe_tget (ho : PE X o td) (he : PE X e ty) (hf : PE X f tx) (m : M2 X o "get" apos e f cpos) : PE X (.Call (.Attribute o "get" apos) [e, f] [] cpos) (tTGet X.K X.w td ty tx) := by
  refine ⟨fun pins s σ H Q I h => ?_⟩
  refine wpAny_Call_method m.base m.few m.line PySem.F.plainAttrs_dict PySem.F.slot_dict_get PySem.F.type_dict_get (thn (ho.run pins s σ H _ I h) fun u s1 ⟨x, H1, I1, rx, a, kvs, ex, T, q1⟩ => ?_)
  subst ex
  obtain rfl : u = Value.ref a := rx
  obtain ⟨es, n, D⟩ := T.kd
  refine ⟨kd_type D I1, fun b e => ?_, ?_⟩
  · cases e
    exact ⟨_, I1.kIn _ _ D.at_, rfl⟩
  rw [m.trees]
  refine Calls.callWith_builtin rfl (Calls.evalArgs_plain (Calls.spliced_cons (thn (he.run pins s1 σ H1 _ I1 q1) fun iv s2 ⟨y, H2, I2, ry, q2⟩ =>
    Calls.spliced_cons (thn (hf.run pins s2 σ H2 _ I2 q2) fun fv s3 ⟨z, H3, I3, rz, k, ek, q3⟩ => Calls.spliced_nil ?_))))
  subst ek
  obtain ⟨t, rfl⟩ := (show ∃ t, iv = Value.str k t from ry)
  obtain ⟨r, er, ro⟩ := T.look k
  refine call_meetsIn PySem.F.slot_dict_get (kd_type D I3) PySem.F.entry_dict_get (PySem.F.args_dict_get_3 _ _ _) (meets_dict_get_default (PySem.strKind X.prog X.w) a (PySem.strKind_is X.prog X.w k t) D.low fv) ⟨_, PySem.W.mapOf_K (prog := X.prog) I3.kIn D.at_ D.lit, ?_⟩
  rw [PySem.W.find_K D.at_ er]
  exact ⟨_, H3, I3.tok _, ro.getD rz, q3⟩
theorem pe_opCT {q : Str} {j : Nat} {p0 : Pos} {op : Operator} {r : R2} (ho : OpR X (binaryOp op) r) (hb : PET X e tb) : PE X (.BinOp (.Constant (.str q) j p0) op e pos) (tOp r (tC (.str q)) tb) := by
  refine ⟨fun pins s σ H Q I h => ?_⟩
  refine wpAny_BinOp (Calls.Constant_str ?_)
  exact thn (hb pins _ σ H _ (Nat.succ_le_succ (Nat.zero_le _)) (I.tok _) h) fun u s2 ⟨y, H2, I2, r2, q2⟩ => ho pins s2 σ H2 (.str q) y _ u Q I2 ⟨_, rfl⟩ r2 q2
/-- locked, or it is already -/
def tLockA (t : TE) : TE := fun σ H Q => tLockE t σ H Q ∨ t σ H Q
theorem pe_lockA (h : PE X e te) : PE X e (tLockA te) := ⟨fun pins s σ H Q I hw => hw.elim ((pe_lock h).run pins s σ H Q I) (h.run pins s σ H Q I)⟩
/-! ### calls of built-ins -/
def rInt1 : List V → Hp → VK → Prop
  | [.int i], H, Q => Q (.int i) H
  | [.bl k], H, Q => Q (.int (if k then 1 else 0)) H
  | [.str a], H, Q => a.length ≤ 640 ∧ ∃ n, PySem.intText? a = some n ∧ Q (.int n) H
  | _, _, _ => False
theorem call_intA : CallR X (.type "int") rInt1 := by
  intro pins s σ H xs us Q I r h
  unfold rInt1 at h
  split at h
  · exact call_int1 pins s σ H _ us Q I r (.inl ⟨_, rfl, h⟩)
  · exact call_int1 pins s σ H _ us Q I r (.inr ⟨_, rfl, h⟩)
  · obtain ⟨h1, n, h2, q⟩ := h
    exact call_int_str pins s σ H _ us Q I r ⟨_, n, rfl, h2, h1, q⟩
  · exact h.elim
def rStr1 : List V → Hp → VK → Prop
  | [.int i], H, Q => i.natAbs.log2 < 1920 ∧ Q (.str (toString i)) H
  | [.str a], H, Q => Q (.str a) H
  | _, _, _ => False
theorem call_strA : CallR X (.type "str") rStr1 := by
  intro pins s σ H xs us Q I r h
  unfold rStr1 at h
  split at h
  · exact call_str_int pins s σ H _ us Q I r ⟨_, rfl, h.1, h.2⟩
  · exact SkE.call_str_str pins s σ H _ us Q I r ⟨_, rfl, h⟩
  · exact h.elim
def rTup1 (K : PySem.W.Frag) : List V → Hp → VK → Prop
  | [.ref p], H, Q => ∃ ys, SqL K H p ys ∧ ∀ l, H l = none → Q (.ref l) (upd H l (.tup ys))
  | _, _, _ => False
theorem call_tupA : CallR X (.type "tuple") (rTup1 X.K) := by
  intro pins s σ H xs us Q I r h
  unfold rTup1 at h
  split at h
  · obtain ⟨ys, h1, h2⟩ := h
    exact call_tuple_of pins s σ H _ us Q I r ⟨_, ys, rfl, .inl ⟨h1, h2⟩⟩
  · exact h.elim
def rMin2 : List V → Hp → VK → Prop
  | [.int i, .int j], H, Q => Q (.int (if j < i then j else i)) H
  | _, _, _ => False
theorem call_minA (hc : X.calm = true) : CallR X (.builtin "min") rMin2 := by
  intro pins s σ H xs us Q I r h
  unfold rMin2 at h
  split at h
  · exact call_min2 hc pins s σ H _ us Q I r ⟨_, _, rfl, h⟩
  · exact h.elim
def rLen1 (K : PySem.W.Frag) : List V → Hp → VK → Prop
  | [x], H, Q => ∃ n, LenV K x H n ∧ Q (.int n) H
  | _, _, _ => False
theorem call_lenA : CallR X (.builtin "len") (rLen1 X.K) := by
  intro pins s σ H xs us Q I r h
  unfold rLen1 at h
  split at h
  · obtain ⟨n, h1, q⟩ := h
    exact call_len pins s σ H _ us Q I r ⟨_, n, rfl, h1, q⟩
  · exact h.elim
/-- all of a list of truths -/
def rAll1 (K : PySem.W.Frag) : List V → Hp → VK → Prop
  | [.ref a], H, Q => ∃ bs : List Bool, SqL K H a (bs.map V.bl) ∧ Q (.bl (bs.all id)) H
  | _, _, _ => False
theorem call_allA (hc : X.calm = true) : CallR X (.builtin "all") (rAll1 X.K) := by
  intro pins s σ H xs us Q I r h
  unfold rAll1 at h
  split at h
  · obtain ⟨bs, h1, q⟩ := h
    exact cr_all hc pins s σ H _ us Q I r ⟨_, bs, rfl, h1, q⟩
  · exact h.elim
/-- max of a list of numbers, one at least -/
def rMaxL (K : PySem.W.Frag) : List V → Hp → VK → Prop
  | [.ref a], H, Q => ∃ ns : List Int, SqL K H a (ns.map V.int) ∧ 0 < ns.length ∧ ∀ m, m ∈ ns → (∀ y, y ∈ ns → y ≤ m) → Q (.int m) H
  | _, _, _ => False
theorem call_maxA (hc : X.calm = true) : CallR X (.builtin "max") (rMaxL X.K) := by
  intro pins s σ H xs us Q I r h
  unfold rMaxL at h
  split at h
  · obtain ⟨ns, h1, h2, q⟩ := h
    exact cr_max hc pins s σ H _ us Q I r ⟨_, ns, rfl, h1, h2, q⟩
  · exact h.elim
/-- sorted of a dict with text keys -/
def rSortK : List V → Hp → VK → Prop
  | [.ref a], H, Q => ∃ (kvs : List (Key × V)) (ks : List Str), Rd H a (.dK kvs) ∧ kvs.map (·.1) = ks.map Sum.inr ∧ ks.length < 64 ∧ ∀ ys p, ys.Perm ks → sortedS ys = true → H p = none → Q (.ref p) (upd H p (.lst (ys.map V.str)))
  | _, _, _ => False
theorem call_sortA (hc : X.calm = true) : CallR X (.builtin "sorted") rSortK := by
  intro pins s σ H xs us Q I r h
  unfold rSortK at h
  split at h
  · obtain ⟨kvs, ks, h1, h2, h3, q⟩ := h
    exact call_sortedD hc pins s σ H _ us Q I r ⟨_, kvs, ks, rfl, h1, h2, h3, q⟩
  · exact h.elim
/-! ### isinstance of the built-in kinds -/
def tagO : HO → Option String
  | .lst _ => some "list"
  | .tup _ => some "tuple"
  | .dK _ => some "dict"
  | .frz _ (.lst _) => some "list"
  | .frz _ (.tup _) => some "tuple"
  | .frz _ (.dK _) => some "dict"
  | _ => none
def tagV (H : Hp) : V → Option String
  | .non => some "NoneType"
  | .bl _ => some "bool"
  | .int _ => some "int"
  | .str _ => some "str"
  | .ref a => (H a).bind tagO
  | _ => none
def isSub (t c : String) : Bool := t == c || (t == "bool" && c == "int")
def kinds : List String := ["NoneType", "bool", "int", "str", "list", "tuple", "dict"]
def classes : List String := ["bool", "int", "str", "list", "tuple", "dict"]
theorem tagV_mem {H : Hp} {x : V} {t : String} (h : tagV H x = some t) : t ∈ kinds := by
  cases x with
  | ref a =>
    simp only [tagV] at h
    cases e : H a with
    | none => rw [e] at h; cases h
    | some o =>
      rw [e] at h
      simp only [Option.bind_some] at h
      unfold tagO at h
      split at h <;> first | (cases h; decide) | cases h
  | _ => simp only [tagV] at h; first | (cases h; decide) | cases h
theorem tagV_ty {K : PySem.W.Frag} {H : Hp} {x : V} {t : String} (h : tagV H x = some t) : TyX K H x (.type t) := by
  cases x with
  | ref a =>
    simp only [tagV] at h
    cases e : H a with
    | none => rw [e] at h; cases h
    | some o =>
      rw [e] at h
      simp only [Option.bind_some] at h
      unfold tagO at h
      split at h <;> cases h
      · exact .base (.lst e)
      · exact .base (.tup e)
      · exact .base (.dK e)
      · exact .base (.frz e)
      · exact .fTuple e
      · exact .fDict e
  | non => simp only [tagV] at h; cases h; exact .base .non
  | bl b => simp only [tagV] at h; cases h; exact .base (.bl b)
  | int i => simp only [tagV] at h; cases h; exact .base (.int i)
  | str i => simp only [tagV] at h; cases h; exact .base (.str i)
  | _ => simp only [tagV] at h; cases h
theorem kit_bi (K : PySem.W.Frag) {t c : String} (ht : t ∈ kinds) (hc : c ∈ classes) : PySem.W.kitOne K (.type t) (.type c) = some (isSub t c) := by
  simp only [kinds, classes, List.mem_cons, List.mem_nil_iff, or_false] at ht hc
  rcases ht with rfl | rfl | rfl | rfl | rfl | rfl | rfl <;> rcases hc with rfl | rfl | rfl | rfl | rfl | rfl <;> rfl
def rIsB : List V → Hp → VK → Prop
  | [x, .ty c], H, Q => c ∈ classes ∧ ∃ t, tagV H x = some t ∧ Q (.bl (isSub t c)) H
  | _, _, _ => False
theorem call_isB : CallR X (.builtin "isinstance") rIsB := by
  intro pins s σ H xs us Q I r h
  unfold rIsB at h
  split at h
  · obtain ⟨hc, t, ht, q⟩ := h
    exact call_isi pins s σ H _ us Q I r ⟨_, _, _, _, _, rfl, .ty _, tagV_ty ht, kit_bi X.K (tagV_mem ht) hc, q⟩
  · exact h.elim
theorem kitAny_bi (K : PySem.W.Frag) {t : String} (ht : t ∈ kinds) : ∀ {cs : List String}, (∀ c ∈ cs, c ∈ classes) → PySem.W.kitAny K (.type t) (cs.map Value.type) = some (cs.any (isSub t))
  | [], _ => rfl
  | c :: cs, h => by
    have e := kitAny_bi K ht (cs := cs) fun d hd => h d (List.mem_cons_of_mem _ hd)
    have e1 := kit_bi K ht (h c (List.mem_cons_self ..))
    rw [List.map_cons]
    unfold PySem.W.kitAny
    rw [e1]
    cases hs : isSub t c
    · simp [hs, e]
    · simp [hs]
theorem clsV_map : ∀ cs : List String, Paired ClsV (cs.map V.ty) (cs.map Value.type)
  | [] => .nil
  | c :: cs => .cons (.ty c) (clsV_map cs)
/-- isinstance(x, (c1, c2, ..)), the tuple just laid -/
def rIsBT : List V → Hp → VK → Prop
  | [x, .ref tp], H, Q => ∃ cs : List String, H tp = some (.tup (cs.map V.ty)) ∧ (∀ c ∈ cs, c ∈ classes) ∧ ∃ t, tagV H x = some t ∧ Q (.bl (cs.any (isSub t))) H
  | _, _, _ => False
theorem call_isBT : CallR X (.builtin "isinstance") rIsBT := by
  intro pins s σ H xs us Q I r h
  unfold rIsBT at h
  split at h
  · obtain ⟨cs, h1, hc, t, ht, q⟩ := h
    exact call_isiT pins s σ H _ us Q I r ⟨_, _, _, _, _, _, rfl, h1, clsV_map cs, tagV_ty ht, kitAny_bi X.K (tagV_mem ht) hc, q⟩
  · exact h.elim
end
end Lk

set_option Elab.async false
set_option linter.all false
set_option maxRecDepth 100000
set_option maxHeartbeats 4000000
/-! Short words for the printed derivations. -/
namespace Lk
open PySem PySem.Spec PyProof.Rows L2
theorem hu0 {k : Nat} {A : Around} (r : Room k A) : A.units < cLine := r.units0
theorem hu1 {k : Nat} {A : Around} (r : Room k A) : A.units + 1 < cLine := by have := r.units; omega
section
variable {X : Cx}
theorem pe_gint {x : Str} {i : Int} {pos : Pos} (h : ∃ t, X.mg x = some (.int i t)) (hg : Gl X x := by rfl) (hd : (x == ("__debug__" : Str)) = false := by decide) : PE X (.Name x pos) (tC (.int i)) := by
  obtain ⟨t, h⟩ := h
  exact pe_glob hg h ⟨t, rfl⟩ hd
theorem pe_gstr {x z : Str} {pos : Pos} (h : ∃ t, X.mg x = some (.str z t)) (hg : Gl X x := by rfl) (hd : (x == ("__debug__" : Str)) = false := by decide) : PE X (.Name x pos) (tC (.str z)) := by
  obtain ⟨t, h⟩ := h
  exact pe_glob hg h ⟨t, rfl⟩ hd
end
section
variable {P : Program} {w : World} {K : PySem.W.Frag} {mg : Str → Option Value} {base : Heap} {N : List Str} {qual : Str} {scope : Scope} {f : Addr} {cd : Value} {A : Around} {outer : List Env} {s : Shared} {H : Hp} {E : XK}
theorem tk0 : Takes (cxOf (L2.CX P w) P w K mg base N qual scope f cd A outer s H E) (fun cls d _ H => E cls d H) := takes_of rfl rfl rfl rfl
end
/-- a callee that lets nothing out -/
theorem pass_no {P : Program} {w : World} {X : Cx} : Passes (L2.CX P w) X (fun _ _ _ => False) := fun _ _ _ _ _ _ _ ⟨_, _, _, _, _, _, _, _, _, _, _, _, h⟩ => h.elim
end Lk
namespace Lk
open PySem PySem.Spec PyProof.Rows L2
theorem boot_all : bootBuiltins "all" = some (.builtin "all") := by decide +kernel
theorem boot_len : bootBuiltins "len" = some (.builtin "len") := by decide +kernel
theorem boot_max : bootBuiltins "max" = some (.builtin "max") := by decide +kernel
theorem boot_min : bootBuiltins "min" = some (.builtin "min") := by decide +kernel
theorem boot_sorted : bootBuiltins "sorted" = some (.builtin "sorted") := by decide +kernel
theorem boot_isinstance : bootBuiltins "isinstance" = some (.builtin "isinstance") := by decide +kernel
theorem boot_str : bootBuiltins "str" = some (.type "str") := by decide +kernel
theorem boot_int : bootBuiltins "int" = some (.type "int") := by decide +kernel
theorem boot_bool : bootBuiltins "bool" = some (.type "bool") := by decide +kernel
theorem boot_tuple : bootBuiltins "tuple" = some (.type "tuple") := by decide +kernel
theorem boot_list : bootBuiltins "list" = some (.type "list") := by decide +kernel
theorem boot_dict : bootBuiltins "dict" = some (.type "dict") := by decide +kernel
theorem boot_ValueError : bootBuiltins "ValueError" = some (.type "ValueError") := by decide +kernel
section
variable {X : Cx}
theorem pe_gref {x : Str} {a : Addr} {pos : Pos} (h : X.mg x = some (.ref a)) (hg : Gl X x := by rfl) (hd : (x == ("__debug__" : Str)) = false := by decide) : PE X (.Name x pos) (tC (.ref a)) := pe_glob (v := .ref a) hg h rfl hd
/-! the same rules, the written part named (a comprehension's reading must not name its frame) -/
variable (K : PySem.W.Frag) (w : World)
theorem k_in (hK : X.K = K) (hw : X.w = w) : OpR X (compareOp .In) (fun x y H Q => rInA K w x y H Q false) := by subst hK hw; exact op_inA
theorem k_notIn (hK : X.K = K) (hw : X.w = w) : OpR X (compareOp .NotIn) (fun x y H Q => rInA K w x y H Q true) := by subst hK hw; exact op_notInA
theorem k_eq (hK : X.K = K) (hu : X.A.units < cLine) : OpR X (compareOp .Eq) (rEqQ K false) := by subst hK; exact op_eqQ hu
theorem k_ne (hK : X.K = K) (hu : X.A.units < cLine) : OpR X (compareOp .NotEq) (rEqQ K true) := by subst hK; exact op_neQ hu
theorem k_ix (hK : X.K = K) (hw : X.w = w) : IxR X (rIxA K w) := by subst hK hw; exact ixA
theorem k_sl (hK : X.K = K) : SlR X (rSlA K) := by subst hK; exact slA
theorem k_len (hK : X.K = K) : CallR X (.builtin "len") (rLen1 K) := by subst hK; exact call_lenA
theorem k_all (hK : X.K = K) (hc : X.calm = true) : CallR X (.builtin "all") (rAll1 K) := by subst hK; exact call_allA hc
theorem k_max (hK : X.K = K) (hc : X.calm = true) : CallR X (.builtin "max") (rMaxL K) := by subst hK; exact call_maxA hc
theorem k_tup (hK : X.K = K) : CallR X (.type "tuple") (rTup1 K) := by subst hK; exact call_tupA
theorem k_isA (hK : X.K = K) : CallR X (.builtin "isinstance") (rIsA K) := by subst hK; exact call_isA
end
end Lk
namespace Lk
open PySem PySem.Spec PyProof.Rows L2
section
variable {X : Cx}
theorem pe_bty {x : Str} {n : String} {pos : Pos} (hm : X.mg x = none) (hv : bootBuiltins x = some (.type n)) (hg : Gl X x := by rfl) (hn : x ≠ "__name__" := by decide) (hd : (x == ("__debug__" : Str)) = false := by decide) : PE X (.Name x pos) (tC (.ty n)) := pe_bltn (v := .ty n) hg hm hv rfl hn hd
/-! ### calls within a try -/
variable {k n : Nat} {x : Str} {dvs : List V} {sp : Sp} {E : L2.St → XK} {p pos : Pos} {e : Expr} {es : List Expr} {t tk : TA}
def tCallDS (sp : Sp) (dvs : List V) (E : L2.St → XK) (t : TA) : TE := fun σ H Q => t σ H fun vs H1 => sp (vs ++ dvs) H1 Q (E σ)
theorem pe_fnS (c : Fn X.prog X.w X.K X.mg X.base k x dvs sp) (hr : Room k X.A) (hx : ∀ σ, PassesAt (L2.CX X.prog X.w) X σ (E σ)) (ha : PA X (e :: es) t) (hg : Gl X x := by rfl)
    (hdb : (x == ("__debug__" : Str)) = false := by decide) (he : starEach (e :: es) X.env = (false, eval e X.env) :: starEach es X.env := by rfl) (hpl : (backTo pos (starEach es X.env)).any (·.1) = false := by rfl) :
    PE X (.Call (.Name x p) (e :: es) [] pos) (tCallDS sp dvs E t) := by
  obtain ⟨f, fd, ps, ds, hm, F, hk, hb, hd⟩ := c.ex
  refine ⟨fun pins s σ H Q I h => ?_⟩
  refine wpAny_Call_Name_kw (ld_glob I hg hm ?_ hdb)
  refine PySem.W.callWith_K (h₀ := X.base) I.ok.mod.kin hk (thn (ha.run pos pins s σ H _ I h) fun us s1 ⟨vs, H1, I1, r, q⟩ => ⟨I1.kIn, ?_⟩) he hpl
  have hl : (us ++ ds).length = ps.length := by rw [← (r.append hd).length]; exact F.len _ _ _ _ q
  have b := hb s1 us I1.kIn hl
  refine wpAny_call (codeAny_mono (F.run X.A X.stack s1 H1 ⟨us, []⟩ (us ++ ds) (vs ++ dvs) Q (E σ) hr I1.env0 b (r.append hd) q) fun r s' hq => ?_)
  cases r with
  | error e => exact hx σ pins H1 s1 e s' I1 hq
  | ok fl =>
    cases fl with
    | ret u => exact I1.after hq
    | next => exact False.elim hq
    | brk => exact False.elim hq
    | cont => exact False.elim hq
def tCallNS (n m : Nat) (sp : Sp) (gV : List V → List V → List V) (E : L2.St → XK) (t tk : TA) : TE := fun σ H Q => t σ H fun vs H1 => tk σ H1 fun zs H2 => vs.length = n ∧ zs.length = m ∧ sp (gV vs zs) H2 Q (E σ)
theorem pe_kwS {kws : List Keyword} {ks : List Str} {gV : List V → List V → List V} (c : Kw X.prog X.w X.K X.mg X.base k n x ks gV sp) (hr : Room k X.A) (hx : ∀ σ, PassesAt (L2.CX X.prog X.w) X σ (E σ)) (ha : PA X (e :: es) t) (hkw : PK X kws tk) (hg : Gl X x := by rfl)
    (hall : (backToKw pos (keywordEach kws X.env)).all (·.1.isSome) = true := by rfl) (hks : (backToKw pos (keywordEach kws X.env)).filterMap (·.1) = ks := by rfl)
    (hdb : (x == ("__debug__" : Str)) = false := by decide) (he : starEach (e :: es) X.env = (false, eval e X.env) :: starEach es X.env := by rfl)
    (hpl : ((backTo pos (starEach (e :: es) X.env)).any (·.1) || (backToKw pos (keywordEach kws X.env)).any (·.1.isNone)) = false := by rfl) :
    PE X (.Call (.Name x p) (e :: es) kws pos) (tCallNS n ks.length sp gV E t tk) := by
  obtain ⟨f, fd, ps, g, hm, F, hk, hb⟩ := c.ex
  refine ⟨fun pins s σ H Q I h => ?_⟩
  refine wpAny_Call_Name_kw (ld_glob I hg hm ?_ hdb)
  refine PySem.W.callWith_KW (h₀ := X.base) I.ok.mod.kin hk hall (thn (ha.run pos pins s σ H _ I h) fun us s1 ⟨vs, H1, I1, r, q⟩ => ?_) hpl he
  refine thn (hkw.run pos pins s1 σ H1 _ I1 q) fun ws s2 ⟨zs, H2, I2, rz, l1, l2, q2⟩ => ⟨I2.kIn, ?_⟩
  rw [hks]
  have r2 := hb.rel r rz
  refine wpAny_call (codeAny_mono (F.run X.A X.stack s2 H2 ⟨us, ks.zip ws⟩ (g us ws) (gV vs zs) Q (E σ) hr I2.env0 (hb.to s2 us ws I2.kIn (r.length.symm.trans l1) (rz.length.symm.trans l2)) r2 q2) fun r s' hq => ?_)
  cases r with
  | error e => exact hx σ pins H2 s2 e s' I2 hq
  | ok fl =>
    cases fl with
    | ret u => exact I2.after hq
    | next => exact False.elim hq
    | brk => exact False.elim hq
    | cont => exact False.elim hq
end
end Lk
namespace Lk
open PySem PySem.Spec PyProof.Rows L2
/-- d[k] = v: the dict's key a text -/
def rSetK : V → V → V → Hp → (Hp → Prop) → Prop
  | .ref a, .str z, v, H, Q => ∃ kvs, H a = some (.dK kvs) ∧ kvs.length < sizeLine ∧ Q (upd H a (.dK (putK kvs (Sum.inr z) v)))
  | .ref p, .int k, v, H, Q => ∃ xs j, H p = some (.lst xs) ∧ ixN xs.length k = some j ∧ Q (upd H p (.lst (xs.set j v)))
  | _, _, _, _, _ => False
theorem set_dictA {X : Cx} (hu : X.A.units + 1 < cLine) : PSet X rSetK := by
  intro pins s σ H o i v ov iv u Q I ro ri rv h
  unfold rSetK at h
  split at h
  · obtain ⟨kvs, h1, h2, q⟩ := h
    cases ro
    exact d_setItem hu I (.inl ⟨kvs, Sum.inr _, h1, rfl, h2, rfl⟩) ri rv fun s6 I6 => ⟨_, I6, q⟩
  · obtain ⟨xs, j, h1, h2, q⟩ := h
    exact set_list pins s σ H _ _ _ ov iv u Q I ro ri rv ⟨_, xs, _, j, rfl, rfl, h1, h2, q⟩
  · exact h.elim
end Lk
namespace Lk
open PySem PySem.Spec PyProof.Rows L2
/-! ### facts of exception classes as Bools -/
def oexB (K : PySem.W.Frag) (C : Addr) : Bool := (match K.lookup C with
  | some ⟨.type "type", _, .cls cd, sl⟩ => (match cd.mro, sl.toList with
    | .ref C' :: bm, [_, _, _, _, some (.builtin n), _] => decide (C' = C) && n == "ValueError.__new__" && !cd.hasDel && cd.hasDict && PySem.HandSPX.refsVE bm
    | _, _ => false)
  | _ => false) && decide (PySem.W.findIn K (.ref C) "__setattr__" = some (some (.builtin "object.__setattr__"))) && decide (PySem.W.subIn K (.ref C) (.type "BaseException") = some true) &&
  decide (PySem.W.typeIn K (.ref C) = some (.type "type")) && PySem.W.keepIn K (.ref C)
theorem oexB_ok {K : PySem.W.Frag} {C : Addr} (h : oexB K C = true) : OexC K C := by
  unfold oexB at h
  simp only [Bool.and_eq_true, decide_eq_true_eq] at h
  obtain ⟨⟨⟨⟨h1, h2⟩, h3⟩, h4⟩, h5⟩ := h
  refine ⟨?_, h2, h3, h4, h5⟩
  split at h1
  · rename_i dd cd sl e
    split at h1
    · rename_i C' bm k0 k1 k2 k3 n k5 e1 e2
      simp only [Bool.and_eq_true, decide_eq_true_eq, beq_iff_eq, Bool.not_eq_true'] at h1
      obtain ⟨⟨⟨⟨a1, a2⟩, a3⟩, a4⟩, a5⟩ := h1
      subst a1 a2
      obtain ⟨nm, bs, mro, ns, q, hd, sn, sub, ab, col, del⟩ := cd
      simp only at e1 a3 a4
      subst e1 a3 a4
      obtain ⟨l⟩ := sl
      simp only at e2
      subst e2
      exact ⟨_, _, _, _, _, _, _, _, _, _, _, _, _, _, _, e, a5⟩
    · cases h1
  · cases h1
/-- isinstance of a kept exception, its fields -/
def excB (K : PySem.W.Frag) (D : Addr) : Bool := decide (PySem.W.findIn K (.ref D) "__getattribute__" = some (some (.builtin "BaseException.__getattribute__"))) && decide (PySem.W.findIn K (.ref D) "__getattr__" = some none) &&
  decide (PySem.W.subIn K (.ref D) (.type "BaseException") = some true) && PySem.W.hasDictIn K D && decide (PySem.W.findIn K (.ref D) "__class__" = some (some (.builtin "object.__class__"))) &&
  decide (PySem.W.specialIn K (.builtin "object.__class__") "__get__" = some (some (.builtin "getset_descriptor.__get__"))) && decide (PySem.W.takesIn K (.builtin "object.__class__") = some true) && decide (PySem.W.mroIn K D (.type "object") = some true)
theorem excB_ok {K : PySem.W.Frag} {D : Addr} (h : excB K D = true) : ExcC K D ∧ XfC K D := by
  unfold excB at h
  simp only [Bool.and_eq_true, decide_eq_true_eq] at h
  obtain ⟨⟨⟨⟨⟨⟨⟨h1, h2⟩, h3⟩, h4⟩, h5⟩, h6⟩, h7⟩, h8⟩ := h
  exact ⟨⟨h1, h2, h3, h4, h5, h6, h7, h8⟩, ⟨h1, h2, h3, h4⟩⟩
/-! ### a table of the module -/
theorem dicW_es {K : PySem.W.Frag} {a : Addr} {l : List (Option (Str × Int))} (h : He.dicW K a = some l) : ∃ es n, K.lookup a = some ⟨.type "dict", none, .dict es n, #[]⟩ ∧ es.toList.map He.keyOf = l := by
  unfold He.dicW at h
  split at h
  · rename_i c es n osl e
    split at h
    · rename_i z
      simp only [Bool.and_eq_true, decide_eq_true_eq] at z
      obtain ⟨z1, z2, z3⟩ := z
      have e2 : osl = #[] := Array.isEmpty_iff.mp z2
      subst z1 e2
      exact ⟨es, n, e, Option.some.inj h⟩
    · cases h
  · cases h
theorem tab_of {K : PySem.W.Frag} {w : World} {d : Addr} {ks : List Str} {kvs : List (Str × He.Dv)} (h : He.dicW K d = some (He.keysIn w.params ks)) (hv : He.valsB K d kvs = true) (hk : kvs.map (·.1) = ks) : TabK K w d (kvs.map fun q => (q.1, q.2.v K)) := by
  refine ⟨He.dicW_ok h, fun z => ?_⟩
  by_cases hz : z ∈ ks
  · have : ∀ l : List (Str × He.Dv), z ∈ l.map (·.1) → ∃ q ∈ l, q.1 = z ∧ (l.map fun q => (q.1, q.2.v K)).lookup z = some (q.2.v K) := by
      intro l
      induction l with
      | nil => intro h; cases h
      | cons p l ih =>
        intro hm
        by_cases e : z = p.1
        · exact ⟨p, List.mem_cons_self .., e.symm, by subst e; simp [List.lookup]⟩
        · obtain ⟨q, h1, h2, h3⟩ := ih (by
            rw [List.map_cons] at hm
            rcases List.mem_cons.mp hm with h | h
            · exact absurd h e
            · exact h)
          refine ⟨q, List.mem_cons_of_mem _ h1, h2, ?_⟩
          have e' : (z == p.1) = false := by simpa using e
          rw [List.map_cons, List.lookup, e']
          exact h3
    obtain ⟨q, h1, h2, h3⟩ := this kvs (by rw [hk]; exact hz)
    obtain ⟨u, h4, h5⟩ := He.valsB_ok hv h1
    subst h2
    exact ⟨some u, h4, by rw [h3]; exact h5⟩
  · obtain ⟨es, n, e, hm⟩ := dicW_es h
    have all : ∀ (l : List DictEntry) (ks : List Str), l.map He.keyOf = He.keysIn w.params ks → z ∉ ks → l.find? (·.key.isStr z) = none ∧ l.any (·.refKey) = false := by
      intro l
      induction l with
      | nil => intro ks _ _; exact ⟨rfl, rfl⟩
      | cons p l ih =>
        intro ks hm hz
        cases ks with
        | nil => cases hm
        | cons k ks =>
          simp only [He.keysIn, List.map_cons, List.cons.injEq] at hm
          obtain ⟨h1, h2⟩ := hm
          obtain ⟨i1, i2⟩ := ih ks h2 (fun q => hz (List.mem_cons_of_mem _ q))
          have ne : ¬ k = z := fun q => hz (q ▸ List.mem_cons_self ..)
          unfold He.keyOf at h1
          split at h1
          · rename_i k' t ek
            have ek2 : k' = k := by
              have := Option.some.inj h1
              exact congrArg Prod.fst this
            subst ek2
            refine ⟨?_, ?_⟩
            · rw [List.find?_cons, ek]
              have : Value.isStr (Value.str k' t) z = false := by simp [Value.isStr, ne]
              rw [this]
              exact i1
            · rw [List.any_cons, i2, Bool.or_false]
              simp [DictEntry.refKey, ek]
          · cases h1
    obtain ⟨h1, h2⟩ := all es.toList ks hm hz
    refine ⟨none, ?_, ?_⟩
    · unfold PySem.W.nsIn
      rw [e]
      simp only [h1, h2]
      rfl
    · have : (kvs.map fun q => (q.1, q.2.v K)).lookup z = none := by
        have : ∀ l : List (Str × He.Dv), z ∉ l.map (·.1) → (l.map fun q => (q.1, q.2.v K)).lookup z = none := by
          intro l
          induction l with
          | nil => intro _; rfl
          | cons p l ih =>
            intro hm
            rw [List.map_cons] at hm
            have e' : (z == p.1) = false := by
              have : z ≠ p.1 := fun q => hm (q ▸ List.mem_cons_self ..)
              simpa using this
            rw [List.map_cons, List.lookup, e']
            exact ih fun q => hm (List.mem_cons_of_mem _ q)
        exact this kvs (by rw [hk]; exact hz)
      rw [this]
      trivial
end Lk
namespace Lk
open PySem PySem.Spec PyProof.Rows L2
/-- xs.append(e) -/
theorem pe_app {X : Cx} {o e : Expr} {to : TE} {t : TA} {apos cpos : Pos} (K : PySem.W.Frag) (hK : X.K = K) (ho : PE X o to) (ha : PA X [e] t) (hbase : attributeBase o "append" X.env (eval o X.env) = eval o X.env := by rfl)
    (hfew : ((backTo cpos (starEach [e] X.env)).all (fun x => !x.1) && (backToKw cpos (keywordEach [] X.env)).all (fun x => x.1.isSome)
      && decide (([e] : List Expr).length + ([] : List Keyword).length + (if ([] : List Keyword).isEmpty then 0 else 1) < 30)) = true := by rfl)
    (hline : (apos.endLine == cpos.line) = true := by rfl) (hs : starEach [e] X.env = (false, eval e X.env) :: starEach [] X.env := by rfl) (hplain : (backTo cpos (starEach [] X.env)).any (·.1) = false := by rfl) :
    PE X (.Call (.Attribute o "append" apos) [e] [] cpos) (tBM K "list" rAppend to t) := by
  subst hK
  exact pe_bm PySem.F.plainAttrs_list PySem.F.slot_list_append PySem.F.type_list_append mt_append ho ha hbase hfew hline hs hplain
end Lk
namespace Lk
open PySem PySem.Spec PyProof.Rows L2
theorem k_ptup {X : Cx} {es : List Expr} {k : Nat} {t : TGs} {pos : Pos} (K : PySem.W.Frag) (n : Nat) (hK : X.K = K) (hc : X.calm = true) (h : PGs X es t)
    (hn : (assignEach es X.env).length = n := by rfl) (hst : (assignEach es X.env).findIdx? (·.1) = none := by rfl) : PG X (.Tuple es k pos) (gTup K n t) := by
  subst hK
  exact pg_tup hc h hn hst
end Lk
namespace Lk
open PySem PySem.Spec PyProof.Rows L2
/-! ### loops whose readings are already laid open: what a turn does is any B of what comes next -/
section
variable {J : It} {n : Nat} {G : Hp → Prop} {Y : Nat → Hp → V → Hp → Prop}
theorem lc_any (w : Walk J n G Y) {H0 : Hp} {Qd : Hp → Prop} {B : (Hp → Prop) → V → Hp → Prop} (Pv : Nat → Hp → Prop) (h0 : Pv 0 H0) (hG : ∀ i H, i ≤ n → Pv i H → G H)
    (hs : ∀ i x H H', i < n → Pv i H → Y i H x H' → B (Pv (i + 1)) x H') (hd : ∀ H, Pv n H → Qd H) :
    ∃ W : Nat → Nat → Hp → Prop, (∃ m, W 0 m H0) ∧ ∀ i m H, W i m H → (J.stop i H ∧ Qd H) ∨ (J.go i H ∧ ∃ Nx : Hp → Prop, (∀ H', Nx H' → ∃ m', m' < m ∧ W (i + 1) m' H') ∧ ∀ x H', J.yld i H x H' → B Nx x H') := by
  refine ⟨fun i m H => m = n - i ∧ i ≤ n ∧ Pv i H, ⟨n, by simp, Nat.zero_le _, h0⟩, ?_⟩
  rintro i m H ⟨rfl, hi, p⟩
  have q := hG i H hi p
  by_cases hlt : i < n
  · exact .inr ⟨w.goes i H hlt q, Pv (i + 1), fun H' p' => ⟨n - (i + 1), by omega, rfl, hlt, p'⟩, fun x H' y => hs i x H H' hlt p (w.yields i H x H' hlt q y)⟩
  · have e : i = n := by omega
    subst e
    exact .inl ⟨w.stops H q, hd H p⟩
theorem for_any (w : Walk J n G Y) {σ0 : L2.St} {H0 : Hp} {Qd : L2.St → Hp → Prop} {B : (L2.St → Hp → Prop) → V → L2.St → Hp → Prop} (Pv : Nat → L2.St → Hp → Prop) (h0 : Pv 0 σ0 H0) (hG : ∀ i σ H, i ≤ n → Pv i σ H → G H)
    (hs : ∀ i x σ H H', i < n → Pv i σ H → Y i H x H' → B (Pv (i + 1)) x σ H') (hd : ∀ σ H, Pv n σ H → Qd σ H) :
    ∃ W : Nat → Nat → L2.St → Hp → Prop, (∃ m, W 0 m σ0 H0) ∧ ∀ i m σ H, W i m σ H → (J.stop i H ∧ Qd σ H) ∨ (J.go i H ∧ ∃ Nx : L2.St → Hp → Prop, (∀ σ' H', Nx σ' H' → ∃ m', m' < m ∧ W (i + 1) m' σ' H') ∧ ∀ x H', J.yld i H x H' → B Nx x σ H') := by
  refine ⟨fun i m σ H => m = n - i ∧ i ≤ n ∧ Pv i σ H, ⟨n, by simp, Nat.zero_le _, h0⟩, ?_⟩
  rintro i m σ H ⟨rfl, hi, p⟩
  have q := hG i σ H hi p
  by_cases hlt : i < n
  · exact .inr ⟨w.goes i H hlt q, Pv (i + 1), fun σ' H' p' => ⟨n - (i + 1), by omega, rfl, hlt, p'⟩, fun x H' y => hs i x σ H H' hlt p (w.yields i H x H' hlt q y)⟩
  · have e : i = n := by omega
    subst e
    exact .inl ⟨w.stops H q, hd σ H p⟩
end
end Lk
namespace Lk
open PySem PySem.Spec PyProof.Rows L2
theorem cxK {CX : CXT} {P : Program} {w : World} {K : PySem.W.Frag} {mg : Str → Option Value} {base : Heap} {N : List Str} {qual : Str} {scope : Scope} {f : Addr} {cd : Value} {A : Around} {outer : List Env} {s : Shared} {H : Hp} {E : XK} :
    (cxOf CX P w K mg base N qual scope f cd A outer s H E).K = K := rfl
theorem cxW {CX : CXT} {P : Program} {w : World} {K : PySem.W.Frag} {mg : Str → Option Value} {base : Heap} {N : List Str} {qual : Str} {scope : Scope} {f : Addr} {cd : Value} {A : Around} {outer : List Env} {s : Shared} {H : Hp} {E : XK} :
    (cxOf CX P w K mg base N qual scope f cd A outer s H E).w = w := rfl
end Lk
namespace Lk
open PySem PySem.Spec PyProof.Rows L2
/-! ### the readings of operators, where the kinds are known -/
section
variable {H : Hp} {Q : VK} {i j : Int} {x y : Str} {K : PySem.W.Frag} {w : World} {a b : Addr} {neg : Bool} {lo hi : Option Int} {u v : V} {p q : Bool}
theorem add_ii : rAddA (.int i) (.int j) H Q = Q (.int (i + j)) H := rfl
theorem add_ss : rAddA (.str x) (.str y) H Q = (x.length + y.length ≤ sizeLine ∧ Q (.str (x ++ y)) H) := rfl
theorem sub_ii : rSubA (.int i) (.int j) H Q = Q (.int (i - j)) H := rfl
theorem mul_ii : rMulA (.int i) (.int j) H Q = (CMulW i j ∧ Q (.int (i * j)) H) := rfl
theorem mod_ii : rModA (.int i) (.int j) H Q = (0 < j ∧ Q (.int (i % j)) H) := rfl
theorem fdiv_ii : rFdivA (.int i) (.int j) H Q = (CDivW i j ∧ Q (.int (i / j)) H) := rfl
theorem pow_ii : rPowA (.int i) (.int j) H Q = (CPowA i j ∧ Q (.int (i ^ j.toNat)) H) := rfl
theorem lt_ii : rLtA (.int i) (.int j) H Q = Q (.bl (decide (i < j))) H := rfl
theorem le_ii : rLeA (.int i) (.int j) H Q = Q (.bl (decide (i ≤ j))) H := rfl
theorem gt_ii : rGtA (.int i) (.int j) H Q = Q (.bl (decide (j < i))) H := rfl
theorem ge_ii : rGeA (.int i) (.int j) H Q = Q (.bl (decide (j ≤ i))) H := rfl
theorem lt_ss : rLtA (.str x) (.str y) H Q = Q (.bl (decide (x.cps.toList < y.cps.toList))) H := rfl
theorem le_ss : rLeA (.str x) (.str y) H Q = Q (.bl (!decide (y.cps.toList < x.cps.toList))) H := rfl
theorem iadd_ii : rIaddA (.int i) (.int j) H Q = Q (.int (i + j)) H := rfl
theorem iadd_ss : rIaddA (.str x) (.str y) H Q = (x.length + y.length ≤ sizeLine ∧ Q (.str (x ++ y)) H) := rfl
theorem in_ss : rInA K w (.str x) (.str y) H Q neg = Q (.bl (neg.xor (!(Builtin.Str.occurrences y x 0 y.length 1).isEmpty))) H := rfl
theorem ix_si : rIxA K w (.str x) (.int i) H Q = (x.length ≤ sizeLine ∧ ∃ c, atI x.cps.toList i = some c ∧ Q (.str ⟨#[c]⟩) H) := rfl
theorem ix_ri : rIxA K w (.ref a) (.int i) H Q = ∃ xs v, (SqL K H a xs ∨ SqT K H a xs) ∧ atI xs i = some v ∧ Q v H := rfl
theorem ix_rs : rIxA K w (.ref a) (.str x) H Q = ((∃ kvs v, TabK K w a kvs ∧ kvs.lookup x = some v ∧ Q v H) ∨ ∃ kvs v, Rd H a (.dK kvs) ∧ valV kvs (Sum.inr x) = some v ∧ Q v H) := rfl
theorem sl_s : Lk.rSlA K (.str x) lo hi H Q = (x.length ≤ sizeLine ∧ Q (.str (cutS x lo hi)) H) := rfl
theorem sl_r : Lk.rSlA K (.ref a) lo hi H Q = ∃ xs, SqL K H a xs ∧ ∀ p, H p = none → Q (.ref p) (upd H p (.lst (cutV xs lo hi))) := rfl
theorem eq_ss : rEqQ K neg (.str x) (.str y) H Q = Q (.bl (neg.xor (decide (x = y)))) H := by
  show (scal (V.str x) (V.str y) = true ∧ Q (.bl (neg.xor (decide (V.str x = V.str y)))) H) = _
  rw [show (scal (V.str x) (V.str y) = true) = True from eq_true rfl, true_and, dec_str, Bool.beq_eq_decide_eq]
theorem eq_ii : rEqQ K neg (.int i) (.int j) H Q = Q (.bl (neg.xor (decide (i = j)))) H := by
  show (scal (V.int i) (V.int j) = true ∧ Q (.bl (neg.xor (decide (V.int i = V.int j)))) H) = _
  rw [show (scal (V.int i) (V.int j) = true) = True from eq_true rfl, true_and, dec_int, Bool.beq_eq_decide_eq]
theorem eq_bb : rEqQ K neg (.bl p) (.bl q) H Q = Q (.bl (neg.xor (decide (p = q)))) H := by
  show (scal (V.bl p) (V.bl q) = true ∧ Q (.bl (neg.xor (decide (V.bl p = V.bl q)))) H) = _
  rw [show (scal (V.bl p) (V.bl q) = true) = True from eq_true rfl, true_and, dec_bl, Bool.beq_eq_decide_eq]
theorem eq_nn : rEqQ K neg .non .non H Q = Q (.bl (neg.xor true)) H := by
  show (scal V.non V.non = true ∧ Q (.bl (neg.xor (decide (V.non = V.non)))) H) = _
  rw [show (scal V.non V.non = true) = True from eq_true rfl, true_and, decide_eq_true rfl]
theorem eq_rr : rEqQ K neg (.ref a) (.ref b) H Q = ∃ xs ys, SqL K H a xs ∧ SqL K H b ys ∧ (xs.length = ys.length → scals xs ys = true) ∧ Q (.bl (neg.xor (decide (xs = ys)))) H := rfl
theorem int1_i : rInt1 [.int i] H Q = Q (.int i) H := rfl
theorem int1_b : rInt1 [.bl p] H Q = Q (.int (if p then 1 else 0)) H := rfl
theorem int1_s : rInt1 [.str x] H Q = (x.length ≤ 640 ∧ ∃ n, PySem.intText? x = some n ∧ Q (.int n) H) := rfl
theorem min2_ii : rMin2 [.int i, .int j] H Q = Q (.int (if j < i then j else i)) H := rfl
theorem set_rs {Q : Hp → Prop} : rSetK (.ref a) (.str x) v H Q = ∃ kvs, H a = some (.dK kvs) ∧ kvs.length < sizeLine ∧ Q (upd H a (.dK (putK kvs (Sum.inr x) v))) := rfl
theorem set_ri {Q : Hp → Prop} : rSetK (.ref a) (.int i) v H Q = ∃ xs j, H a = some (.lst xs) ∧ ixN xs.length i = some j ∧ Q (upd H a (.lst (xs.set j v))) := rfl
end
end Lk

set_option Elab.async false
set_option linter.all false
set_option maxRecDepth 100000
set_option maxHeartbeats 4000000
/-! sorted of a dict with text keys, any number of them; a text times a number. -/
namespace Lk
open PySem PySem.Spec PyProof.Rows L2 SX
/-- sorted of a dict with text keys, however many -/
def rSortL : List V → Hp → VK → Prop
  | [.ref a], H, Q => ∃ (kvs : List (Key × V)) (ks : List Str), Rd H a (.dK kvs) ∧ kvs.map (·.1) = ks.map Sum.inr ∧ ∀ ys p, ys.Perm ks → sortedS ys = true → H p = none → Q (.ref p) (upd H p (.lst (ys.map V.str)))
  | _, _, _ => False
section
variable {X : Cx}
theorem call_sortL (hc : X.calm = true) : CallR X (.builtin "sorted") rSortL := by
  intro pins s σ H xs us Q I r h
  unfold rSortL at h
  split at h
  case h_2 => exact h.elim
  rename_i a
  obtain ⟨kvs, ks, hrd, hk, q⟩ := h
  obtain ⟨u, rfl, hu⟩ := vals1 r
  cases hu
  obtain ⟨hz, low, es, hrel, hdd⟩ := dk_rd I.hok hrd
  obtain ⟨ep, at_⟩ := hdd.dictAt
  have ek : es.map (·.1) = ks.map Sum.inr := (hrel.keys.symm).trans hk
  have el : es.length = ks.length := by
    have z := congrArg List.length ek
    simpa only [List.length_map] using z
  have hline : es.length ≤ sizeLine := by rw [← hrel.length]; exact hz
  refine Calls.call_function_entry kind_sorted plain_sorted entry_sorted (args_sorted1 _) ?_
  unfold Builtin.«sorted»
  refine wpAny_bind (m := checkCount "sorted" 1 1 _) (wpAny_pure ?_)
  refine wpAny_bind (PySem.W.kdu_collect (A := X.A.in1) (PySem.W.kdl_dict (knd := mixKind X.prog X.w) (kvs := es) (ep := ep) low) (I.ok.hd hc) at_ hline fun h2 tk acc kept got => ?_)
  have al : acc.toList.length = ks.length := by
    rw [Array.length_toList, got.1, el]
  have are : StrsAre acc.toList ks := by
    refine strs_at al fun j v e => ?_
    obtain ⟨k, x, e1, e2⟩ := got.2 j v (by rw [← Array.getElem?_toList]; exact e)
    have e3 : (ks.map Sum.inr)[j]? = some k := by
      rw [← ek, List.getElem?_map, e1]
      rfl
    rw [List.getElem?_map] at e3
    obtain ⟨y, e4, e5⟩ := Option.map_eq_some_iff.mp e3
    subst e5
    obtain ⟨t, ev⟩ := Value.isStrOf_shape (x := y) (v := v) e2
    exact ⟨y, t, e4, ev⟩
  have I1 : Inv X pins σ H { s with heap := h2, toks := tk } := I.kept kept
  have szl : acc.toList.length ≤ sizeLine := by rw [al, ← el]; exact hline
  refine wpAny_bind (wpAny_newList ?_ szl)
  have new : (h2.push (seqObj "list" acc.toList.toArray 0)).get? h2.objs.size = some (seqObj "list" acc.toList.toArray 0) := Heap.get?_push_size _ rfl
  show wpAny _ _ _ _ _ { s with heap := h2.push (seqObj "list" acc.toList.toArray 0), toks := tk }
  refine wpAny_bind (wpAny_holding (wpAny_call_entry slot_list_sort ⟨_, new, rfl⟩ entry_list_sort
    (list_sort_treeKAny strKind_oneLt (s := { s with heap := h2.push (seqObj "list" acc.toList.toArray 0), toks := tk }) new are.keysOf (fun v₁ v₂ rest e => keyKind_strs (by rw [← e]; exact are)) szl fun st' hp hs => ⟨_, rfl, ?_⟩)
    (args_list_sort _)))
  obtain ⟨ys, g1, g2, g3⟩ := sorted_out_str are hp hs
  obtain ⟨ee, hee⟩ := sortedHeap_at (vs := acc.toList) (out := (arrOf st').map (·.2)) new
  have yl : (ys.map V.str).length ≤ sizeLine := by
    rw [List.length_map, g2.length_eq, ← el]
    exact hline
  refine wpAny_pure ⟨_, rfl, .ref h2.objs.size, upd H h2.objs.size (.lst (ys.map V.str)), I1.laid (t' := tk) (fun b u e => ?_) (Nat.le_refl _) ⟨yl, ((arrOf st').map (·.2)).toList, ee, vals_of_strs g1, by rw [Array.toArray_toList]; exact hee⟩, rfl,
    q ys _ g2 g3 (I1.hok.fresh (Nat.le_refl _))⟩
  have lt : b < h2.objs.size := Heap.lt_size e
  rw [sortedHeap_old (Nat.ne_of_lt lt) (by rw [size_push']; exact Nat.lt_succ_of_lt lt)]
  exact Heap.get?_push_of_some _ e
end
/-! ### a text times a number -/
theorem foldl_app (c : Array Nat) : ∀ (n : Nat) (a : Array Nat), ((List.replicate n c).foldl (· ++ ·) a).toList = a.toList ++ (List.replicate n c.toList).flatten
  | 0, a => by simp
  | n + 1, a => by
    rw [List.replicate_succ, List.foldl_cons, foldl_app c n, Array.toList_append, List.replicate_succ, List.flatten_cons, List.append_assoc]
theorem mul_S (x : List Nat) (n : Nat) : Txt.mul (S x) (n : Int) = S (List.replicate n x).flatten := by
  refine TL.ext_tl ?_
  unfold Txt.mul
  by_cases h0 : (n : Int) < 1
  · obtain rfl : n = 0 := by omega
    rfl
  rw [if_neg h0]
  by_cases h1 : ((n : Int) == 1 || (S x).length == 0) = true
  · rw [if_pos h1]
    rcases Bool.or_eq_true _ _ ▸ h1 with h | h
    · obtain rfl : n = 1 := by have := beq_iff_eq.mp h; omega
      simp
    · have e : x = [] := List.length_eq_zero_iff.mp (by have := beq_iff_eq.mp h; rw [S_len] at this; exact this)
      subst e
      have : ∀ n, (List.replicate n ([] : List Nat)).flatten = [] := fun n => by simp
      rw [this]
  · rw [if_neg h1]
    show ((List.replicate (n : Int).toNat (S x).cps).foldl (· ++ ·) #[]).toList = _
    rw [foldl_app, Int.toNat_natCast]
    rfl
section
variable {X : Cx}
def rMulS : V → V → Hp → VK → Prop
  | .str x, .int n, H, Q => 0 ≤ n ∧ n ≤ 1000000 ∧ x.length * n.toNat ≤ sizeLine ∧ Q (.str (Txt.mul x n)) H
  | .int i, .int j, H, Q => CMulW i j ∧ Q (.int (i * j)) H
  | _, _, _, _ => False
theorem op_mulS : OpR X (binaryOp .Mult) rMulS := by
  intro pins s σ H x y v u Q I rx ry h
  unfold rMulS at h
  split at h
  · obtain ⟨h0, h1, hl, q⟩ := h
    rename_i x n
    obtain ⟨t, rfl⟩ := rx
    obtain ⟨t', rfl⟩ := ry
    refine SB.mul ⟨?_, fun a b => ?_, fun _ _ => ?_⟩ fun t2 k => ⟨.str _, H, I.tok _, ⟨_, rfl⟩, q⟩
    · rw [decide_eq_false (by omega), decide_eq_false (by omega)]
      rfl
    · have hx : x.length ≤ sizeLine := by
        refine Nat.le_trans ?_ hl
        exact Nat.le_mul_of_pos_right _ (by omega)
      rw [sizeLine_eq] at hx
      have hd : (1000000000 : Int) ≤ (2 ^ 63 - 1) / n := by
        refine Int.le_ediv_of_mul_le (by omega) ?_
        omega
      omega
    · exact decide_eq_false (Nat.not_lt.mpr hl)
  · exact op_mulA pins s σ H _ _ v u Q I rx ry h
  · exact h.elim
end
end Lk

set_option Elab.async false
set_option linter.all false
set_option maxRecDepth 100000
set_option maxHeartbeats 4000000
/-! Statements behind a given-out token; max of two; dict of a list of pairs. -/
namespace Lk
open PySem PySem.Spec PyProof.Rows L2 SX CwR
section
variable {X : Cx} {pos pos' : Pos}
theorem pst_while {c : Expr} {body : List Stmt} {tc : TT} {tb : TS} (hp : PassesOwn (model X.prog X.w) X.A X.env X.xe) (hc : PT X c tc) (hb : PSsT X body tb) : PST X (.While c body [] pos) (tWhile tc tb) := by
  intro pins s σ H D h0 I h
  obtain ⟨W, ⟨m0, w0⟩, turn⟩ := h
  refine wpAny_While (codeAny_whileLoop (fun n s' => 1 ≤ s'.toks ∧ ∃ σ' H', Inv X pins σ' H' s' ∧ W n σ' H') ?_ m0 ⟨h0, σ, H, I, w0⟩)
  rintro n s1 ⟨k1, σ1, H1, I1, w1⟩
  have ht := wpAny_toks (hc.run pins s1 σ1 H1 _ I1 (turn n σ1 H1 w1))
  refine wpAny_passesOwn hp (wpAny_mono ht (fun b s2 z => ?_) fun _ _ z => z.2)
  obtain ⟨k2, H2, I2, q2⟩ := z
  cases b with
  | false =>
    rw [if_neg Bool.false_ne_true]
    exact wpAny_execs_nil ⟨σ1, H2, I2, q2⟩
  | true =>
    obtain ⟨N, hN, q2⟩ := q2
    rw [if_pos rfl]
    have hbt := wpAny_toks (hb pins s2 σ1 H2 _ (Nat.le_trans k1 k2) I2 q2)
    refine wpAny_passesOwn hp (wpAny_mono hbt (fun f s3 z => ?_) fun _ _ z => z.2)
    obtain ⟨k3, q3⟩ := z
    have again : ∀ {σ3 : L2.St} {H3 : Hp}, Inv X pins σ3 H3 s3 → N σ3 H3 → ∃ m', m' < n ∧ 1 ≤ s3.toks ∧ ∃ σ' H', Inv X pins σ' H' s3 ∧ W m' σ' H' := fun {σ3 H3} I3 n3 => by
      obtain ⟨m', hm, w3⟩ := hN σ3 H3 n3
      exact ⟨m', hm, Nat.le_trans (Nat.le_trans k1 k2) k3, σ3, H3, I3, w3⟩
    cases f with
    | next => obtain ⟨σ3, H3, I3, n3⟩ := q3; exact again I3 n3
    | cont => obtain ⟨σ3, H3, I3, n3⟩ := q3; exact again I3 n3
    | brk => exact q3
    | ret v => exact q3
theorem pst_set {i : Nat} {x : Str} {e : Expr} {te : TE} (hN : X.N.Nodup) (hi : X.N[i]? = some x) (hx : Loc X.env.scope x) (he : PET X e te) (hs : swapsWith e (some (.Name x pos')) pos.line X.env = pure false := by rfl) (hf : X.fn x = true ∨ X.env.scope.names.lookup x = some .local := by first | exact .inl rfl | exact .inr rfl | assumption) :
    PST X (.Assign [.Name x pos'] e pos) (tAsg te (gName i)) := by
  intro pins s σ H D h0 I h
  refine wpAny_Assign_Name (thn (he pins s σ H _ h0 I h) fun v s1 ⟨y, H1, I1, r1, q1⟩ => ?_) hs
  exact store_ok I1 hN hi hx r1 (fun s2 I2 => ⟨_, H1, I2, q1⟩) hf
/-- max of two numbers -/
def rMax2 : List V → Hp → VK → Prop
  | [.int i, .int j], H, Q => Q (.int (if j > i then j else i)) H
  | _, _, _ => False
theorem call_maxB (hc : X.calm = true) : CallR X (.builtin "max") rMax2 := by
  intro pins s σ H xs us Q I r h
  unfold rMax2 at h
  split at h
  · exact call_max2 hc pins s σ H _ us Q I r ⟨_, _, rfl, h⟩
  · exact h.elim
/-- dict of a list of pairs, the first of each a text -/
def rDictP (K : PySem.W.Frag) : List V → Hp → VK → Prop
  | [.ref a], H, Q => ∃ (ps : List Addr) (kvs : List (Key × V)), SqL K H a (ps.map V.ref) ∧ Paired (fun p kv => SqT K H p [kV kv.1, kv.2]) ps kvs ∧ ∀ p, H p = none → Q (.ref p) (upd H p (.dK (mergeK [] kvs)))
  | _, _, _ => False
theorem call_dictA (K : PySem.W.Frag) (hK : X.K = K) (hc : X.calm = true) : CallR X (.type "dict") (rDictP K) := by
  subst hK
  intro pins s σ H xs us Q I r h
  unfold rDictP at h
  split at h
  · obtain ⟨ps, kvs, h1, h2, q⟩ := h
    exact call_dictP hc pins s σ H _ us Q I r ⟨_, ps, kvs, rfl, h1, h2, q⟩
  · exact h.elim
end
end Lk

set_option Elab.async false
set_option linter.all false
set_option maxRecDepth 100000
set_option maxHeartbeats 4000000
/-! A def without parameters, called by its name. -/
namespace Lk
open PySem PySem.Spec PyProof.Rows L2
theorem pe_fn0 {X : Cx} {k : Nat} {x : Str} {dvs : List V} {sp : Sp} {E : XK} {p pos : Pos} (c : Fn X.prog X.w X.K X.mg X.base k x dvs sp) (hr : Room k X.A) (hx : Passes (L2.CX X.prog X.w) X E) (hg : Gl X x := by rfl)
    (hdb : (x == ("__debug__" : Str)) = false := by decide) : PE X (.Call (.Name x p) [] [] pos) (tCall sp dvs E tNil) := by
  obtain ⟨f, fd, ps, ds, hm, F, hk, hb, hd⟩ := c.ex
  exact pe_call0 F hr hg hm hk hb hd hx hdb
end Lk

set_option Elab.async false
set_option linter.all false
set_option maxRecDepth 100000
set_option maxHeartbeats 4000000
/-! The program's defs as data, what the top leaves as facts. -/
namespace K97
open PySem PySem.Spec PyProof.Rows L2 Lk
def top (i : Nat) : Stmt := PySem.Challenge.pw_loomkeeps_k97_texts_of_no_papers.main.body.getD i (.Pass ⟨0, 0, 0, 0⟩)

abbrev s_NoText_init : Stmt := inClass (top 2) 0
abbrev s_is_bare : Stmt := top 11
abbrev s_sign_text : Stmt := top 12
abbrev s_word_text : Stmt := top 13
abbrev s_plain_text : Stmt := top 14
abbrev s_things_text : Stmt := top 15
abbrev s_text_of : Stmt := top 16
abbrev s_paper_text : Stmt := top 17
abbrev s_Strip_init : Stmt := inClass (top 18) 0
abbrev s_Strip_sign : Stmt := inClass (top 18) 1
abbrev s_Strip_must_be : Stmt := inClass (top 18) 2
abbrev s_Strip_may : Stmt := inClass (top 18) 3
abbrev s_Strip_run : Stmt := inClass (top 18) 4
abbrev s_Strip_whole_number : Stmt := inClass (top 18) 5
abbrev s_Strip_quoted : Stmt := inClass (top 18) 6
abbrev s_Strip_key : Stmt := inClass (top 18) 7
abbrev s_Strip_thing : Stmt := inClass (top 18) 8
abbrev s_Strip_things : Stmt := inClass (top 18) 9
abbrev s_Strip_pairs : Stmt := inClass (top 18) 10
abbrev s_read_paper : Stmt := top 19
abbrev s_law_purse : Stmt := top 21
abbrev s_law_draw : Stmt := top 22
abbrev s_law_text : Stmt := top 23
abbrev s_law_plain : Stmt := top 24
abbrev s_law_thing : Stmt := top 25
abbrev s_law_is_bare : Stmt := top 26
abbrev s_law_word : Stmt := top 27
abbrev s_law_spelt : Stmt := top 28
abbrev s_law_kind : Stmt := top 29
abbrev s_law_like : Stmt := top 30
abbrev s_law_sign : Stmt := top 31
abbrev s_law_broken : Stmt := top 32
abbrev s_law_quoted : Stmt := top 33
abbrev s_law_run : Stmt := top 34
abbrev s_law_number : Stmt := top 35
abbrev s_law_go : Stmt := top 36
abbrev s_law_key : Stmt := top 37
abbrev s_law_inner : Stmt := top 38
abbrev s_law_one : Stmt := top 39
abbrev s_law_bent : Stmt := top 40
abbrev s_law_told : Stmt := top 41
abbrev s_law_deep_told : Stmt := top 42
abbrev s_law_deep_refused : Stmt := top 43
abbrev s_law_deep_right : Stmt := top 44
abbrev s_law : Stmt := top 45
def d_NoText_init : He.DefD := ⟨("NoText", some "__init__"), "__init__", "NoText.__init__", defArgs s_NoText_init, defBody s_NoText_init, defScope s_NoText_init, [], []⟩
abbrev N_NoText_init : List Str := ["self", "row", "at"]
theorem sc_NoText_init : FnScope N_NoText_init ["self", "row", "at"] (defScope s_NoText_init) := ⟨rfl, rfl, rfl, by decide +kernel, rfl, by decide +kernel, by decide +kernel⟩
def d_is_bare : He.DefD := ⟨("is_bare", none), "is_bare", "is_bare", defArgs s_is_bare, defBody s_is_bare, defScope s_is_bare, [], []⟩
abbrev N_is_bare : List Str := ["text", "sign"]
theorem sc_is_bare : FnScope N_is_bare ["text"] (defScope s_is_bare) := ⟨rfl, rfl, rfl, by decide +kernel, rfl, by decide +kernel, by decide +kernel⟩
def d_sign_text : He.DefD := ⟨("sign_text", none), "sign_text", "sign_text", defArgs s_sign_text, defBody s_sign_text, defScope s_sign_text, [], []⟩
abbrev N_sign_text : List Str := ["sign"]
theorem sc_sign_text : FnScope N_sign_text ["sign"] (defScope s_sign_text) := ⟨rfl, rfl, rfl, by decide +kernel, rfl, by decide +kernel, by decide +kernel⟩
def d_word_text : He.DefD := ⟨("word_text", none), "word_text", "word_text", defArgs s_word_text, defBody s_word_text, defScope s_word_text, [], []⟩
abbrev N_word_text : List Str := ["text", "sign"]
theorem sc_word_text : FnScope N_word_text ["text"] (defScope s_word_text) := ⟨rfl, rfl, rfl, by decide +kernel, rfl, by decide +kernel, by decide +kernel⟩
def d_plain_text : He.DefD := ⟨("plain_text", none), "plain_text", "plain_text", defArgs s_plain_text, defBody s_plain_text, defScope s_plain_text, [], []⟩
abbrev N_plain_text : List Str := ["thing"]
theorem sc_plain_text : FnScope N_plain_text ["thing"] (defScope s_plain_text) := ⟨rfl, rfl, rfl, by decide +kernel, rfl, by decide +kernel, by decide +kernel⟩
def d_things_text : He.DefD := ⟨("things_text", none), "things_text", "things_text", defArgs s_things_text, defBody s_things_text, defScope s_things_text, [], []⟩
abbrev N_things_text : List Str := ["things", "deep", "thing"]
theorem sc_things_text : FnScope N_things_text ["things", "deep"] (defScope s_things_text) := ⟨rfl, rfl, rfl, by decide +kernel, rfl, by decide +kernel, by decide +kernel⟩
def d_text_of : He.DefD := ⟨("text_of", none), "text_of", "text_of", defArgs s_text_of, defBody s_text_of, defScope s_text_of, [], []⟩
abbrev N_text_of : List Str := ["thing", "deep", "key"]
theorem sc_text_of : FnScope N_text_of ["thing", "deep"] (defScope s_text_of) := ⟨rfl, rfl, rfl, by decide +kernel, rfl, by decide +kernel, by decide +kernel⟩
def d_paper_text : He.DefD := ⟨("paper_text", none), "paper_text", "paper_text", defArgs s_paper_text, defBody s_paper_text, defScope s_paper_text, [], [("deep", .int 40)]⟩
abbrev N_paper_text : List Str := ["thing", "deep"]
theorem sc_paper_text : FnScope N_paper_text ["thing", "deep"] (defScope s_paper_text) := ⟨rfl, rfl, rfl, by decide +kernel, rfl, by decide +kernel, by decide +kernel⟩
def d_Strip_init : He.DefD := ⟨("Strip", some "__init__"), "__init__", "Strip.__init__", defArgs s_Strip_init, defBody s_Strip_init, defScope s_Strip_init, [], []⟩
abbrev N_Strip_init : List Str := ["self", "text"]
theorem sc_Strip_init : FnScope N_Strip_init ["self", "text"] (defScope s_Strip_init) := ⟨rfl, rfl, rfl, by decide +kernel, rfl, by decide +kernel, by decide +kernel⟩
def d_Strip_sign : He.DefD := ⟨("Strip", some "sign"), "sign", "Strip.sign", defArgs s_Strip_sign, defBody s_Strip_sign, defScope s_Strip_sign, [], []⟩
abbrev N_Strip_sign : List Str := ["self"]
theorem sc_Strip_sign : FnScope N_Strip_sign ["self"] (defScope s_Strip_sign) := ⟨rfl, rfl, rfl, by decide +kernel, rfl, by decide +kernel, by decide +kernel⟩
def d_Strip_must_be : He.DefD := ⟨("Strip", some "must_be"), "must_be", "Strip.must_be", defArgs s_Strip_must_be, defBody s_Strip_must_be, defScope s_Strip_must_be, [], []⟩
abbrev N_Strip_must_be : List Str := ["self", "good"]
theorem sc_Strip_must_be : FnScope N_Strip_must_be ["self", "good"] (defScope s_Strip_must_be) := ⟨rfl, rfl, rfl, by decide +kernel, rfl, by decide +kernel, by decide +kernel⟩
def d_Strip_may : He.DefD := ⟨("Strip", some "may"), "may", "Strip.may", defArgs s_Strip_may, defBody s_Strip_may, defScope s_Strip_may, [], []⟩
abbrev N_Strip_may : List Str := ["self", "sign", "found"]
theorem sc_Strip_may : FnScope N_Strip_may ["self", "sign"] (defScope s_Strip_may) := ⟨rfl, rfl, rfl, by decide +kernel, rfl, by decide +kernel, by decide +kernel⟩
def d_Strip_run : He.DefD := ⟨("Strip", some "run"), "run", "Strip.run", defArgs s_Strip_run, defBody s_Strip_run, defScope s_Strip_run, [], []⟩
abbrev N_Strip_run : List Str := ["self", "signs", "begin"]
theorem sc_Strip_run : FnScope N_Strip_run ["self", "signs"] (defScope s_Strip_run) := ⟨rfl, rfl, rfl, by decide +kernel, rfl, by decide +kernel, by decide +kernel⟩
def d_Strip_whole_number : He.DefD := ⟨("Strip", some "whole_number"), "whole_number", "Strip.whole_number", defArgs s_Strip_whole_number, defBody s_Strip_whole_number, defScope s_Strip_whole_number, [], []⟩
abbrev N_Strip_whole_number : List Str := ["self", "below", "found"]
theorem sc_Strip_whole_number : FnScope N_Strip_whole_number ["self"] (defScope s_Strip_whole_number) := ⟨rfl, rfl, rfl, by decide +kernel, rfl, by decide +kernel, by decide +kernel⟩
def d_Strip_quoted : He.DefD := ⟨("Strip", some "quoted"), "quoted", "Strip.quoted", defArgs s_Strip_quoted, defBody s_Strip_quoted, defScope s_Strip_quoted, [], []⟩
abbrev N_Strip_quoted : List Str := ["self", "begin", "found", "escaped"]
theorem sc_Strip_quoted : FnScope N_Strip_quoted ["self"] (defScope s_Strip_quoted) := ⟨rfl, rfl, rfl, by decide +kernel, rfl, by decide +kernel, by decide +kernel⟩
def d_Strip_key : He.DefD := ⟨("Strip", some "key"), "key", "Strip.key", defArgs s_Strip_key, defBody s_Strip_key, defScope s_Strip_key, [], []⟩
abbrev N_Strip_key : List Str := ["self", "ahead", "begin", "is_quoted", "found"]
theorem sc_Strip_key : FnScope N_Strip_key ["self", "ahead"] (defScope s_Strip_key) := ⟨rfl, rfl, rfl, by decide +kernel, rfl, by decide +kernel, by decide +kernel⟩
def d_Strip_thing : He.DefD := ⟨("Strip", some "thing"), "thing", "Strip.thing", defArgs s_Strip_thing, defBody s_Strip_thing, defScope s_Strip_thing, [], []⟩
abbrev N_Strip_thing : List Str := ["self", "deep", "sign", "found", "word"]
theorem sc_Strip_thing : FnScope N_Strip_thing ["self", "deep"] (defScope s_Strip_thing) := ⟨rfl, rfl, rfl, by decide +kernel, rfl, by decide +kernel, by decide +kernel⟩
def d_Strip_things : He.DefD := ⟨("Strip", some "things"), "things", "Strip.things", defArgs s_Strip_things, defBody s_Strip_things, defScope s_Strip_things, [], []⟩
abbrev N_Strip_things : List Str := ["self", "end", "deep", "found"]
theorem sc_Strip_things : FnScope N_Strip_things ["self", "end", "deep"] (defScope s_Strip_things) := ⟨rfl, rfl, rfl, by decide +kernel, rfl, by decide +kernel, by decide +kernel⟩
def d_Strip_pairs : He.DefD := ⟨("Strip", some "pairs"), "pairs", "Strip.pairs", defArgs s_Strip_pairs, defBody s_Strip_pairs, defScope s_Strip_pairs, [], []⟩
abbrev N_Strip_pairs : List Str := ["self", "deep", "found", "ahead"]
theorem sc_Strip_pairs : FnScope N_Strip_pairs ["self", "deep"] (defScope s_Strip_pairs) := ⟨rfl, rfl, rfl, by decide +kernel, rfl, by decide +kernel, by decide +kernel⟩
def d_read_paper : He.DefD := ⟨("read_paper", none), "read_paper", "read_paper", defArgs s_read_paper, defBody s_read_paper, defScope s_read_paper, [], [("deep", .int 40)]⟩
abbrev N_read_paper : List Str := ["text", "deep", "strip", "found"]
theorem sc_read_paper : FnScope N_read_paper ["text", "deep"] (defScope s_read_paper) := ⟨rfl, rfl, rfl, by decide +kernel, rfl, by decide +kernel, by decide +kernel⟩
def d_law_purse : He.DefD := ⟨("_law_purse", none), "_law_purse", "_law_purse", defArgs s_law_purse, defBody s_law_purse, defScope s_law_purse, [], []⟩
abbrev N_law_purse : List Str := ["script", "cells", "cell"]
theorem sc_law_purse : FnScope N_law_purse ["script"] (defScope s_law_purse) := ⟨rfl, rfl, rfl, by decide +kernel, rfl, by decide +kernel, by decide +kernel⟩
def d_law_draw : He.DefD := ⟨("_law_draw", none), "_law_draw", "_law_draw", defArgs s_law_draw, defBody s_law_draw, defScope s_law_draw, [], []⟩
abbrev N_law_draw : List Str := ["purse", "out_of", "cells", "went", "at", "cell", "number", "other"]
theorem sc_law_draw : FnScope N_law_draw ["purse", "out_of"] (defScope s_law_draw) := ⟨rfl, rfl, rfl, by decide +kernel, rfl, by decide +kernel, by decide +kernel⟩
def d_law_text : He.DefD := ⟨("_law_text", none), "_law_text", "_law_text", defArgs s_law_text, defBody s_law_text, defScope s_law_text, [], []⟩
abbrev N_law_text : List Str := ["purse", "way", "sign"]
theorem sc_law_text : FnScope N_law_text ["purse"] (defScope s_law_text) := ⟨rfl, rfl, rfl, by decide +kernel, rfl, by decide +kernel, by decide +kernel⟩
def d_law_plain : He.DefD := ⟨("_law_plain", none), "_law_plain", "_law_plain", defArgs s_law_plain, defBody s_law_plain, defScope s_law_plain, [], []⟩
abbrev N_law_plain : List Str := ["purse", "way", "number"]
theorem sc_law_plain : FnScope N_law_plain ["purse"] (defScope s_law_plain) := ⟨rfl, rfl, rfl, by decide +kernel, rfl, by decide +kernel, by decide +kernel⟩
def d_law_thing : He.DefD := ⟨("_law_thing", none), "_law_thing", "_law_thing", defArgs s_law_thing, defBody s_law_thing, defScope s_law_thing, [], []⟩
abbrev N_law_thing : List Str := ["purse", "room_here", "way", "some", "found", "one", "k"]
theorem sc_law_thing : FnScope N_law_thing ["purse", "room_here"] (defScope s_law_thing) := ⟨rfl, rfl, rfl, by decide +kernel, rfl, by decide +kernel, by decide +kernel⟩
def d_law_is_bare : He.DefD := ⟨("_law_is_bare", none), "_law_is_bare", "_law_is_bare", defArgs s_law_is_bare, defBody s_law_is_bare, defScope s_law_is_bare, [], []⟩
abbrev N_law_is_bare : List Str := ["text", "sign"]
theorem sc_law_is_bare : FnScope N_law_is_bare ["text"] (defScope s_law_is_bare) := ⟨rfl, rfl, rfl, by decide +kernel, rfl, by decide +kernel, by decide +kernel⟩
def d_law_word : He.DefD := ⟨("_law_word", none), "_law_word", "_law_word", defArgs s_law_word, defBody s_law_word, defScope s_law_word, [], []⟩
abbrev N_law_word : List Str := ["text"]
theorem sc_law_word : FnScope N_law_word ["text"] (defScope s_law_word) := ⟨rfl, rfl, rfl, by decide +kernel, rfl, by decide +kernel, by decide +kernel⟩
def d_law_spelt : He.DefD := ⟨("_law_spelt", none), "_law_spelt", "_law_spelt", defArgs s_law_spelt, defBody s_law_spelt, defScope s_law_spelt, [], []⟩
abbrev N_law_spelt : List Str := ["piece", "inner", "some", "one", "part"]
theorem sc_law_spelt : FnScope N_law_spelt ["piece"] (defScope s_law_spelt) := ⟨rfl, rfl, rfl, by decide +kernel, rfl, by decide +kernel, by decide +kernel⟩
def d_law_kind : He.DefD := ⟨("_law_kind", none), "_law_kind", "_law_kind", defArgs s_law_kind, defBody s_law_kind, defScope s_law_kind, [], []⟩
abbrev N_law_kind : List Str := ["one"]
theorem sc_law_kind : FnScope N_law_kind ["one"] (defScope s_law_kind) := ⟨rfl, rfl, rfl, by decide +kernel, rfl, by decide +kernel, by decide +kernel⟩
def d_law_like : He.DefD := ⟨("_law_like", none), "_law_like", "_law_like", defArgs s_law_like, defBody s_law_like, defScope s_law_like, [], []⟩
abbrev N_law_like : List Str := ["one", "other", "word", "w", "part", "more"]
theorem sc_law_like : FnScope N_law_like ["one", "other"] (defScope s_law_like) := ⟨rfl, rfl, rfl, by decide +kernel, rfl, by decide +kernel, by decide +kernel⟩
def d_law_sign : He.DefD := ⟨("_law_sign", none), "_law_sign", "_law_sign", defArgs s_law_sign, defBody s_law_sign, defScope s_law_sign, [], []⟩
abbrev N_law_sign : List Str := ["strip"]
theorem sc_law_sign : FnScope N_law_sign ["strip"] (defScope s_law_sign) := ⟨rfl, rfl, rfl, by decide +kernel, rfl, by decide +kernel, by decide +kernel⟩
def d_law_broken : He.DefD := ⟨("_law_broken", none), "_law_broken", "_law_broken", defArgs s_law_broken, defBody s_law_broken, defScope s_law_broken, [], []⟩
abbrev N_law_broken : List Str := ["strip", "at"]
theorem sc_law_broken : FnScope N_law_broken ["strip", "at"] (defScope s_law_broken) := ⟨rfl, rfl, rfl, by decide +kernel, rfl, by decide +kernel, by decide +kernel⟩
def d_law_quoted : He.DefD := ⟨("_law_quoted", none), "_law_quoted", "_law_quoted", defArgs s_law_quoted, defBody s_law_quoted, defScope s_law_quoted, [], []⟩
abbrev N_law_quoted : List Str := ["strip", "begin", "found", "sign"]
theorem sc_law_quoted : FnScope N_law_quoted ["strip"] (defScope s_law_quoted) := ⟨rfl, rfl, rfl, by decide +kernel, rfl, by decide +kernel, by decide +kernel⟩
def d_law_run : He.DefD := ⟨("_law_run", none), "_law_run", "_law_run", defArgs s_law_run, defBody s_law_run, defScope s_law_run, [], []⟩
abbrev N_law_run : List Str := ["strip", "signs", "begin"]
theorem sc_law_run : FnScope N_law_run ["strip", "signs"] (defScope s_law_run) := ⟨rfl, rfl, rfl, by decide +kernel, rfl, by decide +kernel, by decide +kernel⟩
def d_law_number : He.DefD := ⟨("_law_number", none), "_law_number", "_law_number", defArgs s_law_number, defBody s_law_number, defScope s_law_number, [], []⟩
abbrev N_law_number : List Str := ["strip", "below", "sign", "number"]
theorem sc_law_number : FnScope N_law_number ["strip"] (defScope s_law_number) := ⟨rfl, rfl, rfl, by decide +kernel, rfl, by decide +kernel, by decide +kernel⟩
def d_law_go : He.DefD := ⟨("_law_go", none), "_law_go", "_law_go", defArgs s_law_go, defBody s_law_go, defScope s_law_go, [], []⟩
abbrev N_law_go : List Str := ["strip", "sign"]
theorem sc_law_go : FnScope N_law_go ["strip", "sign"] (defScope s_law_go) := ⟨rfl, rfl, rfl, by decide +kernel, rfl, by decide +kernel, by decide +kernel⟩
def d_law_key : He.DefD := ⟨("_law_key", none), "_law_key", "_law_key", defArgs s_law_key, defBody s_law_key, defScope s_law_key, [], []⟩
abbrev N_law_key : List Str := ["strip", "last", "begin", "is_quoted", "word"]
theorem sc_law_key : FnScope N_law_key ["strip", "last"] (defScope s_law_key) := ⟨rfl, rfl, rfl, by decide +kernel, rfl, by decide +kernel, by decide +kernel⟩
def d_law_inner : He.DefD := ⟨("_law_inner", none), "_law_inner", "_law_inner", defArgs s_law_inner, defBody s_law_inner, defScope s_law_inner, [], []⟩
abbrev N_law_inner : List Str := ["strip", "end", "found", "last"]
theorem sc_law_inner : FnScope N_law_inner ["strip", "end"] (defScope s_law_inner) := ⟨rfl, rfl, rfl, by decide +kernel, rfl, by decide +kernel, by decide +kernel⟩
def d_law_one : He.DefD := ⟨("_law_one", none), "_law_one", "_law_one", defArgs s_law_one, defBody s_law_one, defScope s_law_one, [], []⟩
abbrev N_law_one : List Str := ["strip", "sign", "some", "word", "key", "part"]
theorem sc_law_one : FnScope N_law_one ["strip"] (defScope s_law_one) := ⟨rfl, rfl, rfl, by decide +kernel, rfl, by decide +kernel, by decide +kernel⟩
def d_law_bent : He.DefD := ⟨("_law_bent", none), "_law_bent", "_law_bent", defArgs s_law_bent, defBody s_law_bent, defScope s_law_bent, [], []⟩
abbrev N_law_bent : List Str := ["purse", "line", "at", "other", "way", "sign", "low", "high"]
theorem sc_law_bent : FnScope N_law_bent ["purse", "line"] (defScope s_law_bent) := ⟨rfl, rfl, rfl, by decide +kernel, rfl, by decide +kernel, by decide +kernel⟩
def d_law_told : He.DefD := ⟨("_law_told", none), "_law_told", "_law_told", defArgs s_law_told, defBody s_law_told, defScope s_law_told, [], []⟩
abbrev N_law_told : List Str := ["line", "caught", "told", "err"]
theorem sc_law_told : FnScope N_law_told ["line"] (defScope s_law_told) := ⟨rfl, rfl, rfl, by decide +kernel, rfl, by decide +kernel, by decide +kernel⟩
def d_law_deep_told : He.DefD := ⟨("_law_deep_told", none), "_law_deep_told", "_law_deep_told", defArgs s_law_deep_told, defBody s_law_deep_told, defScope s_law_deep_told, [], []⟩
abbrev N_law_deep_told : List Str := ["line", "limit", "caught", "told", "err"]
theorem sc_law_deep_told : FnScope N_law_deep_told ["line", "limit"] (defScope s_law_deep_told) := ⟨rfl, rfl, rfl, by decide +kernel, rfl, by decide +kernel, by decide +kernel⟩
def d_law_deep_refused : He.DefD := ⟨("_law_deep_refused", none), "_law_deep_refused", "_law_deep_refused", defArgs s_law_deep_refused, defBody s_law_deep_refused, defScope s_law_deep_refused, [], []⟩
abbrev N_law_deep_refused : List Str := ["many", "limit", "thing", "k", "caught", "err"]
theorem sc_law_deep_refused : FnScope N_law_deep_refused ["many", "limit"] (defScope s_law_deep_refused) := ⟨rfl, rfl, rfl, by decide +kernel, rfl, by decide +kernel, by decide +kernel⟩
def d_law_deep_right : He.DefD := ⟨("_law_deep_right", none), "_law_deep_right", "_law_deep_right", defArgs s_law_deep_right, defBody s_law_deep_right, defScope s_law_deep_right, [], []⟩
abbrev N_law_deep_right : List Str := ["limit", "many", "begin", "end", "line"]
theorem sc_law_deep_right : FnScope N_law_deep_right [] (defScope s_law_deep_right) := ⟨rfl, rfl, rfl, by decide +kernel, rfl, by decide +kernel, by decide +kernel⟩
def d_law : He.DefD := ⟨("law", none), "law", "law", defArgs s_law, defBody s_law, defScope s_law, [], []⟩
abbrev N_law : List Str := ["script", "purse", "lines", "k", "line", "turn", "strip", "due", "again", "good", "told"]
theorem sc_law : FnScope N_law ["script"] (defScope s_law) := ⟨rfl, rfl, rfl, by decide +kernel, rfl, by decide +kernel, by decide +kernel⟩
def fn : List He.DefD := [d_NoText_init, d_is_bare, d_sign_text, d_word_text, d_plain_text, d_things_text, d_text_of, d_paper_text, d_Strip_init, d_Strip_sign, d_Strip_must_be, d_Strip_may, d_Strip_run, d_Strip_whole_number, d_Strip_quoted, d_Strip_key, d_Strip_thing, d_Strip_things, d_Strip_pairs, d_read_paper, d_law_purse, d_law_draw, d_law_text, d_law_plain, d_law_thing] ++ [d_law_is_bare, d_law_word, d_law_spelt, d_law_kind, d_law_like, d_law_sign, d_law_broken, d_law_quoted, d_law_run, d_law_number, d_law_go, d_law_key, d_law_inner, d_law_one, d_law_bent, d_law_told, d_law_deep_told, d_law_deep_refused, d_law_deep_right, d_law]
def frees : List Str := ["len", "all", "max", "min", "sorted", "isinstance", "str", "int", "bool", "tuple", "list", "dict", "range", "zip", "enumerate", "ValueError"]
def glos1 : List Str := ["LoomError", "NoText", "TooDeep", "KEPT", "ENDS", "Strip", "is_bare", "sign_text", "word_text", "plain_text", "things_text", "text_of", "paper_text", "read_paper", "_law_purse", "_law_draw", "_law_text", "_law_plain", "_law_thing"]
def glos2 : List Str := ["_law_is_bare", "_law_word", "_law_spelt", "_law_kind", "_law_like", "_law_sign", "_law_broken", "_law_quoted", "_law_run", "_law_number", "_law_go", "_law_key", "_law_inner", "_law_one", "_law_bent", "_law_told", "_law_deep_told", "_law_deep_refused", "_law_deep_right", "law"]
def glos : List Str := glos1 ++ glos2
def strMeths : List Str := ["sign", "must_be", "may", "run", "whole_number", "quoted", "key", "thing", "things", "pairs"]
def fa : List He.Fa := frees.map He.Fa.free ++ glos.map He.Fa.glo ++ [.int "MOST_DEEP" 40, .int "DEEPEST" 100, .str "SMALL" "abcdefghijklmnopqrstuvwxyz", .str "FIGURES" "0123456789", .cls "Strip", .mkr "Strip", .noat "Strip" "text", .noat "Strip" "at", .exc "TooDeep"] ++ strMeths.map (He.Fa.meth "Strip")
def ts : List He.Tab := [(fun K => He.ga K "KEPT", ["none", "yes", "no"]), (fun K => He.ga K "ENDS", ["(", "[", "{"])]
def kv_KEPT : List (Str × He.Dv) := [("none", .non), ("yes", .bl true), ("no", .bl false)]
def kv_ENDS : List (Str × He.Dv) := [("(", .str ")"), ("[", .str "]"), ("{", .str "}")]
def noB (K : PySem.W.Frag) (C f : Str) : Bool := decide (PySem.W.findIn K (.ref (He.ga K C)) f = some none)
def exB (K : PySem.W.Frag) : Bool := He.valsB K (He.ga K "KEPT") kv_KEPT && He.valsB K (He.ga K "ENDS") kv_ENDS && oexB K (He.ga K "NoText") && excB K (He.ga K "NoText") && excB K (He.ga K "TooDeep") &&
  decide (PySem.W.findIn K (.ref (He.ga K "NoText")) "__init__" = some (some (.ref (He.ma K (He.ga K "NoText") "__init__")))) && decide (PySem.W.typeIn K (.ref (He.ma K (He.ga K "NoText") "__init__")) = some (.type "function")) &&
  PySem.W.readsIn K (He.ga K "LoomError") (.type "type") && decide (PySem.W.specialIn K (.ref (He.ga K "LoomError")) "__getattribute__" = some (some (.builtin "type.__getattribute__"))) &&
  (match PySem.W.findCls K (.ref (He.ga K "LoomError")) (.type "type") "__init__" with
    | some (.val (.builtin n)) => n == "ValueError.__init__"
    | _ => false) && noB K "NoText" "row" && noB K "NoText" "at" &&
  decide (PySem.W.exmOne K (.ref (He.ga K "NoText")) (.ref (He.ga K "LoomError")) = some true) && decide (PySem.W.exmOne K (.ref (He.ga K "TooDeep")) (.ref (He.ga K "LoomError")) = some true) &&
  decide (PySem.W.kitOne K (.ref (He.ga K "NoText")) (.ref (He.ga K "NoText")) = some true) && decide (PySem.W.kitOne K (.ref (He.ga K "NoText")) (.ref (He.ga K "TooDeep")) = some false) &&
  decide (PySem.W.kitOne K (.ref (He.ga K "TooDeep")) (.ref (He.ga K "NoText")) = some false) && decide (PySem.W.kitOne K (.ref (He.ga K "TooDeep")) (.ref (He.ga K "TooDeep")) = some true) &&
  decide (PySem.W.kitOne K (.ref (He.ga K "NoText")) (.type "ValueError") = some true) && decide (PySem.W.kitOne K (.ref (He.ga K "TooDeep")) (.type "ValueError") = some true) && decide (PySem.W.kitOne K (.type "NoneType") (.ref (He.ga K "TooDeep")) = some false)
/-- what the top leaves, of the written part alone -/
structure Says (w : World) (K : PySem.W.Frag) : Prop where
  t : He.SaysT fa fn ts w K
  ex : exB K = true

/-- what the derivations ask -/
structure Tx (K : PySem.W.Frag) (w : World) (mg : Str → Option Value) : Prop where
  b_len : mg "len" = none
  b_all : mg "all" = none
  b_max : mg "max" = none
  b_min : mg "min" = none
  b_sorted : mg "sorted" = none
  b_isinstance : mg "isinstance" = none
  b_str : mg "str" = none
  b_int : mg "int" = none
  b_bool : mg "bool" = none
  b_tuple : mg "tuple" = none
  b_list : mg "list" = none
  b_dict : mg "dict" = none
  b_range : mg "range" = none
  b_zip : mg "zip" = none
  b_enumerate : mg "enumerate" = none
  b_ValueError : mg "ValueError" = none
  g_LoomError : mg "LoomError" = some (.ref (He.ga K "LoomError"))
  g_NoText : mg "NoText" = some (.ref (He.ga K "NoText"))
  g_TooDeep : mg "TooDeep" = some (.ref (He.ga K "TooDeep"))
  g_KEPT : mg "KEPT" = some (.ref (He.ga K "KEPT"))
  g_ENDS : mg "ENDS" = some (.ref (He.ga K "ENDS"))
  g_Strip : mg "Strip" = some (.ref (He.ga K "Strip"))
  g_is_bare : mg "is_bare" = some (.ref (He.ga K "is_bare"))
  g_sign_text : mg "sign_text" = some (.ref (He.ga K "sign_text"))
  g_word_text : mg "word_text" = some (.ref (He.ga K "word_text"))
  g_plain_text : mg "plain_text" = some (.ref (He.ga K "plain_text"))
  g_things_text : mg "things_text" = some (.ref (He.ga K "things_text"))
  g_text_of : mg "text_of" = some (.ref (He.ga K "text_of"))
  g_paper_text : mg "paper_text" = some (.ref (He.ga K "paper_text"))
  g_read_paper : mg "read_paper" = some (.ref (He.ga K "read_paper"))
  g_law_purse : mg "_law_purse" = some (.ref (He.ga K "_law_purse"))
  g_law_draw : mg "_law_draw" = some (.ref (He.ga K "_law_draw"))
  g_law_text : mg "_law_text" = some (.ref (He.ga K "_law_text"))
  g_law_plain : mg "_law_plain" = some (.ref (He.ga K "_law_plain"))
  g_law_thing : mg "_law_thing" = some (.ref (He.ga K "_law_thing"))
  g_law_is_bare : mg "_law_is_bare" = some (.ref (He.ga K "_law_is_bare"))
  g_law_word : mg "_law_word" = some (.ref (He.ga K "_law_word"))
  g_law_spelt : mg "_law_spelt" = some (.ref (He.ga K "_law_spelt"))
  g_law_kind : mg "_law_kind" = some (.ref (He.ga K "_law_kind"))
  g_law_like : mg "_law_like" = some (.ref (He.ga K "_law_like"))
  g_law_sign : mg "_law_sign" = some (.ref (He.ga K "_law_sign"))
  g_law_broken : mg "_law_broken" = some (.ref (He.ga K "_law_broken"))
  g_law_quoted : mg "_law_quoted" = some (.ref (He.ga K "_law_quoted"))
  g_law_run : mg "_law_run" = some (.ref (He.ga K "_law_run"))
  g_law_number : mg "_law_number" = some (.ref (He.ga K "_law_number"))
  g_law_go : mg "_law_go" = some (.ref (He.ga K "_law_go"))
  g_law_key : mg "_law_key" = some (.ref (He.ga K "_law_key"))
  g_law_inner : mg "_law_inner" = some (.ref (He.ga K "_law_inner"))
  g_law_one : mg "_law_one" = some (.ref (He.ga K "_law_one"))
  g_law_bent : mg "_law_bent" = some (.ref (He.ga K "_law_bent"))
  g_law_told : mg "_law_told" = some (.ref (He.ga K "_law_told"))
  g_law_deep_told : mg "_law_deep_told" = some (.ref (He.ga K "_law_deep_told"))
  g_law_deep_refused : mg "_law_deep_refused" = some (.ref (He.ga K "_law_deep_refused"))
  g_law_deep_right : mg "_law_deep_right" = some (.ref (He.ga K "_law_deep_right"))
  g_law : mg "law" = some (.ref (He.ga K "law"))
  g_MOST_DEEP : ∃ t, mg "MOST_DEEP" = some (.int 40 t)
  g_DEEPEST : ∃ t, mg "DEEPEST" = some (.int 100 t)
  g_SMALL : ∃ t, mg "SMALL" = some (.str "abcdefghijklmnopqrstuvwxyz" t)
  g_FIGURES : ∃ t, mg "FIGURES" = some (.str "0123456789" t)
  t_KEPT : TabK K w (He.ga K "KEPT") [("none", .non), ("yes", .bl true), ("no", .bl false)]
  t_ENDS : TabK K w (He.ga K "ENDS") [("(", .str ")"), ("[", .str "]"), ("{", .str "}")]
  x_TooDeep : PySem.W.excIn K (He.ga K "TooDeep") He.veBase "ValueError.__new__" = true
  k_TooDeep : PySem.W.keepIn K (.ref (He.ga K "TooDeep")) = true
  s_TooDeep : PySem.W.subIn K (.ref (He.ga K "TooDeep")) (.type "BaseException") = some true
  t_TooDeep : PySem.W.typeIn K (.ref (He.ga K "TooDeep")) = some (.type "type")
  e_TooDeep : ExcC K (He.ga K "TooDeep") ∧ XfC K (He.ga K "TooDeep")
  e_NoText : ExcC K (He.ga K "NoText") ∧ XfC K (He.ga K "NoText")
  o_NoText : OexC K (He.ga K "NoText")
  i_NoText : PySem.W.findIn K (.ref (He.ga K "NoText")) "__init__" = some (some (.ref (He.ma K (He.ga K "NoText") "__init__")))
  ti_NoText : PySem.W.typeIn K (.ref (He.ma K (He.ga K "NoText") "__init__")) = some (.type "function")
  n_row : PySem.W.findIn K (.ref (He.ga K "NoText")) "row" = some none
  n_at : PySem.W.findIn K (.ref (He.ga K "NoText")) "at" = some none
  rd_LoomError : ClX.CRead K (He.ga K "LoomError") (.type "type")
  in_LoomError : PySem.W.findCls K (.ref (He.ga K "LoomError")) (.type "type") "__init__" = some (.val (.builtin "ValueError.__init__"))
  em_N : PySem.W.exmOne K (.ref (He.ga K "NoText")) (.ref (He.ga K "LoomError")) = some true
  em_T : PySem.W.exmOne K (.ref (He.ga K "TooDeep")) (.ref (He.ga K "LoomError")) = some true
  k_NN : PySem.W.kitOne K (.ref (He.ga K "NoText")) (.ref (He.ga K "NoText")) = some true
  k_NT : PySem.W.kitOne K (.ref (He.ga K "NoText")) (.ref (He.ga K "TooDeep")) = some false
  k_TN : PySem.W.kitOne K (.ref (He.ga K "TooDeep")) (.ref (He.ga K "NoText")) = some false
  k_TT : PySem.W.kitOne K (.ref (He.ga K "TooDeep")) (.ref (He.ga K "TooDeep")) = some true
  k_NV : PySem.W.kitOne K (.ref (He.ga K "NoText")) (.type "ValueError") = some true
  k_TV : PySem.W.kitOne K (.ref (He.ga K "TooDeep")) (.type "ValueError") = some true
  k_nT : PySem.W.kitOne K (.type "NoneType") (.ref (He.ga K "TooDeep")) = some false
  c_Strip : Cls K (He.ga K "Strip")
  mk_Strip : Mk K (He.ga K "Strip") (He.ma K (He.ga K "Strip") "__init__")
  na_text : NoAttr K (He.ga K "Strip") "text"
  na_at : NoAttr K (He.ga K "Strip") "at"
  m_sign : Meth K (He.ga K "Strip") "sign" (He.ma K (He.ga K "Strip") "sign")
  m_must_be : Meth K (He.ga K "Strip") "must_be" (He.ma K (He.ga K "Strip") "must_be")
  m_may : Meth K (He.ga K "Strip") "may" (He.ma K (He.ga K "Strip") "may")
  m_run : Meth K (He.ga K "Strip") "run" (He.ma K (He.ga K "Strip") "run")
  m_whole_number : Meth K (He.ga K "Strip") "whole_number" (He.ma K (He.ga K "Strip") "whole_number")
  m_quoted : Meth K (He.ga K "Strip") "quoted" (He.ma K (He.ga K "Strip") "quoted")
  m_key : Meth K (He.ga K "Strip") "key" (He.ma K (He.ga K "Strip") "key")
  m_thing : Meth K (He.ga K "Strip") "thing" (He.ma K (He.ga K "Strip") "thing")
  m_things : Meth K (He.ga K "Strip") "things" (He.ma K (He.ga K "Strip") "things")
  m_pairs : Meth K (He.ga K "Strip") "pairs" (He.ma K (He.ga K "Strip") "pairs")

theorem dic {fa : List He.Fa} {fn : List He.DefD} {ts : List He.Tab} {w : World} {K : PySem.W.Frag} (c : He.SaysT fa fn ts w K) (i : Nat) {t : He.Tab} (h : ts[i]? = some t) : He.dicW K (t.1 K) = some (He.keysIn w.params t.2) := by
  have e : ts.map (fun t => He.dicW K (t.1 K)) = ts.map fun t => some (He.keysIn w.params t.2) := congrArg (fun z : He.AlT => z.2) c
  have e2 := congrArg (fun l => l[i]?) e
  simp only [List.getElem?_map, h, Option.map_some, Option.some.injEq] at e2
  exact e2
theorem cls_init {o : Option PySem.W.CFound} {m : String} (h : (match o with
    | some (.val (.builtin n)) => n == m
    | _ => false) = true) : o = some (.val (.builtin m)) := by
  split at h
  · rename_i n
    rw [beq_iff_eq.mp h]
  · cases h

theorem tx_of {w : World} {K : PySem.W.Frag} {h : Heap} {mg : Str → Option Value} (X : K.In h) (G : h.Ns mainGlobals mg) (S : Says w K) : Tx K w mg := by
  have c := S.t.d
  have e := S.ex
  unfold exB noB at e
  simp only [Bool.and_eq_true, decide_eq_true_eq] at e
  obtain ⟨⟨⟨⟨⟨⟨⟨⟨⟨⟨⟨⟨⟨⟨⟨⟨⟨⟨⟨⟨e1, e2⟩, e3⟩, e4⟩, e5⟩, e6⟩, e7⟩, e8⟩, e9⟩, e10⟩, e11⟩, e12⟩, e13⟩, e14⟩, e15⟩, e16⟩, e17⟩, e18⟩, e19⟩, e20⟩, e21⟩ := e
  have tx := He.exc_ok (x := "TooDeep") (c.facts (by simp [fa]))
  exact {
    b_len := He.free_ok X G (c.facts (f := .free "len") (by simp [fa, frees]))
    b_all := He.free_ok X G (c.facts (f := .free "all") (by simp [fa, frees]))
    b_max := He.free_ok X G (c.facts (f := .free "max") (by simp [fa, frees]))
    b_min := He.free_ok X G (c.facts (f := .free "min") (by simp [fa, frees]))
    b_sorted := He.free_ok X G (c.facts (f := .free "sorted") (by simp [fa, frees]))
    b_isinstance := He.free_ok X G (c.facts (f := .free "isinstance") (by simp [fa, frees]))
    b_str := He.free_ok X G (c.facts (f := .free "str") (by simp [fa, frees]))
    b_int := He.free_ok X G (c.facts (f := .free "int") (by simp [fa, frees]))
    b_bool := He.free_ok X G (c.facts (f := .free "bool") (by simp [fa, frees]))
    b_tuple := He.free_ok X G (c.facts (f := .free "tuple") (by simp [fa, frees]))
    b_list := He.free_ok X G (c.facts (f := .free "list") (by simp [fa, frees]))
    b_dict := He.free_ok X G (c.facts (f := .free "dict") (by simp [fa, frees]))
    b_range := He.free_ok X G (c.facts (f := .free "range") (by simp [fa, frees]))
    b_zip := He.free_ok X G (c.facts (f := .free "zip") (by simp [fa, frees]))
    b_enumerate := He.free_ok X G (c.facts (f := .free "enumerate") (by simp [fa, frees]))
    b_ValueError := He.free_ok X G (c.facts (f := .free "ValueError") (by simp [fa, frees]))
    g_LoomError := He.glo_ok X G (c.facts (f := .glo "LoomError") (by simp [fa, glos, glos1, glos2]))
    g_NoText := He.glo_ok X G (c.facts (f := .glo "NoText") (by simp [fa, glos, glos1, glos2]))
    g_TooDeep := He.glo_ok X G (c.facts (f := .glo "TooDeep") (by simp [fa, glos, glos1, glos2]))
    g_KEPT := He.glo_ok X G (c.facts (f := .glo "KEPT") (by simp [fa, glos, glos1, glos2]))
    g_ENDS := He.glo_ok X G (c.facts (f := .glo "ENDS") (by simp [fa, glos, glos1, glos2]))
    g_Strip := He.glo_ok X G (c.facts (f := .glo "Strip") (by simp [fa, glos, glos1, glos2]))
    g_is_bare := He.glo_ok X G (c.facts (f := .glo "is_bare") (by simp [fa, glos, glos1, glos2]))
    g_sign_text := He.glo_ok X G (c.facts (f := .glo "sign_text") (by simp [fa, glos, glos1, glos2]))
    g_word_text := He.glo_ok X G (c.facts (f := .glo "word_text") (by simp [fa, glos, glos1, glos2]))
    g_plain_text := He.glo_ok X G (c.facts (f := .glo "plain_text") (by simp [fa, glos, glos1, glos2]))
    g_things_text := He.glo_ok X G (c.facts (f := .glo "things_text") (by simp [fa, glos, glos1, glos2]))
    g_text_of := He.glo_ok X G (c.facts (f := .glo "text_of") (by simp [fa, glos, glos1, glos2]))
    g_paper_text := He.glo_ok X G (c.facts (f := .glo "paper_text") (by simp [fa, glos, glos1, glos2]))
    g_read_paper := He.glo_ok X G (c.facts (f := .glo "read_paper") (by simp [fa, glos, glos1, glos2]))
    g_law_purse := He.glo_ok X G (c.facts (f := .glo "_law_purse") (by simp [fa, glos, glos1, glos2]))
    g_law_draw := He.glo_ok X G (c.facts (f := .glo "_law_draw") (by simp [fa, glos, glos1, glos2]))
    g_law_text := He.glo_ok X G (c.facts (f := .glo "_law_text") (by simp [fa, glos, glos1, glos2]))
    g_law_plain := He.glo_ok X G (c.facts (f := .glo "_law_plain") (by simp [fa, glos, glos1, glos2]))
    g_law_thing := He.glo_ok X G (c.facts (f := .glo "_law_thing") (by simp [fa, glos, glos1, glos2]))
    g_law_is_bare := He.glo_ok X G (c.facts (f := .glo "_law_is_bare") (by simp [fa, glos, glos1, glos2]))
    g_law_word := He.glo_ok X G (c.facts (f := .glo "_law_word") (by simp [fa, glos, glos1, glos2]))
    g_law_spelt := He.glo_ok X G (c.facts (f := .glo "_law_spelt") (by simp [fa, glos, glos1, glos2]))
    g_law_kind := He.glo_ok X G (c.facts (f := .glo "_law_kind") (by simp [fa, glos, glos1, glos2]))
    g_law_like := He.glo_ok X G (c.facts (f := .glo "_law_like") (by simp [fa, glos, glos1, glos2]))
    g_law_sign := He.glo_ok X G (c.facts (f := .glo "_law_sign") (by simp [fa, glos, glos1, glos2]))
    g_law_broken := He.glo_ok X G (c.facts (f := .glo "_law_broken") (by simp [fa, glos, glos1, glos2]))
    g_law_quoted := He.glo_ok X G (c.facts (f := .glo "_law_quoted") (by simp [fa, glos, glos1, glos2]))
    g_law_run := He.glo_ok X G (c.facts (f := .glo "_law_run") (by simp [fa, glos, glos1, glos2]))
    g_law_number := He.glo_ok X G (c.facts (f := .glo "_law_number") (by simp [fa, glos, glos1, glos2]))
    g_law_go := He.glo_ok X G (c.facts (f := .glo "_law_go") (by simp [fa, glos, glos1, glos2]))
    g_law_key := He.glo_ok X G (c.facts (f := .glo "_law_key") (by simp [fa, glos, glos1, glos2]))
    g_law_inner := He.glo_ok X G (c.facts (f := .glo "_law_inner") (by simp [fa, glos, glos1, glos2]))
    g_law_one := He.glo_ok X G (c.facts (f := .glo "_law_one") (by simp [fa, glos, glos1, glos2]))
    g_law_bent := He.glo_ok X G (c.facts (f := .glo "_law_bent") (by simp [fa, glos, glos1, glos2]))
    g_law_told := He.glo_ok X G (c.facts (f := .glo "_law_told") (by simp [fa, glos, glos1, glos2]))
    g_law_deep_told := He.glo_ok X G (c.facts (f := .glo "_law_deep_told") (by simp [fa, glos, glos1, glos2]))
    g_law_deep_refused := He.glo_ok X G (c.facts (f := .glo "_law_deep_refused") (by simp [fa, glos, glos1, glos2]))
    g_law_deep_right := He.glo_ok X G (c.facts (f := .glo "_law_deep_right") (by simp [fa, glos, glos1, glos2]))
    g_law := He.glo_ok X G (c.facts (f := .glo "law") (by simp [fa, glos, glos1, glos2]))
    g_MOST_DEEP := He.int_ok X G (c.facts (f := .int "MOST_DEEP" 40) (by simp [fa]))
    g_DEEPEST := He.int_ok X G (c.facts (f := .int "DEEPEST" 100) (by simp [fa]))
    g_SMALL := He.str_ok X G (c.facts (f := .str "SMALL" "abcdefghijklmnopqrstuvwxyz") (by simp [fa]))
    g_FIGURES := He.str_ok X G (c.facts (f := .str "FIGURES" "0123456789") (by simp [fa]))
    t_KEPT := tab_of (kvs := kv_KEPT) (dic S.t 0 rfl) e1 rfl
    t_ENDS := tab_of (kvs := kv_ENDS) (dic S.t 1 rfl) e2 rfl
    x_TooDeep := tx.1
    k_TooDeep := tx.2.1
    s_TooDeep := tx.2.2.1
    t_TooDeep := tx.2.2.2
    e_TooDeep := excB_ok e5
    e_NoText := excB_ok e4
    o_NoText := oexB_ok e3
    i_NoText := e6
    ti_NoText := e7
    n_row := e11
    n_at := e12
    rd_LoomError := ⟨e8, e9⟩
    in_LoomError := cls_init e10
    em_N := e13
    em_T := e14
    k_NN := e15
    k_NT := e16
    k_TN := e17
    k_TT := e18
    k_NV := e19
    k_TV := e20
    k_nT := e21
    c_Strip := He.cls_ok (c.facts (f := .cls "Strip") (by simp [fa]))
    mk_Strip := He.mkr_ok (c.facts (f := .mkr "Strip") (by simp [fa]))
    na_text := He.noat_ok (c.facts (f := .noat "Strip" "text") (by simp [fa]))
    na_at := He.noat_ok (c.facts (f := .noat "Strip" "at") (by simp [fa]))
    m_sign := He.meth_ok (c.facts (f := .meth "Strip" "sign") (by simp [fa, strMeths]))
    m_must_be := He.meth_ok (c.facts (f := .meth "Strip" "must_be") (by simp [fa, strMeths]))
    m_may := He.meth_ok (c.facts (f := .meth "Strip" "may") (by simp [fa, strMeths]))
    m_run := He.meth_ok (c.facts (f := .meth "Strip" "run") (by simp [fa, strMeths]))
    m_whole_number := He.meth_ok (c.facts (f := .meth "Strip" "whole_number") (by simp [fa, strMeths]))
    m_quoted := He.meth_ok (c.facts (f := .meth "Strip" "quoted") (by simp [fa, strMeths]))
    m_key := He.meth_ok (c.facts (f := .meth "Strip" "key") (by simp [fa, strMeths]))
    m_thing := He.meth_ok (c.facts (f := .meth "Strip" "thing") (by simp [fa, strMeths]))
    m_things := He.meth_ok (c.facts (f := .meth "Strip" "things") (by simp [fa, strMeths]))
    m_pairs := He.meth_ok (c.facts (f := .meth "Strip" "pairs") (by simp [fa, strMeths]))
  }

end K97

set_option Elab.async false
set_option linter.all false
set_option maxRecDepth 100000
set_option maxHeartbeats 4000000
/-! The things that papers tell, their texts, how they stand on the heap. No program in sight. -/
namespace K97
open PySem PySem.Spec PyProof.Rows L2 Lk SX
/-! ### things -/
inductive T where
  | non | bl (b : Bool) | int (i : Int) | str (x : List Nat) | tup (l : List T) | lst (l : List T) | dic (ks : List (List Nat)) (l : List T)
/-! ### texts -/
def small (c : Nat) : Bool := decide (97 ≤ c) && decide (c ≤ 122)
def fig (c : Nat) : Bool := decide (48 ≤ c) && decide (c ≤ 57)
def wNone : List Nat := [110, 111, 110, 101]
def wYes : List Nat := [121, 101, 115]
def wNo : List Nat := [110, 111]
def bareT (l : List Nat) : Bool := !decide (l = []) && (!decide (l ∈ [wNone, wYes, wNo]) && l.all small)
def escT (c : Nat) : List Nat := if c = 10 then [94, 110] else if c = 39 ∨ c = 94 then [94, c] else [c]
def wordT (l : List Nat) : List Nat := if bareT l then l else 39 :: (l.flatMap escT ++ [39])
def intT (i : Int) : List Nat := if i < 0 then 45 :: TL.numL i.natAbs else TL.numL i.natAbs
def joinB (ps : List (List Nat)) : List Nat := TL.joinL [32] ps
def pairsT (ks ss : List (List Nat)) : List (List Nat) := List.zipWith (fun k s => wordT k ++ 32 :: s) ks ss
mutual
def spelt : T → List Nat
  | .non => wNone
  | .bl b => if b then wYes else wNo
  | .int i => intT i
  | .str x => wordT x
  | .tup l => 40 :: (joinB (spelts l) ++ [41])
  | .lst l => 91 :: (joinB (spelts l) ++ [93])
  | .dic ks l => 123 :: (joinB (pairsT ks (spelts l)) ++ [125])
def spelts : List T → List (List Nat)
  | [] => []
  | t :: l => spelt t :: spelts l
end
mutual
def dep : T → Nat
  | .tup l => 1 + depL l
  | .lst l => 1 + depL l
  | .dic _ l => 1 + depL l
  | _ => 0
def depL : List T → Nat
  | [] => 0
  | t :: l => max (dep t) (depL l)
end
/-! ### well made: numbers below thirty figures, few parts, keys in order -/
def ltL (a b : List Nat) : Prop := a < b
mutual
def Ok : T → Prop
  | .int i => i.natAbs < 10 ^ 500
  | .tup l => OkL l ∧ l.length ≤ 1000000
  | .lst l => OkL l ∧ l.length ≤ 1000000
  | .dic ks l => OkL l ∧ l.length ≤ 1000000 ∧ ks.length = l.length ∧ ks.Pairwise (· < ·)
  | _ => True
def OkL : List T → Prop
  | [] => True
  | t :: l => Ok t ∧ OkL l
end
/-! ### on the heap -/
def plainV : T → Option V
  | .non => some .non
  | .bl b => some (.bl b)
  | .int i => some (.int i)
  | .str x => some (.str (S x))
  | _ => none
mutual
def Rep : T → V → Hp → Prop
  | .non, v, _ => v = .non
  | .bl b, v, _ => v = .bl b
  | .int i, v, _ => v = .int i
  | .str x, v, _ => v = .str (S x)
  | .tup l, v, H => ∃ a vs, v = .ref a ∧ Rd H a (.tup vs) ∧ RepL l vs H
  | .lst l, v, H => ∃ a vs, v = .ref a ∧ Rd H a (.lst vs) ∧ RepL l vs H
  | .dic ks l, v, H => ∃ a kvs vs, v = .ref a ∧ Rd H a (.dK kvs) ∧ (kvs.map (·.1)).Perm (ks.map fun k => Sum.inr (S k)) ∧ ks.length = l.length ∧ (∀ p ∈ ks.zip vs, valV kvs (Sum.inr (S p.1)) = some p.2) ∧ RepL l vs H
def RepL : List T → List V → Hp → Prop
  | [], vs, _ => vs = []
  | t :: l, vs, H => ∃ v r, vs = v :: r ∧ Rep t v H ∧ RepL l r H
end
/-- what was there is there -/
def Same (H H' : Hp) : Prop := ∀ b o, H b = some o → H' b = some o
theorem Same.rfl' {H : Hp} : Same H H := fun _ _ h => h
theorem Same.trans {H H1 H2 : Hp} (a : Same H H1) (b : Same H1 H2) : Same H H2 := fun c o h => b c o (a c o h)
theorem Same.new {H : Hp} {p : Addr} {o : HO} (h : H p = none) : Same H (upd H p o) := fun b u e => by
  rw [upd_ne (ne_of_none e h)]
  exact e
theorem Same.rd {H H' : Hp} (s : Same H H') {a : Addr} {u : HO} (r : Rd H a u) : Rd H' a u := by
  rcases r with r | ⟨o, r⟩
  · exact .inl (s _ _ r)
  · exact .inr ⟨o, s _ _ r⟩
/-- whatever can be read of H can be read of H' -/
def Le (H H' : Hp) : Prop := ∀ a u, Rd H a u → Rd H' a u
theorem Same.le {H H' : Hp} (s : Same H H') : Le H H' := fun _ _ r => s.rd r
theorem Le.rfl' {H : Hp} : Le H H := fun _ _ h => h
theorem Le.trans {H H1 H2 : Hp} (a : Le H H1) (b : Le H1 H2) : Le H H2 := fun c o h => b c o (a c o h)
mutual
theorem Rep.le {H H' : Hp} (s : Le H H') : ∀ (t : T) (v : V), Rep t v H → Rep t v H'
  | .non, _, h => h
  | .bl _, _, h => h
  | .int _, _, h => h
  | .str _, _, h => h
  | .tup l, _, ⟨a, vs, e, r, h⟩ => ⟨a, vs, e, s _ _ r, RepL.le s l vs h⟩
  | .lst l, _, ⟨a, vs, e, r, h⟩ => ⟨a, vs, e, s _ _ r, RepL.le s l vs h⟩
  | .dic ks l, _, ⟨a, kvs, vs, e, r, p, z, q, h⟩ => ⟨a, kvs, vs, e, s _ _ r, p, z, q, RepL.le s l vs h⟩
theorem RepL.le {H H' : Hp} (s : Le H H') : ∀ (l : List T) (vs : List V), RepL l vs H → RepL l vs H'
  | [], _, h => h
  | t :: l, _, ⟨v, r, e, h1, h2⟩ => ⟨v, r, e, Rep.le s t v h1, RepL.le s l r h2⟩
end
theorem RepL.len {H : Hp} : ∀ {l : List T} {vs : List V}, RepL l vs H → vs.length = l.length
  | [], _, h => by
    rw [RepL] at h
    subst h; rfl
  | t :: l, _, h => by
    rw [RepL] at h
    obtain ⟨v, r, rfl, _, h2⟩ := h
    rw [List.length_cons, List.length_cons, RepL.len h2]
theorem RepL.get {H : Hp} : ∀ {l : List T} {vs : List V} {i : Nat} {t : T}, RepL l vs H → l[i]? = some t → ∃ v, vs[i]? = some v ∧ Rep t v H
  | [], _, i, _, _, e => by simp at e
  | t :: l, _, 0, t', h, e => by
    rw [RepL] at h
    obtain ⟨v, r, rfl, h1, _⟩ := h
    simp only [List.getElem?_cons_zero, Option.some.injEq] at e
    subst e
    exact ⟨v, by simp, h1⟩
  | t :: l, _, i + 1, t', h, e => by
    rw [RepL] at h
    obtain ⟨v, r, rfl, _, h2⟩ := h
    obtain ⟨v', h3, h4⟩ := RepL.get (i := i) (t := t') h2 (by simpa using e)
    exact ⟨v', by simpa using h3, h4⟩
theorem spelts_map : ∀ l : List T, spelts l = l.map spelt
  | [] => rfl
  | t :: l => by rw [spelts, spelts_map l, List.map_cons]
theorem dep_mem : ∀ {l : List T} {t : T}, t ∈ l → dep t ≤ depL l
  | u :: l, t, h => by
    rw [depL]
    rcases List.mem_cons.mp h with rfl | h
    · exact Nat.le_max_left _ _
    · exact Nat.le_trans (dep_mem h) (Nat.le_max_right _ _)
theorem okL_mem : ∀ {l : List T} {t : T}, OkL l → t ∈ l → Ok t
  | u :: l, t, h, m => by
    rw [OkL] at h
    rcases List.mem_cons.mp m with rfl | m
    · exact h.1
    · exact okL_mem h.2 m
/-! ### the written texts as codes -/
theorem lit1 : Str.ofString "abcdefghijklmnopqrstuvwxyz" = S [97, 98, 99, 100, 101, 102, 103, 104, 105, 106, 107, 108, 109, 110, 111, 112, 113, 114, 115, 116, 117, 118, 119, 120, 121, 122] := by decide +kernel
theorem lit3 : Str.ofString "0123456789" = S [48, 49, 50, 51, 52, 53, 54, 55, 56, 57] := by decide +kernel
theorem lit5 : Str.ofString "none" = S [110, 111, 110, 101] := by decide +kernel
theorem lit6 : Str.ofString "yes" = S [121, 101, 115] := by decide +kernel
theorem lit7 : Str.ofString "no" = S [110, 111] := by decide +kernel
theorem lit8 : Str.ofString "(" = S [40] := by decide +kernel
theorem lit9 : Str.ofString "[" = S [91] := by decide +kernel
theorem lit10 : Str.ofString "{" = S [123] := by decide +kernel
theorem lit11 : Str.ofString ")" = S [41] := by decide +kernel
theorem lit12 : Str.ofString "]" = S [93] := by decide +kernel
theorem lit13 : Str.ofString "}" = S [125] := by decide +kernel
theorem lit14 : Str.ofString "\n" = S [10] := by decide +kernel
theorem lit15 : Str.ofString "^n" = S [94, 110] := by decide +kernel
theorem lit16 : Str.ofString "'" = S [39] := by decide +kernel
theorem lit17 : Str.ofString "" = S [] := by decide +kernel
theorem lit18 : Str.ofString "truth" = S [116, 114, 117, 116, 104] := by decide +kernel
theorem lit19 : Str.ofString "number" = S [110, 117, 109, 98, 101, 114] := by decide +kernel
theorem lit20 : Str.ofString "text" = S [116, 101, 120, 116] := by decide +kernel
theorem lit21 : Str.ofString "dict" = S [100, 105, 99, 116] := by decide +kernel
theorem lit23 : Str.ofString "^" = S [94] := by decide +kernel
theorem lit24 : Str.ofString " " = S [32] := by decide +kernel
theorem lit26 : Str.ofString "-" = S [45] := by decide +kernel
theorem lit27 : Str.ofString "list" = S [108, 105, 115, 116] := by decide +kernel
theorem lit28 : Str.ofString "tuple" = S [116, 117, 112, 108, 101] := by decide +kernel
theorem lit29 : Str.ofString "0" = S [48] := by decide +kernel
theorem lit30 : Str.ofString "a" = S [97] := by decide +kernel
theorem lit31 : Str.ofString "n" = S [110] := by decide +kernel
theorem lit32 : Str.ofString "nones" = S [110, 111, 110, 101, 115] := by decide +kernel
theorem lit33 : Str.ofString "zz" = S [122, 122] := by decide +kernel
theorem lit34 : Str.ofString "abnosyz" = S [97, 98, 110, 111, 115, 121, 122] := by decide +kernel
theorem lit35 : Str.ofString "k" = S [107] := by decide +kernel
theorem lit36 : Str.ofString "'^n\nAz 0" = S [39, 94, 110, 10, 65, 122, 32, 48] := by decide +kernel
theorem lit37 : Str.ofString "~!{}()[]-,.'" = S [126, 33, 123, 125, 40, 41, 91, 93, 45, 44, 46, 39] := by decide +kernel
theorem lit38 : Str.ofString "([{" = S [40, 91, 123] := by decide +kernel
theorem lit39 : Str.ofString "^'" = S [94, 39] := by decide +kernel
theorem lit40 : Str.ofString ")]}" = S [41, 93, 125] := by decide +kernel
theorem lit41 : Str.ofString "'^n" = S [39, 94, 110] := by decide +kernel
theorem lit42 : Str.ofString "^^" = S [94, 94] := by decide +kernel
theorem lit101 : Str.ofString "azn059-'^ ()[]{}~X" = S [97, 122, 110, 48, 53, 57, 45, 39, 94, 32, 40, 41, 91, 93, 123, 125, 126, 88] := by decide +kernel
theorem lit102 : Str.ofString "{b 1 a 2}" = S [123, 98, 32, 49, 32, 97, 32, 50, 125] := by decide +kernel
theorem lit103 : Str.ofString "{a 1 a 2}" = S [123, 97, 32, 49, 32, 97, 32, 50, 125] := by decide +kernel
theorem lit104 : Str.ofString "'none'" = S [39, 110, 111, 110, 101, 39] := by decide +kernel
theorem lit105 : Str.ofString "'a'" = S [39, 97, 39] := by decide +kernel
theorem lit106 : Str.ofString "-0" = S [45, 48] := by decide +kernel
theorem lit107 : Str.ofString "00" = S [48, 48] := by decide +kernel
theorem lit108 : Str.ofString "(1  2)" = S [40, 49, 32, 32, 50, 41] := by decide +kernel
theorem lit109 : Str.ofString "{none 1}" = S [123, 110, 111, 110, 101, 32, 49, 125] := by decide +kernel
theorem lit110 : Str.ofString "123456789" = S [49, 50, 51, 52, 53, 54, 55, 56, 57] := by decide +kernel
theorem lit111 : Str.ofString "'^x'" = S [39, 94, 120, 39] := by decide +kernel
theorem lit112 : Str.ofString "[1 2" = S [91, 49, 32, 50] := by decide +kernel
theorem lit113 : Str.ofString "()" = S [40, 41] := by decide +kernel
theorem lit114 : Str.ofString "{a " = S [123, 97, 32] := by decide +kernel
theorem lit115 : Str.ofString "7" = S [55] := by decide +kernel
/-! ### a comprehension whose list stands for itself -/
theorem S_eq (a b : List Nat) : (S a = S b) = (a = b) := propext ⟨S_inj, fun h => by rw [h]⟩
theorem lc_acc {J : It} {n : Nat} {G : Hp → Prop} {Y : Nat → Hp → V → Hp → Prop} (w : Walk J n G Y) {H1 : Hp} {D : Addr} {Qd : Hp → Prop} {B : (Hp → Prop) → V → Hp → Prop} (xs : Nat → List V) (nD : H1 D = none) (h0 : xs 0 = []) (hG : ∀ H, Same H1 H → G H)
    (hs : ∀ i x H H', i < n → Same H1 H → H D = some (.lst (xs i)) → Y i H x H' → B (fun H'' => Same H1 H'' ∧ H'' D = some (.lst (xs (i + 1)))) x H') (hd : ∀ H, Same H1 H → H D = some (.lst (xs n)) → Qd H) :
    ∃ W : Nat → Nat → Hp → Prop, (∃ m, W 0 m (upd H1 D (.lst []))) ∧ ∀ i m H, W i m H → (J.stop i H ∧ Qd H) ∨ (J.go i H ∧ ∃ Nx : Hp → Prop, (∀ H', Nx H' → ∃ m', m' < m ∧ W (i + 1) m' H') ∧ ∀ x H', J.yld i H x H' → B Nx x H') :=
  lc_any w (fun i H => Same H1 H ∧ H D = some (.lst (xs i))) ⟨Same.new nD, by rw [upd_same, h0]⟩ (fun i H _ h => hG H h.1) (fun i x H H' hi h y => hs i x H H' hi h.1 h.2 y) fun H h => hd H h.1 h.2
/-- the item put behind -/
theorem acc_put {H1 H : Hp} {D : Addr} {xs ys : List V} {y : V} (s : Same H1 H) (nD : H1 D = none) (h : H D = some (.lst xs)) (hl : xs.length < sizeLine) (e : ys = xs ++ [y]) :
    ∃ acc, H D = some (.lst acc) ∧ acc.length < sizeLine ∧ (Same H1 (upd H D (.lst (acc ++ [y]))) ∧ upd H D (.lst (acc ++ [y])) D = some (.lst ys)) :=
  ⟨xs, h, hl, fun b o q => by
    rw [upd_ne (ne_of_none q nD)]
    exact s b o q, by rw [upd_same, e]⟩
theorem big_line {n m : Nat} (h : n ≤ 1000000) (hm : m ≤ n) : m < sizeLine := by rw [sizeLine_eq]; omega
theorem take_map {α : Type} {r : α → V} {l : List α} {i : Nat} {c : α} (h : l[i]? = some c) : (l.take (i + 1)).map r = (l.take i).map r ++ [r c] := by
  rw [List.take_add_one, h]
  simp
theorem eqV_str (a b : List Nat) : eqV (V.str (S a)) (V.str (S b)) = decide (a = b) := by
  show (S a == S b) = _
  exact S_beq_eq
theorem joinL_nil : ∀ l : List (List Nat), TL.joinL [] l = l.flatten
  | [] => rfl
  | [p] => by simp [TL.joinL]
  | p :: q :: r => by
    rw [TL.joinL, joinL_nil (q :: r), List.nil_append]
    rfl
theorem esc_len1 (c : Nat) : (escT c).length ≤ 2 := by
  unfold escT
  split
  · simp
  · split <;> simp
theorem esc_len : ∀ l : List Nat, (l.flatMap escT).length ≤ 2 * l.length
  | [] => by simp
  | c :: l => by
    have h1 := esc_len1 c
    have h2 := esc_len l
    rw [List.flatMap_cons, List.length_append, List.length_cons]
    omega
theorem sum_len : ∀ l : List (List Nat), (l.map List.length).sum = l.flatten.length
  | [] => rfl
  | p :: l => by rw [List.map_cons, List.sum_cons, sum_len l, List.flatten_cons, List.length_append]
theorem word_len (l : List Nat) : (wordT l).length ≤ 2 * l.length + 2 := by
  have := esc_len l
  unfold wordT
  split
  · omega
  · rw [List.length_cons, List.length_append, List.length_singleton]
    omega
/-- the same, with what is known by the turn -/
theorem lc_accR {J : It} {n : Nat} {G : Hp → Prop} {Y : Nat → Hp → V → Hp → Prop} (w : Walk J n G Y) {H1 : Hp} {D : Addr} {Qd : Hp → Prop} {B : (Hp → Prop) → V → Hp → Prop} (xs : Nat → List V) (R : Nat → Prop) (nD : H1 D = none) (h0 : xs 0 = []) (r0 : R 0) (hG : ∀ H, Same H1 H → G H)
    (hs : ∀ i x H H', i < n → R i → Same H1 H → H D = some (.lst (xs i)) → Y i H x H' → B (fun H'' => (Same H1 H'' ∧ H'' D = some (.lst (xs (i + 1)))) ∧ R (i + 1)) x H') (hd : ∀ H, R n → Same H1 H → H D = some (.lst (xs n)) → Qd H) :
    ∃ W : Nat → Nat → Hp → Prop, (∃ m, W 0 m (upd H1 D (.lst []))) ∧ ∀ i m H, W i m H → (J.stop i H ∧ Qd H) ∨ (J.go i H ∧ ∃ Nx : Hp → Prop, (∀ H', Nx H' → ∃ m', m' < m ∧ W (i + 1) m' H') ∧ ∀ x H', J.yld i H x H' → B Nx x H') :=
  lc_any w (fun i H => (Same H1 H ∧ H D = some (.lst (xs i))) ∧ R i) ⟨⟨Same.new nD, by rw [upd_same, h0]⟩, r0⟩ (fun i H _ h => hG H h.1.1) (fun i x H H' hi h y => hs i x H H' hi h.2 h.1.1 h.1.2 y) fun H h => hd H h.2 h.1.1 h.1.2
theorem acc_putR {H1 H : Hp} {D : Addr} {xs ys : List V} {y : V} {R : Prop} (s : Same H1 H) (nD : H1 D = none) (h : H D = some (.lst xs)) (hl : xs.length < sizeLine) (e : ys = xs ++ [y]) (r : R) :
    ∃ acc, H D = some (.lst acc) ∧ acc.length < sizeLine ∧ ((Same H1 (upd H D (.lst (acc ++ [y]))) ∧ upd H D (.lst (acc ++ [y])) D = some (.lst ys)) ∧ R) := by
  obtain ⟨acc, h1, h2, h3⟩ := acc_put s nD h hl e
  exact ⟨acc, h1, h2, h3, r⟩
/-! ### kinds -/
def tagT : T → String
  | .non => "NoneType"
  | .bl _ => "bool"
  | .int _ => "int"
  | .str _ => "str"
  | .tup _ => "tuple"
  | .lst _ => "list"
  | .dic _ _ => "dict"
theorem tag_rd {H : Hp} {a : Addr} {u : HO} {t : String} (r : Rd H a u) (h : tagO u = some t) (h2 : ∀ o, tagO (.frz o u) = some t) : tagV H (.ref a) = some t := by
  show (H a).bind tagO = some t
  rcases r with r | ⟨o, r⟩
  · rw [r]; exact h
  · rw [r]; exact h2 o
theorem rep_tag {H : Hp} : ∀ {t : T} {v : V}, Rep t v H → tagV H v = some (tagT t)
  | .non, _, h => by rw [Rep] at h; subst h; rfl
  | .bl _, _, h => by rw [Rep] at h; subst h; rfl
  | .int _, _, h => by rw [Rep] at h; subst h; rfl
  | .str _, _, h => by rw [Rep] at h; subst h; rfl
  | .tup l, _, h => by
    rw [Rep] at h
    obtain ⟨a, vs, rfl, r, _⟩ := h
    exact tag_rd r rfl fun _ => rfl
  | .lst l, _, h => by
    rw [Rep] at h
    obtain ⟨a, vs, rfl, r, _⟩ := h
    exact tag_rd r rfl fun _ => rfl
  | .dic ks l, _, h => by
    rw [Rep] at h
    obtain ⟨a, kvs, vs, rfl, r, _⟩ := h
    exact tag_rd r rfl fun _ => rfl
/-! ### numbers' texts -/
theorem int_text (i : Int) : Str.ofString (toString i) = S (intT i) := by
  cases i with
  | ofNat n =>
    have e : intT (Int.ofNat n) = TL.numL n := by
      unfold intT
      rw [if_neg (by simp)]
      rfl
    rw [e]
    exact num_S n
  | negSucc n =>
    have e : intT (Int.negSucc n) = 45 :: TL.numL (n + 1) := by
      unfold intT
      rw [if_pos (Int.negSucc_lt_zero n)]
      rfl
    rw [e]
    refine TL.ext_tl ?_
    rw [TL.tl_ofString]
    have e2 : toString (Int.negSucc n) = "-" ++ toString (n + 1) := rfl
    have e3 := TL.tl_num (n + 1)
    rw [TL.tl_ofString] at e3
    have e4 : toString ((n + 1 : Nat) : Int) = toString (n + 1) := rfl
    rw [e4] at e3
    rw [e2, String.toList_append, List.map_append, e3]
    rfl
theorem log2_ok {i : Int} (h : i.natAbs < 10 ^ 500) : i.natAbs.log2 < 1920 := by
  by_cases h0 : i.natAbs = 0
  · rw [h0]
    decide
  · exact (Nat.log2_lt h0).mpr (Nat.lt_trans h (by decide +kernel))
theorem rd_l {K : PySem.W.Frag} {H : Hp} {a : Addr} {xs : List V} (h : Rd H a (.lst xs)) : SqL K H a xs := .inl h
theorem rd_t {K : PySem.W.Frag} {H : Hp} {a : Addr} {xs : List V} (h : Rd H a (.tup xs)) : SqT K H a xs := .inl h
/-! ### lengths -/
theorem joinB_sum : ∀ ps : List (List Nat), (ps.map List.length).sum ≤ (joinB ps).length
  | [] => Nat.le_refl _
  | [p] => by simp [joinB, TL.joinL]
  | p :: q :: r => by
    have h := joinB_sum (q :: r)
    show _ ≤ (p ++ ([32] ++ joinB (q :: r))).length
    rw [List.map_cons, List.sum_cons, List.length_append, List.length_append]
    omega
theorem joinB_mem {p : List Nat} : ∀ {ps : List (List Nat)}, p ∈ ps → p.length ≤ (joinB ps).length := fun {ps} h => by
  have h1 := joinB_sum ps
  have : ∀ ns : List Nat, ∀ n ∈ ns, n ≤ ns.sum := fun ns => by
    induction ns with
    | nil => intro n h; cases h
    | cons m ns ih =>
      intro n hn
      rw [List.sum_cons]
      rcases List.mem_cons.mp hn with rfl | hn
      · omega
      · have := ih n hn
        omega
  have := this (ps.map List.length) p.length (List.mem_map_of_mem h)
  omega
theorem take_all {α β : Type} {l : List α} {xs : List β} (h : xs.length = l.length) : l.take xs.length = l := by rw [h, List.take_length]
theorem depL_le {l : List T} {d : Nat} : (∀ t ∈ l, dep t ≤ d) → depL l ≤ d := fun h => by
  induction l with
  | nil => rw [depL]; omega
  | cons t l ih =>
    rw [depL]
    exact Nat.max_le.mpr ⟨h t (List.mem_cons_self ..), ih fun u hu => h u (List.mem_cons_of_mem _ hu)⟩
theorem depL_leI {l : List T} {d : Int} (h0 : l = [] → 0 ≤ d) (h : ∀ t ∈ l, (dep t : Int) ≤ d) : (depL l : Int) ≤ d := by
  by_cases hd : 0 ≤ d
  · have := depL_le (l := l) (d := d.toNat) fun t ht => by
      have := h t ht
      omega
    omega
  · cases l with
    | nil => exact absurd (h0 rfl) hd
    | cons t l =>
      have := h t (List.mem_cons_self ..)
      omega
/-! ### keys in order -/
theorem rising_pw : ∀ (l : List Str) (p : Str), risingS p l = true → (p :: l).Pairwise fun a b => a.cps.toList ≤ b.cps.toList
  | [], p, _ => List.pairwise_singleton _ _
  | x :: r, p, h => by
    unfold risingS at h
    rw [Bool.and_eq_true, Bool.not_eq_true', ltCps_eq] at h
    have h1 : p.cps.toList ≤ x.cps.toList := fun z => of_decide_eq_false h.1 z
    have h2 := rising_pw r x h.2
    refine List.pairwise_cons.mpr ⟨fun b hb => ?_, h2⟩
    rcases List.mem_cons.mp hb with rfl | hb
    · exact h1
    · exact List.le_trans h1 ((List.pairwise_cons.mp h2).1 b hb)
theorem sorted_pw : ∀ (l : List Str), sortedS l = true → l.Pairwise fun a b => a.cps.toList ≤ b.cps.toList
  | [], _ => .nil
  | x :: r, h => rising_pw r x h
theorem sorted_eq {ys : List Str} {ks : List (List Nat)} (hp : ys.Perm (ks.map S)) (hs : sortedS ys = true) (hk : ks.Pairwise (· < ·)) : ys = ks.map S := by
  refine List.Perm.eq_of_pairwise (le := fun a b : Str => a.cps.toList ≤ b.cps.toList) (fun a b _ _ h1 h2 => ?_) (sorted_pw ys hs) ?_ hp
  · exact TL.ext_tl (List.le_antisymm h1 h2)
  · rw [List.pairwise_map]
    exact hk.imp fun h z => List.lt_asymm h z
def keyS : Key → Str
  | .inr s => s
  | .inl _ => Str.empty
theorem keys_inv {l : List Key} {ks : List (List Nat)} (h : l.Perm (ks.map fun k => Sum.inr (S k))) : l = (l.map keyS).map Sum.inr ∧ (l.map keyS).Perm (ks.map S) := by
  refine ⟨?_, ?_⟩
  · have : ∀ m : List Key, (∀ x ∈ m, x ∈ ks.map fun k => (Sum.inr (S k) : Key)) → m = (m.map keyS).map Sum.inr := fun m => by
      induction m with
      | nil => intro _; rfl
      | cons x m ih =>
        intro hm
        obtain ⟨k, _, hk⟩ := List.mem_map.mp (hm x (List.mem_cons_self ..))
        rw [List.map_cons, List.map_cons, ← ih fun y hy => hm y (List.mem_cons_of_mem _ hy), ← hk]
        rfl
    exact this l fun x hx => h.subset hx
  · have := h.map keyS
    rw [List.map_map] at this
    exact this
theorem zip_at {α β : Type} {xs : List α} {ys : List β} {i : Nat} {a : α} {b : β} (h1 : xs[i]? = some a) (h2 : ys[i]? = some b) : (a, b) ∈ xs.zip ys := by
  refine List.mem_of_getElem? (i := i) ?_
  rw [List.getElem?_zip_eq_some]
  exact ⟨h1, h2⟩
theorem pairs_at {ks ss : List (List Nat)} {i : Nat} {k s : List Nat} (h1 : ks[i]? = some k) (h2 : ss[i]? = some s) : (pairsT ks ss)[i]? = some (wordT k ++ 32 :: s) := by
  unfold pairsT
  rw [List.getElem?_zipWith, h1, h2]
theorem any_tag : ∀ t : T, ["tuple", "list", "dict"].any (isSub (tagT t)) = (match t with | .tup _ => true | .lst _ => true | .dic _ _ => true | _ => false)
  | .non => rfl
  | .bl _ => rfl
  | .int _ => rfl
  | .str _ => rfl
  | .tup _ => rfl
  | .lst _ => rfl
  | .dic _ _ => rfl
theorem wrap3 {a b c : List Nat} {Q : VK} {H : Hp} (hl : a.length + b.length + c.length ≤ 16777216) (q : Q (.str (S (a ++ b ++ c))) H) : rAddA (.str (S a)) (.str (S b)) H fun x H1 => rAddA x (.str (S c)) H1 Q := by
  have e := sizeLine_eq
  refine ⟨by rw [S_len, S_len]; omega, ?_⟩
  rw [S_cat]
  refine ⟨by rw [S_len, S_len, List.length_append]; omega, ?_⟩
  rw [S_cat]
  exact q
/-! ### pieces of a text -/
theorem sIx_nat {n d k : Nat} (h : k ≤ n) : HT.sIx n d (some (k : Int)) = k := by
  simp only [HT.sIx]
  rw [if_neg (by omega)]
  omega
theorem cut_nat {W : List Nat} {i j : Nat} (hi : i ≤ W.length) (hj : j ≤ W.length) : cutS (S W) (some (i : Int)) (some (j : Int)) = S ((W.drop i).take (j - i)) := by
  unfold cutS
  rw [S_len, sIx_nat hi, sIx_nat hj]
theorem cut_at {W : List Nat} {i : Nat} (hi : i ≤ W.length) : cutS (S W) (some (i : Int)) (some ((i : Int) + 1)) = S ((W.drop i).take 1) := by
  by_cases h : i < W.length
  · have := cut_nat (W := W) (i := i) (j := i + 1) hi h
    rw [show ((i + 1 : Nat) : Int) = (i : Int) + 1 from rfl] at this
    rw [this, Nat.add_sub_cancel_left]
  · have e : i = W.length := by omega
    subst e
    unfold cutS
    rw [S_len, sIx_nat (Nat.le_refl _)]
    simp
theorem drop_some {W : List Nat} {i c : Nat} (h : W[i]? = some c) : W.drop i = c :: W.drop (i + 1) := by
  obtain ⟨h1, h2⟩ := List.getElem?_eq_some_iff.mp h
  rw [List.drop_eq_getElem_cons h1, h2]
theorem drop_none {W : List Nat} {i : Nat} (h : W[i]? = none) : W.drop i = [] := List.drop_eq_nil_of_le (List.getElem?_eq_none_iff.mp h)
theorem head_dec (W : List Nat) (i c : Nat) : decide ((W.drop i).take 1 = [c]) = decide (W[i]? = some c) := by
  cases e : W[i]? with
  | none => rw [drop_none e]; simp
  | some d => rw [drop_some e]; simp
theorem head_nil (W : List Nat) (i : Nat) : decide ((W.drop i).take 1 = []) = decide (W[i]? = none) := by
  cases e : W[i]? with
  | none => rw [drop_none e]; simp
  | some d => rw [drop_some e]; simp
theorem head_some {W : List Nat} {i c : Nat} (h : W[i]? = some c) : (W.drop i).take 1 = [c] := by
  rw [drop_some h]
  rfl
theorem tw_lt {p : Nat → Bool} : ∀ {l : List Nat} {j : Nat}, j < (l.takeWhile p).length → ∃ c, l[j]? = some c ∧ p c = true
  | [], _, h => by simp at h
  | a :: l, j, h => by
    by_cases ha : p a = true
    · rw [List.takeWhile_cons_of_pos ha] at h
      cases j with
      | zero => exact ⟨a, by simp, ha⟩
      | succ j =>
        obtain ⟨c, h1, h2⟩ := tw_lt (l := l) (j := j) (by simpa using h)
        exact ⟨c, by simpa using h1, h2⟩
    · rw [List.takeWhile_cons_of_neg ha] at h
      simp at h
theorem tw_end {p : Nat → Bool} : ∀ {l : List Nat} {c : Nat}, l[(l.takeWhile p).length]? = some c → p c = false
  | [], _, h => by simp at h
  | a :: l, c, h => by
    by_cases ha : p a = true
    · rw [List.takeWhile_cons_of_pos ha] at h
      exact tw_end (l := l) (by simpa using h)
    · rw [List.takeWhile_cons_of_neg ha] at h
      simp only [List.length_nil, List.getElem?_cons_zero, Option.some.injEq] at h
      subst h
      simpa using ha
theorem tw_take {p : Nat → Bool} (l : List Nat) : l.take (l.takeWhile p).length = l.takeWhile p := by
  have := List.takeWhile_prefix (p := p) (l := l)
  exact (List.prefix_iff_eq_take.mp this).symm
theorem tw_len {p : Nat → Bool} (l : List Nat) : (l.takeWhile p).length ≤ l.length := (List.takeWhile_prefix p).length_le
theorem in_S {K : PySem.W.Frag} {w : World} {H : Hp} {Q : VK} {neg : Bool} (c : Nat) (cs : List Nat) : rInA K w (.str (S [c])) (.str (S cs)) H Q neg = Q (.bl (neg.xor (decide (c ∈ cs)))) H := by
  rw [in_ss, in_one]
theorem cut_fig : cutS (S [48, 49, 50, 51, 52, 53, 54, 55, 56, 57]) (some 1) none = S [49, 50, 51, 52, 53, 54, 55, 56, 57] := by decide +kernel
theorem fig_mem : (fun c : Nat => decide (c ∈ [48, 49, 50, 51, 52, 53, 54, 55, 56, 57])) = fig := by
  funext c
  unfold fig
  rw [Bool.eq_iff_iff]
  simp only [decide_eq_true_eq, Bool.and_eq_true, List.mem_cons, List.mem_nil_iff, or_false]
  omega
theorem fig1_mem (c : Nat) : decide (c ∈ [49, 50, 51, 52, 53, 54, 55, 56, 57]) = (decide (49 ≤ c) && decide (c ≤ 57)) := by
  rw [Bool.eq_iff_iff]
  simp only [decide_eq_true_eq, Bool.and_eq_true, List.mem_cons, List.mem_nil_iff, or_false]
  omega
theorem small_mem' : (fun c : Nat => decide (c ∈ [97, 98, 99, 100, 101, 102, 103, 104, 105, 106, 107, 108, 109, 110, 111, 112, 113, 114, 115, 116, 117, 118, 119, 120, 121, 122])) = small := by
  funext c
  unfold small
  rw [Bool.eq_iff_iff]
  simp only [decide_eq_true_eq, Bool.and_eq_true, List.mem_cons, List.mem_nil_iff, or_false]
  omega
theorem tw_all {p : Nat → Bool} : ∀ l : List Nat, (l.takeWhile p).all p = true
  | [] => rfl
  | a :: l => by
    by_cases ha : p a = true
    · rw [List.takeWhile_cons_of_pos ha, List.all_cons, ha, tw_all l]
      rfl
    · rw [List.takeWhile_cons_of_neg ha]
      rfl
/-! ### replace, one sign -/
theorem repl_one (c : Nat) (z : List Nat) : ∀ l : List Nat, StrLaws.replL [c] z l = l.flatMap fun d => if d = c then z else [d]
  | [] => StrLaws.replL_nil
  | d :: l => by
    rw [List.flatMap_cons]
    by_cases h : d = c
    · rw [StrLaws.replL_hit (by simp) (by simp [h]), if_pos h]
      show z ++ StrLaws.replL [c] z l = _
      rw [repl_one c z l]
    · rw [StrLaws.replL_miss (by simp [h]), if_neg h, repl_one c z l]
      rfl
theorem rep_S (a z : List Nat) (c : Nat) : Txt.replace (S a) (S [c]) (S z) = S (a.flatMap fun d => if d = c then z else [d]) := by
  refine TL.ext_tl ?_
  show (Txt.replace (S a) (S [c]) (S z)).cps.toList = _
  rw [StrLaws.replace_list (by show 1 ≤ 1; omega)]
  exact repl_one c z a
theorem esc_chain (l : List Nat) : ((l.flatMap fun d => if d = 94 then [94, 94] else [d]).flatMap fun d => if d = 39 then [94, 39] else [d]).flatMap (fun d => if d = 10 then [94, 110] else [d]) = l.flatMap escT := by
  rw [List.flatMap_assoc, List.flatMap_assoc]
  congr 1
  funext d
  unfold escT
  by_cases h1 : d = 94
  · subst h1; rfl
  by_cases h2 : d = 39
  · subst h2; rfl
  by_cases h3 : d = 10
  · subst h3; rfl
  simp [h1, h2, h3]
theorem rep_len (l : List Nat) (c : Nat) (a b : Nat) : (l.flatMap fun d => if d = c then [a, b] else [d]).length ≤ 2 * l.length := by
  induction l with
  | nil => simp
  | cons d l ih =>
    rw [List.flatMap_cons, List.length_append, List.length_cons]
    by_cases h : d = c
    · rw [if_pos h]; simp only [List.length_cons, List.length_nil]; omega
    · rw [if_neg h]; simp only [List.length_cons, List.length_nil]; omega
theorem filter_put {p : Nat → Bool} {r : Nat → V} {l : List Nat} {i c : Nat} (h : l[i]? = some c) (hp : p c = true) : ((l.take (i + 1)).filter p).map r = ((l.take i).filter p).map r ++ [r c] := by
  rw [List.take_add_one, h]
  simp [List.filter_append, hp]
theorem filter_skip {p : Nat → Bool} {r : Nat → V} {l : List Nat} {i c : Nat} (h : l[i]? = some c) (hp : p c = false) : ((l.take (i + 1)).filter p).map r = ((l.take i).filter p).map r := by
  rw [List.take_add_one, h]
  simp [List.filter_append, hp]
/-! ### a dict's values in its own order -/
def keyL : Key → List Nat
  | .inr s => s.cps.toList
  | .inl _ => []
theorem dic_key {kvs : List (Key × V)} {ks : List (List Nat)} (h : (kvs.map (·.1)).Perm (ks.map fun k => Sum.inr (S k))) {p : Key × V} (hp : p ∈ kvs) : ∃ k ∈ ks, p.1 = Sum.inr (S k) := by
  obtain ⟨k, hk, e⟩ := List.mem_map.mp (h.subset (List.mem_map_of_mem hp))
  exact ⟨k, hk, e.symm⟩
theorem nodup_lt {ks : List (List Nat)} (h : ks.Pairwise (· < ·)) : ks.Nodup := h.imp fun {a b} hab e => by
  rw [e] at hab
  exact List.lt_irrefl _ hab
theorem val_mem {kvs : List (Key × V)} (hn : (kvs.map (·.1)).Nodup) {p : Key × V} (hp : p ∈ kvs) : valV kvs p.1 = some p.2 := by
  induction kvs with
  | nil => cases hp
  | cons q kvs ih =>
    rw [List.map_cons, List.nodup_cons] at hn
    rcases List.mem_cons.mp hp with rfl | hp
    · exact valV_pos rfl
    · rw [valV_neg (fun z => hn.1 (z ▸ List.mem_map_of_mem hp))]
      exact ih hn.2 hp
theorem keys_nodup {kvs : List (Key × V)} {ks : List (List Nat)} (h : (kvs.map (·.1)).Perm (ks.map fun k => Sum.inr (S k))) (hk : ks.Nodup) : (kvs.map (·.1)).Nodup := by
  refine h.nodup_iff.mpr ?_
  exact List.pairwise_map.mpr (hk.imp fun hne e => hne (S_inj (Sum.inr.inj e)))
/-- the parts of a dict, in its own order -/
theorem dic_vals {ks : List (List Nat)} {l : List T} {kvs : List (Key × V)} {vs : List V} {H : Hp} (hperm : (kvs.map (·.1)).Perm (ks.map fun k => Sum.inr (S k))) (hkl : ks.length = l.length) (hval : ∀ p ∈ ks.zip vs, valV kvs (Sum.inr (S p.1)) = some p.2)
    (hvs : RepL l vs H) (hpw : ks.Pairwise (· < ·)) : ∃ ts, RepL ts (kvs.map (·.2)) H ∧ (∀ t ∈ ts, t ∈ l) ∧ ∀ t ∈ l, t ∈ ts := by
  have hnd := keys_nodup hperm (nodup_lt hpw)
  have hvl := hvs.len
  -- each entry is one of the parts
  have one : ∀ p ∈ kvs, ∃ j k t, ks[j]? = some k ∧ p.1 = Sum.inr (S k) ∧ l[j]? = some t ∧ Rep t p.2 H := fun p hp => by
    obtain ⟨k, hk, e⟩ := dic_key hperm hp
    obtain ⟨j, hj⟩ := List.getElem?_of_mem hk
    have hjl := (List.getElem?_eq_some_iff.mp hj).1
    obtain ⟨t, ht⟩ : ∃ t, l[j]? = some t := ⟨l[j]'(by omega), by simp⟩
    obtain ⟨v, hv, hr⟩ := hvs.get ht
    have h1 := hval _ (zip_at hj hv)
    have h2 := val_mem hnd hp
    rw [e, h1] at h2
    cases h2
    exact ⟨j, k, t, hj, e, ht, hr⟩
  have mk : ∀ m : List (Key × V), (∀ p ∈ m, p ∈ kvs) → ∃ ts, RepL ts (m.map (·.2)) H ∧ (∀ t ∈ ts, t ∈ l) ∧ ∀ p ∈ m, ∀ j k t, ks[j]? = some k → p.1 = Sum.inr (S k) → l[j]? = some t → t ∈ ts := fun m => by
    induction m with
    | nil => intro _; exact ⟨[], by rw [List.map_nil, RepL], fun _ h => (nomatch h), fun _ h => (nomatch h)⟩
    | cons p m ih =>
      intro hm
      obtain ⟨ts, h1, h2, h3⟩ := ih fun q hq => hm q (List.mem_cons_of_mem _ hq)
      obtain ⟨j, k, t, e1, e2, e3, e4⟩ := one p (hm p (List.mem_cons_self ..))
      refine ⟨t :: ts, ?_, fun u hu => ?_, fun q hq j' k' t' a1 a2 a3 => ?_⟩
      · rw [List.map_cons, RepL]
        exact ⟨p.2, m.map (·.2), rfl, e4, h1⟩
      · rcases List.mem_cons.mp hu with rfl | hu
        · exact List.mem_of_getElem? e3
        · exact h2 u hu
      · rcases List.mem_cons.mp hq with rfl | hq
        · have ek : k = k' := S_inj (Sum.inr.inj (e2.symm.trans a2))
          subst ek
          have ej : j = j' := by
            obtain ⟨l1, l2⟩ := List.getElem?_eq_some_iff.mp e1
            obtain ⟨l3, l4⟩ := List.getElem?_eq_some_iff.mp a1
            rcases Nat.lt_trichotomy j j' with h | h | h
            · have := (List.pairwise_iff_getElem.mp hpw) j j' l1 l3 h
              rw [l2, l4] at this
              exact absurd this (List.lt_irrefl _)
            · exact h
            · have := (List.pairwise_iff_getElem.mp hpw) j' j l3 l1 h
              rw [l2, l4] at this
              exact absurd this (List.lt_irrefl _)
          subst ej
          rw [e3] at a3
          cases a3
          exact List.mem_cons_self ..
        · exact List.mem_cons_of_mem _ (h3 q hq j' k' t' a1 a2 a3)
  obtain ⟨ts, h1, h2, h3⟩ := mk kvs fun _ h => h
  refine ⟨ts, h1, h2, fun t ht => ?_⟩
  obtain ⟨j, hj⟩ := List.getElem?_of_mem ht
  have hjl := (List.getElem?_eq_some_iff.mp hj).1
  obtain ⟨k, hk⟩ : ∃ k, ks[j]? = some k := ⟨ks[j]'(by omega), by simp⟩
  have hm : (Sum.inr (S k) : Key) ∈ kvs.map (·.1) := hperm.symm.subset (List.mem_map_of_mem (f := fun k => (Sum.inr (S k) : Key)) (List.mem_of_getElem? hk))
  obtain ⟨p, hp, e⟩ := List.mem_map.mp hm
  exact h3 p hp j k t hk e hj
theorem depL_eq {l ts : List T} (h1 : ∀ t ∈ ts, t ∈ l) (h2 : ∀ t ∈ l, t ∈ ts) : depL ts = depL l :=
  Nat.le_antisymm (depL_le fun t ht => dep_mem (h1 t ht)) (depL_le fun t ht => dep_mem (h2 t ht))
theorem depL_max (ts : List T) {m : Int} (h1 : m ∈ (ts.map fun t => (dep t : Int)) ++ [0]) (h2 : ∀ y ∈ (ts.map fun t => (dep t : Int)) ++ [0], y ≤ m) : m = (depL ts : Int) := by
  have hle : (depL ts : Int) ≤ m := depL_leI (fun _ => h2 0 (by simp)) fun t ht => h2 _ (List.mem_append_left _ (List.mem_map_of_mem ht))
  rcases List.mem_append.mp h1 with h | h
  · obtain ⟨t, ht, e⟩ := List.mem_map.mp h
    have := dep_mem ht
    omega
  · have := List.mem_singleton.mp h
    omega
/-! ### locks -/
theorem le_lock {H : Hp} {a : Addr} {u : HO} {od : Obj} (h : H a = some u) (hu : ∀ o v, u ≠ .frz o v) : Le H (upd H a (.frz od u)) := fun b v r => by
  by_cases hb : b = a
  · subst hb
    rcases r with r | ⟨o, r⟩
    · rw [h] at r
      cases r
      exact .inr ⟨od, upd_same⟩
    · rw [h] at r
      exact absurd (Option.some.inj r) (hu _ _)
  · rcases r with r | ⟨o, r⟩
    · exact .inl (by rw [upd_ne hb]; exact r)
    · exact .inr ⟨o, by rw [upd_ne hb]; exact r⟩
theorem same_unlock {H H' : Hp} {a : Addr} {u : HO} {od : Obj} (h : H a = some u) (s : Same (upd H a (.frz od u)) H') : Same H (upd H' a u) := fun b o e => by
  by_cases hb : b = a
  · subst hb
    rw [h] at e
    cases e
    exact upd_same
  · rw [upd_ne hb]
    exact s b o (by rw [upd_ne hb]; exact e)
end K97

set_option Elab.async false
set_option linter.all false
set_option maxRecDepth 100000
set_option maxHeartbeats 4000000
/-! The writer's defs keep their promises. -/
namespace K97
open PySem PySem.Spec PyProof.Rows L2 Lk SX
local macro_rules | `(tactic| walk_at "r") => `(tactic| simp only [tSeq, tNext, tRet, tRetN, tIfS, tDrop, tAsg, tAug, tFor, tWhile, tAndV, tOrV, tNotV, tAnd, tOr, tNot, tB, tTest, tIf, tIsN, tNotN, tOp, tVar, tC, tCB, CwR.tReplC, tPar, tCons, tNil, tLc, tYes, tTup, tLst, tCall, tMeth, tFld, tSl, tPart, tNoPart, tM1, tBM, gName, gNil, gCons, gTup, gUnl, gSub, iAny, iRng1, iKeys, iVals,
  rEqQ, rInA, rAddA, rSubA, rMulA, rModA, rFdivA, rLtA, rLeA, rGtA, rGeA, rIaddA, rIxA, Lk.rSlA, rSetK, scal, List.getElem?_cons_zero, List.getElem?_cons_succ, List.set_cons_zero, List.set_cons_succ, Option.some.injEq, V.str.injEq, V.bl.injEq, V.int.injEq, V.ref.injEq, exists_eq_left', exists_eq_left, true_and, and_true, reduceCtorEq, false_and, and_false, exists_false, or_false, false_or, if_true, if_false, List.cons_append, List.nil_append, Bool.true_xor, Bool.false_xor, Bool.not_eq_true', wipe, List.map_cons, List.map_nil, S_eq, S_cat, S_len, lit1, lit3, lit5, lit6, lit7, lit8, lit9, lit10, lit11, lit12, lit13, lit14, lit15, lit16, lit17, lit18, lit19, lit20, lit21, lit23, lit24, lit26, lit27, lit28, lit29, lit30, lit31, lit32, lit33, lit34, lit35, lit36, lit37, lit38, lit39, lit40, lit41, lit42, lit101, lit102, lit103, lit104, lit105, lit106, lit107, lit108, lit109, lit110, lit111, lit112, lit113, lit114, lit115])

theorem kept_isSome (l : List Nat) : (List.lookup (S l) [(Str.ofString "none", V.non), (Str.ofString "yes", V.bl true), (Str.ofString "no", V.bl false)]).isSome = decide (l ∈ [wNone, wYes, wNo]) := by
  rw [lit5, lit6, lit7]
  simp only [List.lookup, S_beq, wNone, wYes, wNo, List.mem_cons, List.mem_nil_iff, or_false]
  by_cases h1 : l = [110, 111, 110, 101]
  · simp [h1]
  by_cases h2 : l = [121, 101, 115]
  · simp [h2]
  by_cases h3 : l = [110, 111]
  · simp [h3]
  have e1 : (l == [110, 111, 110, 101]) = false := by simpa using h1
  have e2 : (l == [121, 101, 115]) = false := by simpa using h2
  have e3 : (l == [110, 111]) = false := by simpa using h3
  rw [e1, e2, e3]
  simp [h1, h2, h3]
theorem small_mem (c : Nat) : decide (c ∈ [97, 98, 99, 100, 101, 102, 103, 104, 105, 106, 107, 108, 109, 110, 111, 112, 113, 114, 115, 116, 117, 118, 119, 120, 121, 122]) = small c := by
  unfold small
  rw [Bool.eq_iff_iff]
  simp only [decide_eq_true_eq, Bool.and_eq_true, List.mem_cons, List.mem_nil_iff, or_false]
  omega
def spBare : Sp := fun vs H Q E => ∃ l, vs = [.str (S l)] ∧ l.length ≤ 1000000 ∧ ∀ H', Same H H' → Q (.bl (bareT l)) H'
section
variable {P : Program} {w : World} {K : PySem.W.Frag} {mg : Str → Option Value} {base : Heap} {f : Addr} {fd : FuncData}
theorem ok_is_bare (T : Tx K w mg) (F : FunD K "is_bare" "is_bare" (defArgs s_is_bare) (defBody s_is_bare) (defScope s_is_bare) [] [] f fd) : FnOk P w K mg base (L2.CX P w) 2 f fd ["text"] spBare := by
  refine F.ok sc_is_bare (fun vs H Q E h => by obtain ⟨l, rfl, _⟩ := h; rfl) (fun cdv A outer s H vs Q E hr h => ?_)
  have nd := (sc_is_bare).nd
  refine ⟨_, (pss_one
  (ps_ret (pe_and (pe_cmpR (k_ne K rfl (Lk.hu0 hr)) (pv 0) pe_str rfl) (pe_and (pe_cmpR (k_notIn K w rfl rfl) (pv 0) (pe_gref T.g_KEPT) rfl) (pe_one (pe_callB (k_all K rfl rfl) (by rfl) T.b_all Lk.boot_all (pa_cons (pe_lcX (own := [("sign", 1)]) (g := gName 1) (tt := tYes) tk0 rfl rfl rfl nd (blkOk_by (own := [("sign", 1)]) (N := N_is_bare) (sc := defScope s_is_bare) (by decide +kernel)) (pi_any (pv 0)) (fun _ _ _ _ _ _ => (pg_name (i := 1) nd rfl (Or.inl rfl))) (fun _ _ _ _ _ _ px => pts_nil) (fun _ _ _ _ _ _ px => (pe_cmpR (k_in K w rfl rfl) (pv 1) (pe_gstr T.g_SMALL) rfl))) pa_nil))))))), ?_⟩
  obtain ⟨l, rfl, hl, q⟩ := h
  rw [show L2.start N_is_bare [V.str (S l)] = [some (.str (S l)), none] from rfl]
  walk_at "r"
  have q' : ∀ {H' : Hp} {b : Bool}, Same H H' → bareT l = b → Q (.bl b) H' := fun s e => e ▸ q _ s
  have hin : ∀ c : Nat, (!(Builtin.Str.occurrences (S [97, 98, 99, 100, 101, 102, 103, 104, 105, 106, 107, 108, 109, 110, 111, 112, 113, 114, 115, 116, 117, 118, 119, 120, 121, 122]) (S [c]) 0 (S [97, 98, 99, 100, 101, 102, 103, 104, 105, 106, 107, 108, 109, 110, 111, 112, 113, 114, 115, 116, 117, 118, 119, 120, 121, 122]).length 1).isEmpty) = small c := fun c => by
    rw [in_one]
    exact small_mem c
  by_cases h0 : l = []
  · rw [if_neg (by simp [h0])]
    exact q' Same.rfl' (by simp [bareT, h0])
  rw [if_pos (by simp [h0])]
  refine .inl ⟨S l, _, rfl, T.t_KEPT, ?_⟩
  rw [kept_isSome]
  by_cases hk : l ∈ [wNone, wYes, wNo]
  · rw [if_neg (by simp [hk])]
    exact q' Same.rfl' (by simp [bareT, hk])
  rw [if_pos (by simp [hk])]
  intro D nD
  refine lc_acc (walk_str (z := S l)) (xs := fun i => (l.take i).map fun c => .bl (small c)) nD rfl (fun _ _ => trivial) ?_ ?_
  · rintro i x Hi H' hi sm hD ⟨rfl, c, hc, rfl⟩
    have hc' : l[i]? = some c := by simpa using hc
    have e := hin c
    show ∃ acc, H' D = some (HO.lst acc) ∧ acc.length < sizeLine ∧ _ ∧ upd H' D (HO.lst (acc ++ [V.bl (!(Builtin.Str.occurrences (S _) (S [c]) 0 (S _).length 1).isEmpty)])) D = _
    refine acc_put sm nD hD (big_line hl (by simp; omega)) ?_
    rw [e]
    exact take_map hc'
  · intro H' sm hD
    have hn : (S l).cps.size = l.length := by simp
    rw [hn, List.take_length] at hD
    refine ⟨l.map small, .of (by rw [hD, List.map_map]; rfl), q' sm ?_⟩
    have : ∀ m : List Nat, (m.map small).all id = m.all small := fun m => by simp [List.all_map]
    rw [this]
    simp [bareT, h0, hk]
def spSign : Sp := fun vs H Q E => ∃ c, vs = [.str (S [c])] ∧ ∀ H', Same H H' → Q (.str (S (escT c))) H'
theorem ok_sign_text (T : Tx K w mg) (F : FunD K "sign_text" "sign_text" (defArgs s_sign_text) (defBody s_sign_text) (defScope s_sign_text) [] [] f fd) : FnOk P w K mg base (L2.CX P w) 2 f fd ["sign"] spSign := by
  refine F.ok sc_sign_text (fun vs H Q E h => by obtain ⟨l, rfl, _⟩ := h; rfl) (fun cdv A outer s H vs Q E hr h => ?_)
  have nd := (sc_sign_text).nd
  refine ⟨_, (pss_cons
  (ps_if (pt_cmpR (k_eq K rfl (Lk.hu0 hr)) (pv 0) pe_str rfl)
   (pss_one
    (ps_ret pe_str))
   pss_nil)
  (pss_cons
  (ps_if (pt_cmpR (k_in K w rfl rfl) (pv 0) (pe_tup (pa_cons pe_str (pa_cons pe_str pa_nil))) rfl)
   (pss_one
    (ps_ret (pe_op op_addA pe_str (pv 0))))
   pss_nil)
  (pss_one
  (ps_ret (pv 0))))), ?_⟩
  obtain ⟨c, rfl, q⟩ := h
  rw [show L2.start N_sign_text [V.str (S [c])] = [some (.str (S [c]))] from rfl]
  walk_at "r"
  have q' : ∀ {H' : Hp} {b : List Nat}, Same H H' → escT c = b → Q (.str (S b)) H' := fun s e => e ▸ q _ s
  by_cases h1 : c = 10
  · rw [if_pos (by simp [h1])]
    exact q' Same.rfl' (by simp [escT, h1])
  rw [if_neg (by simp [h1])]
  refine ⟨by show 2 ≤ sizeLine; decide, fun p np => .inr ⟨_, .inr (.of upd_same), rfl, rfl, ?_⟩⟩
  have e : inV (V.str (S [c])) [V.str (S [39]), V.str (S [94])] = decide (c = 39 ∨ c = 94) := by
    rw [Bool.eq_iff_iff]
    simp only [inV, List.any_cons, List.any_nil, Bool.or_false, eqV_str, Bool.or_eq_true, decide_eq_true_eq, List.cons.injEq, and_true]
    omega
  by_cases h2 : c = 39 ∨ c = 94
  · rw [if_pos (by rw [e]; simp [h2])]
    exact ⟨by show 2 ≤ sizeLine; decide, q' (Same.new np) (by simp [escT, h1, h2])⟩
  · rw [if_neg (by rw [e]; simp [h2])]
    exact q' (Same.new np) (by simp [escT, h1, h2])
def spWord : Sp := fun vs H Q E => ∃ l, vs = [.str (S l)] ∧ l.length ≤ 1000000 ∧ ∀ H', Same H H' → Q (.str (S (wordT l))) H'
theorem ok_word_text (T : Tx K w mg) (c_is_bare : Fn P w K mg base 2 "is_bare" [] spBare) (c_sign_text : Fn P w K mg base 2 "sign_text" [] spSign)
    (F : FunD K "word_text" "word_text" (defArgs s_word_text) (defBody s_word_text) (defScope s_word_text) [] [] f fd) : FnOk P w K mg base (L2.CX P w) 4 f fd ["text"] spWord := by
  refine F.ok sc_word_text (fun vs H Q E h => by obtain ⟨l, rfl, _⟩ := h; rfl) (fun cdv A outer s H vs Q E hr h => ?_)
  have nd := (sc_word_text).nd
  refine ⟨_, (pss_cons
  (ps_if (pt_val (pe_fn c_is_bare (hr.mono (by omega)) pass_def (pa_cons (pv 0) pa_nil)))
   (pss_one
    (ps_ret (pv 0)))
   pss_nil)
  (pss_one
  (ps_ret (pe_op op_addA (pe_op op_addA pe_str (pe_join pe_str (pe_lcX (own := [("sign", 1)]) (g := gName 1) (tt := tYes) tk0 rfl rfl rfl nd (blkOk_by (own := [("sign", 1)]) (N := N_word_text) (sc := defScope s_word_text) (by decide +kernel)) (pi_any (pv 0)) (fun _ _ _ _ _ _ => (pg_name (i := 1) nd rfl (Or.inl rfl))) (fun _ _ _ _ _ _ px => pts_nil) (fun _ _ _ _ _ _ px => (pe_fn c_sign_text (hr.mono (by omega)) px (pa_cons (pv 1) pa_nil)))))) pe_str)))), ?_⟩
  obtain ⟨l, rfl, hl, q⟩ := h
  rw [show L2.start N_word_text [V.str (S l)] = [some (.str (S l)), none] from rfl]
  walk_at "r"
  have q' : ∀ {H' : Hp} {b : List Nat}, Same H H' → wordT l = b → Q (.str (S b)) H' := fun s e => e ▸ q _ s
  refine ⟨l, rfl, hl, fun H1 s1 => ⟨_, rfl, ?_⟩⟩
  by_cases hb : bareT l = true
  · rw [if_pos hb]
    exact q' s1 (by simp [wordT, hb])
  rw [if_neg hb]
  refine ⟨⟨_, rfl⟩, fun D nD => ?_⟩
  refine lc_acc (walk_str (z := S l)) (xs := fun i => (l.take i).map fun c => .str (S (escT c))) nD rfl (fun _ _ => trivial) ?_ ?_
  · rintro i x Hi H' hi sm hD ⟨rfl, c, hc, rfl⟩
    have hc' : l[i]? = some c := by simpa using hc
    exact ⟨c, rfl, fun H2 s2 => acc_put (sm.trans s2) nD (s2 _ _ hD) (big_line hl (by simp; omega)) (take_map hc')⟩
  · intro H' sm hD
    have hn : (S l).cps.size = l.length := by simp
    rw [hn, List.take_length] at hD
    have hlen := esc_len l
    refine ⟨_, D, (l.map escT).map S, rfl, rfl, .inl (.of (by rw [hD, List.map_map, List.map_map]; rfl)), ?_⟩
    rw [join_S, lens, joinL_nil, S_len, S_cat, S_cat, S_len, S_len]
    rw [sum_len, List.length_map, show (l.map escT).flatten = l.flatMap escT from rfl]
    have e16 : sizeLine = 16777216 := sizeLine_eq
    refine ⟨?_, ?_, ?_, q' (s1.trans sm) ?_⟩
    · simp only [List.length_nil, Nat.mul_zero, Nat.add_zero]
      omega
    · simp only [List.length_cons, List.length_nil]
      omega
    · simp only [List.length_cons, List.length_nil, List.length_append]
      omega
    · unfold wordT
      rw [if_neg hb]
      simp
end
end K97

set_option Elab.async false
set_option linter.all false
set_option maxRecDepth 100000
set_option maxHeartbeats 4000000
/-! plain_text, things_text, text_of, paper_text. -/
namespace K97
open PySem PySem.Spec PyProof.Rows L2 Lk SX
local macro_rules | `(tactic| walk_at "r") => `(tactic| simp only [tSeq, tNext, tRet, tRetN, tIfS, tDrop, tAsg, tAug, tFor, tWhile, tAndV, tOrV, tNotV, tAnd, tOr, tNot, tB, tTest, tIf, tIsN, tNotN, tOp, tVar, tC, tCB, CwR.tReplC, tPar, tCons, tNil, tLc, tYes, tTup, tLst, tCall, tMeth, tFld, tSl, tPart, tNoPart, tM1, tBM, gName, gNil, gCons, gTup, gUnl, gSub, iAny, iRng1, iKeys, iVals,
  rEqQ, rInA, rAddA, rSubA, rMulA, rModA, rFdivA, rLtA, rLeA, rGtA, rGeA, rIaddA, rIxA, Lk.rSlA, rSetK, scal, List.getElem?_cons_zero, List.getElem?_cons_succ, List.set_cons_zero, List.set_cons_succ, Option.some.injEq, V.str.injEq, V.bl.injEq, V.int.injEq, V.ref.injEq, exists_eq_left', exists_eq_left, true_and, and_true, reduceCtorEq, false_and, and_false, exists_false, or_false, false_or, if_true, if_false, List.cons_append, List.nil_append, Bool.true_xor, Bool.false_xor, Bool.not_eq_true', wipe, List.map_cons, List.map_nil, S_eq, S_cat, S_len, lit1, lit3, lit5, lit6, lit7, lit8, lit9, lit10, lit11, lit12, lit13, lit14, lit15, lit16, lit17, lit18, lit19, lit20, lit21, lit23, lit24, lit26, lit27, lit28, lit29, lit30, lit31, lit32, lit33, lit34, lit35, lit36, lit37, lit38, lit39, lit40, lit41, lit42, lit101, lit102, lit103, lit104, lit105, lit106, lit107, lit108, lit109, lit110, lit111, lit112, lit113, lit114, lit115])
abbrev tooDeep (K : PySem.W.Frag) : Value := .ref (He.ga K "TooDeep")
def isPlain : T → Bool
  | .tup _ => false
  | .lst _ => false
  | .dic _ _ => false
  | _ => true
def spPlain : Sp := fun vs H Q E => ∃ t v, vs = [v] ∧ isPlain t = true ∧ Rep t v H ∧ Ok t ∧ (spelt t).length ≤ 1000000 ∧ ∀ H', Same H H' → Q (.str (S (spelt t))) H'
def spThings (K : PySem.W.Frag) (n : Nat) : Sp := fun vs H Q E => ∃ l a xs d, vs = [.ref a, .int d] ∧ (Rd H a (.lst xs) ∨ Rd H a (.tup xs)) ∧ RepL l xs H ∧ OkL l ∧ l.length ≤ 1000000 ∧ (joinB (spelts l)).length ≤ 1000000 ∧ d < (n : Int) ∧ 0 ≤ d ∧
  ((depL l : Int) ≤ d → ∀ H', Same H H' → Q (.str (S (joinB (spelts l)))) H') ∧ (d < depL l → ∀ H', Same H H' → E (tooDeep K) none H')
def spText (K : PySem.W.Frag) (n : Nat) : Sp := fun vs H Q E => ∃ t v d, vs = [v, .int d] ∧ Rep t v H ∧ Ok t ∧ (spelt t).length ≤ 1000000 ∧ d < (n : Int) ∧ 0 ≤ d ∧
  ((dep t : Int) ≤ d → ∀ H', Same H H' → Q (.str (S (spelt t))) H') ∧ (d < dep t → ∀ H', Same H H' → E (tooDeep K) none H')
section
variable {P : Program} {w : World} {K : PySem.W.Frag} {mg : Str → Option Value} {base : Heap} {f : Addr} {fd : FuncData}
theorem word_ge (l : List Nat) : l.length ≤ (wordT l).length := by
  have : ∀ m : List Nat, m.length ≤ (m.flatMap escT).length := by
    intro m
    induction m with
    | nil => simp
    | cons c m ih =>
      have : 1 ≤ (escT c).length := by
        unfold escT
        split
        · simp
        · split <;> simp
      rw [List.flatMap_cons, List.length_append, List.length_cons]
      omega
  have h := this l
  unfold wordT
  split
  · omega
  · rw [List.length_cons, List.length_append]
    omega
theorem Rep.le' {H H' : Hp} {t : T} {v : V} (r : Rep t v H) (s : Same H H') : Rep t v H' := Rep.le s.le t v r
theorem isB {x : V} {c t : String} {H : Hp} {Q : VK} (hc : c ∈ classes) (h : tagV H x = some t) (q : Q (.bl (isSub t c)) H) : rIsB [x, .ty c] H Q := ⟨hc, t, h, q⟩
theorem isT {x : V} {c t : String} {H : Hp} {Q : VK} (h : tagV H x = some t) (e : isSub t c = true) (q : Q (.bl true) H) (hc : c ∈ classes := by decide) : rIsB [x, .ty c] H Q := isB hc h (by rw [e]; exact q)
theorem isF {x : V} {c t : String} {H : Hp} {Q : VK} (h : tagV H x = some t) (e : isSub t c = false) (q : Q (.bl false) H) (hc : c ∈ classes := by decide) : rIsB [x, .ty c] H Q := isB hc h (by rw [e]; exact q)
theorem ok_plain_text (T : Tx K w mg) (c_word_text : Fn P w K mg base 4 "word_text" [] spWord)
    (F : FunD K "plain_text" "plain_text" (defArgs s_plain_text) (defBody s_plain_text) (defScope s_plain_text) [] [] f fd) : FnOk P w K mg base (L2.CX P w) 5 f fd ["thing"] spPlain := by
  refine F.ok sc_plain_text (fun vs H Q E h => by obtain ⟨t, v, rfl, _⟩ := h; rfl) (fun cdv A outer s H vs Q E hr h => ?_)
  have nd := (sc_plain_text).nd
  refine ⟨_, (pss_cons
  (ps_if (pt_val (pe_callB call_isB (by rfl) T.b_isinstance Lk.boot_isinstance (pa_cons (pv 0) (pa_cons (pe_bty T.b_str Lk.boot_str) pa_nil))))
   (pss_one
    (ps_ret (pe_fn c_word_text (hr.mono (by omega)) pass_def (pa_cons (pv 0) pa_nil))))
   pss_nil)
  (pss_cons
  (ps_if (PW.pt (pw_and (pt_val (pe_callB call_isB (by rfl) T.b_isinstance Lk.boot_isinstance (pa_cons (pv 0) (pa_cons (pe_bty T.b_int Lk.boot_int) pa_nil)))) (pw_and1 (pt_not (pt_val (pe_callB call_isB (by rfl) T.b_isinstance Lk.boot_isinstance (pa_cons (pv 0) (pa_cons (pe_bty T.b_bool Lk.boot_bool) pa_nil))))))))
   (pss_one
    (ps_ret (pe_callTy call_strA (by rfl) T.b_str Lk.boot_str (pa_cons (pv 0) pa_nil))))
   pss_nil)
  (pss_cons
  (ps_if (pt_cmp (pc_isN (pv 0)))
   (pss_one
    (ps_ret pe_str))
   pss_nil)
  (pss_one
  (ps_ret (pe_ifExp (pt_val (pv 0)) pe_str pe_str)))))), ?_⟩
  obtain ⟨t, v, rfl, hp, hrep, hok, hl, q⟩ := h
  rw [show L2.start N_plain_text [v] = [some v] from rfl]
  have ht := rep_tag hrep
  walk_at "r"
  cases t with
  | str x =>
    rw [Rep] at hrep
    subst hrep
    refine isT ht rfl ⟨_, rfl, ?_⟩
    rw [if_pos rfl]
    exact ⟨x, rfl, Nat.le_trans (word_ge x) hl, fun H' s => q H' s⟩
  | int i =>
    rw [Rep] at hrep
    subst hrep
    rw [Ok] at hok
    refine isF ht rfl ⟨_, rfl, ?_⟩
    rw [if_neg Bool.false_ne_true]
    refine isT ht rfl ⟨_, rfl, ?_⟩
    rw [if_pos rfl]
    refine isF ht rfl ⟨_, rfl, ?_⟩
    rw [if_pos rfl]
    exact ⟨log2_ok hok, by rw [int_text]; exact q H Same.rfl'⟩
  | non =>
    rw [Rep] at hrep
    subst hrep
    refine isF ht rfl ⟨_, rfl, ?_⟩
    rw [if_neg Bool.false_ne_true]
    refine isF ht rfl ⟨_, rfl, ?_⟩
    rw [if_neg Bool.false_ne_true, if_pos (by decide)]
    exact q H Same.rfl'
  | bl b =>
    rw [Rep] at hrep
    subst hrep
    refine isF ht rfl ⟨_, rfl, ?_⟩
    rw [if_neg Bool.false_ne_true]
    refine isT ht rfl ⟨_, rfl, ?_⟩
    rw [if_pos rfl]
    refine isT ht rfl ⟨_, rfl, ?_⟩
    rw [if_neg (fun z => nomatch z), if_neg (by simp)]
    refine ⟨b, rfl, ?_⟩
    have z := q H Same.rfl'
    cases b with
    | true => exact z
    | false => exact z
  | _ => cases hp
theorem fn_none {k : Nat} {ps : List Str} {sp : Sp} (h : ∀ vs H Q E, ¬ sp vs H Q E) : FnOk P w K mg base (L2.CX P w) k f fd ps sp :=
  ⟨fun vs H Q E z => (h vs H Q E z).elim, fun _ _ _ _ _ _ _ _ _ _ _ _ _ z => (h _ _ _ _ z).elim⟩
theorem ok_things_text (T : Tx K w mg) (n : Nat) (c_text_of : Fn P w K mg base (2 * n + 6) "text_of" [] (spText K n))
    (F : FunD K "things_text" "things_text" (defArgs s_things_text) (defBody s_things_text) (defScope s_things_text) [] [] f fd) : FnOk P w K mg base (L2.CX P w) (2 * n + 7) f fd ["things", "deep"] (spThings K n) := by
  refine F.ok sc_things_text (fun vs H Q E h => by obtain ⟨l, a, xs, d, rfl, _⟩ := h; rfl) (fun cdv A outer s H vs Q E hr h => ?_)
  have nd := (sc_things_text).nd
  refine ⟨_, (pss_one
  (ps_ret (pe_join pe_str (pe_lcX (own := [("thing", 2)]) (g := gName 2) (tt := tYes) tk0 rfl rfl rfl nd (blkOk_by (own := [("thing", 2)]) (N := N_things_text) (sc := defScope s_things_text) (by decide +kernel)) (pi_any (pv 0)) (fun _ _ _ _ _ _ => (pg_name (i := 2) nd rfl (Or.inl rfl))) (fun _ _ _ _ _ _ px => pts_nil) (fun _ _ _ _ _ _ px => (pe_fn c_text_of (hr.mono (by omega)) px (pa_cons (pv 2) (pa_cons (pv 1) pa_nil)))))))), ?_⟩
  obtain ⟨l, a, xs, d, rfl, hrd, hrep, hok, h60, hl, hdep, hd0, q, qe⟩ := h
  rw [show L2.start N_things_text [V.ref a, V.int d] = [some (.ref a), some (.int d), none] from rfl]
  walk_at "r"
  refine ⟨⟨_, rfl⟩, ?_⟩
  have hlen : xs.length = l.length := hrep.len
  have core : ∀ (D : Addr), H D = none → ∀ (i : Nat) (x : V) (Hi H' : Hp), i < xs.length → (∀ j t, j < i → l[j]? = some t → (dep t : Int) ≤ d) → Same H Hi → Hi D = some (.lst ((l.take i).map fun t => V.str (S (spelt t)))) → YAt xs i Hi x H' →
      spText K n [x, V.int d] H' (fun y H4 => ∃ acc, H4 D = some (.lst acc) ∧ acc.length < sizeLine ∧ ((Same H (upd H4 D (.lst (acc ++ [y]))) ∧ upd H4 D (.lst (acc ++ [y])) D = some (.lst ((l.take (i + 1)).map fun t => V.str (S (spelt t))))) ∧ (∀ j t, j < i + 1 → l[j]? = some t → (dep t : Int) ≤ d))) E := by
    rintro D nD i x Hi H' hi R sm hD ⟨rfl, hx⟩
    obtain ⟨t, ht⟩ : ∃ t, l[i]? = some t := ⟨l[i]'(by omega), by simp⟩
    obtain ⟨v, hv, hr⟩ := hrep.get ht
    rw [hx] at hv
    cases hv
    have hm := List.mem_of_getElem? ht
    have hdm := dep_mem hm
    have hsp : (spelt t).length ≤ 1000000 := Nat.le_trans (joinB_mem (by rw [spelts_map]; exact List.mem_map_of_mem hm)) hl
    refine ⟨t, x, d, rfl, hr.le' sm, okL_mem hok hm, hsp, by omega, hd0, fun hle H2 s2 => ?_, fun hlt H2 s2 => qe (by omega) H2 (sm.trans s2)⟩
    refine acc_putR (sm.trans s2) nD (s2 _ _ hD) ?_ (take_map ht) fun j u hj hu => ?_
    · rw [List.length_map, List.length_take, sizeLine_eq]
      omega
    · by_cases e : j = i
      · subst e
        rw [ht] at hu
        cases hu
        exact hle
      · exact R j u (by omega) hu
  have fin : ∀ (D : Addr), H D = none → ∀ H', (∀ j t, j < xs.length → l[j]? = some t → (dep t : Int) ≤ d) → Same H H' → H' D = some (.lst ((l.take xs.length).map fun t => V.str (S (spelt t)))) → 0 ≤ d →
      ∃ a p ys, S [32] = a ∧ [V.ref D] = [V.ref p] ∧ (SqL K H' p (List.map V.str ys) ∨ SqT K H' p (List.map V.str ys)) ∧ (List.map (fun x => x.length) ys).sum + ys.length * a.length ≤ 16777216 ∧ Q (V.str (Txt.join a ys)) H' := by
    intro D nD H' R sm hD h0
    rw [take_all hlen] at hD
    refine ⟨_, D, (spelts l).map S, rfl, rfl, .inl (.of (by rw [hD, spelts_map, List.map_map, List.map_map]; rfl)), ?_, ?_⟩
    · rw [lens, List.length_map, S_len, spelts_map, List.length_map]
      have : (List.map (fun x => x.length) (List.map spelt l)).sum ≤ _ := joinB_sum (l.map spelt)
      rw [spelts_map] at hl
      simp only [List.length_cons, List.length_nil]
      omega
    · rw [join_S]
      refine q (depL_leI (fun _ => h0) fun t ht => ?_) H' sm
      obtain ⟨j, hj⟩ := List.getElem?_of_mem ht
      exact R j t (by
        have := (List.getElem?_eq_some_iff.mp hj).1
        omega) hj
  by_cases h0 : 0 ≤ d
  · rcases hrd with hrd | hrd
    · exact .inl ⟨xs, rd_l hrd, fun D nD => lc_accR walk_list (xs := fun i => (l.take i).map fun t => V.str (S (spelt t))) (R := fun i => ∀ j t, j < i → l[j]? = some t → (dep t : Int) ≤ d) nD rfl (fun j t hj => absurd hj (Nat.not_lt_zero _))
        (fun H' s => rd_l (s.rd hrd)) (core D nD) fun H' R sm hD => fin D nD H' R sm hD h0⟩
    · exact .inr ⟨xs, rd_t hrd, fun D nD => lc_accR walk_tup (xs := fun i => (l.take i).map fun t => V.str (S (spelt t))) (R := fun i => ∀ j t, j < i → l[j]? = some t → (dep t : Int) ≤ d) nD rfl (fun j t hj => absurd hj (Nat.not_lt_zero _))
        (fun H' s => rd_t (s.rd hrd)) (core D nD) fun H' R sm hD => fin D nD H' R sm hD h0⟩
  · exact absurd hd0 h0
theorem ok_text_of (T : Tx K w mg) (n : Nat) (c_plain_text : Fn P w K mg base 5 "plain_text" [] spPlain) (c_word_text : Fn P w K mg base 4 "word_text" [] spWord) (c_text_of : Fn P w K mg base (2 * n + 6) "text_of" [] (spText K n)) (c_things_text : Fn P w K mg base (2 * n + 7) "things_text" [] (spThings K n))
    (F : FunD K "text_of" "text_of" (defArgs s_text_of) (defBody s_text_of) (defScope s_text_of) [] [] f fd) : FnOk P w K mg base (L2.CX P w) (2 * n + 8) f fd ["thing", "deep"] (spText K (n + 1)) := by
  refine F.ok sc_text_of (fun vs H Q E h => by obtain ⟨l, v, d, rfl, _⟩ := h; rfl) (fun cdv A outer s H vs Q E hr h => ?_)
  have nd := (sc_text_of).nd
  refine ⟨_, (pss_cons
  (ps_if (pt_not (pt_val (pe_callB call_isBT (by rfl) T.b_isinstance Lk.boot_isinstance (pa_cons (pv 0) (pa_cons (pe_tup (pa_cons (pe_bty T.b_tuple Lk.boot_tuple) (pa_cons (pe_bty T.b_list Lk.boot_list) (pa_cons (pe_bty T.b_dict Lk.boot_dict) pa_nil)))) pa_nil)))))
   (pss_one
    (ps_ret (pe_fn c_plain_text (hr.mono (by omega)) pass_def (pa_cons (pv 0) pa_nil))))
   pss_nil)
  (pss_cons
  (ps_if (pt_cmpR (op_ltA) (pv 1) pe_int rfl)
   (pss_one
    (ps_raise rfl tk0 (pmk_own PySem.F.excBase_ValueError T.x_TooDeep T.g_TooDeep T.k_TooDeep (raises_own T.s_TooDeep T.t_TooDeep) rfl)))
   pss_nil)
  (pss_cons
  (ps_if (pt_val (pe_callB call_isB (by rfl) T.b_isinstance Lk.boot_isinstance (pa_cons (pv 0) (pa_cons (pe_bty T.b_tuple Lk.boot_tuple) pa_nil))))
   (pss_one
    (ps_ret (pe_op op_addA (pe_op op_addA pe_str (pe_fn c_things_text (hr.mono (by omega)) pass_def (pa_cons (pv 0) (pa_cons (pe_op op_subA (pv 1) pe_int) pa_nil)))) pe_str)))
   pss_nil)
  (pss_cons
  (ps_if (pt_val (pe_callB call_isB (by rfl) T.b_isinstance Lk.boot_isinstance (pa_cons (pv 0) (pa_cons (pe_bty T.b_list Lk.boot_list) pa_nil))))
   (pss_one
    (ps_ret (pe_op op_addA (pe_op op_addA pe_str (pe_fn c_things_text (hr.mono (by omega)) pass_def (pa_cons (pv 0) (pa_cons (pe_op op_subA (pv 1) pe_int) pa_nil)))) pe_str)))
   pss_nil)
  (pss_one
  (ps_ret (pe_op op_addA (pe_op op_addA pe_str (pe_join pe_str (pe_lcX (own := [("key", 2)]) (g := gName 2) (tt := tYes) tk0 rfl rfl rfl nd (blkOk_by (own := [("key", 2)]) (N := N_text_of) (sc := defScope s_text_of) (by decide +kernel)) (pi_any (pe_callB (call_sortL rfl) (by rfl) T.b_sorted Lk.boot_sorted (pa_cons (pv 0) pa_nil))) (fun _ _ _ _ _ _ => (pg_name (i := 2) nd rfl (Or.inl rfl))) (fun _ _ _ _ _ _ px => pts_nil) (fun _ _ _ _ _ _ px => (pe_op op_addA (pe_op op_addA (pe_fn c_word_text (hr.mono (by omega)) px (pa_cons (pv 2) pa_nil)) pe_str) (pe_fn c_text_of (hr.mono (by omega)) px (pa_cons (pe_ix (k_ix K w rfl rfl) (pv 0) (pv 2) (fun _ _ => rfl)) (pa_cons (pe_op op_subA (pv 1) pe_int) pa_nil)))))))) pe_str))))))), ?_⟩
  obtain ⟨t, v, d, rfl, hrep, hok, hl, hdep, hd0, q, qe⟩ := h
  rw [show L2.start N_text_of [v, V.int d] = [some v, some (.int d), none] from rfl]
  have ht := rep_tag hrep
  walk_at "r"
  refine ⟨by show 3 ≤ sizeLine; decide, fun p np => ?_⟩
  have s0 := Same.new (o := HO.tup [V.ty "tuple", V.ty "list", V.ty "dict"]) np
  have hrep1 := hrep.le' s0
  have ht1 := rep_tag hrep1
  refine ⟨["tuple", "list", "dict"], upd_same, by decide, _, ht1, _, rfl, ?_⟩
  rw [any_tag]
  have plain : isPlain t = true → dep t = 0 → spPlain [v] (upd H p (HO.tup [V.ty "tuple", V.ty "list", V.ty "dict"])) Q E := fun hp hd =>
    ⟨t, v, rfl, hp, hrep1, hok, hl, fun H' s => q (by omega) H' (s0.trans s)⟩
  cases t with
  | non => exact plain rfl rfl
  | bl b => exact plain rfl rfl
  | int i => exact plain rfl rfl
  | str x => exact plain rfl rfl
  | tup l =>
    show if decide (d < 1) = true then _ else _
    rw [dep] at q qe
    rw [spelt] at hl q
    rw [Ok] at hok
    rw [Rep] at hrep1
    obtain ⟨a, vs, rfl, hrd, hvs⟩ := hrep1
    by_cases h1 : d < 1
    · rw [if_pos (decide_eq_true h1)]
      exact qe (by omega) _ s0
    rw [if_neg (by simp [h1])]
    refine isT ht1 rfl ⟨_, rfl, ?_⟩
    rw [if_pos rfl]
    rw [List.length_cons, List.length_append, List.length_singleton] at hl
    refine ⟨l, a, vs, d - 1, rfl, .inr hrd, hvs, hok.1, hok.2, by omega, by omega, by omega, fun hle H2 s2 => ?_, fun hlt H2 s2 => qe (by omega) H2 (s0.trans s2)⟩
    exact wrap3 (a := [40]) (c := [41]) (by simp only [List.length_cons, List.length_nil]; omega) (by
      have z := q (by omega) H2 (s0.trans s2)
      simpa using z)
  | lst l =>
    show if decide (d < 1) = true then _ else _
    rw [dep] at q qe
    rw [spelt] at hl q
    rw [Ok] at hok
    rw [Rep] at hrep1
    obtain ⟨a, vs, rfl, hrd, hvs⟩ := hrep1
    by_cases h1 : d < 1
    · rw [if_pos (decide_eq_true h1)]
      exact qe (by omega) _ s0
    rw [if_neg (by simp [h1])]
    refine isF ht1 rfl ⟨_, rfl, ?_⟩
    rw [if_neg Bool.false_ne_true]
    refine isT ht1 rfl ⟨_, rfl, ?_⟩
    rw [if_pos rfl]
    rw [List.length_cons, List.length_append, List.length_singleton] at hl
    refine ⟨l, a, vs, d - 1, rfl, .inl hrd, hvs, hok.1, hok.2, by omega, by omega, by omega, fun hle H2 s2 => ?_, fun hlt H2 s2 => qe (by omega) H2 (s0.trans s2)⟩
    exact wrap3 (a := [91]) (c := [93]) (by simp only [List.length_cons, List.length_nil]; omega) (by
      have z := q (by omega) H2 (s0.trans s2)
      simpa using z)
  | dic ks l =>
    show if decide (d < 1) = true then _ else _
    rw [dep] at q qe
    rw [spelt] at hl q
    rw [Ok] at hok
    rw [Rep] at hrep1
    obtain ⟨a, kvs, vs, rfl, hrd, hperm, hkl, hval, hvs⟩ := hrep1
    by_cases h1 : d < 1
    · rw [if_pos (decide_eq_true h1)]
      exact qe (by omega) _ s0
    rw [if_neg (by simp [h1])]
    refine isF ht1 rfl ⟨_, rfl, ?_⟩
    rw [if_neg Bool.false_ne_true]
    refine isF ht1 rfl ⟨_, rfl, ?_⟩
    rw [if_neg Bool.false_ne_true]
    rw [List.length_cons, List.length_append, List.length_singleton] at hl
    obtain ⟨hk1, hk2⟩ := keys_inv hperm
    refine ⟨⟨_, rfl⟩, kvs, (kvs.map (·.1)).map keyS, hrd, hk1, fun ys p2 hys hso np2 => ?_⟩
    have eys := sorted_eq (hys.trans hk2) hso hok.2.2.2
    subst eys
    have hvl : vs.length = l.length := hvs.len
    refine .inl ⟨_, .of upd_same, fun D nD => ?_⟩
    have s1 := s0.trans (Same.new (o := HO.lst ((ks.map S).map V.str)) np2)
    have hs1 : ∀ H', Same (upd (upd H p (HO.tup [V.ty "tuple", V.ty "list", V.ty "dict"])) p2 (HO.lst ((ks.map S).map V.str))) H' → Same H H' := fun H' s => s1.trans s
    refine lc_accR walk_list (xs := fun i => ((pairsT ks (spelts l)).take i).map fun x => V.str (S x)) (R := fun i => ∀ j t, j < i → l[j]? = some t → (dep t : Int) ≤ d - 1) nD rfl (fun j t hj => absurd hj (Nat.not_lt_zero _)) (fun H' s => .of (s _ _ upd_same)) ?_ ?_
    · rintro i x Hi H' hi R sm hD ⟨rfl, hx⟩
      have hi' : i < l.length := by simpa [hkl] using hi
      obtain ⟨t, ht⟩ : ∃ t, l[i]? = some t := ⟨l[i]'(by omega), by simp⟩
      obtain ⟨k, hk⟩ : ∃ k, ks[i]? = some k := ⟨ks[i]'(by omega), by simp⟩
      obtain ⟨v, hv, hr⟩ := hvs.get ht
      have ex : x = V.str (S k) := by
        rw [List.getElem?_map, List.getElem?_map, hk] at hx
        simpa using hx.symm
      subst ex
      have hm := List.mem_of_getElem? ht
      have hdm := dep_mem hm
      have hpa := pairs_at (ss := spelts l) (s := spelt t) hk (by rw [spelts_map, List.getElem?_map, ht]; rfl)
      have hpl := Nat.le_trans (joinB_mem (List.mem_of_getElem? hpa)) (show _ ≤ 1000000 by omega)
      rw [List.length_append, List.length_cons] at hpl
      have hwg := word_ge k
      refine ⟨k, rfl, by omega, fun H2 s2 => ?_⟩
      have e16 := sizeLine_eq
      have sA := sm.trans s2
      have sH := hs1 _ sA
      refine ⟨by rw [S_len, S_len]; simp only [List.length_cons, List.length_nil]; omega, ?_⟩
      refine .inr ⟨kvs, v, ((Same.new np2).trans sA).rd hrd, hval _ (zip_at hk hv), ?_⟩
      refine ⟨t, v, d - 1, rfl, (hr.le' (Same.new np2)).le' sA, okL_mem hok.1 hm, by omega, by omega, by omega, fun hle H3 s3 => ?_, fun hlt H3 s3 => qe (by omega) H3 (sH.trans s3)⟩
      rw [S_cat]
      refine ⟨by rw [S_len, S_len, List.length_append]; simp only [List.length_cons, List.length_nil]; omega, ?_⟩
      rw [S_cat]
      refine acc_putR (sA.trans s3) nD (s3 _ _ (s2 _ _ hD)) ?_ ?_ fun j u hj hu => ?_
      · rw [List.length_map, List.length_take]
        omega
      · rw [take_map hpa]
        simp
      · by_cases e : j = i
        · subst e
          rw [ht] at hu
          cases hu
          exact hle
        · exact R j u (by omega) hu
    · intro H' R sm hD
      have hpl : (pairsT ks (spelts l)).length = l.length := by
        unfold pairsT
        rw [List.length_zipWith, spelts_map, List.length_map, hkl, Nat.min_self]
      have hn : ((ks.map S).map V.str).length = (pairsT ks (spelts l)).length := by rw [List.length_map, List.length_map, hpl, hkl]
      rw [hn, List.take_length] at hD
      have hj := joinB_sum (pairsT ks (spelts l))
      have h60 := hok.2.1
      refine ⟨_, D, (pairsT ks (spelts l)).map S, rfl, rfl, .inl (.of (by rw [hD, List.map_map]; rfl)), ?_, ?_⟩
      · rw [lens, List.length_map, S_len, hpl]
        have : (List.map (fun x => x.length) (pairsT ks (spelts l))).sum ≤ _ := hj
        simp only [List.length_cons, List.length_nil]
        omega
      · rw [join_S]
        have e16 := sizeLine_eq
        have hdd : (depL l : Int) ≤ d - 1 := depL_leI (fun _ => by omega) fun t ht => by
          obtain ⟨j, hj⟩ := List.getElem?_of_mem ht
          have hjl := (List.getElem?_eq_some_iff.mp hj).1
          exact R j t (by rw [hn, hpl]; exact hjl) hj
        show [123].length + (S (joinB (pairsT ks (spelts l)))).length ≤ sizeLine ∧ (S [123] ++ S (joinB (pairsT ks (spelts l)))).length + [125].length ≤ sizeLine ∧ Q (V.str (S [123] ++ S (joinB (pairsT ks (spelts l))) ++ S [125])) H'
        rw [S_cat, S_cat, S_len, S_len, List.length_append]
        refine ⟨by simp only [List.length_cons, List.length_nil]; omega, by simp only [List.length_cons, List.length_nil]; omega, ?_⟩
        have z := q (by omega) H' (hs1 _ sm)
        simpa using z
end
end K97

set_option Elab.async false
set_option linter.all false
set_option maxRecDepth 100000
set_option maxHeartbeats 4000000
/-! The reader in plain Lean: what is read of W from i on, and where it ends or breaks. -/
namespace K97
open PySem PySem.Spec PyProof.Rows L2 Lk SX
inductive R (α : Type) where
  | ok (x : α) (i : Nat) | err (i : Nat) | stuck
def R.map {α β : Type} (f : α → β) : R α → R β
  | .ok x i => .ok (f x) i
  | .err i => .err i
  | .stuck => .stuck
def digits (W : List Nat) (i : Nat) : List Nat := (W.drop i).takeWhile fig
def word (W : List Nat) (i : Nat) : List Nat := (W.drop i).takeWhile small
def pNat (W : List Nat) (b : Bool) (j : Nat) : R Int :=
  if b = false ∧ W[j]? = some 48 then .ok 0 (j + 1) else
  if (match W[j]? with | some c => decide (49 ≤ c) && decide (c ≤ 57) | none => false) = true then
    if (digits W j).length ≤ 640 then .ok (if b then 0 - ((NumText.digitsVal (digits W j) : Nat) : Int) else ((NumText.digitsVal (digits W j) : Nat) : Int)) (j + (digits W j).length) else .stuck
  else .err j
def pNum (W : List Nat) (i : Nat) : R Int := if W[i]? = some 45 then pNat W true (i + 1) else pNat W false i
def qLoop (W : List Nat) : Nat → Nat → List Nat → R (List Nat)
  | 0, _, _ => .stuck
  | n + 1, i, acc => match W[i]? with
    | none => .err i
    | some c => if c = 39 then .ok acc (i + 1) else if c = 10 then .err i else
      if c = 94 then (match W[i + 1]? with
        | none => .err (i + 1)
        | some e => if e = 110 then qLoop W n (i + 2) (acc ++ [10]) else if e = 39 ∨ e = 94 then qLoop W n (i + 2) (acc ++ [e]) else .err (i + 1))
      else qLoop W n (i + 1) (acc ++ [c])
def pQuo (W : List Nat) (i : Nat) : R (List Nat) := match qLoop W (W.length + 1) (i + 1) [] with
  | .ok l j => if bareT l = true then .err i else .ok l j
  | .err j => .err j
  | .stuck => .stuck
def pRaw (W : List Nat) (i : Nat) : R (List Nat) := if W[i]? = some 39 then pQuo W i else .ok (word W i) (i + (word W i).length)
def late (ahead : Option (List Nat)) (l : List Nat) : Bool := match ahead with
  | none => false
  | some a => !decide (a < l)
def pKey (W : List Nat) (i : Nat) (ahead : Option (List Nat)) : R (List Nat) := match pRaw W i with
  | .ok l j => if late ahead l = true then .err i else if W[i]? = some 39 ∨ bareT l = true then .ok l j else .err j
  | .err j => .err j
  | .stuck => .stuck
def keptT (l : List Nat) : T := if l = wNone then .non else if l = wYes then .bl true else if l = wNo then .bl false else .str l
def pThings (W : List Nat) (f : Nat → R T) (e : Nat) : Nat → Nat → List T → R (List T)
  | 0, _, _ => .stuck
  | n + 1, i, acc => if W[i]? = some e then .ok acc (i + 1) else
    if acc ≠ [] ∧ W[i]? ≠ some 32 then .err i else
    match f (if acc = [] then i else i + 1) with
    | .ok t k => pThings W f e n k (acc ++ [t])
    | .err k => .err k
    | .stuck => .stuck
def pPairs (W : List Nat) (f : Nat → R T) : Nat → Nat → List (List Nat) → List T → R T
  | 0, _, _, _ => .stuck
  | n + 1, i, ks, ts => if W[i]? = some 125 then .ok (.dic ks ts) (i + 1) else
    if ks ≠ [] ∧ W[i]? ≠ some 32 then .err i else
    match pKey W (if ks = [] then i else i + 1) ks.getLast? with
    | .err k => .err k
    | .stuck => .stuck
    | .ok key k => if W[k]? ≠ some 32 then .err k else match f (k + 1) with
      | .ok t m => pPairs W f n m (ks ++ [key]) (ts ++ [t])
      | .err m => .err m
      | .stuck => .stuck
def pStep (W : List Nat) (sub : Option (Nat → R T)) (i : Nat) : R T := match W[i]? with
  | none => .err i
  | some c => if c = 39 then (pQuo W i).map .str else
    if small c = true then .ok (keptT (word W i)) (i + (word W i).length) else
    if c = 40 ∨ c = 91 ∨ c = 123 then (match sub with
      | none => .err i
      | some f => if c = 123 then pPairs W f (W.length + 1) (i + 1) [] [] else
        if c = 40 then (pThings W f 41 (W.length + 1) (i + 1) []).map .tup else (pThings W f 93 (W.length + 1) (i + 1) []).map .lst)
    else (pNum W i).map .int
def pThing (W : List Nat) : Nat → Nat → R T
  | 0 => pStep W none
  | d + 1 => pStep W (some (pThing W d))
/-- the whole text -/
def pPaper (W : List Nat) (d : Nat) : R T := match pThing W d 0 with
  | .ok t j => if W[j]? = none then .ok t j else .err j
  | .err j => .err j
  | .stuck => .stuck
theorem pKey_late {W : List Nat} {i j : Nat} {ahead : Option (List Nat)} {l : List Nat} (h : pKey W i ahead = .ok l j) : late ahead l = false := by
  unfold pKey at h
  cases hr : pRaw W i with
  | stuck => rw [hr] at h; cases h
  | err k => rw [hr] at h; cases h
  | ok l' k =>
    rw [hr] at h
    simp only at h
    by_cases hl : late ahead l' = true
    · rw [if_pos hl] at h; cases h
    · rw [if_neg hl] at h
      by_cases h2 : W[i]? = some 39 ∨ bareT l' = true
      · rw [if_pos h2] at h
        cases h
        simpa using hl
      · rw [if_neg h2] at h; cases h
theorem late_lt {a l : List Nat} (h : late (some a) l = false) : a < l := by
  unfold late at h
  simpa using h
theorem last_all {ks : List (List Nat)} {key : List Nat} (hp : ks.Pairwise (· < ·)) (h : late ks.getLast? key = false) : ∀ k ∈ ks, k < key := by
  intro k hk
  cases e : ks.getLast? with
  | none =>
    rw [List.getLast?_eq_none_iff] at e
    subst e
    cases hk
  | some a =>
    rw [e] at h
    have ha := late_lt h
    obtain ⟨ys, rfl⟩ := List.getLast?_eq_some_iff.mp e
    rcases List.mem_append.mp hk with hk | hk
    · exact List.lt_trans ((List.pairwise_append.mp hp).2.2 k hk a (List.mem_singleton.mpr rfl)) ha
    · rw [List.mem_singleton.mp hk]
      exact ha
def zipK (ks : List (List Nat)) (vs : List V) : List (Key × V) := List.zipWith (fun k v => (Sum.inr (S k), v)) ks vs
theorem zipK_keys : ∀ {ks : List (List Nat)} {vs : List V}, ks.length = vs.length → (zipK ks vs).map (·.1) = ks.map fun k => Sum.inr (S k)
  | [], [], _ => rfl
  | k :: ks, v :: vs, h => by
    have := zipK_keys (ks := ks) (vs := vs) (by simpa using h)
    show (Sum.inr (S k) : Key) :: (zipK ks vs).map (·.1) = _
    rw [this]
    rfl
theorem zipK_len {ks : List (List Nat)} {vs : List V} (h : ks.length = vs.length) : (zipK ks vs).length = ks.length := by
  unfold zipK
  rw [List.length_zipWith, ← h, Nat.min_self]
theorem zipK_val : ∀ {ks : List (List Nat)} {vs : List V}, ks.Pairwise (· < ·) → ∀ p ∈ ks.zip vs, valV (zipK ks vs) (Sum.inr (S p.1)) = some p.2
  | [], _, _, p, hp => by cases hp
  | _ :: _, [], _, p, hp => by cases hp
  | k :: ks, v :: vs, h, p, hp => by
    rw [List.zip_cons_cons] at hp
    show valV ((Sum.inr (S k), v) :: zipK ks vs) _ = _
    rcases List.mem_cons.mp hp with rfl | hp
    · exact valV_pos rfl
    · have hk := (List.pairwise_cons.mp h).1 p.1 (List.of_mem_zip hp).1
      rw [valV_neg (fun z => ?_)]
      · exact zipK_val (List.pairwise_cons.mp h).2 p hp
      · have e : k = p.1 := S_inj (Sum.inr.inj z)
        rw [e] at hk
        exact absurd hk (List.lt_irrefl _)
theorem zipK_put {ks : List (List Nat)} {vs : List V} {key : List Nat} {v : V} (hl : ks.length = vs.length) (h : ∀ k ∈ ks, k < key) : putK (zipK ks vs) (Sum.inr (S key)) v = zipK (ks ++ [key]) (vs ++ [v]) := by
  unfold putK
  have hany : ((zipK ks vs).any fun kv => decide (kv.1 = Sum.inr (S key))) = false := by
    rw [List.any_eq_false]
    intro kv hkv z
    have hm : kv.1 ∈ (zipK ks vs).map (·.1) := List.mem_map_of_mem hkv
    rw [zipK_keys hl] at hm
    obtain ⟨k, hk, e⟩ := List.mem_map.mp hm
    have z2 := of_decide_eq_true z
    rw [← e] at z2
    have e2 : k = key := S_inj (Sum.inr.inj z2)
    have := h k hk
    rw [e2] at this
    exact List.lt_irrefl _ this
  rw [hany, if_neg Bool.false_ne_true]
  unfold zipK
  rw [List.zipWith_append hl]
  rfl
end K97

set_option Elab.async false
set_option linter.all false
set_option maxRecDepth 100000
set_option maxHeartbeats 4000000
/-! The reader's small methods. -/
namespace K97
open PySem PySem.Spec PyProof.Rows L2 Lk SX
local macro_rules | `(tactic| walk_at "r") => `(tactic| simp only [tSeq, tNext, tRet, tRetN, tIfS, tDrop, tAsg, tAug, tFor, tWhile, tAndV, tOrV, tNotV, tAnd, tOr, tNot, tB, tTest, tIf, tIsN, tNotN, tOp, tVar, tC, tCB, CwR.tReplC, tPar, tCons, tNil, tLc, tYes, tTup, tLst, tCall, tMeth, tFld, tSl, tPart, tNoPart, tM1, tBM, tVeI, tOst, sFld, sFldAug, tMkO, tMake, tTGet, gName, gNil, gCons, gTup, gUnl, gSub, iAny, iRng1, iKeys, iVals,
  List.getElem?_cons_zero, List.getElem?_cons_succ, List.set_cons_zero, List.set_cons_succ, Option.some.injEq, V.str.injEq, V.bl.injEq, V.int.injEq, V.ref.injEq, exists_and_left, exists_eq_left', exists_eq_left, exists_eq, cxK, cxW, HO.ins.injEq, and_assoc, upd_same, true_and, and_true, reduceCtorEq, false_and, and_false, exists_false, or_false, false_or, if_true, if_false, List.cons_append, List.nil_append, add_ii, add_ss, sub_ii, mul_ii, mod_ii, fdiv_ii, pow_ii, lt_ii, le_ii, gt_ii, ge_ii, lt_ss, le_ss, iadd_ii, iadd_ss, in_ss, ix_si, ix_ri, ix_rs, sl_s, sl_r, eq_ss, eq_ii, eq_bb, eq_nn, eq_rr, int1_i, int1_b, int1_s, min2_ii, set_rs, set_ri, Bool.true_xor, Bool.false_xor, Bool.not_eq_true', wipe, List.map_cons, List.map_nil, S_eq, S_cat, S_len, lit1, lit3, lit5, lit6, lit7, lit8, lit9, lit10, lit11, lit12, lit13, lit14, lit15, lit16, lit17, lit18, lit19, lit21, lit23, lit24, lit26, lit27, lit28, lit29, lit30, lit31, lit32, lit33, lit34, lit35, lit36, lit37, lit38, lit39, lit40, lit41, lit42, lit101, lit102, lit103, lit104, lit105, lit106, lit107, lit108, lit109, lit110, lit111, lit112, lit113, lit114, lit115])
abbrev noText (K : PySem.W.Frag) : Value := .ref (He.ga K "NoText")
abbrev aStrip (K : PySem.W.Frag) : Addr := He.ga K "Strip"
section
variable {P : Program} {w : World} {K : PySem.W.Frag} {mg : Str → Option Value} {base : Heap} {f : Addr} {fd : FuncData}
/-- NoText.__init__: self an exception without a dict, row, at -/
def spNoText (K : PySem.W.Frag) : Sp := fun vs H Q E => ∃ a r i, vs = [.ref a, .int r, .int i] ∧ H a = some (exo a (He.ga K "NoText") none) ∧
  ∀ d, H d = none → d ≠ a → Q .non (upd (upd (upd H d (exd d [("row", .int r)])) a (exo a (He.ga K "NoText") (some d))) d (exd d [("at", .int i), ("row", .int r)]))
theorem ok_NoText_init (T : Tx K w mg)
    (F : FunD K "__init__" "NoText.__init__" (defArgs s_NoText_init) (defBody s_NoText_init) (defScope s_NoText_init) [] [] f fd) : FnOk P w K mg base (L2.CX P w) 2 f fd ["self", "row", "at"] (spNoText K) := by
  refine F.ok sc_NoText_init (fun vs H Q E h => by obtain ⟨t, v, d, rfl, _⟩ := h; rfl) (fun cdv A outer s H vs Q E hr h => ?_)
  have nd := (sc_NoText_init).nd
  refine ⟨_, (pss_cons
  (ps_expr (pe_binit T.g_LoomError T.rd_LoomError T.in_LoomError (pa_cons (pv 0) (pa_cons pe_str pa_nil))))
  (pss_cons
  (ps_ost (pv 0) (pv 1))
  (pss_one
  (ps_ost (pv 0) (pv 2))))), ?_⟩
  obtain ⟨a, r, i, rfl, he, q⟩ := h
  rw [show L2.start N_NoText_init [V.ref a, V.int r, V.int i] = [some (.ref a), some (.int r), some (.int i)] from rfl]
  refine ⟨_, rfl, a, _, [V.str _], rfl, by show 1 ≤ 1000; decide, T.o_NoText, he, ?_⟩
  refine ⟨_, rfl, _, rfl, a, _, rfl, T.o_NoText, T.n_row, .inl ⟨he, fun dx ndx nea => ?_⟩⟩
  refine ⟨_, rfl, _, rfl, a, _, rfl, T.o_NoText, T.n_at, .inr ⟨dx, _, upd_same, by rw [upd_ne nea, upd_same], by show 1 ≤ 900; decide, ?_⟩⟩
  exact q dx ndx nea
/-! ### the strip -/
abbrev fsOf (W : List Nat) (i : Nat) : List (Str × V) := [("text", .str (S W)), ("at", .int (i : Int))]
def Stt (K : PySem.W.Frag) (a dx : Addr) (W : List Nat) (i : Nat) (H : Hp) : Prop := H a = some (.ins (aStrip K) dx (fsOf W i))
def But (a : Addr) (H H' : Hp) : Prop := ∀ b o, b ≠ a → H b = some o → H' b = some o
def errE (K : PySem.W.Frag) (a : Addr) (E : XK) (H : Hp) (i : Nat) : Prop := ∀ d H', But a H H' → H d = none → H' d = some (.xd [("at", .int (i : Int)), ("row", .int 0)]) → E (noText K) (some d) H'
theorem scal_ss (x y : Str) : (scal (V.str x) (V.str y) = true) = True := eq_true rfl
theorem ne_ta : ((Str.ofString "text" : Str) == Str.ofString "at") = false := by decide +kernel
theorem ne_at : ((Str.ofString "at" : Str) == Str.ofString "text") = false := by decide +kernel
theorem ne_tap : ¬ (Str.ofString "text" : Str) = Str.ofString "at" := by decide +kernel
theorem ne_sign1 : ((Str.ofString "sign" : Str) == Str.ofString "text") = false := by decide +kernel
theorem ne_sign2 : ((Str.ofString "sign" : Str) == Str.ofString "at") = false := by decide +kernel
theorem ne_must_be1 : ((Str.ofString "must_be" : Str) == Str.ofString "text") = false := by decide +kernel
theorem ne_must_be2 : ((Str.ofString "must_be" : Str) == Str.ofString "at") = false := by decide +kernel
theorem ne_may1 : ((Str.ofString "may" : Str) == Str.ofString "text") = false := by decide +kernel
theorem ne_may2 : ((Str.ofString "may" : Str) == Str.ofString "at") = false := by decide +kernel
theorem ne_run1 : ((Str.ofString "run" : Str) == Str.ofString "text") = false := by decide +kernel
theorem ne_run2 : ((Str.ofString "run" : Str) == Str.ofString "at") = false := by decide +kernel
theorem ne_whole_number1 : ((Str.ofString "whole_number" : Str) == Str.ofString "text") = false := by decide +kernel
theorem ne_whole_number2 : ((Str.ofString "whole_number" : Str) == Str.ofString "at") = false := by decide +kernel
theorem ne_quoted1 : ((Str.ofString "quoted" : Str) == Str.ofString "text") = false := by decide +kernel
theorem ne_quoted2 : ((Str.ofString "quoted" : Str) == Str.ofString "at") = false := by decide +kernel
theorem ne_key1 : ((Str.ofString "key" : Str) == Str.ofString "text") = false := by decide +kernel
theorem ne_key2 : ((Str.ofString "key" : Str) == Str.ofString "at") = false := by decide +kernel
theorem ne_thing1 : ((Str.ofString "thing" : Str) == Str.ofString "text") = false := by decide +kernel
theorem ne_thing2 : ((Str.ofString "thing" : Str) == Str.ofString "at") = false := by decide +kernel
theorem ne_things1 : ((Str.ofString "things" : Str) == Str.ofString "text") = false := by decide +kernel
theorem ne_things2 : ((Str.ofString "things" : Str) == Str.ofString "at") = false := by decide +kernel
theorem ne_pairs1 : ((Str.ofString "pairs" : Str) == Str.ofString "text") = false := by decide +kernel
theorem ne_pairs2 : ((Str.ofString "pairs" : Str) == Str.ofString "at") = false := by decide +kernel
theorem lk_text (t y : V) : List.lookup (Str.ofString "text") [(Str.ofString "text", t), (Str.ofString "at", y)] = some t := by
  simp only [List.lookup, ne_ta, ne_at, beq_self_eq_true, ne_sign1, ne_sign2, ne_must_be1, ne_must_be2, ne_may1, ne_may2, ne_run1, ne_run2, ne_whole_number1, ne_whole_number2, ne_quoted1, ne_quoted2, ne_key1, ne_key2, ne_thing1, ne_thing2, ne_things1, ne_things2, ne_pairs1, ne_pairs2]
theorem lk_at (t y : V) : List.lookup (Str.ofString "at") [(Str.ofString "text", t), (Str.ofString "at", y)] = some y := by
  simp only [List.lookup, ne_ta, ne_at, beq_self_eq_true, ne_sign1, ne_sign2, ne_must_be1, ne_must_be2, ne_may1, ne_may2, ne_run1, ne_run2, ne_whole_number1, ne_whole_number2, ne_quoted1, ne_quoted2, ne_key1, ne_key2, ne_thing1, ne_thing2, ne_things1, ne_things2, ne_pairs1, ne_pairs2]
theorem put_at (t y z : V) : putF (Str.ofString "at") z [(Str.ofString "text", t), (Str.ofString "at", y)] = [(Str.ofString "text", t), (Str.ofString "at", z)] := by
  simp only [putF, if_neg ne_tap, if_true]
theorem put_text (z : V) : putF (Str.ofString "text") z [] = [(Str.ofString "text", z)] := rfl
theorem put_at1 (t z : V) : putF (Str.ofString "at") z [(Str.ofString "text", t)] = [(Str.ofString "text", t), (Str.ofString "at", z)] := by
  simp only [putF, if_neg ne_tap, if_true]
theorem lk_sign (t y : V) : List.lookup (Str.ofString "sign") [(Str.ofString "text", t), (Str.ofString "at", y)] = none := by
  simp only [List.lookup, ne_ta, ne_at, beq_self_eq_true, ne_sign1, ne_sign2, ne_must_be1, ne_must_be2, ne_may1, ne_may2, ne_run1, ne_run2, ne_whole_number1, ne_whole_number2, ne_quoted1, ne_quoted2, ne_key1, ne_key2, ne_thing1, ne_thing2, ne_things1, ne_things2, ne_pairs1, ne_pairs2]
theorem lk_must_be (t y : V) : List.lookup (Str.ofString "must_be") [(Str.ofString "text", t), (Str.ofString "at", y)] = none := by
  simp only [List.lookup, ne_ta, ne_at, beq_self_eq_true, ne_sign1, ne_sign2, ne_must_be1, ne_must_be2, ne_may1, ne_may2, ne_run1, ne_run2, ne_whole_number1, ne_whole_number2, ne_quoted1, ne_quoted2, ne_key1, ne_key2, ne_thing1, ne_thing2, ne_things1, ne_things2, ne_pairs1, ne_pairs2]
theorem lk_may (t y : V) : List.lookup (Str.ofString "may") [(Str.ofString "text", t), (Str.ofString "at", y)] = none := by
  simp only [List.lookup, ne_ta, ne_at, beq_self_eq_true, ne_sign1, ne_sign2, ne_must_be1, ne_must_be2, ne_may1, ne_may2, ne_run1, ne_run2, ne_whole_number1, ne_whole_number2, ne_quoted1, ne_quoted2, ne_key1, ne_key2, ne_thing1, ne_thing2, ne_things1, ne_things2, ne_pairs1, ne_pairs2]
theorem lk_run (t y : V) : List.lookup (Str.ofString "run") [(Str.ofString "text", t), (Str.ofString "at", y)] = none := by
  simp only [List.lookup, ne_ta, ne_at, beq_self_eq_true, ne_sign1, ne_sign2, ne_must_be1, ne_must_be2, ne_may1, ne_may2, ne_run1, ne_run2, ne_whole_number1, ne_whole_number2, ne_quoted1, ne_quoted2, ne_key1, ne_key2, ne_thing1, ne_thing2, ne_things1, ne_things2, ne_pairs1, ne_pairs2]
theorem lk_whole_number (t y : V) : List.lookup (Str.ofString "whole_number") [(Str.ofString "text", t), (Str.ofString "at", y)] = none := by
  simp only [List.lookup, ne_ta, ne_at, beq_self_eq_true, ne_sign1, ne_sign2, ne_must_be1, ne_must_be2, ne_may1, ne_may2, ne_run1, ne_run2, ne_whole_number1, ne_whole_number2, ne_quoted1, ne_quoted2, ne_key1, ne_key2, ne_thing1, ne_thing2, ne_things1, ne_things2, ne_pairs1, ne_pairs2]
theorem lk_quoted (t y : V) : List.lookup (Str.ofString "quoted") [(Str.ofString "text", t), (Str.ofString "at", y)] = none := by
  simp only [List.lookup, ne_ta, ne_at, beq_self_eq_true, ne_sign1, ne_sign2, ne_must_be1, ne_must_be2, ne_may1, ne_may2, ne_run1, ne_run2, ne_whole_number1, ne_whole_number2, ne_quoted1, ne_quoted2, ne_key1, ne_key2, ne_thing1, ne_thing2, ne_things1, ne_things2, ne_pairs1, ne_pairs2]
theorem lk_key (t y : V) : List.lookup (Str.ofString "key") [(Str.ofString "text", t), (Str.ofString "at", y)] = none := by
  simp only [List.lookup, ne_ta, ne_at, beq_self_eq_true, ne_sign1, ne_sign2, ne_must_be1, ne_must_be2, ne_may1, ne_may2, ne_run1, ne_run2, ne_whole_number1, ne_whole_number2, ne_quoted1, ne_quoted2, ne_key1, ne_key2, ne_thing1, ne_thing2, ne_things1, ne_things2, ne_pairs1, ne_pairs2]
theorem lk_thing (t y : V) : List.lookup (Str.ofString "thing") [(Str.ofString "text", t), (Str.ofString "at", y)] = none := by
  simp only [List.lookup, ne_ta, ne_at, beq_self_eq_true, ne_sign1, ne_sign2, ne_must_be1, ne_must_be2, ne_may1, ne_may2, ne_run1, ne_run2, ne_whole_number1, ne_whole_number2, ne_quoted1, ne_quoted2, ne_key1, ne_key2, ne_thing1, ne_thing2, ne_things1, ne_things2, ne_pairs1, ne_pairs2]
theorem lk_things (t y : V) : List.lookup (Str.ofString "things") [(Str.ofString "text", t), (Str.ofString "at", y)] = none := by
  simp only [List.lookup, ne_ta, ne_at, beq_self_eq_true, ne_sign1, ne_sign2, ne_must_be1, ne_must_be2, ne_may1, ne_may2, ne_run1, ne_run2, ne_whole_number1, ne_whole_number2, ne_quoted1, ne_quoted2, ne_key1, ne_key2, ne_thing1, ne_thing2, ne_things1, ne_things2, ne_pairs1, ne_pairs2]
theorem lk_pairs (t y : V) : List.lookup (Str.ofString "pairs") [(Str.ofString "text", t), (Str.ofString "at", y)] = none := by
  simp only [List.lookup, ne_ta, ne_at, beq_self_eq_true, ne_sign1, ne_sign2, ne_must_be1, ne_must_be2, ne_may1, ne_may2, ne_run1, ne_run2, ne_whole_number1, ne_whole_number2, ne_quoted1, ne_quoted2, ne_key1, ne_key2, ne_thing1, ne_thing2, ne_things1, ne_things2, ne_pairs1, ne_pairs2]
def spInit (K : PySem.W.Frag) : Sp := fun vs H Q E => ∃ a dx W, vs = [.ref a, .str (S W)] ∧ H a = some (.ins (aStrip K) dx []) ∧ Q .non (upd (upd H a (.ins (aStrip K) dx [("text", .str (S W))])) a (.ins (aStrip K) dx (fsOf W 0)))
theorem ok_Strip_init (T : Tx K w mg)
    (F : FunD K "__init__" "Strip.__init__" (defArgs s_Strip_init) (defBody s_Strip_init) (defScope s_Strip_init) [] [] f fd) : FnOk P w K mg base (L2.CX P w) 2 f fd ["self", "text"] (spInit K) := by
  refine F.ok sc_Strip_init (fun vs H Q E h => by obtain ⟨t, v, d, rfl, _⟩ := h; rfl) (fun cdv A outer s H vs Q E hr h => ?_)
  have nd := (sc_Strip_init).nd
  refine ⟨_, (pss_cons
  (ps_fld (pv 0) (pv 1) rfl)
  (pss_one
  (ps_fld (pv 0) pe_int rfl))), ?_⟩
  obtain ⟨a, dx, W, rfl, he, q⟩ := h
  rw [show L2.start N_Strip_init [V.ref a, V.str (S W)] = [some (.ref a), some (.str (S W))] from rfl]
  walk_at "r"
  try rw [Stt] at he
  simp only [he, lk_text, lk_at, put_at, put_text, put_at1, lk_sign, lk_must_be, lk_may, lk_run, lk_whole_number, lk_quoted, lk_key, lk_thing, lk_things, lk_pairs, T.c_Strip, T.na_text, T.na_at, HO.ins.injEq, exists_and_left, and_assoc, exists_eq_left', exists_eq_left, exists_eq, true_and, and_true, Option.some.injEq, V.int.injEq, V.ref.injEq, V.str.injEq, V.bl.injEq, upd_same, upd_upd, List.getElem?_cons_zero, List.getElem?_cons_succ, List.set_cons_zero, List.set_cons_succ, scal_ss, S_eq, S_cat, S_len, add_ii, add_ss, sub_ii, mul_ii, mod_ii, fdiv_ii, pow_ii, lt_ii, le_ii, gt_ii, ge_ii, lt_ss, le_ss, iadd_ii, iadd_ss, in_S, cut_fig, if_true, if_false, Bool.false_eq_true, reduceCtorEq, ix_si, ix_ri, ix_rs, sl_s, sl_r, eq_ss, eq_ii, eq_bb, eq_nn, eq_rr, int1_i, int1_b, int1_s, min2_ii, set_rs, set_ri, Bool.false_xor, Bool.true_xor, Bool.not_eq_false', Bool.not_eq_true']
  rw [upd_upd] at q
  exact ⟨by show 0 < 1000; decide, by show 1 < 1000; decide, q⟩
def spSgn (K : PySem.W.Frag) : Sp := fun vs H Q E => ∃ a dx W i, vs = [.ref a] ∧ Stt K a dx W i H ∧ W.length ≤ 1000000 ∧ i ≤ W.length ∧ Q (.str (S ((W.drop i).take 1))) H
theorem ok_Strip_sign (T : Tx K w mg)
    (F : FunD K "sign" "Strip.sign" (defArgs s_Strip_sign) (defBody s_Strip_sign) (defScope s_Strip_sign) [] [] f fd) : FnOk P w K mg base (L2.CX P w) 2 f fd ["self"] (spSgn K) := by
  refine F.ok sc_Strip_sign (fun vs H Q E h => by obtain ⟨t, v, d, i, rfl, _⟩ := h; rfl) (fun cdv A outer s H vs Q E hr h => ?_)
  have nd := (sc_Strip_sign).nd
  refine ⟨_, (pss_one
  (ps_ret (pe_slice (k_sl K rfl) (pe_fld (pv 0) rfl) (po_some (pe_fld (pv 0) rfl)) (po_some (pe_op op_addA (pe_fld (pv 0) rfl) pe_int))))), ?_⟩
  obtain ⟨a, dx, W, i, rfl, he, hW, hi, q⟩ := h
  rw [show L2.start N_Strip_sign [V.ref a] = [some (.ref a)] from rfl]
  walk_at "r"
  try rw [Stt] at he
  simp only [he, lk_text, lk_at, put_at, put_text, put_at1, lk_sign, lk_must_be, lk_may, lk_run, lk_whole_number, lk_quoted, lk_key, lk_thing, lk_things, lk_pairs, T.c_Strip, T.na_text, T.na_at, HO.ins.injEq, exists_and_left, and_assoc, exists_eq_left', exists_eq_left, exists_eq, true_and, and_true, Option.some.injEq, V.int.injEq, V.ref.injEq, V.str.injEq, V.bl.injEq, upd_same, upd_upd, List.getElem?_cons_zero, List.getElem?_cons_succ, List.set_cons_zero, List.set_cons_succ, scal_ss, S_eq, S_cat, S_len, add_ii, add_ss, sub_ii, mul_ii, mod_ii, fdiv_ii, pow_ii, lt_ii, le_ii, gt_ii, ge_ii, lt_ss, le_ss, iadd_ii, iadd_ss, in_S, cut_fig, if_true, if_false, Bool.false_eq_true, reduceCtorEq, ix_si, ix_ri, ix_rs, sl_s, sl_r, eq_ss, eq_ii, eq_bb, eq_nn, eq_rr, int1_i, int1_b, int1_s, min2_ii, set_rs, set_ri, Bool.false_xor, Bool.true_xor, Bool.not_eq_false', Bool.not_eq_true']
  rw [cut_at hi]
  exact ⟨by rw [sizeLine_eq]; omega, q⟩
def spMust (K : PySem.W.Frag) : Sp := fun vs H Q E => ∃ a dx W i g, vs = [.ref a, .bl g] ∧ Stt K a dx W i H ∧ (g = true → Q .non H) ∧ (g = false → errE K a E H i)
theorem ok_Strip_must_be (T : Tx K w mg) {fI : Addr} {fdI : FuncData} (c_init_NoText : FnOk P w K mg base (L2.CX P w) 2 (He.ma K (He.ga K "NoText") "__init__") fdI ["self", "row", "at"] (spNoText K)) (b_init_NoText : Binds K fdI ["self", "row", "at"] [])
    (F : FunD K "must_be" "Strip.must_be" (defArgs s_Strip_must_be) (defBody s_Strip_must_be) (defScope s_Strip_must_be) [] [] f fd) : FnOk P w K mg base (L2.CX P w) 5 f fd ["self", "good"] (spMust K) := by
  refine F.ok sc_Strip_must_be (fun vs H Q E h => by obtain ⟨t, v, d, i, g, rfl, _⟩ := h; rfl) (fun cdv A outer s H vs Q E hr h => ?_)
  have nd := (sc_Strip_must_be).nd
  refine ⟨_, (pss_one
  (ps_if (pt_not (pt_val (pv 1)))
   (pss_one
    (ps_raise rfl tk0 (pmk_oex T.o_NoText T.i_NoText T.ti_NoText c_init_NoText (hr.mono (by omega)) b_init_NoText .nil pass_no rfl T.g_NoText (pa_cons pe_int (pa_cons (pe_fld (pv 0) rfl) pa_nil)))))
   pss_nil)), ?_⟩
  obtain ⟨a, dx, W, i, g, rfl, he, q, qe⟩ := h
  rw [show L2.start N_Strip_must_be [V.ref a, V.bl g] = [some (.ref a), some (.bl g)] from rfl]
  walk_at "r"
  try rw [Stt] at he
  simp only [he, lk_text, lk_at, put_at, put_text, put_at1, lk_sign, lk_must_be, lk_may, lk_run, lk_whole_number, lk_quoted, lk_key, lk_thing, lk_things, lk_pairs, T.c_Strip, T.na_text, T.na_at, HO.ins.injEq, exists_and_left, and_assoc, exists_eq_left', exists_eq_left, exists_eq, true_and, and_true, Option.some.injEq, V.int.injEq, V.ref.injEq, V.str.injEq, V.bl.injEq, upd_same, upd_upd, List.getElem?_cons_zero, List.getElem?_cons_succ, List.set_cons_zero, List.set_cons_succ, scal_ss, S_eq, S_cat, S_len, add_ii, add_ss, sub_ii, mul_ii, mod_ii, fdiv_ii, pow_ii, lt_ii, le_ii, gt_ii, ge_ii, lt_ss, le_ss, iadd_ii, iadd_ss, in_S, cut_fig, if_true, if_false, Bool.false_eq_true, reduceCtorEq, ix_si, ix_ri, ix_rs, sl_s, sl_r, eq_ss, eq_ii, eq_bb, eq_nn, eq_rr, int1_i, int1_b, int1_s, min2_ii, set_rs, set_ri, Bool.false_xor, Bool.true_xor, Bool.not_eq_false', Bool.not_eq_true']
  cases g with
  | true =>
    rw [if_neg (fun z => nomatch z)]
    exact q rfl
  | false =>
    rw [if_pos rfl]
    refine ⟨by show 2 ≤ 1000; decide, fun x nx => ⟨x, 0, (i : Int), rfl, upd_same, fun d nd ned => ⟨rfl, d, ?_, _, upd_same, ?_, ?_⟩⟩⟩
    · rw [upd_ne (Ne.symm ned), upd_same]
    · rw [upd_ne ned] at nd
      exact nd
    · have nd' : H d = none := by
        rw [upd_ne ned] at nd
        exact nd
      refine qe rfl d _ (fun b o hb e => ?_) nd' upd_same
      have h1 : b ≠ d := ne_of_none e nd'
      have h2 : b ≠ x := ne_of_none e nx
      rw [upd_ne h1, del_ne h2, upd_ne h1, upd_ne h2, upd_ne h1, upd_ne h2]
      exact e
def spMay (K : PySem.W.Frag) : Sp := fun vs H Q E => ∃ a dx W i c, vs = [.ref a, .str (S [c])] ∧ Stt K a dx W i H ∧ W.length ≤ 1000000 ∧ i ≤ W.length ∧
  Q (.bl (decide (W[i]? = some c))) (upd H a (.ins (aStrip K) dx (fsOf W (if W[i]? = some c then i + 1 else i))))
theorem ok_Strip_may (T : Tx K w mg) (m_sign : Mt P w K mg base 2 (aStrip K) "sign" (spSgn K))
    (F : FunD K "may" "Strip.may" (defArgs s_Strip_may) (defBody s_Strip_may) (defScope s_Strip_may) [] [] f fd) : FnOk P w K mg base (L2.CX P w) 4 f fd ["self", "sign"] (spMay K) := by
  refine F.ok sc_Strip_may (fun vs H Q E h => by obtain ⟨t, v, d, i, g, rfl, _⟩ := h; rfl) (fun cdv A outer s H vs Q E hr h => ?_)
  have nd := (sc_Strip_may).nd
  refine ⟨_, (pss_cons
  (ps_set (i := 2) nd rfl (by first | exact Or.inl rfl | exact Or.inr rfl) (pe_cmpR (k_eq K rfl (Lk.hu0 hr)) (pe_mt0 (m_sign) (hr.mono (by omega)) pass_def (pv 0)) (pv 1) rfl))
  (pss_cons
  (ps_fldaug (pv 0) (pe_callTy call_intA (by rfl) T.b_int Lk.boot_int (pa_cons (pv 2) pa_nil)) in_addA)
  (pss_one
  (ps_ret (pv 2))))), ?_⟩
  obtain ⟨a, dx, W, i, c, rfl, he, hW, hi, q⟩ := h
  rw [show L2.start N_Strip_may [V.ref a, V.str (S [c])] = [some (.ref a), some (.str (S [c])), none] from rfl]
  walk_at "r"
  try rw [Stt] at he
  simp only [he, lk_text, lk_at, put_at, put_text, put_at1, lk_sign, lk_must_be, lk_may, lk_run, lk_whole_number, lk_quoted, lk_key, lk_thing, lk_things, lk_pairs, T.c_Strip, T.na_text, T.na_at, HO.ins.injEq, exists_and_left, and_assoc, exists_eq_left', exists_eq_left, exists_eq, true_and, and_true, Option.some.injEq, V.int.injEq, V.ref.injEq, V.str.injEq, V.bl.injEq, upd_same, upd_upd, List.getElem?_cons_zero, List.getElem?_cons_succ, List.set_cons_zero, List.set_cons_succ, scal_ss, S_eq, S_cat, S_len, add_ii, add_ss, sub_ii, mul_ii, mod_ii, fdiv_ii, pow_ii, lt_ii, le_ii, gt_ii, ge_ii, lt_ss, le_ss, iadd_ii, iadd_ss, in_S, cut_fig, if_true, if_false, Bool.false_eq_true, reduceCtorEq, ix_si, ix_ri, ix_rs, sl_s, sl_r, eq_ss, eq_ii, eq_bb, eq_nn, eq_rr, int1_i, int1_b, int1_s, min2_ii, set_rs, set_ri, Bool.false_xor, Bool.true_xor, Bool.not_eq_false', Bool.not_eq_true']
  refine ⟨a, dx, W, i, rfl, he, hW, hi, rfl, ?_⟩
  simp only [he, lk_text, lk_at, put_at, put_text, put_at1, lk_sign, lk_must_be, lk_may, lk_run, lk_whole_number, lk_quoted, lk_key, lk_thing, lk_things, lk_pairs, T.c_Strip, T.na_text, T.na_at, HO.ins.injEq, exists_and_left, and_assoc, exists_eq_left', exists_eq_left, exists_eq, true_and, and_true, Option.some.injEq, V.int.injEq, V.ref.injEq, V.str.injEq, V.bl.injEq, upd_same, upd_upd, List.getElem?_cons_zero, List.getElem?_cons_succ, List.set_cons_zero, List.set_cons_succ, scal_ss, S_eq, S_cat, S_len, add_ii, add_ss, sub_ii, mul_ii, mod_ii, fdiv_ii, pow_ii, lt_ii, le_ii, gt_ii, ge_ii, lt_ss, le_ss, iadd_ii, iadd_ss, in_S, cut_fig, if_true, if_false, Bool.false_eq_true, reduceCtorEq, ix_si, ix_ri, ix_rs, sl_s, sl_r, eq_ss, eq_ii, eq_bb, eq_nn, eq_rr, int1_i, int1_b, int1_s, min2_ii, set_rs, set_ri, Bool.false_xor, Bool.true_xor, Bool.not_eq_false', Bool.not_eq_true']
  rw [head_dec]
  refine ⟨by show 2 < 1000; decide, ?_⟩
  by_cases hc : W[i]? = some c
  · rw [decide_eq_true hc, if_pos hc] at q
    rw [decide_eq_true hc]
    exact q
  · rw [decide_eq_false hc, if_neg hc] at q
    rw [decide_eq_false hc]
    have e0 : (i : Int) + (if false = true then 1 else 0) = (i : Int) := by simp
    rw [e0]
    exact q
def spRun (K : PySem.W.Frag) : Sp := fun vs H Q E => ∃ a dx W i cs, vs = [.ref a, .str (S cs)] ∧ Stt K a dx W i H ∧ W.length ≤ 1000000 ∧ i ≤ W.length ∧
  ∀ H', But a H H' → Stt K a dx W (i + ((W.drop i).takeWhile fun c => decide (c ∈ cs)).length) H' → Q (.str (S ((W.drop i).takeWhile fun c => decide (c ∈ cs)))) H'
theorem ok_Strip_run (T : Tx K w mg) (m_sign : Mt P w K mg base 2 (aStrip K) "sign" (spSgn K))
    (F : FunD K "run" "Strip.run" (defArgs s_Strip_run) (defBody s_Strip_run) (defScope s_Strip_run) [] [] f fd) : FnOk P w K mg base (L2.CX P w) 4 f fd ["self", "signs"] (spRun K) := by
  refine F.ok sc_Strip_run (fun vs H Q E h => by obtain ⟨t, v, d, i, g, rfl, _⟩ := h; rfl) (fun cdv A outer s H vs Q E hr h => ?_)
  have nd := (sc_Strip_run).nd
  refine ⟨_, (pss_cons
  (ps_set (i := 2) nd rfl (by first | exact Or.inl rfl | exact Or.inr rfl) (pe_fld (pv 0) rfl))
  (pss_cons
  (ps_while own_def (PW.pt (pw_and (pt_cmpR (k_ne K rfl (Lk.hu0 hr)) (pe_mt0 (m_sign) (hr.mono (by omega)) pass_def (pv 0)) pe_str rfl) (pw_and1 (pt_cmpR (k_in K w rfl rfl) (pe_mt0 (m_sign) (hr.mono (by omega)) pass_def (pv 0)) (pv 1) rfl))))
   (pss_one
    (ps_fldaug (pv 0) pe_int in_addA)))
  (pss_one
  (ps_ret (pe_slice (k_sl K rfl) (pe_fld (pv 0) rfl) (po_some (pv 2)) (po_some (pe_fld (pv 0) rfl))))))), ?_⟩
  obtain ⟨a, dx, W, i, cs, rfl, he, hW, hi, q⟩ := h
  rw [show L2.start N_Strip_run [V.ref a, V.str (S cs)] = [some (.ref a), some (.str (S cs)), none] from rfl]
  walk_at "r"
  try rw [Stt] at he
  simp only [he, lk_text, lk_at, put_at, put_text, put_at1, lk_sign, lk_must_be, lk_may, lk_run, lk_whole_number, lk_quoted, lk_key, lk_thing, lk_things, lk_pairs, T.c_Strip, T.na_text, T.na_at, HO.ins.injEq, exists_and_left, and_assoc, exists_eq_left', exists_eq_left, exists_eq, true_and, and_true, Option.some.injEq, V.int.injEq, V.ref.injEq, V.str.injEq, V.bl.injEq, upd_same, upd_upd, List.getElem?_cons_zero, List.getElem?_cons_succ, List.set_cons_zero, List.set_cons_succ, scal_ss, S_eq, S_cat, S_len, add_ii, add_ss, sub_ii, mul_ii, mod_ii, fdiv_ii, pow_ii, lt_ii, le_ii, gt_ii, ge_ii, lt_ss, le_ss, iadd_ii, iadd_ss, in_S, cut_fig, if_true, if_false, Bool.false_eq_true, reduceCtorEq, ix_si, ix_ri, ix_rs, sl_s, sl_r, eq_ss, eq_ii, eq_bb, eq_nn, eq_rr, int1_i, int1_b, int1_s, min2_ii, set_rs, set_ri, Bool.false_xor, Bool.true_xor, Bool.not_eq_false', Bool.not_eq_true']
  have hl := tw_len (p := fun c => decide (c ∈ cs)) (W.drop i)
  have htk := tw_take (p := fun c => decide (c ∈ cs)) (W.drop i)
  obtain ⟨l, el⟩ : ∃ l, l = (W.drop i).takeWhile fun c => decide (c ∈ cs) := ⟨_, rfl⟩
  rw [← el] at q hl htk
  rw [List.length_drop] at hl
  refine ⟨fun m σ H' => ∃ j, j ≤ l.length ∧ m = l.length - j ∧ σ = [some (V.ref a), some (V.str (S cs)), some (V.int (i : Int))] ∧ But a H H' ∧ Stt K a dx W (i + j) H', ⟨_, 0, Nat.zero_le _, rfl, rfl, fun _ _ _ h => h, he⟩, ?_⟩
  rintro m σ H' ⟨j, hj, rfl, rfl, hb, he'⟩
  rw [Stt] at he'
  have hij : i + j ≤ W.length := by omega
  simp only [he', lk_text, lk_at, put_at, put_text, put_at1, lk_sign, lk_must_be, lk_may, lk_run, lk_whole_number, lk_quoted, lk_key, lk_thing, lk_things, lk_pairs, T.c_Strip, T.na_text, T.na_at, HO.ins.injEq, exists_and_left, and_assoc, exists_eq_left', exists_eq_left, exists_eq, true_and, and_true, Option.some.injEq, V.int.injEq, V.ref.injEq, V.str.injEq, V.bl.injEq, upd_same, upd_upd, List.getElem?_cons_zero, List.getElem?_cons_succ, List.set_cons_zero, List.set_cons_succ, scal_ss, S_eq, S_cat, S_len, add_ii, add_ss, sub_ii, mul_ii, mod_ii, fdiv_ii, pow_ii, lt_ii, le_ii, gt_ii, ge_ii, lt_ss, le_ss, iadd_ii, iadd_ss, in_S, cut_fig, if_true, if_false, Bool.false_eq_true, reduceCtorEq, ix_si, ix_ri, ix_rs, sl_s, sl_r, eq_ss, eq_ii, eq_bb, eq_nn, eq_rr, int1_i, int1_b, int1_s, min2_ii, set_rs, set_ri, Bool.false_xor, Bool.true_xor, Bool.not_eq_false', Bool.not_eq_true']
  refine ⟨a, dx, W, i + j, rfl, he', hW, hij, ?_⟩
  simp only [he', lk_text, lk_at, put_at, put_text, put_at1, lk_sign, lk_must_be, lk_may, lk_run, lk_whole_number, lk_quoted, lk_key, lk_thing, lk_things, lk_pairs, T.c_Strip, T.na_text, T.na_at, HO.ins.injEq, exists_and_left, and_assoc, exists_eq_left', exists_eq_left, exists_eq, true_and, and_true, Option.some.injEq, V.int.injEq, V.ref.injEq, V.str.injEq, V.bl.injEq, upd_same, upd_upd, List.getElem?_cons_zero, List.getElem?_cons_succ, List.set_cons_zero, List.set_cons_succ, scal_ss, S_eq, S_cat, S_len, add_ii, add_ss, sub_ii, mul_ii, mod_ii, fdiv_ii, pow_ii, lt_ii, le_ii, gt_ii, ge_ii, lt_ss, le_ss, iadd_ii, iadd_ss, in_S, cut_fig, if_true, if_false, Bool.false_eq_true, reduceCtorEq, ix_si, ix_ri, ix_rs, sl_s, sl_r, eq_ss, eq_ii, eq_bb, eq_nn, eq_rr, int1_i, int1_b, int1_s, min2_ii, set_rs, set_ri, Bool.false_xor, Bool.true_xor, Bool.not_eq_false', Bool.not_eq_true']
  rw [head_nil]
  have fin : j = l.length → (S W).length ≤ sizeLine ∧ Q (V.str (cutS (S W) (some (i : Int)) (some ((i + j : Nat) : Int)))) H' := fun e => by
    subst e
    rw [cut_nat hi hij, Nat.add_sub_cancel_left, htk]
    exact ⟨by rw [S_len, sizeLine_eq]; omega, q H' hb he'⟩
  have eg : W[i + j]? = (W.drop i)[j]? := by rw [List.getElem?_drop]
  by_cases hjl : j < l.length
  · obtain ⟨c, hc, hp⟩ := tw_lt (p := fun c => decide (c ∈ cs)) (l := W.drop i) (j := j) (by rw [← el]; exact hjl)
    rw [← eg] at hc
    rw [if_pos (by rw [hc]; rfl)]
    refine ⟨a, dx, W, i + j, rfl, he', hW, hij, ?_⟩
    rw [head_some hc]
    simp only [he', hp, lk_text, lk_at, put_at, put_text, put_at1, lk_sign, lk_must_be, lk_may, lk_run, lk_whole_number, lk_quoted, lk_key, lk_thing, lk_things, lk_pairs, T.c_Strip, T.na_text, T.na_at, HO.ins.injEq, exists_and_left, and_assoc, exists_eq_left', exists_eq_left, exists_eq, true_and, and_true, Option.some.injEq, V.int.injEq, V.ref.injEq, V.str.injEq, V.bl.injEq, upd_same, upd_upd, List.getElem?_cons_zero, List.getElem?_cons_succ, List.set_cons_zero, List.set_cons_succ, scal_ss, S_eq, S_cat, S_len, add_ii, add_ss, sub_ii, mul_ii, mod_ii, fdiv_ii, pow_ii, lt_ii, le_ii, gt_ii, ge_ii, lt_ss, le_ss, iadd_ii, iadd_ss, in_S, cut_fig, if_true, if_false, Bool.false_eq_true, reduceCtorEq, ix_si, ix_ri, ix_rs, sl_s, sl_r, eq_ss, eq_ii, eq_bb, eq_nn, eq_rr, int1_i, int1_b, int1_s, min2_ii, set_rs, set_ri, Bool.false_xor, Bool.true_xor, Bool.not_eq_false', Bool.not_eq_true']
    refine ⟨fun σ' H'' => ∃ j', j' ≤ l.length ∧ j' = j + 1 ∧ σ' = [some (V.ref a), some (V.str (S cs)), some (V.int (i : Int))] ∧ But a H H'' ∧ Stt K a dx W (i + j') H'', fun σ' H'' ⟨j', h1, h2, h3, h4, h5⟩ => ⟨l.length - j', by omega, j', h1, rfl, h3, h4, h5⟩, by show 2 < 1000; decide, ?_⟩
    refine ⟨j + 1, by omega, rfl, rfl, fun b o hne e => ?_, ?_⟩
    · rw [upd_ne hne]
      exact hb b o hne e
    · rw [Stt, upd_same]
      rfl
  · have ej : j = l.length := by omega
    cases hn : W[i + j]? with
    | none =>
      rw [if_neg (by simp)]
      have := fin ej
      rw [S_len] at this
      exact this
    | some c =>
      have hp : decide (c ∈ cs) = false := by
        refine tw_end (p := fun c => decide (c ∈ cs)) (l := W.drop i) ?_
        rw [← el, ← ej, ← eg]
        exact hn
      rw [if_pos (by simp)]
      refine ⟨a, dx, W, i + j, rfl, he', hW, hij, ?_⟩
      rw [head_some hn]
      simp only [he', hp, lk_text, lk_at, put_at, put_text, put_at1, lk_sign, lk_must_be, lk_may, lk_run, lk_whole_number, lk_quoted, lk_key, lk_thing, lk_things, lk_pairs, T.c_Strip, T.na_text, T.na_at, HO.ins.injEq, exists_and_left, and_assoc, exists_eq_left', exists_eq_left, exists_eq, true_and, and_true, Option.some.injEq, V.int.injEq, V.ref.injEq, V.str.injEq, V.bl.injEq, upd_same, upd_upd, List.getElem?_cons_zero, List.getElem?_cons_succ, List.set_cons_zero, List.set_cons_succ, scal_ss, S_eq, S_cat, S_len, add_ii, add_ss, sub_ii, mul_ii, mod_ii, fdiv_ii, pow_ii, lt_ii, le_ii, gt_ii, ge_ii, lt_ss, le_ss, iadd_ii, iadd_ss, in_S, cut_fig, if_true, if_false, Bool.false_eq_true, reduceCtorEq, ix_si, ix_ri, ix_rs, sl_s, sl_r, eq_ss, eq_ii, eq_bb, eq_nn, eq_rr, int1_i, int1_b, int1_s, min2_ii, set_rs, set_ri, Bool.false_xor, Bool.true_xor, Bool.not_eq_false', Bool.not_eq_true']
      have := fin ej
      rw [S_len] at this
      exact this
end
end K97

set_option Elab.async false
set_option linter.all false
set_option maxRecDepth 100000
set_option maxHeartbeats 4000000
/-! Numbers, quoted texts, keys. -/
namespace K97
open PySem PySem.Spec PyProof.Rows L2 Lk SX
local macro_rules | `(tactic| walk_at "r") => `(tactic| simp only [tSeq, tNext, tRet, tRetN, tIfS, tDrop, tAsg, tAug, tFor, tWhile, tAndV, tOrV, tNotV, tAnd, tOr, tNot, tB, tTest, tIf, tIsN, tNotN, tOp, tVar, tC, tCB, CwR.tReplC, tPar, tCons, tNil, tLc, tYes, tTup, tLst, tCall, tMeth, tFld, tSl, tPart, tNoPart, tM1, tBM, tVeI, tOst, sFld, sFldAug, tMkO, tMake, tTGet, gName, gNil, gCons, gTup, gUnl, gSub, iAny, iRng1, iKeys, iVals,
  List.getElem?_cons_zero, List.getElem?_cons_succ, List.set_cons_zero, List.set_cons_succ, Option.some.injEq, V.str.injEq, V.bl.injEq, V.int.injEq, V.ref.injEq, exists_and_left, exists_eq_left', exists_eq_left, exists_eq, cxK, cxW, HO.ins.injEq, and_assoc, upd_same, true_and, and_true, reduceCtorEq, false_and, and_false, exists_false, or_false, false_or, if_true, if_false, List.cons_append, List.nil_append, add_ii, add_ss, sub_ii, mul_ii, mod_ii, fdiv_ii, pow_ii, lt_ii, le_ii, gt_ii, ge_ii, lt_ss, le_ss, iadd_ii, iadd_ss, in_ss, ix_si, ix_ri, ix_rs, sl_s, sl_r, eq_ss, eq_ii, eq_bb, eq_nn, eq_rr, int1_i, int1_b, int1_s, min2_ii, set_rs, set_ri, Bool.true_xor, Bool.false_xor, Bool.not_eq_true', wipe, List.map_cons, List.map_nil, S_eq, S_cat, S_len, lit1, lit3, lit5, lit6, lit7, lit8, lit9, lit10, lit11, lit12, lit13, lit14, lit15, lit16, lit17, lit18, lit19, lit21, lit23, lit24, lit26, lit27, lit28, lit29, lit30, lit31, lit32, lit33, lit34, lit35, lit36, lit37, lit38, lit39, lit40, lit41, lit42, lit101, lit102, lit103, lit104, lit105, lit106, lit107, lit108, lit109, lit110, lit111, lit112, lit113, lit114, lit115])
/-- what is promised of a read thing: r what the plain reader tells -/
def Res {α : Type} (K : PySem.W.Frag) (a dx : Addr) (W : List Nat) (H : Hp) (E : XK) (post : α → Hp → Prop) : R α → Prop
  | .ok x j => ∀ H', j ≤ W.length → But a H H' → Stt K a dx W j H' → post x H'
  | .err j => errE K a E H j
  | .stuck => False
section
variable {P : Program} {w : World} {K : PySem.W.Frag} {mg : Str → Option Value} {base : Heap} {f : Addr} {fd : FuncData}
theorem But.trans {a : Addr} {H H1 H2 : Hp} (x : But a H H1) (y : But a H1 H2) : But a H H2 := fun b o hb e => y b o hb (x b o hb e)
theorem But.upd {a : Addr} {H : Hp} {o : HO} : But a H (upd H a o) := fun b u hb e => by
  rw [upd_ne hb]
  exact e
theorem err_mono {a : Addr} {E : XK} {H H1 : Hp} {i : Nat} {o : HO} (h : errE K a E H i) (hb : But a H H1) (ha : H1 a = some o) : errE K a E H1 i := fun d H' b1 nd hd => by
  refine h d H' (hb.trans b1) ?_ hd
  by_cases hda : d = a
  · rw [hda, ha] at nd
    cases nd
  · cases e : H d with
    | none => rfl
    | some u =>
      rw [hb d u hda e] at nd
      cases nd
def spNum (K : PySem.W.Frag) : Sp := fun vs H Q E => ∃ a dx W i, vs = [.ref a] ∧ Stt K a dx W i H ∧ W.length ≤ 1000000 ∧ i ≤ W.length ∧ Res K a dx W H E (fun (n : Int) H' => Q (.int n) H') (pNum W i)
theorem ok_Strip_whole_number (T : Tx K w mg) (m_sign : Mt P w K mg base 2 (aStrip K) "sign" (spSgn K)) (m_may : Mt P w K mg base 4 (aStrip K) "may" (spMay K)) (m_must_be : Mt P w K mg base 5 (aStrip K) "must_be" (spMust K)) (m_run : Mt P w K mg base 4 (aStrip K) "run" (spRun K))
    (F : FunD K "whole_number" "Strip.whole_number" (defArgs s_Strip_whole_number) (defBody s_Strip_whole_number) (defScope s_Strip_whole_number) [] [] f fd) : FnOk P w K mg base (L2.CX P w) 7 f fd ["self"] (spNum K) := by
  refine F.ok sc_Strip_whole_number (fun vs H Q E h => by obtain ⟨t, v, d, i, rfl, _⟩ := h; rfl) (fun cdv A outer s H vs Q E hr h => ?_)
  have nd := (sc_Strip_whole_number).nd
  refine ⟨_, (pss_cons
  (ps_set (i := 1) nd rfl (by first | exact Or.inl rfl | exact Or.inr rfl) (pe_mt (m_may) (hr.mono (by omega)) pass_def (pv 0) (pa_cons pe_str pa_nil)))
  (pss_cons
  (ps_if (PW.pt (pw_and (pt_not (pt_val (pv 1))) (pw_and1 (pt_val (pe_mt (m_may) (hr.mono (by omega)) pass_def (pv 0) (pa_cons pe_str pa_nil))))))
   (pss_one
    (ps_ret pe_int))
   pss_nil)
  (pss_cons
  (ps_expr (pe_mt (m_must_be) (hr.mono (by omega)) pass_def (pv 0) (pa_cons (pe_and (pe_cmpR (k_ne K rfl (Lk.hu0 hr)) (pe_mt0 (m_sign) (hr.mono (by omega)) pass_def (pv 0)) pe_str rfl) (pe_one (pe_cmpR (k_in K w rfl rfl) (pe_mt0 (m_sign) (hr.mono (by omega)) pass_def (pv 0)) (pe_slice (k_sl K rfl) (pe_gstr T.g_FIGURES) (po_some pe_int) po_none) rfl))) pa_nil)))
  (pss_cons
  (ps_set (i := 2) nd rfl (by first | exact Or.inl rfl | exact Or.inr rfl) (pe_callTy call_intA (by rfl) T.b_int Lk.boot_int (pa_cons (pe_mt (m_run) (hr.mono (by omega)) pass_def (pv 0) (pa_cons (pe_gstr T.g_FIGURES) pa_nil)) pa_nil)))
  (pss_one
  (ps_ret (pe_ifExp (pt_val (pv 1)) (pe_op op_subA pe_int (pv 2)) (pv 2)))))))), ?_⟩
  obtain ⟨a, dx, W, i, rfl, he, hW, hi, q⟩ := h
  rw [show L2.start N_Strip_whole_number [V.ref a] = [some (.ref a), none, none] from rfl]
  walk_at "r"
  rw [Stt] at he
  simp only [he, lk_text, lk_at, put_at, put_text, put_at1, lk_sign, lk_must_be, lk_may, lk_run, lk_whole_number, lk_quoted, lk_key, lk_thing, lk_things, lk_pairs, T.c_Strip, T.na_text, T.na_at, HO.ins.injEq, exists_and_left, and_assoc, exists_eq_left', exists_eq_left, exists_eq, true_and, and_true, Option.some.injEq, V.int.injEq, V.ref.injEq, V.str.injEq, V.bl.injEq, upd_same, upd_upd, List.getElem?_cons_zero, List.getElem?_cons_succ, List.set_cons_zero, List.set_cons_succ, scal_ss, S_eq, S_cat, S_len, add_ii, add_ss, sub_ii, mul_ii, mod_ii, fdiv_ii, pow_ii, lt_ii, le_ii, gt_ii, ge_ii, lt_ss, le_ss, iadd_ii, iadd_ss, in_S, cut_fig, if_true, if_false, Bool.false_eq_true, reduceCtorEq, ix_si, ix_ri, ix_rs, sl_s, sl_r, eq_ss, eq_ii, eq_bb, eq_nn, eq_rr, int1_i, int1_b, int1_s, min2_ii, set_rs, set_ri, Bool.false_xor, Bool.true_xor, Bool.not_eq_false', Bool.not_eq_true']
  refine ⟨a, dx, W, i, 45, rfl, he, hW, hi, ?_⟩
  simp only [he, lk_text, lk_at, put_at, put_text, put_at1, lk_sign, lk_must_be, lk_may, lk_run, lk_whole_number, lk_quoted, lk_key, lk_thing, lk_things, lk_pairs, T.c_Strip, T.na_text, T.na_at, HO.ins.injEq, exists_and_left, and_assoc, exists_eq_left', exists_eq_left, exists_eq, true_and, and_true, Option.some.injEq, V.int.injEq, V.ref.injEq, V.str.injEq, V.bl.injEq, upd_same, upd_upd, List.getElem?_cons_zero, List.getElem?_cons_succ, List.set_cons_zero, List.set_cons_succ, scal_ss, S_eq, S_cat, S_len, add_ii, add_ss, sub_ii, mul_ii, mod_ii, fdiv_ii, pow_ii, lt_ii, le_ii, gt_ii, ge_ii, lt_ss, le_ss, iadd_ii, iadd_ss, in_S, cut_fig, if_true, if_false, Bool.false_eq_true, reduceCtorEq, ix_si, ix_ri, ix_rs, sl_s, sl_r, eq_ss, eq_ii, eq_bb, eq_nn, eq_rr, int1_i, int1_b, int1_s, min2_ii, set_rs, set_ri, Bool.false_xor, Bool.true_xor, Bool.not_eq_false', Bool.not_eq_true']
  by_cases hm : W[i]? = some 45
  · have hi1 : i + 1 ≤ W.length := (List.getElem?_eq_some_iff.mp hm).1
    rw [if_neg (by simp [hm])]
    simp only [if_pos hm]
    rw [pNum, if_pos hm] at q
    have he1 : upd H a (HO.ins (aStrip K) dx (fsOf W (i + 1))) a = some (HO.ins (aStrip K) dx (fsOf W (i + 1))) := upd_same
    have hb1 : But a H (upd H a (HO.ins (aStrip K) dx (fsOf W (i + 1)))) := But.upd

    refine ⟨a, dx, W, (i + 1), rfl, he1, hW, hi1, ?_⟩
    simp only [he1, lk_text, lk_at, put_at, put_text, put_at1, lk_sign, lk_must_be, lk_may, lk_run, lk_whole_number, lk_quoted, lk_key, lk_thing, lk_things, lk_pairs, T.c_Strip, T.na_text, T.na_at, HO.ins.injEq, exists_and_left, and_assoc, exists_eq_left', exists_eq_left, exists_eq, true_and, and_true, Option.some.injEq, V.int.injEq, V.ref.injEq, V.str.injEq, V.bl.injEq, upd_same, upd_upd, List.getElem?_cons_zero, List.getElem?_cons_succ, List.set_cons_zero, List.set_cons_succ, scal_ss, S_eq, S_cat, S_len, add_ii, add_ss, sub_ii, mul_ii, mod_ii, fdiv_ii, pow_ii, lt_ii, le_ii, gt_ii, ge_ii, lt_ss, le_ss, iadd_ii, iadd_ss, in_S, cut_fig, if_true, if_false, Bool.false_eq_true, reduceCtorEq, ix_si, ix_ri, ix_rs, sl_s, sl_r, eq_ss, eq_ii, eq_bb, eq_nn, eq_rr, int1_i, int1_b, int1_s, min2_ii, set_rs, set_ri, Bool.false_xor, Bool.true_xor, Bool.not_eq_false', Bool.not_eq_true']
    rw [head_nil]
    cases hc : W[(i + 1)]? with
    | none =>
      rw [if_neg (by simp)]
      refine ⟨a, dx, W, (i + 1), false, rfl, he1, (fun z => nomatch z), fun _ => err_mono ?_ hb1 he1⟩
      have e : pNat W true (i + 1) = .err (i + 1) := by simp [pNat, hc]
      rw [e] at q
      exact q
    | some c =>
      rw [if_pos (by simp)]
      refine ⟨a, dx, W, (i + 1), rfl, he1, hW, hi1, ?_⟩
      rw [head_some hc]
      simp only [he1, lk_text, lk_at, put_at, put_text, put_at1, lk_sign, lk_must_be, lk_may, lk_run, lk_whole_number, lk_quoted, lk_key, lk_thing, lk_things, lk_pairs, T.c_Strip, T.na_text, T.na_at, HO.ins.injEq, exists_and_left, and_assoc, exists_eq_left', exists_eq_left, exists_eq, true_and, and_true, Option.some.injEq, V.int.injEq, V.ref.injEq, V.str.injEq, V.bl.injEq, upd_same, upd_upd, List.getElem?_cons_zero, List.getElem?_cons_succ, List.set_cons_zero, List.set_cons_succ, scal_ss, S_eq, S_cat, S_len, add_ii, add_ss, sub_ii, mul_ii, mod_ii, fdiv_ii, pow_ii, lt_ii, le_ii, gt_ii, ge_ii, lt_ss, le_ss, iadd_ii, iadd_ss, in_S, cut_fig, if_true, if_false, Bool.false_eq_true, reduceCtorEq, ix_si, ix_ri, ix_rs, sl_s, sl_r, eq_ss, eq_ii, eq_bb, eq_nn, eq_rr, int1_i, int1_b, int1_s, min2_ii, set_rs, set_ri, Bool.false_xor, Bool.true_xor, Bool.not_eq_false', Bool.not_eq_true']
      refine ⟨by show 10 ≤ sizeLine; decide, ?_⟩
      rw [fig1_mem]
      refine ⟨a, dx, W, (i + 1), _, rfl, he1, fun hg => ?_, fun hg => err_mono ?_ hb1 he1⟩
      · simp only [he1, lk_text, lk_at, put_at, put_text, put_at1, lk_sign, lk_must_be, lk_may, lk_run, lk_whole_number, lk_quoted, lk_key, lk_thing, lk_things, lk_pairs, T.c_Strip, T.na_text, T.na_at, HO.ins.injEq, exists_and_left, and_assoc, exists_eq_left', exists_eq_left, exists_eq, true_and, and_true, Option.some.injEq, V.int.injEq, V.ref.injEq, V.str.injEq, V.bl.injEq, upd_same, upd_upd, List.getElem?_cons_zero, List.getElem?_cons_succ, List.set_cons_zero, List.set_cons_succ, scal_ss, S_eq, S_cat, S_len, add_ii, add_ss, sub_ii, mul_ii, mod_ii, fdiv_ii, pow_ii, lt_ii, le_ii, gt_ii, ge_ii, lt_ss, le_ss, iadd_ii, iadd_ss, in_S, cut_fig, if_true, if_false, Bool.false_eq_true, reduceCtorEq, ix_si, ix_ri, ix_rs, sl_s, sl_r, eq_ss, eq_ii, eq_bb, eq_nn, eq_rr, int1_i, int1_b, int1_s, min2_ii, set_rs, set_ri, Bool.false_xor, Bool.true_xor, Bool.not_eq_false', Bool.not_eq_true']
        refine ⟨a, dx, W, (i + 1), _, rfl, he1, hW, hi1, fun H2 hb2 he2 => ?_⟩
        rw [fig_mem] at he2 ⊢
        have e : pNat W true (i + 1) = if (digits W (i + 1)).length ≤ 640 then .ok (if true then 0 - ((NumText.digitsVal (digits W (i + 1)) : Nat) : Int) else ((NumText.digitsVal (digits W (i + 1)) : Nat) : Int)) ((i + 1) + (digits W (i + 1)).length) else .stuck := by
          unfold pNat
          rw [if_neg (by simp), hc, if_pos hg]
        rw [e] at q
        by_cases h640 : (digits W (i + 1)).length ≤ 640
        · rw [if_pos h640] at q
          have hall : (digits W (i + 1)).all (fun c => decide (48 ≤ c) && decide (c ≤ 57)) = true := tw_all (p := fig) _
          have hne : digits W (i + 1) ≠ [] := by
            have hf : fig c = true := by
              unfold fig
              rw [Bool.and_eq_true, decide_eq_true_eq, decide_eq_true_eq] at hg ⊢
              omega
            unfold digits
            rw [drop_some hc, List.takeWhile_cons_of_pos hf]
            simp
          refine ⟨by rw [S_len]; exact h640, _, int_S hall hne (Nat.le_trans h640 (by decide)), ?_⟩
          have hlen := tw_len (p := fig) (W.drop ((i + 1)))
          rw [List.length_drop] at hlen
          have z := q H2 (show _ ≤ W.length by unfold digits; omega) (But.trans hb1 hb2) he2
          show if decide (W[i]? = some 45) = true then _ else _
          rw [if_pos (by simp [hm])]
          exact z
        · rw [if_neg h640] at q
          exact q.elim
      · have e : pNat W true (i + 1) = .err (i + 1) := by
          unfold pNat
          rw [if_neg (by simp), hc, if_neg (by simp only; rw [hg]; exact Bool.false_ne_true)]
        rw [e] at q
        exact q

  · rw [if_pos (by simp [hm])]
    simp only [if_neg hm]
    rw [pNum, if_neg hm] at q
    have he1 : upd H a (HO.ins (aStrip K) dx (fsOf W i)) a = some (HO.ins (aStrip K) dx (fsOf W i)) := upd_same
    refine ⟨a, dx, W, i, 48, rfl, he1, hW, hi, ?_⟩
    simp only [he1, lk_text, lk_at, put_at, put_text, put_at1, lk_sign, lk_must_be, lk_may, lk_run, lk_whole_number, lk_quoted, lk_key, lk_thing, lk_things, lk_pairs, T.c_Strip, T.na_text, T.na_at, HO.ins.injEq, exists_and_left, and_assoc, exists_eq_left', exists_eq_left, exists_eq, true_and, and_true, Option.some.injEq, V.int.injEq, V.ref.injEq, V.str.injEq, V.bl.injEq, upd_same, upd_upd, List.getElem?_cons_zero, List.getElem?_cons_succ, List.set_cons_zero, List.set_cons_succ, scal_ss, S_eq, S_cat, S_len, add_ii, add_ss, sub_ii, mul_ii, mod_ii, fdiv_ii, pow_ii, lt_ii, le_ii, gt_ii, ge_ii, lt_ss, le_ss, iadd_ii, iadd_ss, in_S, cut_fig, if_true, if_false, Bool.false_eq_true, reduceCtorEq, ix_si, ix_ri, ix_rs, sl_s, sl_r, eq_ss, eq_ii, eq_bb, eq_nn, eq_rr, int1_i, int1_b, int1_s, min2_ii, set_rs, set_ri, Bool.false_xor, Bool.true_xor, Bool.not_eq_false', Bool.not_eq_true']
    by_cases h0 : W[i]? = some 48
    · rw [if_pos (by simp [h0])]
      have e : pNat W false i = .ok 0 (i + 1) := by unfold pNat; rw [if_pos ⟨rfl, h0⟩]
      rw [e] at q
      have hi1 : i + 1 ≤ W.length := (List.getElem?_eq_some_iff.mp h0).1
      simp only [if_pos h0]
      exact q _ hi1 But.upd upd_same
    · rw [if_neg (by simp [h0])]
      simp only [if_neg h0]
      have hb1 : But a H (upd H a (HO.ins (aStrip K) dx (fsOf W i))) := But.upd

      refine ⟨a, dx, W, i, rfl, he1, hW, hi, ?_⟩
      simp only [he1, lk_text, lk_at, put_at, put_text, put_at1, lk_sign, lk_must_be, lk_may, lk_run, lk_whole_number, lk_quoted, lk_key, lk_thing, lk_things, lk_pairs, T.c_Strip, T.na_text, T.na_at, HO.ins.injEq, exists_and_left, and_assoc, exists_eq_left', exists_eq_left, exists_eq, true_and, and_true, Option.some.injEq, V.int.injEq, V.ref.injEq, V.str.injEq, V.bl.injEq, upd_same, upd_upd, List.getElem?_cons_zero, List.getElem?_cons_succ, List.set_cons_zero, List.set_cons_succ, scal_ss, S_eq, S_cat, S_len, add_ii, add_ss, sub_ii, mul_ii, mod_ii, fdiv_ii, pow_ii, lt_ii, le_ii, gt_ii, ge_ii, lt_ss, le_ss, iadd_ii, iadd_ss, in_S, cut_fig, if_true, if_false, Bool.false_eq_true, reduceCtorEq, ix_si, ix_ri, ix_rs, sl_s, sl_r, eq_ss, eq_ii, eq_bb, eq_nn, eq_rr, int1_i, int1_b, int1_s, min2_ii, set_rs, set_ri, Bool.false_xor, Bool.true_xor, Bool.not_eq_false', Bool.not_eq_true']
      rw [head_nil]
      cases hc : W[i]? with
      | none =>
        rw [if_neg (by simp)]
        refine ⟨a, dx, W, i, false, rfl, he1, (fun z => nomatch z), fun _ => err_mono ?_ hb1 he1⟩
        have e : pNat W false i = .err i := by simp [pNat, hc]
        rw [e] at q
        exact q
      | some c =>
        rw [if_pos (by simp)]
        refine ⟨a, dx, W, i, rfl, he1, hW, hi, ?_⟩
        rw [head_some hc]
        simp only [he1, lk_text, lk_at, put_at, put_text, put_at1, lk_sign, lk_must_be, lk_may, lk_run, lk_whole_number, lk_quoted, lk_key, lk_thing, lk_things, lk_pairs, T.c_Strip, T.na_text, T.na_at, HO.ins.injEq, exists_and_left, and_assoc, exists_eq_left', exists_eq_left, exists_eq, true_and, and_true, Option.some.injEq, V.int.injEq, V.ref.injEq, V.str.injEq, V.bl.injEq, upd_same, upd_upd, List.getElem?_cons_zero, List.getElem?_cons_succ, List.set_cons_zero, List.set_cons_succ, scal_ss, S_eq, S_cat, S_len, add_ii, add_ss, sub_ii, mul_ii, mod_ii, fdiv_ii, pow_ii, lt_ii, le_ii, gt_ii, ge_ii, lt_ss, le_ss, iadd_ii, iadd_ss, in_S, cut_fig, if_true, if_false, Bool.false_eq_true, reduceCtorEq, ix_si, ix_ri, ix_rs, sl_s, sl_r, eq_ss, eq_ii, eq_bb, eq_nn, eq_rr, int1_i, int1_b, int1_s, min2_ii, set_rs, set_ri, Bool.false_xor, Bool.true_xor, Bool.not_eq_false', Bool.not_eq_true']
        refine ⟨by show 10 ≤ sizeLine; decide, ?_⟩
        rw [fig1_mem]
        refine ⟨a, dx, W, i, _, rfl, he1, fun hg => ?_, fun hg => err_mono ?_ hb1 he1⟩
        · simp only [he1, lk_text, lk_at, put_at, put_text, put_at1, lk_sign, lk_must_be, lk_may, lk_run, lk_whole_number, lk_quoted, lk_key, lk_thing, lk_things, lk_pairs, T.c_Strip, T.na_text, T.na_at, HO.ins.injEq, exists_and_left, and_assoc, exists_eq_left', exists_eq_left, exists_eq, true_and, and_true, Option.some.injEq, V.int.injEq, V.ref.injEq, V.str.injEq, V.bl.injEq, upd_same, upd_upd, List.getElem?_cons_zero, List.getElem?_cons_succ, List.set_cons_zero, List.set_cons_succ, scal_ss, S_eq, S_cat, S_len, add_ii, add_ss, sub_ii, mul_ii, mod_ii, fdiv_ii, pow_ii, lt_ii, le_ii, gt_ii, ge_ii, lt_ss, le_ss, iadd_ii, iadd_ss, in_S, cut_fig, if_true, if_false, Bool.false_eq_true, reduceCtorEq, ix_si, ix_ri, ix_rs, sl_s, sl_r, eq_ss, eq_ii, eq_bb, eq_nn, eq_rr, int1_i, int1_b, int1_s, min2_ii, set_rs, set_ri, Bool.false_xor, Bool.true_xor, Bool.not_eq_false', Bool.not_eq_true']
          refine ⟨a, dx, W, i, _, rfl, he1, hW, hi, fun H2 hb2 he2 => ?_⟩
          rw [fig_mem] at he2 ⊢
          have e : pNat W false i = if (digits W i).length ≤ 640 then .ok (if false then 0 - ((NumText.digitsVal (digits W i) : Nat) : Int) else ((NumText.digitsVal (digits W i) : Nat) : Int)) (i + (digits W i).length) else .stuck := by
            unfold pNat
            rw [if_neg (by simp [h0]), hc, if_pos hg]
          rw [e] at q
          by_cases h640 : (digits W i).length ≤ 640
          · rw [if_pos h640] at q
            have hall : (digits W i).all (fun c => decide (48 ≤ c) && decide (c ≤ 57)) = true := tw_all (p := fig) _
            have hne : digits W i ≠ [] := by
              have hf : fig c = true := by
                unfold fig
                rw [Bool.and_eq_true, decide_eq_true_eq, decide_eq_true_eq] at hg ⊢
                omega
              unfold digits
              rw [drop_some hc, List.takeWhile_cons_of_pos hf]
              simp
            refine ⟨by rw [S_len]; exact h640, _, int_S hall hne (Nat.le_trans h640 (by decide)), ?_⟩
            have hlen := tw_len (p := fig) (W.drop (i))
            rw [List.length_drop] at hlen
            have z := q H2 (show _ ≤ W.length by unfold digits; omega) (But.trans hb1 hb2) he2
            have hc45 : c ≠ 45 := fun e => hm (by rw [hc, e])
            show if decide (c = 45) = true then _ else _
            rw [if_neg (by simp [hc45])]
            exact z
          · rw [if_neg h640] at q
            exact q.elim
        · have e : pNat W false i = .err i := by
            unfold pNat
            rw [if_neg (by simp [h0]), hc, if_neg (by simp only; rw [hg]; exact Bool.false_ne_true)]
          rw [e] at q
          exact q
def spQuo (K : PySem.W.Frag) : Sp := fun vs H Q E => ∃ a dx W i, vs = [.ref a] ∧ Stt K a dx W i H ∧ W.length ≤ 1000000 ∧ i < W.length ∧ Res K a dx W H E (fun l H' => l.length ≤ W.length → Q (.str (S l)) H') (pQuo W i)
theorem ok_Strip_quoted (T : Tx K w mg) (m_sign : Mt P w K mg base 2 (aStrip K) "sign" (spSgn K)) (m_may : Mt P w K mg base 4 (aStrip K) "may" (spMay K)) (m_must_be : Mt P w K mg base 5 (aStrip K) "must_be" (spMust K)) (c_is_bare : Fn P w K mg base 2 "is_bare" [] spBare)
    (F : FunD K "quoted" "Strip.quoted" (defArgs s_Strip_quoted) (defBody s_Strip_quoted) (defScope s_Strip_quoted) [] [] f fd) : FnOk P w K mg base (L2.CX P w) 7 f fd ["self"] (spQuo K) := by
  refine F.ok sc_Strip_quoted (fun vs H Q E h => by obtain ⟨t, v, d, i, rfl, _⟩ := h; rfl) (fun cdv A outer s H vs Q E hr h => ?_)
  have nd := (sc_Strip_quoted).nd
  refine ⟨_, (pss_cons
  (ps_set (i := 1) nd rfl (by first | exact Or.inl rfl | exact Or.inr rfl) (pe_fld (pv 0) rfl))
  (pss_cons
  (ps_fldaug (pv 0) pe_int in_addA)
  (pss_cons
  (ps_set (i := 2) nd rfl (by first | exact Or.inl rfl | exact Or.inr rfl) pe_str)
  (pss_cons
  (ps_while own_def (pt_not (pt_val (pe_mt (m_may) (hr.mono (by omega)) pass_def (pv 0) (pa_cons pe_str pa_nil))))
   (pss_cons
    (ps_expr (pe_mt (m_must_be) (hr.mono (by omega)) pass_def (pv 0) (pa_cons (pe_and (pe_cmpR (k_ne K rfl (Lk.hu0 hr)) (pe_mt0 (m_sign) (hr.mono (by omega)) pass_def (pv 0)) pe_str rfl) (pe_one (pe_cmpR (k_ne K rfl (Lk.hu0 hr)) (pe_mt0 (m_sign) (hr.mono (by omega)) pass_def (pv 0)) pe_str rfl))) pa_nil)))
    (pss_cons
    (ps_set (i := 3) nd rfl (by first | exact Or.inl rfl | exact Or.inr rfl) (pe_mt (m_may) (hr.mono (by omega)) pass_def (pv 0) (pa_cons pe_str pa_nil)))
    (pss_cons
    (ps_expr (pe_mt (m_must_be) (hr.mono (by omega)) pass_def (pv 0) (pa_cons (pe_or (pe_not (pv 3)) (pe_one (pe_and (pe_cmpR (k_ne K rfl (Lk.hu0 hr)) (pe_mt0 (m_sign) (hr.mono (by omega)) pass_def (pv 0)) pe_str rfl) (pe_one (pe_cmpR (k_in K w rfl rfl) (pe_mt0 (m_sign) (hr.mono (by omega)) pass_def (pv 0)) pe_str rfl))))) pa_nil)))
    (pss_cons
    (ps_aug (i := 2) nd rfl (by first | exact Or.inl rfl | exact Or.inr rfl) (pe_ifExp (PW.pt (pw_and (pt_val (pv 3)) (pw_and1 (pt_cmpR (k_eq K rfl (Lk.hu0 hr)) (pe_mt0 (m_sign) (hr.mono (by omega)) pass_def (pv 0)) pe_str rfl)))) pe_str (pe_mt0 (m_sign) (hr.mono (by omega)) pass_def (pv 0))) iop_addA)
    (pss_one
    (ps_fldaug (pv 0) pe_int in_addA)))))))
  (pss_cons
  (ps_if (pt_val (pe_fn c_is_bare (hr.mono (by omega)) pass_def (pa_cons (pv 2) pa_nil)))
   (pss_cons
    (ps_fld (pv 0) (pv 1) rfl)
    (pss_one
    (ps_expr (pe_mt (m_must_be) (hr.mono (by omega)) pass_def (pv 0) (pa_cons pe_bl pa_nil)))))
   pss_nil)
  (pss_one
  (ps_ret (pv 2)))))))), ?_⟩
  obtain ⟨a, dx, W, i, rfl, he, hW, hi, q⟩ := h
  rw [show L2.start N_Strip_quoted [V.ref a] = [some (.ref a), none, none, none] from rfl]
  walk_at "r"
  rw [Stt] at he
  simp only [he, lk_text, lk_at, put_at, put_text, put_at1, lk_sign, lk_must_be, lk_may, lk_run, lk_whole_number, lk_quoted, lk_key, lk_thing, lk_things, lk_pairs, T.c_Strip, T.na_text, T.na_at, HO.ins.injEq, exists_and_left, and_assoc, exists_eq_left', exists_eq_left, exists_eq, true_and, and_true, Option.some.injEq, V.int.injEq, V.ref.injEq, V.str.injEq, V.bl.injEq, upd_same, upd_upd, List.getElem?_cons_zero, List.getElem?_cons_succ, List.set_cons_zero, List.set_cons_succ, scal_ss, S_eq, S_cat, S_len, add_ii, add_ss, sub_ii, mul_ii, mod_ii, fdiv_ii, pow_ii, lt_ii, le_ii, gt_ii, ge_ii, lt_ss, le_ss, iadd_ii, iadd_ss, in_S, cut_fig, if_true, if_false, Bool.false_eq_true, reduceCtorEq, ix_si, ix_ri, ix_rs, sl_s, sl_r, eq_ss, eq_ii, eq_bb, eq_nn, eq_rr, int1_i, int1_b, int1_s, min2_ii, set_rs, set_ri, Bool.false_xor, Bool.true_xor, Bool.not_eq_false', Bool.not_eq_true']
  obtain ⟨R0, eR⟩ : ∃ R0, R0 = qLoop W (W.length + 1) (i + 1) [] := ⟨_, rfl⟩
  rw [pQuo, ← eR] at q
  obtain ⟨Pv, ePv⟩ : ∃ Pv : Nat → L2.St → Hp → Prop, Pv = fun n σ H' => ∃ j acc x3, j ≤ W.length ∧ acc.length ≤ j ∧ qLoop W n j acc = R0 ∧ σ = [some (V.ref a), some (V.int (i : Int)), some (V.str (S acc)), x3] ∧ But a H H' ∧ Stt K a dx W j H' := ⟨_, rfl⟩
  refine ⟨by show 2 < 1000; decide, Pv, ⟨W.length + 1, by rw [ePv]; exact ⟨i + 1, [], none, hi, Nat.zero_le _, eR.symm, rfl, But.upd, upd_same⟩⟩, ?_⟩
  intro n σ H' hP
  have hP2 := hP
  rw [ePv] at hP2
  obtain ⟨j, acc, x3, hj, hacc, hq, rfl, hb, he'⟩ := hP2
  rw [Stt] at he'
  simp only [he', lk_text, lk_at, put_at, put_text, put_at1, lk_sign, lk_must_be, lk_may, lk_run, lk_whole_number, lk_quoted, lk_key, lk_thing, lk_things, lk_pairs, T.c_Strip, T.na_text, T.na_at, HO.ins.injEq, exists_and_left, and_assoc, exists_eq_left', exists_eq_left, exists_eq, true_and, and_true, Option.some.injEq, V.int.injEq, V.ref.injEq, V.str.injEq, V.bl.injEq, upd_same, upd_upd, List.getElem?_cons_zero, List.getElem?_cons_succ, List.set_cons_zero, List.set_cons_succ, scal_ss, S_eq, S_cat, S_len, add_ii, add_ss, sub_ii, mul_ii, mod_ii, fdiv_ii, pow_ii, lt_ii, le_ii, gt_ii, ge_ii, lt_ss, le_ss, iadd_ii, iadd_ss, in_S, cut_fig, if_true, if_false, Bool.false_eq_true, reduceCtorEq, ix_si, ix_ri, ix_rs, sl_s, sl_r, eq_ss, eq_ii, eq_bb, eq_nn, eq_rr, int1_i, int1_b, int1_s, min2_ii, set_rs, set_ri, Bool.false_xor, Bool.true_xor, Bool.not_eq_false', Bool.not_eq_true']
  refine ⟨a, dx, W, j, 39, rfl, he', hW, hj, ?_⟩
  cases n with
  | zero =>
    rw [← hq] at q
    exact q.elim
  | succ n =>
  have hN : ∀ (σ' : L2.St) (H'' : Hp), Pv n σ' H'' → ∃ m', m' < n + 1 ∧ Pv m' σ' H'' := fun σ' H'' h => ⟨n, Nat.lt_succ_self n, h⟩
  have mkP : ∀ (k : Nat) (acc' : List Nat) (x : Option V) (H'' : Hp), k ≤ W.length → acc'.length ≤ k → qLoop W n k acc' = R0 → But a H' H'' → Stt K a dx W k H'' → Pv n [some (V.ref a), some (V.int (i : Int)), some (V.str (S acc')), x] H'' := fun k acc' x H'' h1 h2 h3 h4 h5 => by
    rw [ePv]
    exact ⟨k, acc', x, h1, h2, h3, rfl, hb.trans h4, h5⟩
  have e16 := sizeLine_eq
  rw [qLoop] at hq
  simp only [he', lk_text, lk_at, put_at, put_text, put_at1, lk_sign, lk_must_be, lk_may, lk_run, lk_whole_number, lk_quoted, lk_key, lk_thing, lk_things, lk_pairs, T.c_Strip, T.na_text, T.na_at, HO.ins.injEq, exists_and_left, and_assoc, exists_eq_left', exists_eq_left, exists_eq, true_and, and_true, Option.some.injEq, V.int.injEq, V.ref.injEq, V.str.injEq, V.bl.injEq, upd_same, upd_upd, List.getElem?_cons_zero, List.getElem?_cons_succ, List.set_cons_zero, List.set_cons_succ, scal_ss, S_eq, S_cat, S_len, add_ii, add_ss, sub_ii, mul_ii, mod_ii, fdiv_ii, pow_ii, lt_ii, le_ii, gt_ii, ge_ii, lt_ss, le_ss, iadd_ii, iadd_ss, in_S, cut_fig, if_true, if_false, Bool.false_eq_true, reduceCtorEq, ix_si, ix_ri, ix_rs, sl_s, sl_r, eq_ss, eq_ii, eq_bb, eq_nn, eq_rr, int1_i, int1_b, int1_s, min2_ii, set_rs, set_ri, Bool.false_xor, Bool.true_xor, Bool.not_eq_false', Bool.not_eq_true']
  cases hc : W[j]? with
  | none =>
    rw [hc] at hq
    simp only [reduceCtorEq, if_false]
    rw [if_pos (by simp)]
    refine ⟨Pv n, hN, a, dx, W, j, rfl, upd_same, hW, hj, ?_⟩
    rw [drop_none hc]
    simp only [he', lk_text, lk_at, put_at, put_text, put_at1, lk_sign, lk_must_be, lk_may, lk_run, lk_whole_number, lk_quoted, lk_key, lk_thing, lk_things, lk_pairs, T.c_Strip, T.na_text, T.na_at, HO.ins.injEq, exists_and_left, and_assoc, exists_eq_left', exists_eq_left, exists_eq, true_and, and_true, Option.some.injEq, V.int.injEq, V.ref.injEq, V.str.injEq, V.bl.injEq, upd_same, upd_upd, List.getElem?_cons_zero, List.getElem?_cons_succ, List.set_cons_zero, List.set_cons_succ, scal_ss, S_eq, S_cat, S_len, add_ii, add_ss, sub_ii, mul_ii, mod_ii, fdiv_ii, pow_ii, lt_ii, le_ii, gt_ii, ge_ii, lt_ss, le_ss, iadd_ii, iadd_ss, in_S, cut_fig, if_true, if_false, Bool.false_eq_true, reduceCtorEq, ix_si, ix_ri, ix_rs, sl_s, sl_r, eq_ss, eq_ii, eq_bb, eq_nn, eq_rr, int1_i, int1_b, int1_s, min2_ii, set_rs, set_ri, Bool.false_xor, Bool.true_xor, Bool.not_eq_false', Bool.not_eq_true']
    rw [if_neg (by simp)]
    refine ⟨a, dx, W, j, false, rfl, upd_same, (fun z => nomatch z), fun _ => err_mono ?_ (hb.trans But.upd) upd_same⟩
    rw [← hq] at q
    exact q
  | some c =>
    rw [hc] at hq
    have hj1 : j + 1 ≤ W.length := (List.getElem?_eq_some_iff.mp hc).1
    simp only at hq
    by_cases h39 : c = 39
    · subst h39
      rw [if_pos rfl] at hq
      rw [if_neg (by simp), if_pos rfl]
      refine ⟨acc, rfl, by omega, fun H2 s2 => ⟨_, rfl, ?_⟩⟩
      have he2 := s2 _ _ upd_same
      have hb2 : But a H H2 := (hb.trans But.upd).trans fun b o _ e => s2 b o e
      rw [← hq] at q
      by_cases hbare : bareT acc = true
      · rw [if_pos hbare]
        simp only [if_pos hbare] at q
        simp only [he2, lk_text, lk_at, put_at, put_text, put_at1, lk_sign, lk_must_be, lk_may, lk_run, lk_whole_number, lk_quoted, lk_key, lk_thing, lk_things, lk_pairs, T.c_Strip, T.na_text, T.na_at, HO.ins.injEq, exists_and_left, and_assoc, exists_eq_left', exists_eq_left, exists_eq, true_and, and_true, Option.some.injEq, V.int.injEq, V.ref.injEq, V.str.injEq, V.bl.injEq, upd_same, upd_upd, List.getElem?_cons_zero, List.getElem?_cons_succ, List.set_cons_zero, List.set_cons_succ, scal_ss, S_eq, S_cat, S_len, add_ii, add_ss, sub_ii, mul_ii, mod_ii, fdiv_ii, pow_ii, lt_ii, le_ii, gt_ii, ge_ii, lt_ss, le_ss, iadd_ii, iadd_ss, in_S, cut_fig, if_true, if_false, Bool.false_eq_true, reduceCtorEq, ix_si, ix_ri, ix_rs, sl_s, sl_r, eq_ss, eq_ii, eq_bb, eq_nn, eq_rr, int1_i, int1_b, int1_s, min2_ii, set_rs, set_ri, Bool.false_xor, Bool.true_xor, Bool.not_eq_false', Bool.not_eq_true']
        refine ⟨by show 2 < 1000; decide, a, dx, W, i, false, rfl, upd_same, (fun z => nomatch z), fun _ => err_mono ?_ (hb2.trans But.upd) upd_same⟩
        exact q
      · rw [if_neg hbare]
        simp only [if_neg hbare] at q
        exact q H2 hj1 hb2 he2 (by omega)
    · rw [if_neg h39] at hq
      rw [if_pos (by simp [h39])]
      simp only [Option.some.injEq, if_neg h39]
      refine ⟨Pv n, hN, a, dx, W, j, rfl, upd_same, hW, hj, ?_⟩
      rw [head_some hc]
      simp only [he', lk_text, lk_at, put_at, put_text, put_at1, lk_sign, lk_must_be, lk_may, lk_run, lk_whole_number, lk_quoted, lk_key, lk_thing, lk_things, lk_pairs, T.c_Strip, T.na_text, T.na_at, HO.ins.injEq, exists_and_left, and_assoc, exists_eq_left', exists_eq_left, exists_eq, true_and, and_true, Option.some.injEq, V.int.injEq, V.ref.injEq, V.str.injEq, V.bl.injEq, upd_same, upd_upd, List.getElem?_cons_zero, List.getElem?_cons_succ, List.set_cons_zero, List.set_cons_succ, scal_ss, S_eq, S_cat, S_len, add_ii, add_ss, sub_ii, mul_ii, mod_ii, fdiv_ii, pow_ii, lt_ii, le_ii, gt_ii, ge_ii, lt_ss, le_ss, iadd_ii, iadd_ss, in_S, cut_fig, if_true, if_false, Bool.false_eq_true, reduceCtorEq, ix_si, ix_ri, ix_rs, sl_s, sl_r, eq_ss, eq_ii, eq_bb, eq_nn, eq_rr, int1_i, int1_b, int1_s, min2_ii, set_rs, set_ri, Bool.false_xor, Bool.true_xor, Bool.not_eq_false', Bool.not_eq_true']
      rw [if_pos (by simp)]
      refine ⟨a, dx, W, j, rfl, upd_same, hW, hj, ?_⟩
      rw [head_some hc]
      simp only [he', lk_text, lk_at, put_at, put_text, put_at1, lk_sign, lk_must_be, lk_may, lk_run, lk_whole_number, lk_quoted, lk_key, lk_thing, lk_things, lk_pairs, T.c_Strip, T.na_text, T.na_at, HO.ins.injEq, exists_and_left, and_assoc, exists_eq_left', exists_eq_left, exists_eq, true_and, and_true, Option.some.injEq, V.int.injEq, V.ref.injEq, V.str.injEq, V.bl.injEq, upd_same, upd_upd, List.getElem?_cons_zero, List.getElem?_cons_succ, List.set_cons_zero, List.set_cons_succ, scal_ss, S_eq, S_cat, S_len, add_ii, add_ss, sub_ii, mul_ii, mod_ii, fdiv_ii, pow_ii, lt_ii, le_ii, gt_ii, ge_ii, lt_ss, le_ss, iadd_ii, iadd_ss, in_S, cut_fig, if_true, if_false, Bool.false_eq_true, reduceCtorEq, ix_si, ix_ri, ix_rs, sl_s, sl_r, eq_ss, eq_ii, eq_bb, eq_nn, eq_rr, int1_i, int1_b, int1_s, min2_ii, set_rs, set_ri, Bool.false_xor, Bool.true_xor, Bool.not_eq_false', Bool.not_eq_true']
      by_cases h10 : c = 10
      · subst h10
        rw [if_pos rfl] at hq
        refine ⟨a, dx, W, j, _, rfl, upd_same, (fun z => by simp at z), fun _ => err_mono ?_ (hb.trans But.upd) upd_same⟩
        rw [← hq] at q
        exact q
      rw [if_neg h10] at hq
      refine ⟨a, dx, W, j, _, rfl, upd_same, fun _ => ?_, (fun z => by simp [h10] at z)⟩
      simp only [he', lk_text, lk_at, put_at, put_text, put_at1, lk_sign, lk_must_be, lk_may, lk_run, lk_whole_number, lk_quoted, lk_key, lk_thing, lk_things, lk_pairs, T.c_Strip, T.na_text, T.na_at, HO.ins.injEq, exists_and_left, and_assoc, exists_eq_left', exists_eq_left, exists_eq, true_and, and_true, Option.some.injEq, V.int.injEq, V.ref.injEq, V.str.injEq, V.bl.injEq, upd_same, upd_upd, List.getElem?_cons_zero, List.getElem?_cons_succ, List.set_cons_zero, List.set_cons_succ, scal_ss, S_eq, S_cat, S_len, add_ii, add_ss, sub_ii, mul_ii, mod_ii, fdiv_ii, pow_ii, lt_ii, le_ii, gt_ii, ge_ii, lt_ss, le_ss, iadd_ii, iadd_ss, in_S, cut_fig, if_true, if_false, Bool.false_eq_true, reduceCtorEq, ix_si, ix_ri, ix_rs, sl_s, sl_r, eq_ss, eq_ii, eq_bb, eq_nn, eq_rr, int1_i, int1_b, int1_s, min2_ii, set_rs, set_ri, Bool.false_xor, Bool.true_xor, Bool.not_eq_false', Bool.not_eq_true']
      refine ⟨a, dx, W, j, 94, rfl, upd_same, hW, hj, ?_⟩
      simp only [he', lk_text, lk_at, put_at, put_text, put_at1, lk_sign, lk_must_be, lk_may, lk_run, lk_whole_number, lk_quoted, lk_key, lk_thing, lk_things, lk_pairs, T.c_Strip, T.na_text, T.na_at, HO.ins.injEq, exists_and_left, and_assoc, exists_eq_left', exists_eq_left, exists_eq, true_and, and_true, Option.some.injEq, V.int.injEq, V.ref.injEq, V.str.injEq, V.bl.injEq, upd_same, upd_upd, List.getElem?_cons_zero, List.getElem?_cons_succ, List.set_cons_zero, List.set_cons_succ, scal_ss, S_eq, S_cat, S_len, add_ii, add_ss, sub_ii, mul_ii, mod_ii, fdiv_ii, pow_ii, lt_ii, le_ii, gt_ii, ge_ii, lt_ss, le_ss, iadd_ii, iadd_ss, in_S, cut_fig, if_true, if_false, Bool.false_eq_true, reduceCtorEq, ix_si, ix_ri, ix_rs, sl_s, sl_r, eq_ss, eq_ii, eq_bb, eq_nn, eq_rr, int1_i, int1_b, int1_s, min2_ii, set_rs, set_ri, Bool.false_xor, Bool.true_xor, Bool.not_eq_false', Bool.not_eq_true']
      by_cases h94 : c = 94
      · subst h94
        rw [if_pos rfl] at hq
        rw [if_neg (by simp [hc])]
        simp only [hc, if_true]
        refine ⟨a, dx, W, j + 1, rfl, upd_same, hW, hj1, ?_⟩
        cases he1 : W[j + 1]? with
        | none =>
          rw [he1] at hq
          rw [drop_none he1]
          simp only [he', lk_text, lk_at, put_at, put_text, put_at1, lk_sign, lk_must_be, lk_may, lk_run, lk_whole_number, lk_quoted, lk_key, lk_thing, lk_things, lk_pairs, T.c_Strip, T.na_text, T.na_at, HO.ins.injEq, exists_and_left, and_assoc, exists_eq_left', exists_eq_left, exists_eq, true_and, and_true, Option.some.injEq, V.int.injEq, V.ref.injEq, V.str.injEq, V.bl.injEq, upd_same, upd_upd, List.getElem?_cons_zero, List.getElem?_cons_succ, List.set_cons_zero, List.set_cons_succ, scal_ss, S_eq, S_cat, S_len, add_ii, add_ss, sub_ii, mul_ii, mod_ii, fdiv_ii, pow_ii, lt_ii, le_ii, gt_ii, ge_ii, lt_ss, le_ss, iadd_ii, iadd_ss, in_S, cut_fig, if_true, if_false, Bool.false_eq_true, reduceCtorEq, ix_si, ix_ri, ix_rs, sl_s, sl_r, eq_ss, eq_ii, eq_bb, eq_nn, eq_rr, int1_i, int1_b, int1_s, min2_ii, set_rs, set_ri, Bool.false_xor, Bool.true_xor, Bool.not_eq_false', Bool.not_eq_true']
          rw [if_neg (by simp)]
          refine ⟨a, dx, W, j + 1, false, rfl, upd_same, (fun z => nomatch z), fun _ => err_mono ?_ (hb.trans But.upd) upd_same⟩
          rw [← hq] at q
          exact q
        | some e =>
          have hj2 : j + 2 ≤ W.length := (List.getElem?_eq_some_iff.mp he1).1
          rw [he1] at hq
          simp only at hq
          rw [head_some he1]
          simp only [he', lk_text, lk_at, put_at, put_text, put_at1, lk_sign, lk_must_be, lk_may, lk_run, lk_whole_number, lk_quoted, lk_key, lk_thing, lk_things, lk_pairs, T.c_Strip, T.na_text, T.na_at, HO.ins.injEq, exists_and_left, and_assoc, exists_eq_left', exists_eq_left, exists_eq, true_and, and_true, Option.some.injEq, V.int.injEq, V.ref.injEq, V.str.injEq, V.bl.injEq, upd_same, upd_upd, List.getElem?_cons_zero, List.getElem?_cons_succ, List.set_cons_zero, List.set_cons_succ, scal_ss, S_eq, S_cat, S_len, add_ii, add_ss, sub_ii, mul_ii, mod_ii, fdiv_ii, pow_ii, lt_ii, le_ii, gt_ii, ge_ii, lt_ss, le_ss, iadd_ii, iadd_ss, in_S, cut_fig, if_true, if_false, Bool.false_eq_true, reduceCtorEq, ix_si, ix_ri, ix_rs, sl_s, sl_r, eq_ss, eq_ii, eq_bb, eq_nn, eq_rr, int1_i, int1_b, int1_s, min2_ii, set_rs, set_ri, Bool.false_xor, Bool.true_xor, Bool.not_eq_false', Bool.not_eq_true']
          rw [if_pos (by simp)]
          refine ⟨a, dx, W, j + 1, rfl, upd_same, hW, hj1, ?_⟩
          rw [head_some he1]
          simp only [he', lk_text, lk_at, put_at, put_text, put_at1, lk_sign, lk_must_be, lk_may, lk_run, lk_whole_number, lk_quoted, lk_key, lk_thing, lk_things, lk_pairs, T.c_Strip, T.na_text, T.na_at, HO.ins.injEq, exists_and_left, and_assoc, exists_eq_left', exists_eq_left, exists_eq, true_and, and_true, Option.some.injEq, V.int.injEq, V.ref.injEq, V.str.injEq, V.bl.injEq, upd_same, upd_upd, List.getElem?_cons_zero, List.getElem?_cons_succ, List.set_cons_zero, List.set_cons_succ, scal_ss, S_eq, S_cat, S_len, add_ii, add_ss, sub_ii, mul_ii, mod_ii, fdiv_ii, pow_ii, lt_ii, le_ii, gt_ii, ge_ii, lt_ss, le_ss, iadd_ii, iadd_ss, in_S, cut_fig, if_true, if_false, Bool.false_eq_true, reduceCtorEq, ix_si, ix_ri, ix_rs, sl_s, sl_r, eq_ss, eq_ii, eq_bb, eq_nn, eq_rr, int1_i, int1_b, int1_s, min2_ii, set_rs, set_ri, Bool.false_xor, Bool.true_xor, Bool.not_eq_false', Bool.not_eq_true']
          by_cases hmem : e ∈ [39, 94, 110]
          · refine ⟨a, dx, W, j + 1, _, rfl, upd_same, fun _ => ?_, (fun z => by simp [hmem] at z)⟩
            try rw [if_pos (by simp)]
            simp only [he', lk_text, lk_at, put_at, put_text, put_at1, lk_sign, lk_must_be, lk_may, lk_run, lk_whole_number, lk_quoted, lk_key, lk_thing, lk_things, lk_pairs, T.c_Strip, T.na_text, T.na_at, HO.ins.injEq, exists_and_left, and_assoc, exists_eq_left', exists_eq_left, exists_eq, true_and, and_true, Option.some.injEq, V.int.injEq, V.ref.injEq, V.str.injEq, V.bl.injEq, upd_same, upd_upd, List.getElem?_cons_zero, List.getElem?_cons_succ, List.set_cons_zero, List.set_cons_succ, scal_ss, S_eq, S_cat, S_len, add_ii, add_ss, sub_ii, mul_ii, mod_ii, fdiv_ii, pow_ii, lt_ii, le_ii, gt_ii, ge_ii, lt_ss, le_ss, iadd_ii, iadd_ss, in_S, cut_fig, if_true, if_false, Bool.false_eq_true, reduceCtorEq, ix_si, ix_ri, ix_rs, sl_s, sl_r, eq_ss, eq_ii, eq_bb, eq_nn, eq_rr, int1_i, int1_b, int1_s, min2_ii, set_rs, set_ri, Bool.false_xor, Bool.true_xor, Bool.not_eq_false', Bool.not_eq_true']
            refine ⟨a, dx, W, j + 1, rfl, upd_same, hW, hj1, ?_⟩
            rw [head_some he1]
            simp only [he', lk_text, lk_at, put_at, put_text, put_at1, lk_sign, lk_must_be, lk_may, lk_run, lk_whole_number, lk_quoted, lk_key, lk_thing, lk_things, lk_pairs, T.c_Strip, T.na_text, T.na_at, HO.ins.injEq, exists_and_left, and_assoc, exists_eq_left', exists_eq_left, exists_eq, true_and, and_true, Option.some.injEq, V.int.injEq, V.ref.injEq, V.str.injEq, V.bl.injEq, upd_same, upd_upd, List.getElem?_cons_zero, List.getElem?_cons_succ, List.set_cons_zero, List.set_cons_succ, scal_ss, S_eq, S_cat, S_len, add_ii, add_ss, sub_ii, mul_ii, mod_ii, fdiv_ii, pow_ii, lt_ii, le_ii, gt_ii, ge_ii, lt_ss, le_ss, iadd_ii, iadd_ss, in_S, cut_fig, if_true, if_false, Bool.false_eq_true, reduceCtorEq, ix_si, ix_ri, ix_rs, sl_s, sl_r, eq_ss, eq_ii, eq_bb, eq_nn, eq_rr, int1_i, int1_b, int1_s, min2_ii, set_rs, set_ri, Bool.false_xor, Bool.true_xor, Bool.not_eq_false', Bool.not_eq_true']
            by_cases h110 : e = 110
            · subst h110
              rw [if_pos rfl] at hq
              rw [if_pos (by simp)]
              refine ⟨by simp only [List.length_cons, List.length_nil]; omega, by show 2 < 1000; decide, ?_⟩
              exact mkP (j + 2) _ _ _ hj2 (by rw [List.length_append, List.length_singleton]; omega) hq But.upd upd_same
            · rw [if_neg h110] at hq
              have h3 : e = 39 ∨ e = 94 := by
                simp only [List.mem_cons, List.mem_nil_iff, or_false] at hmem
                omega
              rw [if_pos h3] at hq
              rw [if_neg (by simp [h110])]
              refine ⟨a, dx, W, j + 1, rfl, upd_same, hW, hj1, ?_⟩
              rw [head_some he1]
              simp only [he', lk_text, lk_at, put_at, put_text, put_at1, lk_sign, lk_must_be, lk_may, lk_run, lk_whole_number, lk_quoted, lk_key, lk_thing, lk_things, lk_pairs, T.c_Strip, T.na_text, T.na_at, HO.ins.injEq, exists_and_left, and_assoc, exists_eq_left', exists_eq_left, exists_eq, true_and, and_true, Option.some.injEq, V.int.injEq, V.ref.injEq, V.str.injEq, V.bl.injEq, upd_same, upd_upd, List.getElem?_cons_zero, List.getElem?_cons_succ, List.set_cons_zero, List.set_cons_succ, scal_ss, S_eq, S_cat, S_len, add_ii, add_ss, sub_ii, mul_ii, mod_ii, fdiv_ii, pow_ii, lt_ii, le_ii, gt_ii, ge_ii, lt_ss, le_ss, iadd_ii, iadd_ss, in_S, cut_fig, if_true, if_false, Bool.false_eq_true, reduceCtorEq, ix_si, ix_ri, ix_rs, sl_s, sl_r, eq_ss, eq_ii, eq_bb, eq_nn, eq_rr, int1_i, int1_b, int1_s, min2_ii, set_rs, set_ri, Bool.false_xor, Bool.true_xor, Bool.not_eq_false', Bool.not_eq_true']
              refine ⟨by simp only [List.length_cons, List.length_nil]; omega, by show 2 < 1000; decide, ?_⟩
              exact mkP (j + 2) _ _ _ hj2 (by rw [List.length_append, List.length_singleton]; omega) hq But.upd upd_same
          · refine ⟨a, dx, W, j + 1, _, rfl, upd_same, (fun z => by simp [hmem] at z), fun _ => err_mono ?_ (hb.trans But.upd) upd_same⟩
            have h110 : ¬ e = 110 := fun z => hmem (by simp [z])
            have h3 : ¬ (e = 39 ∨ e = 94) := fun z => hmem (by rcases z with z | z <;> simp [z])
            rw [if_neg h110, if_neg h3] at hq
            rw [← hq] at q
            exact q
      · rw [if_neg h94] at hq
        rw [if_pos (by simp [hc, h94])]
        have hne : ¬ W[j]? = some 94 := by simp [hc, h94]
        simp only [if_neg hne]
        refine ⟨a, dx, W, j, true, rfl, upd_same, fun _ => ?_, (fun z => nomatch z)⟩
        simp only [he', lk_text, lk_at, put_at, put_text, put_at1, lk_sign, lk_must_be, lk_may, lk_run, lk_whole_number, lk_quoted, lk_key, lk_thing, lk_things, lk_pairs, T.c_Strip, T.na_text, T.na_at, HO.ins.injEq, exists_and_left, and_assoc, exists_eq_left', exists_eq_left, exists_eq, true_and, and_true, Option.some.injEq, V.int.injEq, V.ref.injEq, V.str.injEq, V.bl.injEq, upd_same, upd_upd, List.getElem?_cons_zero, List.getElem?_cons_succ, List.set_cons_zero, List.set_cons_succ, scal_ss, S_eq, S_cat, S_len, add_ii, add_ss, sub_ii, mul_ii, mod_ii, fdiv_ii, pow_ii, lt_ii, le_ii, gt_ii, ge_ii, lt_ss, le_ss, iadd_ii, iadd_ss, in_S, cut_fig, if_true, if_false, Bool.false_eq_true, reduceCtorEq, ix_si, ix_ri, ix_rs, sl_s, sl_r, eq_ss, eq_ii, eq_bb, eq_nn, eq_rr, int1_i, int1_b, int1_s, min2_ii, set_rs, set_ri, Bool.false_xor, Bool.true_xor, Bool.not_eq_false', Bool.not_eq_true']
        rw [if_neg (by simp [hc, h94])]
        refine ⟨a, dx, W, j, rfl, upd_same, hW, hj, ?_⟩
        rw [head_some hc]
        simp only [he', lk_text, lk_at, put_at, put_text, put_at1, lk_sign, lk_must_be, lk_may, lk_run, lk_whole_number, lk_quoted, lk_key, lk_thing, lk_things, lk_pairs, T.c_Strip, T.na_text, T.na_at, HO.ins.injEq, exists_and_left, and_assoc, exists_eq_left', exists_eq_left, exists_eq, true_and, and_true, Option.some.injEq, V.int.injEq, V.ref.injEq, V.str.injEq, V.bl.injEq, upd_same, upd_upd, List.getElem?_cons_zero, List.getElem?_cons_succ, List.set_cons_zero, List.set_cons_succ, scal_ss, S_eq, S_cat, S_len, add_ii, add_ss, sub_ii, mul_ii, mod_ii, fdiv_ii, pow_ii, lt_ii, le_ii, gt_ii, ge_ii, lt_ss, le_ss, iadd_ii, iadd_ss, in_S, cut_fig, if_true, if_false, Bool.false_eq_true, reduceCtorEq, ix_si, ix_ri, ix_rs, sl_s, sl_r, eq_ss, eq_ii, eq_bb, eq_nn, eq_rr, int1_i, int1_b, int1_s, min2_ii, set_rs, set_ri, Bool.false_xor, Bool.true_xor, Bool.not_eq_false', Bool.not_eq_true']
        refine ⟨by simp only [List.length_cons, List.length_nil]; omega, by show 2 < 1000; decide, ?_⟩
        exact mkP (j + 1) _ _ _ hj1 (by rw [List.length_append, List.length_singleton]; omega) hq But.upd upd_same
end
end K97

set_option Elab.async false
set_option linter.all false
set_option maxRecDepth 100000
set_option maxHeartbeats 4000000
/-! Keys, things, lists of things, pairs; read_paper. -/
namespace K97
open PySem PySem.Spec PyProof.Rows L2 Lk SX
local macro_rules | `(tactic| walk_at "r") => `(tactic| simp only [tSeq, tNext, tRet, tRetN, tIfS, tDrop, tAsg, tAug, tFor, tWhile, tAndV, tOrV, tNotV, tAnd, tOr, tNot, tB, tTest, tIf, tIsN, tNotN, tOp, tVar, tC, tCB, CwR.tReplC, tPar, tCons, tNil, tLc, tYes, tTup, tLst, tCall, tMeth, tFld, tSl, tPart, tNoPart, tM1, tBM, tVeI, tOst, sFld, sFldAug, tMkO, tMake, tTGet, gName, gNil, gCons, gTup, gUnl, gSub, iAny, iRng1, iKeys, iVals,
  List.getElem?_cons_zero, List.getElem?_cons_succ, List.set_cons_zero, List.set_cons_succ, Option.some.injEq, V.str.injEq, V.bl.injEq, V.int.injEq, V.ref.injEq, exists_and_left, exists_eq_left', exists_eq_left, exists_eq, cxK, cxW, HO.ins.injEq, and_assoc, upd_same, true_and, and_true, reduceCtorEq, false_and, and_false, exists_false, or_false, false_or, if_true, if_false, List.cons_append, List.nil_append, add_ii, add_ss, sub_ii, mul_ii, mod_ii, fdiv_ii, pow_ii, lt_ii, le_ii, gt_ii, ge_ii, lt_ss, le_ss, iadd_ii, iadd_ss, in_ss, ix_si, ix_ri, ix_rs, sl_s, sl_r, eq_ss, eq_ii, eq_bb, eq_nn, eq_rr, int1_i, int1_b, int1_s, min2_ii, set_rs, set_ri, Bool.true_xor, Bool.false_xor, Bool.not_eq_true', wipe, List.map_cons, List.map_nil, S_eq, S_cat, S_len, lit1, lit3, lit5, lit6, lit7, lit8, lit9, lit10, lit11, lit12, lit13, lit14, lit15, lit16, lit17, lit18, lit19, lit21, lit23, lit24, lit26, lit27, lit28, lit29, lit30, lit31, lit32, lit33, lit34, lit35, lit36, lit37, lit38, lit39, lit40, lit41, lit42, lit101, lit102, lit103, lit104, lit105, lit106, lit107, lit108, lit109, lit110, lit111, lit112, lit113, lit114, lit115])
section
variable {P : Program} {w : World} {K : PySem.W.Frag} {mg : Str → Option Value} {base : Heap} {f : Addr} {fd : FuncData}
def aheadV : Option (List Nat) → V
  | none => .non
  | some l => .str (S l)
def spKey (K : PySem.W.Frag) : Sp := fun vs H Q E => ∃ a dx W i ahead, vs = [.ref a, aheadV ahead] ∧ Stt K a dx W i H ∧ W.length ≤ 1000000 ∧ i ≤ W.length ∧ Res K a dx W H E (fun l H' => l.length ≤ W.length → Q (.str (S l)) H') (pKey W i ahead)
theorem ok_Strip_key (T : Tx K w mg) (m_sign : Mt P w K mg base 2 (aStrip K) "sign" (spSgn K)) (m_must_be : Mt P w K mg base 5 (aStrip K) "must_be" (spMust K)) (m_run : Mt P w K mg base 4 (aStrip K) "run" (spRun K)) (m_quoted : Mt P w K mg base 7 (aStrip K) "quoted" (spQuo K)) (c_is_bare : Fn P w K mg base 2 "is_bare" [] spBare)
    (F : FunD K "key" "Strip.key" (defArgs s_Strip_key) (defBody s_Strip_key) (defScope s_Strip_key) [] [] f fd) : FnOk P w K mg base (L2.CX P w) 9 f fd ["self", "ahead"] (spKey K) := by
  refine F.ok sc_Strip_key (fun vs H Q E h => by obtain ⟨t, v, d, i, ah, rfl, _⟩ := h; rfl) (fun cdv A outer s H vs Q E hr h => ?_)
  have nd := (sc_Strip_key).nd
  refine ⟨_, (pss_cons
  (ps_set (i := 2) nd rfl (by first | exact Or.inl rfl | exact Or.inr rfl) (pe_fld (pv 0) rfl))
  (pss_cons
  (ps_set (i := 3) nd rfl (by first | exact Or.inl rfl | exact Or.inr rfl) (pe_cmpR (k_eq K rfl (Lk.hu0 hr)) (pe_mt0 (m_sign) (hr.mono (by omega)) pass_def (pv 0)) pe_str rfl))
  (pss_cons
  (ps_set (i := 4) nd rfl (by first | exact Or.inl rfl | exact Or.inr rfl) (pe_ifExp (pt_val (pv 3)) (pe_mt0 (m_quoted) (hr.mono (by omega)) pass_def (pv 0)) (pe_mt (m_run) (hr.mono (by omega)) pass_def (pv 0) (pa_cons (pe_gstr T.g_SMALL) pa_nil))))
  (pss_cons
  (ps_if (PW.pt (pw_and (pt_cmp (pc_notN (pv 1))) (pw_and1 (pt_cmpR (op_leA) (pv 4) (pv 1) rfl))))
   (pss_cons
    (ps_fld (pv 0) (pv 2) rfl)
    (pss_one
    (ps_expr (pe_mt (m_must_be) (hr.mono (by omega)) pass_def (pv 0) (pa_cons pe_bl pa_nil)))))
   pss_nil)
  (pss_cons
  (ps_expr (pe_mt (m_must_be) (hr.mono (by omega)) pass_def (pv 0) (pa_cons (pe_or (pv 3) (pe_one (pe_fn c_is_bare (hr.mono (by omega)) pass_def (pa_cons (pv 4) pa_nil)))) pa_nil)))
  (pss_one
  (ps_ret (pv 4)))))))), ?_⟩
  obtain ⟨a, dx, W, i, ahead, rfl, he, hW, hi, q⟩ := h
  rw [show L2.start N_Strip_key [V.ref a, aheadV ahead] = [some (.ref a), some (aheadV ahead), none, none, none] from rfl]
  walk_at "r"
  rw [Stt] at he
  simp only [he, lk_text, lk_at, put_at, put_text, put_at1, lk_sign, lk_must_be, lk_may, lk_run, lk_whole_number, lk_quoted, lk_key, lk_thing, lk_things, lk_pairs, T.c_Strip, T.na_text, T.na_at, HO.ins.injEq, exists_and_left, and_assoc, exists_eq_left', exists_eq_left, exists_eq, true_and, and_true, Option.some.injEq, V.int.injEq, V.ref.injEq, V.str.injEq, V.bl.injEq, upd_same, upd_upd, List.getElem?_cons_zero, List.getElem?_cons_succ, List.set_cons_zero, List.set_cons_succ, scal_ss, S_eq, S_cat, S_len, add_ii, add_ss, sub_ii, mul_ii, mod_ii, fdiv_ii, pow_ii, lt_ii, le_ii, gt_ii, ge_ii, lt_ss, le_ss, iadd_ii, iadd_ss, in_S, cut_fig, if_true, if_false, Bool.false_eq_true, reduceCtorEq, ix_si, ix_ri, ix_rs, sl_s, sl_r, eq_ss, eq_ii, eq_bb, eq_nn, eq_rr, int1_i, int1_b, int1_s, min2_ii, set_rs, set_ri, Bool.false_xor, Bool.true_xor, Bool.not_eq_false', Bool.not_eq_true']
  refine ⟨a, dx, W, i, rfl, he, hW, hi, ?_⟩
  simp only [he, lk_text, lk_at, put_at, put_text, put_at1, lk_sign, lk_must_be, lk_may, lk_run, lk_whole_number, lk_quoted, lk_key, lk_thing, lk_things, lk_pairs, T.c_Strip, T.na_text, T.na_at, HO.ins.injEq, exists_and_left, and_assoc, exists_eq_left', exists_eq_left, exists_eq, true_and, and_true, Option.some.injEq, V.int.injEq, V.ref.injEq, V.str.injEq, V.bl.injEq, upd_same, upd_upd, List.getElem?_cons_zero, List.getElem?_cons_succ, List.set_cons_zero, List.set_cons_succ, scal_ss, S_eq, S_cat, S_len, add_ii, add_ss, sub_ii, mul_ii, mod_ii, fdiv_ii, pow_ii, lt_ii, le_ii, gt_ii, ge_ii, lt_ss, le_ss, iadd_ii, iadd_ss, in_S, cut_fig, if_true, if_false, Bool.false_eq_true, reduceCtorEq, ix_si, ix_ri, ix_rs, sl_s, sl_r, eq_ss, eq_ii, eq_bb, eq_nn, eq_rr, int1_i, int1_b, int1_s, min2_ii, set_rs, set_ri, Bool.false_xor, Bool.true_xor, Bool.not_eq_false', Bool.not_eq_true']
  rw [head_dec]
  by_cases h39 : W[i]? = some 39
  · have hlt0 : i < W.length := (List.getElem?_eq_some_iff.mp h39).1
    rw [if_pos (by simp [h39])]
    refine ⟨a, dx, W, i, rfl, he, hW, hlt0, ?_⟩
    have hraw : pRaw W i = pQuo W i := by unfold pRaw; rw [if_pos h39]
    cases hq : pQuo W i with
    | stuck =>
      unfold pKey at q
      rw [hraw, hq] at q
      exact q.elim
    | err j =>
      unfold pKey at q
      rw [hraw, hq] at q
      exact q
    | ok l j =>
      rw [hq] at hraw
      intro H2 hj2 hb2 he2 hl2
      rw [Stt] at he2

      have hkey : pKey W i ahead = if late ahead l = true then .err i else if W[i]? = some 39 ∨ bareT l = true then .ok l j else .err j := by
        unfold pKey
        rw [hraw]
      rw [hkey] at q
      cases ahead with
      | none =>
        rw [if_neg (by simp [aheadV])]
        simp only [he2, lk_text, lk_at, put_at, put_text, put_at1, lk_sign, lk_must_be, lk_may, lk_run, lk_whole_number, lk_quoted, lk_key, lk_thing, lk_things, lk_pairs, T.c_Strip, T.na_text, T.na_at, HO.ins.injEq, exists_and_left, and_assoc, exists_eq_left', exists_eq_left, exists_eq, true_and, and_true, Option.some.injEq, V.int.injEq, V.ref.injEq, V.str.injEq, V.bl.injEq, upd_same, upd_upd, List.getElem?_cons_zero, List.getElem?_cons_succ, List.set_cons_zero, List.set_cons_succ, scal_ss, S_eq, S_cat, S_len, add_ii, add_ss, sub_ii, mul_ii, mod_ii, fdiv_ii, pow_ii, lt_ii, le_ii, gt_ii, ge_ii, lt_ss, le_ss, iadd_ii, iadd_ss, in_S, cut_fig, if_true, if_false, Bool.false_eq_true, reduceCtorEq, ix_si, ix_ri, ix_rs, sl_s, sl_r, eq_ss, eq_ii, eq_bb, eq_nn, eq_rr, int1_i, int1_b, int1_s, min2_ii, set_rs, set_ri, Bool.false_xor, Bool.true_xor, Bool.not_eq_false', Bool.not_eq_true']
        rw [if_neg (by simp [late])] at q
        rw [if_pos (.inl h39)] at q
        rw [if_pos (by simp [h39])]
        exact ⟨a, dx, W, j, true, rfl, he2, fun _ => q H2 hj2 hb2 he2 hl2, (fun z => nomatch z)⟩
      | some a0 =>
        rw [if_pos (by simp [aheadV])]
        simp only [aheadV]
        simp only [he2, lk_text, lk_at, put_at, put_text, put_at1, lk_sign, lk_must_be, lk_may, lk_run, lk_whole_number, lk_quoted, lk_key, lk_thing, lk_things, lk_pairs, T.c_Strip, T.na_text, T.na_at, HO.ins.injEq, exists_and_left, and_assoc, exists_eq_left', exists_eq_left, exists_eq, true_and, and_true, Option.some.injEq, V.int.injEq, V.ref.injEq, V.str.injEq, V.bl.injEq, upd_same, upd_upd, List.getElem?_cons_zero, List.getElem?_cons_succ, List.set_cons_zero, List.set_cons_succ, scal_ss, S_eq, S_cat, S_len, add_ii, add_ss, sub_ii, mul_ii, mod_ii, fdiv_ii, pow_ii, lt_ii, le_ii, gt_ii, ge_ii, lt_ss, le_ss, iadd_ii, iadd_ss, in_S, cut_fig, if_true, if_false, Bool.false_eq_true, reduceCtorEq, ix_si, ix_ri, ix_rs, sl_s, sl_r, eq_ss, eq_ii, eq_bb, eq_nn, eq_rr, int1_i, int1_b, int1_s, min2_ii, set_rs, set_ri, Bool.false_xor, Bool.true_xor, Bool.not_eq_false', Bool.not_eq_true']
        by_cases hlt : a0 < l
        · have hl0 : late (some a0) l = false := by simp [late, hlt]
          rw [if_neg (by simp [hl0])] at q
          rw [if_neg (by simp [hlt])]
          rw [if_pos (.inl h39)] at q
          rw [if_pos (by simp [h39])]
          exact ⟨a, dx, W, j, true, rfl, he2, fun _ => q H2 hj2 hb2 he2 hl2, (fun z => nomatch z)⟩
        · have hl0 : late (some a0) l = true := by simp [late, hlt]
          rw [if_pos hl0] at q
          rw [if_pos (by simp [hlt])]
          refine ⟨by show 2 < 1000; decide, a, dx, W, i, false, rfl, upd_same, (fun z => nomatch z), fun _ => err_mono q (hb2.trans But.upd) upd_same⟩

  · rw [if_neg (by simp [h39])]
    have hraw : pRaw W i = .ok (word W i) (i + (word W i).length) := by unfold pRaw; rw [if_neg h39]
    have hl2 : (word W i).length ≤ W.length := by
      have := tw_len (p := small) (W.drop i)
      rw [List.length_drop] at this
      unfold word
      omega
    have hj2 : i + (word W i).length ≤ W.length := by
      have := tw_len (p := small) (W.drop i)
      rw [List.length_drop] at this
      unfold word
      omega
    refine ⟨a, dx, W, i, _, rfl, he, hW, hi, fun H2 hb2 he2 => ?_⟩
    rw [small_mem'] at he2 ⊢
    rw [show (W.drop i).takeWhile small = word W i from rfl] at he2 ⊢
    rw [Stt] at he2

    have hkey : pKey W i ahead = if late ahead (word W i) = true then .err i else if W[i]? = some 39 ∨ bareT (word W i) = true then .ok (word W i) (i + (word W i).length) else .err (i + (word W i).length) := by
      unfold pKey
      rw [hraw]
    rw [hkey] at q
    cases ahead with
    | none =>
      rw [if_neg (by simp [aheadV])]
      simp only [he2, lk_text, lk_at, put_at, put_text, put_at1, lk_sign, lk_must_be, lk_may, lk_run, lk_whole_number, lk_quoted, lk_key, lk_thing, lk_things, lk_pairs, T.c_Strip, T.na_text, T.na_at, HO.ins.injEq, exists_and_left, and_assoc, exists_eq_left', exists_eq_left, exists_eq, true_and, and_true, Option.some.injEq, V.int.injEq, V.ref.injEq, V.str.injEq, V.bl.injEq, upd_same, upd_upd, List.getElem?_cons_zero, List.getElem?_cons_succ, List.set_cons_zero, List.set_cons_succ, scal_ss, S_eq, S_cat, S_len, add_ii, add_ss, sub_ii, mul_ii, mod_ii, fdiv_ii, pow_ii, lt_ii, le_ii, gt_ii, ge_ii, lt_ss, le_ss, iadd_ii, iadd_ss, in_S, cut_fig, if_true, if_false, Bool.false_eq_true, reduceCtorEq, ix_si, ix_ri, ix_rs, sl_s, sl_r, eq_ss, eq_ii, eq_bb, eq_nn, eq_rr, int1_i, int1_b, int1_s, min2_ii, set_rs, set_ri, Bool.false_xor, Bool.true_xor, Bool.not_eq_false', Bool.not_eq_true']
      rw [if_neg (by simp [late])] at q
      rw [if_neg (by simp [h39])]
      refine ⟨(word W i), rfl, by omega, fun H3 s3 => ?_⟩
      have he3 := s3 _ _ he2
      have hb3 : But a H H3 := hb2.trans fun b o _ e => s3 b o e
      refine ⟨a, dx, W, (i + (word W i).length), _, rfl, he3, fun hg => ?_, fun hg => ?_⟩
      · rw [if_pos (.inr hg)] at q
        exact q H3 hj2 hb3 he3 hl2
      · rw [if_neg (by simp [h39, hg])] at q
        exact err_mono q hb3 he3
    | some a0 =>
      rw [if_pos (by simp [aheadV])]
      simp only [aheadV]
      simp only [he2, lk_text, lk_at, put_at, put_text, put_at1, lk_sign, lk_must_be, lk_may, lk_run, lk_whole_number, lk_quoted, lk_key, lk_thing, lk_things, lk_pairs, T.c_Strip, T.na_text, T.na_at, HO.ins.injEq, exists_and_left, and_assoc, exists_eq_left', exists_eq_left, exists_eq, true_and, and_true, Option.some.injEq, V.int.injEq, V.ref.injEq, V.str.injEq, V.bl.injEq, upd_same, upd_upd, List.getElem?_cons_zero, List.getElem?_cons_succ, List.set_cons_zero, List.set_cons_succ, scal_ss, S_eq, S_cat, S_len, add_ii, add_ss, sub_ii, mul_ii, mod_ii, fdiv_ii, pow_ii, lt_ii, le_ii, gt_ii, ge_ii, lt_ss, le_ss, iadd_ii, iadd_ss, in_S, cut_fig, if_true, if_false, Bool.false_eq_true, reduceCtorEq, ix_si, ix_ri, ix_rs, sl_s, sl_r, eq_ss, eq_ii, eq_bb, eq_nn, eq_rr, int1_i, int1_b, int1_s, min2_ii, set_rs, set_ri, Bool.false_xor, Bool.true_xor, Bool.not_eq_false', Bool.not_eq_true']
      by_cases hlt : a0 < (word W i)
      · have hl0 : late (some a0) (word W i) = false := by simp [late, hlt]
        rw [if_neg (by simp [hl0])] at q
        rw [if_neg (by simp [hlt])]
        rw [if_neg (by simp [h39])]
        refine ⟨(word W i), rfl, by omega, fun H3 s3 => ?_⟩
        have he3 := s3 _ _ he2
        have hb3 : But a H H3 := hb2.trans fun b o _ e => s3 b o e
        refine ⟨a, dx, W, (i + (word W i).length), _, rfl, he3, fun hg => ?_, fun hg => ?_⟩
        · rw [if_pos (.inr hg)] at q
          exact q H3 hj2 hb3 he3 hl2
        · rw [if_neg (by simp [h39, hg])] at q
          exact err_mono q hb3 he3
      · have hl0 : late (some a0) (word W i) = true := by simp [late, hlt]
        rw [if_pos hl0] at q
        rw [if_pos (by simp [hlt])]
        refine ⟨by show 2 < 1000; decide, a, dx, W, i, false, rfl, upd_same, (fun z => nomatch z), fun _ => err_mono q (hb2.trans But.upd) upd_same⟩

end
end K97

set_option Elab.async false
set_option linter.all false
set_option maxRecDepth 100000
set_option maxHeartbeats 4000000
/-! Things, lists of things, pairs. -/
namespace K97
open PySem PySem.Spec PyProof.Rows L2 Lk SX
local macro_rules | `(tactic| walk_at "r") => `(tactic| simp only [tSeq, tNext, tRet, tRetN, tIfS, tDrop, tAsg, tAug, tFor, tWhile, tAndV, tOrV, tNotV, tAnd, tOr, tNot, tB, tTest, tIf, tIsN, tNotN, tOp, tVar, tC, tCB, CwR.tReplC, tPar, tCons, tNil, tLc, tYes, tTup, tLst, tCall, tMeth, tFld, tSl, tPart, tNoPart, tM1, tBM, tVeI, tOst, sFld, sFldAug, tMkO, tMake, tTGet, gName, gNil, gCons, gTup, gUnl, gSub, iAny, iRng1, iKeys, iVals,
  List.getElem?_cons_zero, List.getElem?_cons_succ, List.set_cons_zero, List.set_cons_succ, Option.some.injEq, V.str.injEq, V.bl.injEq, V.int.injEq, V.ref.injEq, exists_and_left, exists_eq_left', exists_eq_left, exists_eq, cxK, cxW, HO.ins.injEq, and_assoc, upd_same, true_and, and_true, reduceCtorEq, false_and, and_false, exists_false, or_false, false_or, if_true, if_false, List.cons_append, List.nil_append, add_ii, add_ss, sub_ii, mul_ii, mod_ii, fdiv_ii, pow_ii, lt_ii, le_ii, gt_ii, ge_ii, lt_ss, le_ss, iadd_ii, iadd_ss, in_ss, ix_si, ix_ri, ix_rs, sl_s, sl_r, eq_ss, eq_ii, eq_bb, eq_nn, eq_rr, int1_i, int1_b, int1_s, min2_ii, set_rs, set_ri, Bool.true_xor, Bool.false_xor, Bool.not_eq_true', wipe, List.map_cons, List.map_nil, S_eq, S_cat, S_len, lit1, lit3, lit5, lit6, lit7, lit8, lit9, lit10, lit11, lit12, lit13, lit14, lit15, lit16, lit17, lit18, lit19, lit21, lit23, lit24, lit26, lit27, lit28, lit29, lit30, lit31, lit32, lit33, lit34, lit35, lit36, lit37, lit38, lit39, lit40, lit41, lit42, lit101, lit102, lit103, lit104, lit105, lit106, lit107, lit108, lit109, lit110, lit111, lit112, lit113, lit114, lit115])
/-- no lock -/
def nfz : Option HO → Option HO
  | some (.frz _ _) => none
  | o => o
/-- what was made since, and isn't locked -/
def fresh (H H' : Hp) : Hp := fun b => if (H b).isSome = true then none else nfz (H' b)
theorem nfz_of {x : Option HO} {o : HO} (h : nfz x = some o) : x = some o ∧ ∀ d u, o ≠ .frz d u := by
  unfold nfz at h
  split at h
  · cases h
  · rename_i hn
    subst h
    exact ⟨rfl, fun d u z => hn d u (by rw [z])⟩
theorem nfz_at {o : HO} (h : ∀ d u, o ≠ .frz d u) : nfz (some o) = some o := by
  unfold nfz
  split
  · rename_i d u e
    exact absurd (Option.some.inj e) (h d u)
  · rfl
section
variable {P : Program} {w : World} {K : PySem.W.Frag} {mg : Str → Option Value} {base : Heap} {f : Addr} {fd : FuncData}
def spThing (K : PySem.W.Frag) (n : Nat) : Sp := fun vs H Q E => ∃ (a dx : Addr) (W : List Nat) (i d : Nat), vs = [.ref a, .int (d : Int)] ∧ d < n ∧ Stt K a dx W i H ∧ W.length ≤ 1000000 ∧ i ≤ W.length ∧
  Res K a dx W H E (fun t H' => ∀ v, Rep t v (fresh H H') → Q v H') (pThing W d i)
def spThings' (K : PySem.W.Frag) (n : Nat) : Sp := fun vs H Q E => ∃ (a dx : Addr) (W : List Nat) (i d e : Nat), vs = [.ref a, .str (S [e]), .int (d : Int)] ∧ d < n ∧ Stt K a dx W i H ∧ W.length ≤ 1000000 ∧ i ≤ W.length ∧
  Res K a dx W H E (fun ts H' => ∀ p vs, H' p = some (.lst vs) → H p = none → RepL ts vs (fresh H H') → Q (.ref p) H') (pThings W (pThing W d) e (W.length + 1) i [])
def spPairs (K : PySem.W.Frag) (n : Nat) : Sp := fun vs H Q E => ∃ (a dx : Addr) (W : List Nat) (i d : Nat), vs = [.ref a, .int (d : Int)] ∧ d < n ∧ Stt K a dx W i H ∧ W.length ≤ 1000000 ∧ i ≤ W.length ∧
  Res K a dx W H E (fun t H' => ∀ p, Rep t (.ref p) (fresh H H') → Q (.ref p) H') (pPairs W (pThing W d) (W.length + 1) i [] [])
theorem none_of {a : Addr} {H H2 : Hp} {o o2 : HO} (hb : But a H H2) (ha : H a = some o) (ha2 : H2 a = some o2) {l : Addr} (n : H2 l = none) : H l = none := by
  by_cases h : l = a
  · rw [h, ha2] at n
    cases n
  · cases e : H l with
    | none => rfl
    | some u =>
      rw [hb l u h e] at n
      cases n
theorem fresh_at {H H' : Hp} {p : Addr} {o : HO} (n : H p = none) (h : H' p = some o) (nf : ∀ d u, o ≠ .frz d u := by intro _ _ z; cases z) : fresh H H' p = some o := by
  unfold fresh
  rw [if_neg (by rw [n]; simp), h, nfz_at nf]
theorem fresh_of3 {H H' : Hp} {p : Addr} {o : HO} (h : fresh H H' p = some o) : H p = none ∧ H' p = some o ∧ ∀ d u, o ≠ .frz d u := by
  unfold fresh at h
  by_cases e : (H p).isSome = true
  · rw [if_pos e] at h
    cases h
  · rw [if_neg e] at h
    refine ⟨?_, nfz_of h⟩
    cases z : H p with
    | none => rfl
    | some u => rw [z] at e; exact absurd rfl e
theorem fresh_of {H H' : Hp} {p : Addr} {o : HO} (h : fresh H H' p = some o) : H p = none ∧ H' p = some o := ⟨(fresh_of3 h).1, (fresh_of3 h).2.1⟩
theorem fresh_nf {H H' : Hp} {p : Addr} {o : HO} (h : fresh H H' p = some o) : ∀ d u, o ≠ .frz d u := (fresh_of3 h).2.2
theorem rd_fun {H H' : Hp} {a : Addr} (h : ∀ o, H a = some o → H' a = some o) {u : HO} (r : Rd H a u) : Rd H' a u := by
  rcases r with r | ⟨o, r⟩
  · exact .inl (h _ r)
  · exact .inr ⟨o, h _ r⟩
theorem fresh_le {H H1 H2 : Hp} (h : ∀ b o, H b = none → H1 b = some o → H2 b = some o) : Le (fresh H H1) (fresh H H2) := fun a u r => rd_fun (fun o e => by
  obtain ⟨n, e1⟩ := fresh_of e
  exact fresh_at n (h a o n e1) (fresh_nf e)) r
theorem fresh_dom {H G H' : Hp} (h : ∀ b, H b = none ↔ G b = none) : fresh H H' = fresh G H' := by
  funext b
  unfold fresh
  cases e : H b with
  | none => rw [(h b).mp e]
  | some u =>
    cases e2 : G b with
    | none => rw [(h b).mpr e2] at e; cases e
    | some v => rfl
theorem fresh_upd {H H' : Hp} {a : Addr} {o o2 : HO} (ha : H a = some o) : fresh (upd H a o2) H' = fresh H H' := by
  refine fresh_dom fun b => ?_
  by_cases h : b = a
  · rw [h, upd_same, ha]
    simp
  · rw [upd_ne h]
theorem kept_get (l : List Nat) (H : Hp) : Rep (keptT l) ((List.lookup (S l) [(Str.ofString "none", V.non), (Str.ofString "yes", V.bl true), (Str.ofString "no", V.bl false)]).getD (V.str (S l))) H := by
  rw [lit5, lit6, lit7]
  simp only [List.lookup, S_beq]
  unfold keptT wNone wYes wNo
  by_cases h1 : l = [110, 111, 110, 101]
  · rw [if_pos h1, h1]
    rfl
  rw [if_neg h1, show (l == [110, 111, 110, 101]) = false from by simpa using h1]
  by_cases h2 : l = [121, 101, 115]
  · rw [if_pos h2, h2]
    rfl
  rw [if_neg h2, show (l == [121, 101, 115]) = false from by simpa using h2]
  by_cases h3 : l = [110, 111]
  · rw [if_pos h3, h3]
    rfl
  rw [if_neg h3, show (l == [110, 111]) = false from by simpa using h3]
  rw [Rep]
  rfl
theorem ends_get (c : Nat) : List.lookup (S [c]) [(Str.ofString "(", V.str (Str.ofString ")")), (Str.ofString "[", V.str (Str.ofString "]")), (Str.ofString "{", V.str (Str.ofString "}"))] = if c = 40 then some (V.str (S [41])) else if c = 91 then some (V.str (S [93])) else if c = 123 then some (V.str (S [125])) else none := by
  rw [show Str.ofString "(" = S [40] from by decide +kernel, show Str.ofString ")" = S [41] from by decide +kernel, show Str.ofString "[" = S [91] from by decide +kernel, show Str.ofString "]" = S [93] from by decide +kernel, show Str.ofString "{" = S [123] from by decide +kernel, show Str.ofString "}" = S [125] from by decide +kernel]
  simp only [List.lookup, S_beq]
  by_cases h1 : c = 40
  · rw [if_pos h1, h1]
    rfl
  rw [if_neg h1, show (([c] : List Nat) == [40]) = false from by simpa using h1]
  by_cases h2 : c = 91
  · rw [if_pos h2, h2]
    rfl
  rw [if_neg h2, show (([c] : List Nat) == [91]) = false from by simpa using h2]
  by_cases h3 : c = 123
  · rw [if_pos h3, h3]
    rfl
  rw [if_neg h3, show (([c] : List Nat) == [123]) = false from by simpa using h3]
theorem pThing_eq (W : List Nat) (d i : Nat) : pThing W d i = pStep W (match d with | 0 => none | d + 1 => some (pThing W d)) i := by cases d <;> rfl
theorem RepL_put {H : Hp} {t : T} {v : V} : ∀ {l : List T} {vs : List V}, RepL l vs H → Rep t v H → RepL (l ++ [t]) (vs ++ [v]) H
  | [], _, h, r => by
    rw [RepL] at h
    subst h
    show RepL [t] [v] H
    rw [RepL]
    exact ⟨v, [], rfl, r, by rw [RepL]⟩
  | u :: l, _, h, r => by
    rw [RepL] at h
    obtain ⟨x, xs, rfl, h1, h2⟩ := h
    show RepL (u :: (l ++ [t])) (x :: (xs ++ [v])) H
    rw [RepL]
    exact ⟨x, _, rfl, h1, RepL_put h2 r⟩
theorem ok_Strip_thing (T : Tx K w mg) (n : Nat) (m_sign : Mt P w K mg base 2 (aStrip K) "sign" (spSgn K)) (m_must_be : Mt P w K mg base 5 (aStrip K) "must_be" (spMust K)) (m_run : Mt P w K mg base 4 (aStrip K) "run" (spRun K)) (m_quoted : Mt P w K mg base 7 (aStrip K) "quoted" (spQuo K))
    (m_whole_number : Mt P w K mg base 7 (aStrip K) "whole_number" (spNum K)) (m_things : Mt P w K mg base (2 * n + 11) (aStrip K) "things" (spThings' K n)) (m_pairs : Mt P w K mg base (2 * n + 11) (aStrip K) "pairs" (spPairs K n))
    (F : FunD K "thing" "Strip.thing" (defArgs s_Strip_thing) (defBody s_Strip_thing) (defScope s_Strip_thing) [] [] f fd) : FnOk P w K mg base (L2.CX P w) (2 * n + 12) f fd ["self", "deep"] (spThing K (n + 1)) := by
  refine F.ok sc_Strip_thing (fun vs H Q E h => by obtain ⟨t, v, d, i, ah, rfl, _⟩ := h; rfl) (fun cdv A outer s H vs Q E hr h => ?_)
  have nd := (sc_Strip_thing).nd
  refine ⟨_, (pss_cons
  (ps_set (i := 2) nd rfl (by first | exact Or.inl rfl | exact Or.inr rfl) (pe_mt0 (m_sign) (hr.mono (by omega)) pass_def (pv 0)))
  (pss_cons
  (ps_expr (pe_mt (m_must_be) (hr.mono (by omega)) pass_def (pv 0) (pa_cons (pe_cmpR (k_ne K rfl (Lk.hu0 hr)) (pv 2) pe_str rfl) pa_nil)))
  (pss_cons
  (ps_if (pt_cmpR (k_eq K rfl (Lk.hu0 hr)) (pv 2) pe_str rfl)
   (pss_one
    (ps_ret (pe_mt0 (m_quoted) (hr.mono (by omega)) pass_def (pv 0))))
   pss_nil)
  (pss_cons
  (ps_if (pt_cmpR (k_in K w rfl rfl) (pv 2) (pe_gstr T.g_SMALL) rfl)
   (pss_cons
    (ps_set (i := 4) nd rfl (by first | exact Or.inl rfl | exact Or.inr rfl) (pe_mt (m_run) (hr.mono (by omega)) pass_def (pv 0) (pa_cons (pe_gstr T.g_SMALL) pa_nil)))
    (pss_one
    (ps_ret (pe_tget (pe_gref T.g_KEPT) (pv 4) (pv 4) ⟨rfl, rfl, rfl, rfl⟩))))
   pss_nil)
  (pss_cons
  (ps_if (pt_cmpR (k_notIn K w rfl rfl) (pv 2) (pe_gref T.g_ENDS) rfl)
   (pss_one
    (ps_ret (pe_mt0 (m_whole_number) (hr.mono (by omega)) pass_def (pv 0))))
   pss_nil)
  (pss_cons
  (ps_expr (pe_mt (m_must_be) (hr.mono (by omega)) pass_def (pv 0) (pa_cons (pe_cmpR (op_gtA) (pv 1) pe_int rfl) pa_nil)))
  (pss_cons
  (ps_fldaug (pv 0) pe_int in_addA)
  (pss_cons
  (ps_if (pt_cmpR (k_eq K rfl (Lk.hu0 hr)) (pv 2) pe_str rfl)
   (pss_one
    (ps_ret (pe_mt (m_pairs) (hr.mono (by omega)) pass_def (pv 0) (pa_cons (pe_op op_subA (pv 1) pe_int) pa_nil))))
   pss_nil)
  (pss_cons
  (ps_set (i := 3) nd rfl (by first | exact Or.inl rfl | exact Or.inr rfl) (pe_mt (m_things) (hr.mono (by omega)) pass_def (pv 0) (pa_cons (pe_ix (k_ix K w rfl rfl) (pe_gref T.g_ENDS) (pv 2) (fun _ _ => rfl)) (pa_cons (pe_op op_subA (pv 1) pe_int) pa_nil))))
  (pss_one
  (ps_ret (pe_ifExp (pt_cmpR (k_eq K rfl (Lk.hu0 hr)) (pv 2) pe_str rfl) (pe_callTy (k_tup K rfl) (by rfl) T.b_tuple Lk.boot_tuple (pa_cons (pv 3) pa_nil)) (pv 3))))))))))))), ?_⟩
  obtain ⟨a, dx, W, i, d, rfl, hd, he, hW, hi, q⟩ := h
  rw [show L2.start N_Strip_thing [V.ref a, V.int (d : Int)] = [some (.ref a), some (.int (d : Int)), none, none, none] from rfl]
  walk_at "r"
  rw [Stt] at he
  simp only [he, lk_text, lk_at, put_at, put_text, put_at1, lk_sign, lk_must_be, lk_may, lk_run, lk_whole_number, lk_quoted, lk_key, lk_thing, lk_things, lk_pairs, T.c_Strip, T.na_text, T.na_at, HO.ins.injEq, exists_and_left, and_assoc, exists_eq_left', exists_eq_left, exists_eq, true_and, and_true, Option.some.injEq, V.int.injEq, V.ref.injEq, V.str.injEq, V.bl.injEq, upd_same, upd_upd, List.getElem?_cons_zero, List.getElem?_cons_succ, List.set_cons_zero, List.set_cons_succ, scal_ss, S_eq, S_cat, S_len, add_ii, add_ss, sub_ii, mul_ii, mod_ii, fdiv_ii, pow_ii, lt_ii, le_ii, gt_ii, ge_ii, lt_ss, le_ss, iadd_ii, iadd_ss, in_S, cut_fig, if_true, if_false, Bool.false_eq_true, reduceCtorEq, ix_si, ix_ri, ix_rs, sl_s, sl_r, eq_ss, eq_ii, eq_bb, eq_nn, eq_rr, int1_i, int1_b, int1_s, min2_ii, set_rs, set_ri, Bool.false_xor, Bool.true_xor, Bool.not_eq_false', Bool.not_eq_true']
  refine ⟨a, dx, W, i, rfl, he, hW, hi, ?_⟩
  simp only [he, lk_text, lk_at, put_at, put_text, put_at1, lk_sign, lk_must_be, lk_may, lk_run, lk_whole_number, lk_quoted, lk_key, lk_thing, lk_things, lk_pairs, T.c_Strip, T.na_text, T.na_at, HO.ins.injEq, exists_and_left, and_assoc, exists_eq_left', exists_eq_left, exists_eq, true_and, and_true, Option.some.injEq, V.int.injEq, V.ref.injEq, V.str.injEq, V.bl.injEq, upd_same, upd_upd, List.getElem?_cons_zero, List.getElem?_cons_succ, List.set_cons_zero, List.set_cons_succ, scal_ss, S_eq, S_cat, S_len, add_ii, add_ss, sub_ii, mul_ii, mod_ii, fdiv_ii, pow_ii, lt_ii, le_ii, gt_ii, ge_ii, lt_ss, le_ss, iadd_ii, iadd_ss, in_S, cut_fig, if_true, if_false, Bool.false_eq_true, reduceCtorEq, ix_si, ix_ri, ix_rs, sl_s, sl_r, eq_ss, eq_ii, eq_bb, eq_nn, eq_rr, int1_i, int1_b, int1_s, min2_ii, set_rs, set_ri, Bool.false_xor, Bool.true_xor, Bool.not_eq_false', Bool.not_eq_true']
  rw [pThing_eq, pStep] at q
  cases hc : W[i]? with
  | none =>
    rw [hc] at q
    rw [drop_none hc]
    exact ⟨a, dx, W, i, _, rfl, he, (fun z => by simp at z), fun _ => q⟩
  | some c =>
    have hlt : i < W.length := (List.getElem?_eq_some_iff.mp hc).1
    rw [hc] at q
    simp only at q
    rw [head_some hc]
    refine ⟨a, dx, W, i, _, rfl, he, fun _ => ?_, (fun z => by simp at z)⟩
    simp only [he, lk_text, lk_at, put_at, put_text, put_at1, lk_sign, lk_must_be, lk_may, lk_run, lk_whole_number, lk_quoted, lk_key, lk_thing, lk_things, lk_pairs, T.c_Strip, T.na_text, T.na_at, HO.ins.injEq, exists_and_left, and_assoc, exists_eq_left', exists_eq_left, exists_eq, true_and, and_true, Option.some.injEq, V.int.injEq, V.ref.injEq, V.str.injEq, V.bl.injEq, upd_same, upd_upd, List.getElem?_cons_zero, List.getElem?_cons_succ, List.set_cons_zero, List.set_cons_succ, scal_ss, S_eq, S_cat, S_len, add_ii, add_ss, sub_ii, mul_ii, mod_ii, fdiv_ii, pow_ii, lt_ii, le_ii, gt_ii, ge_ii, lt_ss, le_ss, iadd_ii, iadd_ss, in_S, cut_fig, if_true, if_false, Bool.false_eq_true, reduceCtorEq, ix_si, ix_ri, ix_rs, sl_s, sl_r, eq_ss, eq_ii, eq_bb, eq_nn, eq_rr, int1_i, int1_b, int1_s, min2_ii, set_rs, set_ri, Bool.false_xor, Bool.true_xor, Bool.not_eq_false', Bool.not_eq_true']
    by_cases h39 : c = 39
    · subst h39
      rw [if_pos rfl] at q
      rw [if_pos (by simp)]
      refine ⟨a, dx, W, i, rfl, he, hW, hlt, ?_⟩
      cases hq : pQuo W i with
      | stuck => rw [hq] at q; exact q
      | err j => rw [hq] at q; exact q
      | ok l j =>
        rw [hq] at q
        exact fun H2 hj2 hb2 he2 _ => q H2 hj2 hb2 he2 _ (by rw [Rep])
    rw [if_neg h39] at q
    rw [if_neg (by simp [h39]), small_mem]
    by_cases hs : small c = true
    · rw [if_pos hs] at q
      rw [if_pos hs]
      refine ⟨a, dx, W, i, _, rfl, he, hW, hi, fun H2 hb2 he2 => ?_⟩
      rw [small_mem'] at he2 ⊢
      have hl := tw_len (p := small) (W.drop i)
      rw [List.length_drop] at hl
      exact ⟨_, T.t_KEPT, _, rfl, q H2 (show i + ((W.drop i).takeWhile small).length ≤ _ by omega) hb2 he2 _ (kept_get _ _)⟩
    rw [if_neg hs] at q
    rw [if_neg hs]
    refine .inl ⟨S [c], _, rfl, T.t_ENDS, ?_⟩
    rw [ends_get]
    by_cases hbr : c = 40 ∨ c = 91 ∨ c = 123
    · rw [if_pos hbr] at q
      have e0 : (if c = 40 then some (V.str (S [41])) else if c = 91 then some (V.str (S [93])) else if c = 123 then some (V.str (S [125])) else none).isSome = true := by
        rcases hbr with h | h | h <;> subst h <;> rfl
      rw [e0]
      refine ⟨_, rfl, ?_⟩
      rw [if_neg (fun z => nomatch z)]
      simp only [he, lk_text, lk_at, put_at, put_text, put_at1, lk_sign, lk_must_be, lk_may, lk_run, lk_whole_number, lk_quoted, lk_key, lk_thing, lk_things, lk_pairs, T.c_Strip, T.na_text, T.na_at, HO.ins.injEq, exists_and_left, and_assoc, exists_eq_left', exists_eq_left, exists_eq, true_and, and_true, Option.some.injEq, V.int.injEq, V.ref.injEq, V.str.injEq, V.bl.injEq, upd_same, upd_upd, List.getElem?_cons_zero, List.getElem?_cons_succ, List.set_cons_zero, List.set_cons_succ, scal_ss, S_eq, S_cat, S_len, add_ii, add_ss, sub_ii, mul_ii, mod_ii, fdiv_ii, pow_ii, lt_ii, le_ii, gt_ii, ge_ii, lt_ss, le_ss, iadd_ii, iadd_ss, in_S, cut_fig, if_true, if_false, Bool.false_eq_true, reduceCtorEq, ix_si, ix_ri, ix_rs, sl_s, sl_r, eq_ss, eq_ii, eq_bb, eq_nn, eq_rr, int1_i, int1_b, int1_s, min2_ii, set_rs, set_ri, Bool.false_xor, Bool.true_xor, Bool.not_eq_false', Bool.not_eq_true']
      cases d with
      | zero => exact ⟨a, dx, W, i, _, rfl, he, (fun z => by simp at z), fun _ => q⟩
      | succ d =>
        simp only at q
        refine ⟨a, dx, W, i, _, rfl, he, fun _ => ?_, (fun z => by simp at z)⟩
        simp only [he, lk_text, lk_at, put_at, put_text, put_at1, lk_sign, lk_must_be, lk_may, lk_run, lk_whole_number, lk_quoted, lk_key, lk_thing, lk_things, lk_pairs, T.c_Strip, T.na_text, T.na_at, HO.ins.injEq, exists_and_left, and_assoc, exists_eq_left', exists_eq_left, exists_eq, true_and, and_true, Option.some.injEq, V.int.injEq, V.ref.injEq, V.str.injEq, V.bl.injEq, upd_same, upd_upd, List.getElem?_cons_zero, List.getElem?_cons_succ, List.set_cons_zero, List.set_cons_succ, scal_ss, S_eq, S_cat, S_len, add_ii, add_ss, sub_ii, mul_ii, mod_ii, fdiv_ii, pow_ii, lt_ii, le_ii, gt_ii, ge_ii, lt_ss, le_ss, iadd_ii, iadd_ss, in_S, cut_fig, if_true, if_false, Bool.false_eq_true, reduceCtorEq, ix_si, ix_ri, ix_rs, sl_s, sl_r, eq_ss, eq_ii, eq_bb, eq_nn, eq_rr, int1_i, int1_b, int1_s, min2_ii, set_rs, set_ri, Bool.false_xor, Bool.true_xor, Bool.not_eq_false', Bool.not_eq_true']
        refine ⟨by show 2 < 1000; decide, ?_⟩
        have he1 : upd H a (HO.ins (aStrip K) dx (fsOf W (i + 1))) a = some (HO.ins (aStrip K) dx (fsOf W (i + 1))) := upd_same
        have ed : ((d + 1 : Nat) : Int) - 1 = (d : Int) := by omega
        rw [ed]
        by_cases h123 : c = 123
        · rw [if_pos h123] at q
          rw [if_pos (by simp [h123])]
          refine ⟨a, dx, W, i + 1, d, rfl, by omega, he1, hW, hlt, ?_⟩
          cases hq : pPairs W (pThing W d) (W.length + 1) (i + 1) [] [] with
          | stuck => rw [hq] at q; exact q
          | err j => rw [hq] at q; exact err_mono q But.upd he1
          | ok t j =>
            rw [hq] at q
            exact fun H2 hj2 hb2 he2 p hr => q H2 hj2 (But.upd.trans hb2) he2 _ (by rw [fresh_upd he] at hr; exact hr)
        · rw [if_neg h123] at q
          rw [if_neg (by simp [h123])]
          by_cases h40 : c = 40
          · subst h40
            rw [if_pos rfl] at q
            refine .inl ⟨_, T.t_ENDS, V.str (S [41]), by rw [ends_get]; rfl, ?_⟩
            refine ⟨a, dx, W, i + 1, d, 41, rfl, by omega, he1, hW, hlt, ?_⟩
            cases hq : pThings W (pThing W d) 41 (W.length + 1) (i + 1) [] with
            | stuck => rw [hq] at q; exact q
            | err j => rw [hq] at q; exact err_mono q But.upd he1
            | ok ts j =>
              rw [hq] at q
              intro H2 hj2 hb2 he2 p vs hp np hr
              rw [fresh_upd he] at hr
              have hb3 := But.upd.trans hb2
              show if decide ([40] = [40]) = true then _ else _
              rw [if_pos (by simp)]
              refine ⟨vs, .of hp, fun l nl => ?_⟩
              have nH : H l = none := none_of hb3 he he2 nl
              have hla : a ≠ l := ne_of_none he nH
              refine q (upd H2 l (.tup vs)) hj2 (fun b o hb e => ?_) ?_ _ ?_
              · rw [upd_ne (ne_of_none e nH)]
                exact hb3 b o hb e
              · rw [Stt, upd_ne hla]
                exact he2
              · rw [Rep]
                refine ⟨l, vs, rfl, .inl (fresh_at nH upd_same), RepL.le (fresh_le fun b o n e => ?_) _ _ hr⟩
                rw [upd_ne (ne_of_none e nl)]
                exact e
          · have h91 : c = 91 := by omega
            subst h91
            rw [if_neg (by decide)] at q
            refine .inl ⟨_, T.t_ENDS, V.str (S [93]), by rw [ends_get]; rfl, ?_⟩
            refine ⟨a, dx, W, i + 1, d, 93, rfl, by omega, he1, hW, hlt, ?_⟩
            cases hq : pThings W (pThing W d) 93 (W.length + 1) (i + 1) [] with
            | stuck => rw [hq] at q; exact q
            | err j => rw [hq] at q; exact err_mono q But.upd he1
            | ok ts j =>
              rw [hq] at q
              intro H2 hj2 hb2 he2 p vs hp np hr
              rw [fresh_upd he] at hr
              have hb3 := But.upd.trans hb2
              show if decide ([91] = [40]) = true then _ else _
              rw [if_neg (by simp)]
              have hpa : a ≠ p := fun z => by rw [← z, upd_same] at np; cases np
              have nH : H p = none := by rw [upd_ne (Ne.symm hpa)] at np; exact np
              refine q H2 hj2 hb3 he2 _ ?_
              rw [Rep]
              exact ⟨p, vs, rfl, .inl (fresh_at nH hp), hr⟩
    · rw [if_neg hbr] at q
      have e0 : (if c = 40 then some (V.str (S [41])) else if c = 91 then some (V.str (S [93])) else if c = 123 then some (V.str (S [125])) else none).isSome = false := by
        rw [if_neg (by omega), if_neg (by omega), if_neg (by omega)]
        rfl
      rw [e0]
      refine ⟨_, rfl, ?_⟩
      rw [if_pos (show (true ^^ false) = true from rfl)]
      simp only [he, lk_text, lk_at, put_at, put_text, put_at1, lk_sign, lk_must_be, lk_may, lk_run, lk_whole_number, lk_quoted, lk_key, lk_thing, lk_things, lk_pairs, T.c_Strip, T.na_text, T.na_at, HO.ins.injEq, exists_and_left, and_assoc, exists_eq_left', exists_eq_left, exists_eq, true_and, and_true, Option.some.injEq, V.int.injEq, V.ref.injEq, V.str.injEq, V.bl.injEq, upd_same, upd_upd, List.getElem?_cons_zero, List.getElem?_cons_succ, List.set_cons_zero, List.set_cons_succ, scal_ss, S_eq, S_cat, S_len, add_ii, add_ss, sub_ii, mul_ii, mod_ii, fdiv_ii, pow_ii, lt_ii, le_ii, gt_ii, ge_ii, lt_ss, le_ss, iadd_ii, iadd_ss, in_S, cut_fig, if_true, if_false, Bool.false_eq_true, reduceCtorEq, ix_si, ix_ri, ix_rs, sl_s, sl_r, eq_ss, eq_ii, eq_bb, eq_nn, eq_rr, int1_i, int1_b, int1_s, min2_ii, set_rs, set_ri, Bool.false_xor, Bool.true_xor, Bool.not_eq_false', Bool.not_eq_true']
      refine ⟨a, dx, W, i, rfl, he, hW, hi, ?_⟩
      cases hq : pNum W i with
      | stuck => rw [hq] at q; exact q
      | err j => rw [hq] at q; exact q
      | ok l j =>
        rw [hq] at q
        exact fun H2 hj2 hb2 he2 => q H2 hj2 hb2 he2 _ (by rw [Rep])
theorem ok_Strip_things (T : Tx K w mg) (n : Nat) (m_must_be : Mt P w K mg base 5 (aStrip K) "must_be" (spMust K)) (m_may : Mt P w K mg base 4 (aStrip K) "may" (spMay K)) (m_thing : Mt P w K mg base (2 * n + 10) (aStrip K) "thing" (spThing K n))
    (F : FunD K "things" "Strip.things" (defArgs s_Strip_things) (defBody s_Strip_things) (defScope s_Strip_things) [] [] f fd) : FnOk P w K mg base (L2.CX P w) (2 * n + 11) f fd ["self", "end", "deep"] (spThings' K n) := by
  refine F.ok sc_Strip_things (fun vs H Q E h => by obtain ⟨t, v, d, i, ah, e, rfl, _⟩ := h; rfl) (fun cdv A outer s H vs Q E hr h => ?_)
  have nd := (sc_Strip_things).nd
  refine ⟨_, (pss_cons
  (ps_set (i := 3) nd rfl (by first | exact Or.inl rfl | exact Or.inr rfl) (pe_lst pa_nil))
  (pss_cons
  (ps_while own_def (pt_not (pt_val (pe_mt (m_may) (hr.mono (by omega)) pass_def (pv 0) (pa_cons (pv 1) pa_nil))))
   (pss_cons
    (ps_if (pt_cmpR (k_ne K rfl (Lk.hu0 hr)) (pv 3) (pe_lst pa_nil) rfl)
     (pss_one
      (ps_expr (pe_mt (m_must_be) (hr.mono (by omega)) pass_def (pv 0) (pa_cons (pe_mt (m_may) (hr.mono (by omega)) pass_def (pv 0) (pa_cons pe_str pa_nil)) pa_nil))))
     pss_nil)
    (pss_one
    (ps_expr (pe_app K rfl (pv 3) (pa_cons (pe_mt (m_thing) (hr.mono (by omega)) pass_def (pv 0) (pa_cons (pv 2) pa_nil)) pa_nil))))))
  (pss_one
  (ps_ret (pv 3))))), ?_⟩
  obtain ⟨a, dx, W, i, d, e, rfl, hd, he, hW, hi, q⟩ := h
  rw [show L2.start N_Strip_things [V.ref a, .str (S [e]), V.int (d : Int)] = [some (.ref a), some (.str (S [e])), some (.int (d : Int)), none] from rfl]
  walk_at "r"
  rw [Stt] at he
  obtain ⟨R0, eR⟩ : ∃ R0, R0 = pThings W (pThing W d) e (W.length + 1) i [] := ⟨_, rfl⟩
  rw [← eR] at q
  refine ⟨Nat.zero_le _, fun p np => ?_⟩
  have hap : a ≠ p := ne_of_none he np
  obtain ⟨G, eG⟩ : ∃ G, G = upd H p (HO.lst []) := ⟨_, rfl⟩
  obtain ⟨Pv, ePv⟩ : ∃ Pv : Nat → L2.St → Hp → Prop, Pv = fun n σ H' => ∃ j acc vs, j ≤ W.length ∧ acc.length + n = W.length + 1 ∧ pThings W (pThing W d) e n j acc = R0 ∧ σ = [some (V.ref a), some (V.str (S [e])), some (V.int (d : Int)), some (V.ref p)] ∧ But a H H' ∧ Stt K a dx W j H' ∧ H' p = some (.lst vs) ∧ RepL acc vs (fresh G H') := ⟨_, rfl⟩
  refine ⟨Pv, ⟨W.length + 1, by rw [ePv]; exact ⟨i, [], [], hi, by simp, eR.symm, rfl, fun b o _ e => by rw [upd_ne (ne_of_none e np)]; exact e, by rw [Stt, upd_ne hap]; exact he, upd_same, by rw [RepL]⟩⟩, ?_⟩
  intro n σ H' hP
  rw [ePv] at hP
  obtain ⟨j, acc, vs, hj, hlen, hq, rfl, hb, he', hp', hrep⟩ := hP
  rw [Stt] at he'
  simp only [he', lk_text, lk_at, put_at, put_text, put_at1, lk_sign, lk_must_be, lk_may, lk_run, lk_whole_number, lk_quoted, lk_key, lk_thing, lk_things, lk_pairs, T.c_Strip, T.na_text, T.na_at, HO.ins.injEq, exists_and_left, and_assoc, exists_eq_left', exists_eq_left, exists_eq, true_and, and_true, Option.some.injEq, V.int.injEq, V.ref.injEq, V.str.injEq, V.bl.injEq, upd_same, upd_upd, List.getElem?_cons_zero, List.getElem?_cons_succ, List.set_cons_zero, List.set_cons_succ, scal_ss, S_eq, S_cat, S_len, add_ii, add_ss, sub_ii, mul_ii, mod_ii, fdiv_ii, pow_ii, lt_ii, le_ii, gt_ii, ge_ii, lt_ss, le_ss, iadd_ii, iadd_ss, in_S, cut_fig, if_true, if_false, Bool.false_eq_true, reduceCtorEq, ix_si, ix_ri, ix_rs, sl_s, sl_r, eq_ss, eq_ii, eq_bb, eq_nn, eq_rr, int1_i, int1_b, int1_s, min2_ii, set_rs, set_ri, Bool.false_xor, Bool.true_xor, Bool.not_eq_false', Bool.not_eq_true']
  refine ⟨a, dx, W, j, e, rfl, he', hW, hj, ?_⟩
  cases n with
  | zero =>
    rw [← hq] at q
    exact q.elim
  | succ n =>
  have hN : ∀ (σ' : L2.St) (H'' : Hp), Pv n σ' H'' → ∃ m', m' < n + 1 ∧ Pv m' σ' H'' := fun σ' H'' h => ⟨n, Nat.lt_succ_self n, h⟩
  have e16 := sizeLine_eq
  have hvl := hrep.len
  rw [pThings] at hq
  simp only [he', lk_text, lk_at, put_at, put_text, put_at1, lk_sign, lk_must_be, lk_may, lk_run, lk_whole_number, lk_quoted, lk_key, lk_thing, lk_things, lk_pairs, T.c_Strip, T.na_text, T.na_at, HO.ins.injEq, exists_and_left, and_assoc, exists_eq_left', exists_eq_left, exists_eq, true_and, and_true, Option.some.injEq, V.int.injEq, V.ref.injEq, V.str.injEq, V.bl.injEq, upd_same, upd_upd, List.getElem?_cons_zero, List.getElem?_cons_succ, List.set_cons_zero, List.set_cons_succ, scal_ss, S_eq, S_cat, S_len, add_ii, add_ss, sub_ii, mul_ii, mod_ii, fdiv_ii, pow_ii, lt_ii, le_ii, gt_ii, ge_ii, lt_ss, le_ss, iadd_ii, iadd_ss, in_S, cut_fig, if_true, if_false, Bool.false_eq_true, reduceCtorEq, ix_si, ix_ri, ix_rs, sl_s, sl_r, eq_ss, eq_ii, eq_bb, eq_nn, eq_rr, int1_i, int1_b, int1_s, min2_ii, set_rs, set_ri, Bool.false_xor, Bool.true_xor, Bool.not_eq_false', Bool.not_eq_true']
  by_cases hend : W[j]? = some e
  · rw [if_pos hend] at hq
    rw [if_neg (by simp [hend])]
    simp only [if_pos hend]
    rw [← hq] at q
    have hpa : p ≠ a := Ne.symm hap
    refine q _ (List.getElem?_eq_some_iff.mp hend).1 (hb.trans But.upd) upd_same p vs (by rw [upd_ne hpa]; exact hp') np (RepL.le (fun b u r => rd_fun (fun o z => ?_) r) _ _ hrep)
    obtain ⟨n1, n2⟩ := fresh_of z
    have n3 : H b = none := by
      rw [eG] at n1
      by_cases hbp : b = p
      · rw [hbp, upd_same] at n1; cases n1
      · rw [upd_ne hbp] at n1; exact n1
    refine fresh_at n3 ?_ (fresh_nf z)
    rw [upd_ne (fun z => by rw [z, he] at n3; cases n3)]
    exact n2
  · rw [if_neg hend] at hq
    rw [if_pos (by simp [hend])]
    simp only [if_neg hend]
    refine ⟨Pv n, hN, Nat.zero_le _, fun p3 np3 => ?_⟩
    have n3 : H' p3 = none := by
      by_cases z : p3 = a
      · rw [z, upd_same] at np3; cases np3
      · rw [upd_ne z] at np3; exact np3
    have hp3p : p ≠ p3 := ne_of_none hp' n3
    have hp3a : a ≠ p3 := ne_of_none he' n3
    have he1 : upd (upd H' a (HO.ins (aStrip K) dx (fsOf W j))) p3 (HO.lst []) a = some (HO.ins (aStrip K) dx (fsOf W j)) := by rw [upd_ne hp3a, upd_same]
    have hp1 : upd (upd H' a (HO.ins (aStrip K) dx (fsOf W j))) p3 (HO.lst []) p = some (.lst vs) := by rw [upd_ne hp3p, upd_ne (Ne.symm hap)]; exact hp'
    have kp1 : ∀ b o, b ≠ a → H' b = some o → upd (upd H' a (HO.ins (aStrip K) dx (fsOf W j))) p3 (HO.lst []) b = some o := fun b o hba eb => by
      rw [upd_ne (ne_of_none eb n3), upd_ne hba]
      exact eb
    have hb1 : But a H (upd (upd H' a (HO.ins (aStrip K) dx (fsOf W j))) p3 (HO.lst [])) := hb.trans kp1
    refine ⟨vs, .of hp1, [], .of upd_same, fun z => ?_, ?_⟩
    · have : vs = [] := List.eq_nil_of_length_eq_zero z
      subst this
      rfl
    by_cases hacc : acc = []
    · have hvs : vs = [] := by
        rw [hacc] at hvl
        exact List.eq_nil_of_length_eq_zero hvl
      rw [if_neg (by simp [hacc])] at hq
      rw [if_neg (by simp [hvs])]
      rw [if_pos hacc] at hq

      refine ⟨.inl ⟨rfl, _, .of hp1⟩, _, _, he1, lk_thing _ _, a, dx, W, j, d, rfl, hd, he1, hW, hj, ?_⟩
      cases hpt : pThing W d (j) with
      | stuck =>
        rw [hpt] at hq
        rw [← hq] at q
        exact q
      | err k =>
        rw [hpt] at hq
        rw [← hq] at q
        exact err_mono q hb1 he1
      | ok t k =>
        rw [hpt] at hq
        intro H3 hk hb3 he3 v hv
        have hp3 : H3 p = some (.lst vs) := hb3 _ _ (Ne.symm hap) hp1
        have hap' : a ≠ p := hap
        refine ⟨p, vs, v, rfl, rfl, hp3, by omega, ?_⟩
        rw [ePv]
        refine ⟨k, acc ++ [t], vs ++ [v], hk, by rw [List.length_append, List.length_singleton]; omega, hq, rfl, fun b o hba eb => ?_, ?_, upd_same, RepL_put (RepL.le (fresh_le fun b o nb eb => ?_) _ _ hrep) (Rep.le (fun b u r => rd_fun (fun o z => ?_) r) _ _ hv)⟩
        · rw [upd_ne (ne_of_none eb np)]
          exact hb3 b o hba (hb1 b o hba eb)
        · rw [Stt, upd_ne hap]
          exact he3
        · have nb' := nb
          rw [eG] at nb'
          have hbp : b ≠ p := fun z => by rw [z, upd_same] at nb'; cases nb'
          have hba : b ≠ a := fun z => by rw [z, upd_ne hap, he] at nb'; cases nb'
          rw [upd_ne hbp]
          exact hb3 b o hba (kp1 b o hba eb)
        · obtain ⟨n1, n2⟩ := fresh_of z
          have hbp : b ≠ p := fun z => by rw [z, hp1] at n1; cases n1
          refine fresh_at ?_ (by rw [upd_ne hbp]; exact n2) (fresh_nf z)
          rw [eG, upd_ne hbp]
          exact none_of hb1 he he1 n1

    · have hvs : ¬ vs = [] := fun z => hacc (by
        rw [z] at hvl
        exact List.eq_nil_of_length_eq_zero hvl.symm)
      rw [if_pos (by simp [hvs])]
      refine ⟨_, _, he1, lk_must_be _ _, _, _, he1, lk_may _ _, a, dx, W, j, 32, rfl, he1, hW, hj, ?_⟩
      by_cases h32 : W[j]? = some 32
      · rw [if_neg (by simp [h32])] at hq
        rw [if_neg hacc] at hq
        have hj1 : j + 1 ≤ W.length := (List.getElem?_eq_some_iff.mp h32).1
        simp only [if_pos h32]
        refine ⟨a, dx, W, j + 1, _, rfl, upd_same, fun _ => ?_, (fun z => by simp [h32] at z)⟩
        obtain ⟨H2, eH2⟩ : ∃ H2, H2 = upd (upd (upd H' a (HO.ins (aStrip K) dx (fsOf W j))) p3 (HO.lst [])) a (HO.ins (aStrip K) dx (fsOf W (j + 1))) := ⟨_, rfl⟩
        rw [← eH2]
        have he2 : H2 a = some (HO.ins (aStrip K) dx (fsOf W (j + 1))) := by rw [eH2, upd_same]
        have hp2 : H2 p = some (.lst vs) := by rw [eH2, upd_ne (Ne.symm hap)]; exact hp1
        have kp2 : ∀ b o, b ≠ a → H' b = some o → H2 b = some o := fun b o hba eb => by
          rw [eH2, upd_ne hba]
          exact kp1 b o hba eb
        have hb2 : But a H H2 := hb.trans kp2

        refine ⟨.inl ⟨rfl, _, .of hp2⟩, _, _, he2, lk_thing _ _, a, dx, W, j + 1, d, rfl, hd, he2, hW, hj1, ?_⟩
        cases hpt : pThing W d (j + 1) with
        | stuck =>
          rw [hpt] at hq
          rw [← hq] at q
          exact q
        | err k =>
          rw [hpt] at hq
          rw [← hq] at q
          exact err_mono q hb2 he2
        | ok t k =>
          rw [hpt] at hq
          intro H3 hk hb3 he3 v hv
          have hp3 : H3 p = some (.lst vs) := hb3 _ _ (Ne.symm hap) hp2
          have hap' : a ≠ p := hap
          refine ⟨p, vs, v, rfl, rfl, hp3, by omega, ?_⟩
          rw [ePv]
          refine ⟨k, acc ++ [t], vs ++ [v], hk, by rw [List.length_append, List.length_singleton]; omega, hq, rfl, fun b o hba eb => ?_, ?_, upd_same, RepL_put (RepL.le (fresh_le fun b o nb eb => ?_) _ _ hrep) (Rep.le (fun b u r => rd_fun (fun o z => ?_) r) _ _ hv)⟩
          · rw [upd_ne (ne_of_none eb np)]
            exact hb3 b o hba (hb2 b o hba eb)
          · rw [Stt, upd_ne hap]
            exact he3
          · have nb' := nb
            rw [eG] at nb'
            have hbp : b ≠ p := fun z => by rw [z, upd_same] at nb'; cases nb'
            have hba : b ≠ a := fun z => by rw [z, upd_ne hap, he] at nb'; cases nb'
            rw [upd_ne hbp]
            exact hb3 b o hba (kp2 b o hba eb)
          · obtain ⟨n1, n2⟩ := fresh_of z
            have hbp : b ≠ p := fun z => by rw [z, hp2] at n1; cases n1
            refine fresh_at ?_ (by rw [upd_ne hbp]; exact n2) (fresh_nf z)
            rw [eG, upd_ne hbp]
            exact none_of hb2 he he2 n1

      · rw [if_pos ⟨hacc, h32⟩] at hq
        simp only [if_neg h32]
        refine ⟨a, dx, W, j, _, rfl, upd_same, (fun z => by simp [h32] at z), fun _ => ?_⟩
        rw [← hq] at q
        exact err_mono q (hb1.trans But.upd) upd_same
theorem ok_Strip_pairs (T : Tx K w mg) (n : Nat) (m_must_be : Mt P w K mg base 5 (aStrip K) "must_be" (spMust K)) (m_may : Mt P w K mg base 4 (aStrip K) "may" (spMay K)) (m_key : Mt P w K mg base 9 (aStrip K) "key" (spKey K)) (m_thing : Mt P w K mg base (2 * n + 10) (aStrip K) "thing" (spThing K n))
    (F : FunD K "pairs" "Strip.pairs" (defArgs s_Strip_pairs) (defBody s_Strip_pairs) (defScope s_Strip_pairs) [] [] f fd) : FnOk P w K mg base (L2.CX P w) (2 * n + 11) f fd ["self", "deep"] (spPairs K n) := by
  refine F.ok sc_Strip_pairs (fun vs H Q E h => by obtain ⟨t, v, d, i, ah, rfl, _⟩ := h; rfl) (fun cdv A outer s H vs Q E hr h => ?_)
  have nd := (sc_Strip_pairs).nd
  refine ⟨_, (pss_cons
  (ps_set (i := 2) nd rfl (by first | exact Or.inl rfl | exact Or.inr rfl) pe_dnewK)
  (pss_cons
  (ps_set (i := 3) nd rfl (by first | exact Or.inl rfl | exact Or.inr rfl) pe_non)
  (pss_cons
  (ps_while own_def (pt_not (pt_val (pe_mt (m_may) (hr.mono (by omega)) pass_def (pv 0) (pa_cons pe_str pa_nil))))
   (pss_cons
    (ps_if (pt_cmp (pc_notN (pv 3)))
     (pss_one
      (ps_expr (pe_mt (m_must_be) (hr.mono (by omega)) pass_def (pv 0) (pa_cons (pe_mt (m_may) (hr.mono (by omega)) pass_def (pv 0) (pa_cons pe_str pa_nil)) pa_nil))))
     pss_nil)
    (pss_cons
    (ps_set (i := 3) nd rfl (by first | exact Or.inl rfl | exact Or.inr rfl) (pe_mt (m_key) (hr.mono (by omega)) pass_def (pv 0) (pa_cons (pv 3) pa_nil)))
    (pss_cons
    (ps_expr (pe_mt (m_must_be) (hr.mono (by omega)) pass_def (pv 0) (pa_cons (pe_mt (m_may) (hr.mono (by omega)) pass_def (pv 0) (pa_cons pe_str pa_nil)) pa_nil)))
    (pss_one
    (ps_asg (pe_mt (m_thing) (hr.mono (by omega)) pass_def (pv 0) (pa_cons (pv 1) pa_nil)) (pg_sub (pv 2) (pv 3) (Lk.set_dictA (Lk.hu1 hr)))))))))
  (pss_one
  (ps_ret (pv 2)))))), ?_⟩
  obtain ⟨a, dx, W, i, d, rfl, hd, he, hW, hi, q⟩ := h
  rw [show L2.start N_Strip_pairs [V.ref a, V.int (d : Int)] = [some (.ref a), some (.int (d : Int)), none, none] from rfl]
  walk_at "r"
  rw [Stt] at he
  obtain ⟨R0, eR⟩ : ∃ R0, R0 = pPairs W (pThing W d) (W.length + 1) i [] [] := ⟨_, rfl⟩
  rw [← eR] at q
  intro p np
  have hap : a ≠ p := ne_of_none he np
  obtain ⟨G, eG⟩ : ∃ G, G = upd H p (HO.dK []) := ⟨_, rfl⟩
  obtain ⟨Pv, ePv⟩ : ∃ Pv : Nat → L2.St → Hp → Prop, Pv = fun n σ H' => ∃ j ks ts vs, j ≤ W.length ∧ ts.length + n = W.length + 1 ∧ ks.length = ts.length ∧ ks.length = vs.length ∧ pPairs W (pThing W d) n j ks ts = R0 ∧ σ = [some (V.ref a), some (V.int (d : Int)), some (V.ref p), some (aheadV ks.getLast?)] ∧
    ks.Pairwise (· < ·) ∧ But a H H' ∧ Stt K a dx W j H' ∧ H' p = some (.dK (zipK ks vs)) ∧ RepL ts vs (fresh G H') := ⟨_, rfl⟩
  refine ⟨Pv, ⟨W.length + 1, by rw [ePv]; exact ⟨i, [], [], [], hi, by simp, rfl, rfl, eR.symm, rfl, .nil, fun b o _ e => by rw [upd_ne (ne_of_none e np)]; exact e, by rw [Stt, upd_ne hap]; exact he, upd_same, by rw [RepL]⟩⟩, ?_⟩
  intro n σ H' hP
  rw [ePv] at hP
  obtain ⟨j, ks, ts, vs, hj, hlen, hkt, hkv, hq, rfl, hpw, hb, he', hp', hrep⟩ := hP
  rw [Stt] at he'
  simp only [he', lk_text, lk_at, put_at, put_text, put_at1, lk_sign, lk_must_be, lk_may, lk_run, lk_whole_number, lk_quoted, lk_key, lk_thing, lk_things, lk_pairs, T.c_Strip, T.na_text, T.na_at, HO.ins.injEq, exists_and_left, and_assoc, exists_eq_left', exists_eq_left, exists_eq, true_and, and_true, Option.some.injEq, V.int.injEq, V.ref.injEq, V.str.injEq, V.bl.injEq, upd_same, upd_upd, List.getElem?_cons_zero, List.getElem?_cons_succ, List.set_cons_zero, List.set_cons_succ, scal_ss, S_eq, S_cat, S_len, add_ii, add_ss, sub_ii, mul_ii, mod_ii, fdiv_ii, pow_ii, lt_ii, le_ii, gt_ii, ge_ii, lt_ss, le_ss, iadd_ii, iadd_ss, in_S, cut_fig, if_true, if_false, Bool.false_eq_true, reduceCtorEq, ix_si, ix_ri, ix_rs, sl_s, sl_r, eq_ss, eq_ii, eq_bb, eq_nn, eq_rr, int1_i, int1_b, int1_s, min2_ii, set_rs, set_ri, Bool.false_xor, Bool.true_xor, Bool.not_eq_false', Bool.not_eq_true']
  refine ⟨a, dx, W, j, 125, rfl, he', hW, hj, ?_⟩
  cases n with
  | zero =>
    rw [← hq] at q
    exact q.elim
  | succ n =>
  have hN : ∀ (σ' : L2.St) (H'' : Hp), Pv n σ' H'' → ∃ m', m' < n + 1 ∧ Pv m' σ' H'' := fun σ' H'' h => ⟨n, Nat.lt_succ_self n, h⟩
  have e16 := sizeLine_eq
  rw [pPairs] at hq
  simp only [he', lk_text, lk_at, put_at, put_text, put_at1, lk_sign, lk_must_be, lk_may, lk_run, lk_whole_number, lk_quoted, lk_key, lk_thing, lk_things, lk_pairs, T.c_Strip, T.na_text, T.na_at, HO.ins.injEq, exists_and_left, and_assoc, exists_eq_left', exists_eq_left, exists_eq, true_and, and_true, Option.some.injEq, V.int.injEq, V.ref.injEq, V.str.injEq, V.bl.injEq, upd_same, upd_upd, List.getElem?_cons_zero, List.getElem?_cons_succ, List.set_cons_zero, List.set_cons_succ, scal_ss, S_eq, S_cat, S_len, add_ii, add_ss, sub_ii, mul_ii, mod_ii, fdiv_ii, pow_ii, lt_ii, le_ii, gt_ii, ge_ii, lt_ss, le_ss, iadd_ii, iadd_ss, in_S, cut_fig, if_true, if_false, Bool.false_eq_true, reduceCtorEq, ix_si, ix_ri, ix_rs, sl_s, sl_r, eq_ss, eq_ii, eq_bb, eq_nn, eq_rr, int1_i, int1_b, int1_s, min2_ii, set_rs, set_ri, Bool.false_xor, Bool.true_xor, Bool.not_eq_false', Bool.not_eq_true']
  by_cases hend : W[j]? = some 125
  · rw [if_pos hend] at hq
    rw [if_neg (by simp [hend])]
    simp only [if_pos hend]
    rw [← hq] at q
    have hpa : p ≠ a := Ne.symm hap
    have hp1 : upd H' a (HO.ins (aStrip K) dx (fsOf W (j + 1))) p = some (.dK (zipK ks vs)) := by rw [upd_ne hpa]; exact hp'
    refine q _ (List.getElem?_eq_some_iff.mp hend).1 (hb.trans But.upd) upd_same p ?_
    rw [Rep]
    refine ⟨p, zipK ks vs, vs, rfl, .inl (fresh_at np hp1), by rw [zipK_keys hkv], hkt, zipK_val hpw, RepL.le (fun b u r => rd_fun (fun o z => ?_) r) _ _ hrep⟩
    obtain ⟨n1, n2⟩ := fresh_of z
    have n3 : H b = none := by
      rw [eG] at n1
      by_cases hbp : b = p
      · rw [hbp, upd_same] at n1; cases n1
      · rw [upd_ne hbp] at n1; exact n1
    refine fresh_at n3 ?_ (fresh_nf z)
    rw [upd_ne (fun z => by rw [z, he] at n3; cases n3)]
    exact n2
  · rw [if_neg hend] at hq
    rw [if_pos (by simp [hend])]
    simp only [if_neg hend]
    refine ⟨Pv n, hN, ?_⟩
    obtain ⟨H1, eH1⟩ : ∃ H1, H1 = upd H' a (HO.ins (aStrip K) dx (fsOf W j)) := ⟨_, rfl⟩
    rw [← eH1]
    have he1 : H1 a = some (HO.ins (aStrip K) dx (fsOf W j)) := by rw [eH1, upd_same]
    have kp1 : ∀ b o, b ≠ a → H' b = some o → H1 b = some o := fun b o hba eb => by
      rw [eH1, upd_ne hba]
      exact eb
    have hp1 : H1 p = some (.dK (zipK ks vs)) := kp1 _ _ (Ne.symm hap) hp'
    have hb1 : But a H H1 := hb.trans kp1
    by_cases hks : ks = []
    · rw [if_neg (by simp [hks])] at hq
      rw [if_neg (by simp [hks, aheadV])]
      rw [if_pos hks] at hq

      refine ⟨a, dx, W, j, _, rfl, he1, hW, hj, ?_⟩
      cases hpk : pKey W (j) ks.getLast? with
      | stuck =>
        rw [hpk] at hq
        rw [← hq] at q
        exact q
      | err k =>
        rw [hpk] at hq
        rw [← hq] at q
        exact err_mono q hb1 he1
      | ok key k =>
        rw [hpk] at hq
        simp only at hq
        intro H3 hk hb3 he3 hkl
        rw [Stt] at he3
        have hp3 : H3 p = some (.dK (zipK ks vs)) := hb3 _ _ (Ne.symm hap) hp1
        simp only [he3, lk_text, lk_at, put_at, put_text, put_at1, lk_sign, lk_must_be, lk_may, lk_run, lk_whole_number, lk_quoted, lk_key, lk_thing, lk_things, lk_pairs, T.c_Strip, T.na_text, T.na_at, HO.ins.injEq, exists_and_left, and_assoc, exists_eq_left', exists_eq_left, exists_eq, true_and, and_true, Option.some.injEq, V.int.injEq, V.ref.injEq, V.str.injEq, V.bl.injEq, upd_same, upd_upd, List.getElem?_cons_zero, List.getElem?_cons_succ, List.set_cons_zero, List.set_cons_succ, scal_ss, S_eq, S_cat, S_len, add_ii, add_ss, sub_ii, mul_ii, mod_ii, fdiv_ii, pow_ii, lt_ii, le_ii, gt_ii, ge_ii, lt_ss, le_ss, iadd_ii, iadd_ss, in_S, cut_fig, if_true, if_false, Bool.false_eq_true, reduceCtorEq, ix_si, ix_ri, ix_rs, sl_s, sl_r, eq_ss, eq_ii, eq_bb, eq_nn, eq_rr, int1_i, int1_b, int1_s, min2_ii, set_rs, set_ri, Bool.false_xor, Bool.true_xor, Bool.not_eq_false', Bool.not_eq_true']
        refine ⟨a, dx, W, k, 32, rfl, he3, hW, hk, ?_⟩
        by_cases k32 : W[k]? = some 32
        · rw [if_neg (by simp [k32])] at hq
          have hk1 : k + 1 ≤ W.length := (List.getElem?_eq_some_iff.mp k32).1
          simp only [if_pos k32]
          obtain ⟨H4, eH4⟩ : ∃ H4, H4 = upd H3 a (HO.ins (aStrip K) dx (fsOf W (k + 1))) := ⟨_, rfl⟩
          rw [← eH4]
          have he4 : H4 a = some (HO.ins (aStrip K) dx (fsOf W (k + 1))) := by rw [eH4, upd_same]
          refine ⟨a, dx, W, k + 1, _, rfl, he4, fun _ => ?_, (fun z => by simp [k32] at z)⟩
          have hb4 : But a H3 H4 := by rw [eH4]; exact But.upd
          have hp4 : H4 p = some (.dK (zipK ks vs)) := hb4 _ _ (Ne.symm hap) hp3
          simp only [he4, lk_text, lk_at, put_at, put_text, put_at1, lk_sign, lk_must_be, lk_may, lk_run, lk_whole_number, lk_quoted, lk_key, lk_thing, lk_things, lk_pairs, T.c_Strip, T.na_text, T.na_at, HO.ins.injEq, exists_and_left, and_assoc, exists_eq_left', exists_eq_left, exists_eq, true_and, and_true, Option.some.injEq, V.int.injEq, V.ref.injEq, V.str.injEq, V.bl.injEq, upd_same, upd_upd, List.getElem?_cons_zero, List.getElem?_cons_succ, List.set_cons_zero, List.set_cons_succ, scal_ss, S_eq, S_cat, S_len, add_ii, add_ss, sub_ii, mul_ii, mod_ii, fdiv_ii, pow_ii, lt_ii, le_ii, gt_ii, ge_ii, lt_ss, le_ss, iadd_ii, iadd_ss, in_S, cut_fig, if_true, if_false, Bool.false_eq_true, reduceCtorEq, ix_si, ix_ri, ix_rs, sl_s, sl_r, eq_ss, eq_ii, eq_bb, eq_nn, eq_rr, int1_i, int1_b, int1_s, min2_ii, set_rs, set_ri, Bool.false_xor, Bool.true_xor, Bool.not_eq_false', Bool.not_eq_true']
          refine ⟨a, dx, W, k + 1, d, rfl, hd, he4, hW, hk1, ?_⟩
          cases hpt : pThing W d (k + 1) with
          | stuck =>
            rw [hpt] at hq
            rw [← hq] at q
            exact q
          | err m =>
            rw [hpt] at hq
            rw [← hq] at q
            exact err_mono q ((hb1.trans hb3).trans hb4) he4
          | ok t m =>
            rw [hpt] at hq
            intro H5 hm hb5 he5 v hv
            have hp5 : H5 p = some (.dK (zipK ks vs)) := hb5 _ _ (Ne.symm hap) hp4
            have hall := last_all hpw (pKey_late hpk)
            refine ⟨zipK ks vs, hp5, by rw [zipK_len hkv]; omega, ?_⟩
            rw [zipK_put hkv hall, ePv]
            refine ⟨m, ks ++ [key], ts ++ [t], vs ++ [v], hm, by rw [List.length_append, List.length_singleton]; omega, by rw [List.length_append, List.length_append]; simp only [List.length_singleton]; omega, by rw [List.length_append, List.length_append]; simp only [List.length_singleton]; omega,
              hq, ?_, List.pairwise_append.mpr ⟨hpw, List.pairwise_singleton _ _, fun x hx y hy => by rw [List.mem_singleton.mp hy]; exact hall x hx⟩, fun b o hba eb => ?_, ?_, upd_same, RepL_put (RepL.le (fresh_le fun b o nb eb => ?_) _ _ hrep) (Rep.le (fun b u r => rd_fun (fun o z => ?_) r) _ _ hv)⟩
            · rw [List.getLast?_append]
              rfl
            · rw [upd_ne (ne_of_none eb np)]
              exact hb5 b o hba (hb4 b o hba (hb3 b o hba (hb1 b o hba eb)))
            · rw [Stt, upd_ne hap]
              exact he5
            · have nb' := nb
              rw [eG] at nb'
              have hbp : b ≠ p := fun z => by rw [z, upd_same] at nb'; cases nb'
              have hba : b ≠ a := fun z => by rw [z, upd_ne hap, he] at nb'; cases nb'
              rw [upd_ne hbp]
              exact hb5 b o hba (hb4 b o hba (hb3 b o hba (kp1 b o hba eb)))
            · obtain ⟨n1, n2⟩ := fresh_of z
              have hbp : b ≠ p := fun z => by rw [z, hp4] at n1; cases n1
              refine fresh_at ?_ (by rw [upd_ne hbp]; exact n2) (fresh_nf z)
              rw [eG, upd_ne hbp]
              exact none_of ((hb1.trans hb3).trans hb4) he he4 n1
        · rw [if_pos k32] at hq
          simp only [if_neg k32]
          refine ⟨a, dx, W, k, _, rfl, upd_same, (fun z => by simp [k32] at z), fun _ => ?_⟩
          rw [← hq] at q
          exact err_mono q ((hb1.trans hb3).trans But.upd) upd_same

    · have hav : ¬ aheadV ks.getLast? = V.non := fun z => by
        cases e : ks.getLast? with
        | none => exact hks (List.getLast?_eq_none_iff.mp e)
        | some a0 => rw [e] at z; cases z
      rw [if_pos (by simp [hav])]
      refine ⟨a, dx, W, j, 32, rfl, he1, hW, hj, ?_⟩
      by_cases h32 : W[j]? = some 32
      · rw [if_neg (by simp [h32])] at hq
        rw [if_neg hks] at hq
        have hj1 : j + 1 ≤ W.length := (List.getElem?_eq_some_iff.mp h32).1
        simp only [if_pos h32]
        refine ⟨a, dx, W, j + 1, _, rfl, upd_same, fun _ => ?_, (fun z => by simp [h32] at z)⟩
        obtain ⟨H2, eH2⟩ : ∃ H2, H2 = upd H1 a (HO.ins (aStrip K) dx (fsOf W (j + 1))) := ⟨_, rfl⟩
        rw [← eH2]
        have he2 : H2 a = some (HO.ins (aStrip K) dx (fsOf W (j + 1))) := by rw [eH2, upd_same]
        have hp2 : H2 p = some (.dK (zipK ks vs)) := by rw [eH2, upd_ne (Ne.symm hap)]; exact hp1
        have kp2 : ∀ b o, b ≠ a → H' b = some o → H2 b = some o := fun b o hba eb => by
          rw [eH2, upd_ne hba]
          exact kp1 b o hba eb
        have hb2 : But a H H2 := hb.trans kp2

        refine ⟨_, _, he2, lk_key _ _, a, dx, W, j + 1, _, rfl, he2, hW, hj1, ?_⟩
        cases hpk : pKey W (j + 1) ks.getLast? with
        | stuck =>
          rw [hpk] at hq
          rw [← hq] at q
          exact q
        | err k =>
          rw [hpk] at hq
          rw [← hq] at q
          exact err_mono q hb2 he2
        | ok key k =>
          rw [hpk] at hq
          simp only at hq
          intro H3 hk hb3 he3 hkl
          rw [Stt] at he3
          have hp3 : H3 p = some (.dK (zipK ks vs)) := hb3 _ _ (Ne.symm hap) hp2
          simp only [he3, lk_text, lk_at, put_at, put_text, put_at1, lk_sign, lk_must_be, lk_may, lk_run, lk_whole_number, lk_quoted, lk_key, lk_thing, lk_things, lk_pairs, T.c_Strip, T.na_text, T.na_at, HO.ins.injEq, exists_and_left, and_assoc, exists_eq_left', exists_eq_left, exists_eq, true_and, and_true, Option.some.injEq, V.int.injEq, V.ref.injEq, V.str.injEq, V.bl.injEq, upd_same, upd_upd, List.getElem?_cons_zero, List.getElem?_cons_succ, List.set_cons_zero, List.set_cons_succ, scal_ss, S_eq, S_cat, S_len, add_ii, add_ss, sub_ii, mul_ii, mod_ii, fdiv_ii, pow_ii, lt_ii, le_ii, gt_ii, ge_ii, lt_ss, le_ss, iadd_ii, iadd_ss, in_S, cut_fig, if_true, if_false, Bool.false_eq_true, reduceCtorEq, ix_si, ix_ri, ix_rs, sl_s, sl_r, eq_ss, eq_ii, eq_bb, eq_nn, eq_rr, int1_i, int1_b, int1_s, min2_ii, set_rs, set_ri, Bool.false_xor, Bool.true_xor, Bool.not_eq_false', Bool.not_eq_true']
          refine ⟨a, dx, W, k, 32, rfl, he3, hW, hk, ?_⟩
          by_cases k32 : W[k]? = some 32
          · rw [if_neg (by simp [k32])] at hq
            have hk1 : k + 1 ≤ W.length := (List.getElem?_eq_some_iff.mp k32).1
            simp only [if_pos k32]
            obtain ⟨H4, eH4⟩ : ∃ H4, H4 = upd H3 a (HO.ins (aStrip K) dx (fsOf W (k + 1))) := ⟨_, rfl⟩
            rw [← eH4]
            have he4 : H4 a = some (HO.ins (aStrip K) dx (fsOf W (k + 1))) := by rw [eH4, upd_same]
            refine ⟨a, dx, W, k + 1, _, rfl, he4, fun _ => ?_, (fun z => by simp [k32] at z)⟩
            have hb4 : But a H3 H4 := by rw [eH4]; exact But.upd
            have hp4 : H4 p = some (.dK (zipK ks vs)) := hb4 _ _ (Ne.symm hap) hp3
            simp only [he4, lk_text, lk_at, put_at, put_text, put_at1, lk_sign, lk_must_be, lk_may, lk_run, lk_whole_number, lk_quoted, lk_key, lk_thing, lk_things, lk_pairs, T.c_Strip, T.na_text, T.na_at, HO.ins.injEq, exists_and_left, and_assoc, exists_eq_left', exists_eq_left, exists_eq, true_and, and_true, Option.some.injEq, V.int.injEq, V.ref.injEq, V.str.injEq, V.bl.injEq, upd_same, upd_upd, List.getElem?_cons_zero, List.getElem?_cons_succ, List.set_cons_zero, List.set_cons_succ, scal_ss, S_eq, S_cat, S_len, add_ii, add_ss, sub_ii, mul_ii, mod_ii, fdiv_ii, pow_ii, lt_ii, le_ii, gt_ii, ge_ii, lt_ss, le_ss, iadd_ii, iadd_ss, in_S, cut_fig, if_true, if_false, Bool.false_eq_true, reduceCtorEq, ix_si, ix_ri, ix_rs, sl_s, sl_r, eq_ss, eq_ii, eq_bb, eq_nn, eq_rr, int1_i, int1_b, int1_s, min2_ii, set_rs, set_ri, Bool.false_xor, Bool.true_xor, Bool.not_eq_false', Bool.not_eq_true']
            refine ⟨a, dx, W, k + 1, d, rfl, hd, he4, hW, hk1, ?_⟩
            cases hpt : pThing W d (k + 1) with
            | stuck =>
              rw [hpt] at hq
              rw [← hq] at q
              exact q
            | err m =>
              rw [hpt] at hq
              rw [← hq] at q
              exact err_mono q ((hb2.trans hb3).trans hb4) he4
            | ok t m =>
              rw [hpt] at hq
              intro H5 hm hb5 he5 v hv
              have hp5 : H5 p = some (.dK (zipK ks vs)) := hb5 _ _ (Ne.symm hap) hp4
              have hall := last_all hpw (pKey_late hpk)
              refine ⟨zipK ks vs, hp5, by rw [zipK_len hkv]; omega, ?_⟩
              rw [zipK_put hkv hall, ePv]
              refine ⟨m, ks ++ [key], ts ++ [t], vs ++ [v], hm, by rw [List.length_append, List.length_singleton]; omega, by rw [List.length_append, List.length_append]; simp only [List.length_singleton]; omega, by rw [List.length_append, List.length_append]; simp only [List.length_singleton]; omega,
                hq, ?_, List.pairwise_append.mpr ⟨hpw, List.pairwise_singleton _ _, fun x hx y hy => by rw [List.mem_singleton.mp hy]; exact hall x hx⟩, fun b o hba eb => ?_, ?_, upd_same, RepL_put (RepL.le (fresh_le fun b o nb eb => ?_) _ _ hrep) (Rep.le (fun b u r => rd_fun (fun o z => ?_) r) _ _ hv)⟩
              · rw [List.getLast?_append]
                rfl
              · rw [upd_ne (ne_of_none eb np)]
                exact hb5 b o hba (hb4 b o hba (hb3 b o hba (hb2 b o hba eb)))
              · rw [Stt, upd_ne hap]
                exact he5
              · have nb' := nb
                rw [eG] at nb'
                have hbp : b ≠ p := fun z => by rw [z, upd_same] at nb'; cases nb'
                have hba : b ≠ a := fun z => by rw [z, upd_ne hap, he] at nb'; cases nb'
                rw [upd_ne hbp]
                exact hb5 b o hba (hb4 b o hba (hb3 b o hba (kp2 b o hba eb)))
              · obtain ⟨n1, n2⟩ := fresh_of z
                have hbp : b ≠ p := fun z => by rw [z, hp4] at n1; cases n1
                refine fresh_at ?_ (by rw [upd_ne hbp]; exact n2) (fresh_nf z)
                rw [eG, upd_ne hbp]
                exact none_of ((hb2.trans hb3).trans hb4) he he4 n1
          · rw [if_pos k32] at hq
            simp only [if_neg k32]
            refine ⟨a, dx, W, k, _, rfl, upd_same, (fun z => by simp [k32] at z), fun _ => ?_⟩
            rw [← hq] at q
            exact err_mono q ((hb2.trans hb3).trans But.upd) upd_same

      · rw [if_pos ⟨hks, h32⟩] at hq
        simp only [if_neg h32]
        refine ⟨a, dx, W, j, _, rfl, upd_same, (fun z => by simp [h32] at z), fun _ => ?_⟩
        rw [← hq] at q
        exact err_mono q (hb1.trans But.upd) upd_same
end
end K97

set_option Elab.async false
set_option linter.all false
set_option maxRecDepth 100000
set_option maxHeartbeats 4000000
/-! read_paper, paper_text; the knots. -/
namespace K97
open PySem PySem.Spec PyProof.Rows L2 Lk SX
local macro_rules | `(tactic| walk_at "r") => `(tactic| simp only [tSeq, tNext, tRet, tRetN, tIfS, tDrop, tAsg, tAug, tFor, tWhile, tAndV, tOrV, tNotV, tAnd, tOr, tNot, tB, tTest, tIf, tIsN, tNotN, tOp, tVar, tC, tCB, CwR.tReplC, tPar, tCons, tNil, tLc, tYes, tTup, tLst, tCall, tMeth, tFld, tSl, tPart, tNoPart, tM1, tBM, tVeI, tOst, sFld, sFldAug, tMkO, tMake, tTGet, gName, gNil, gCons, gTup, gUnl, gSub, iAny, iRng1, iKeys, iVals,
  List.getElem?_cons_zero, List.getElem?_cons_succ, List.set_cons_zero, List.set_cons_succ, Option.some.injEq, V.str.injEq, V.bl.injEq, V.int.injEq, V.ref.injEq, exists_and_left, exists_eq_left', exists_eq_left, exists_eq, cxK, cxW, HO.ins.injEq, and_assoc, upd_same, true_and, and_true, reduceCtorEq, false_and, and_false, exists_false, or_false, false_or, if_true, if_false, List.cons_append, List.nil_append, add_ii, add_ss, sub_ii, mul_ii, mod_ii, fdiv_ii, pow_ii, lt_ii, le_ii, gt_ii, ge_ii, lt_ss, le_ss, iadd_ii, iadd_ss, in_ss, ix_si, ix_ri, ix_rs, sl_s, sl_r, eq_ss, eq_ii, eq_bb, eq_nn, eq_rr, int1_i, int1_b, int1_s, min2_ii, set_rs, set_ri, Bool.true_xor, Bool.false_xor, Bool.not_eq_true', wipe, List.map_cons, List.map_nil, S_eq, S_cat, S_len, lit1, lit3, lit5, lit6, lit7, lit8, lit9, lit10, lit11, lit12, lit13, lit14, lit15, lit16, lit17, lit18, lit19, lit21, lit23, lit24, lit26, lit27, lit28, lit29, lit30, lit31, lit32, lit33, lit34, lit35, lit36, lit37, lit38, lit39, lit40, lit41, lit42, lit101, lit102, lit103, lit104, lit105, lit106, lit107, lit108, lit109, lit110, lit111, lit112, lit113, lit114, lit115])
section
variable {P : Program} {w : World} {K : PySem.W.Frag} {mg : Str → Option Value} {base : Heap} {f : Addr} {fd : FuncData}
def errR (K : PySem.W.Frag) (E : XK) (H : Hp) (i : Nat) : Prop := ∀ d H', Same H H' → H d = none → H' d = some (.xd [("at", .int (i : Int)), ("row", .int 0)]) → E (noText K) (some d) H'
def ResR (K : PySem.W.Frag) (Q : VK) (E : XK) (H : Hp) : R T → Prop
  | .ok t _ => ∀ v H', Same H H' → Rep t v (fresh H H') → Q v H'
  | .err j => errR K E H j
  | .stuck => False
def spRead (K : PySem.W.Frag) : Sp := fun vs H Q E => ∃ (W : List Nat) (d : Nat), vs = [.str (S W), .int (d : Int)] ∧ W.length ≤ 1000000 ∧ ResR K Q E H (pPaper W (min d 100))
theorem ok_read_paper (T : Tx K w mg) (i_Strip : Ini P w K mg base 2 "Strip" (aStrip K) (spInit K)) (m_sign : Mt P w K mg base 2 (aStrip K) "sign" (spSgn K)) (m_must_be : Mt P w K mg base 5 (aStrip K) "must_be" (spMust K)) (m_thing : Mt P w K mg base 212 (aStrip K) "thing" (spThing K 101))
    (F : FunD K "read_paper" "read_paper" (defArgs s_read_paper) (defBody s_read_paper) (defScope s_read_paper) [] [("deep", .int 40)] f fd) : FnOk P w K mg base (L2.CX P w) 214 f fd ["text", "deep"] (spRead K) := by
  refine F.ok sc_read_paper (fun vs H Q E h => by obtain ⟨t, v, rfl, _⟩ := h; rfl) (fun cdv A outer s H vs Q E hr h => ?_)
  have nd := (sc_read_paper).nd
  refine ⟨_, (pss_cons
  (ps_set (i := 2) nd rfl (by first | exact Or.inl rfl | exact Or.inr rfl) (pe_ini i_Strip (hr.mono (by omega)) pass_def (pa_cons (pv 0) pa_nil)))
  (pss_cons
  (ps_set (i := 3) nd rfl (by first | exact Or.inl rfl | exact Or.inr rfl) (pe_mt (m_thing) (hr.mono (by omega)) pass_def (pv 2) (pa_cons (pe_callB (call_minA rfl) (by rfl) T.b_min Lk.boot_min (pa_cons (pv 1) (pa_cons (pe_gint T.g_DEEPEST) pa_nil))) pa_nil)))
  (pss_cons
  (ps_expr (pe_mt (m_must_be) (hr.mono (by omega)) pass_def (pv 2) (pa_cons (pe_cmpR (k_eq K rfl (Lk.hu0 hr)) (pe_mt0 (m_sign) (hr.mono (by omega)) pass_def (pv 2)) pe_str rfl) pa_nil)))
  (pss_one
  (ps_ret (pv 3)))))), ?_⟩
  obtain ⟨W, d, rfl, hW, q⟩ := h
  rw [show L2.start N_read_paper [V.str (S W), V.int (d : Int)] = [some (.str (S W)), some (.int (d : Int)), none, none] from rfl]
  walk_at "r"
  intro a dx na ndx nda
  obtain ⟨H2, eH2⟩ : ∃ H2, H2 = upd (upd (upd (upd H dx (HO.own a)) a (HO.ins (aStrip K) dx [])) a (HO.ins (aStrip K) dx [(Str.ofString "text", V.str (S W))])) a (HO.ins (aStrip K) dx (fsOf W 0)) := ⟨_, rfl⟩
  have he2 : H2 a = some (HO.ins (aStrip K) dx (fsOf W 0)) := by rw [eH2, upd_same]
  have s2 : Same H H2 := fun b o e => by
    rw [eH2, upd_upd, upd_upd, upd_ne (ne_of_none e na), upd_ne (ne_of_none e ndx)]
    exact e
  have n2 : ∀ b, H2 b = none → H b = none := fun b z => by
    cases e : H b with
    | none => rfl
    | some o => rw [s2 b o e] at z; cases z
  have sB : ∀ {H' : Hp}, But a H2 H' → Same H H' := fun hb b o e => hb b o (ne_of_none e na) (s2 b o e)
  have eE : ∀ {j : Nat} {H1 : Hp} {o : HO}, errR K E H j → But a H2 H1 → H1 a = some o → errE K a E H1 j := fun he hb ha => err_mono (fun dd H' b1 nd1 hd1 => he dd H' (sB b1) (n2 _ nd1) hd1) hb ha
  refine ⟨a, dx, W, rfl, upd_same, ?_⟩
  rw [← eH2]
  refine ⟨rfl, _, _, he2, lk_thing _ _, ?_⟩
  have ed : (if (100 : Int) < (d : Int) then (100 : Int) else (d : Int)) = ((min d 100 : Nat) : Int) := by
    by_cases h : 100 < d
    · rw [if_pos (by omega)]
      omega
    · rw [if_neg (by omega)]
      omega
  rw [ed]
  refine ⟨a, dx, W, 0, min d 100, rfl, by omega, he2, hW, Nat.zero_le _, ?_⟩
  rw [pPaper] at q
  cases hq : pThing W (min d 100) 0 with
  | stuck => rw [hq] at q; exact q
  | err j => rw [hq] at q; exact eE q (fun _ _ _ h => h) he2
  | ok t j =>
    rw [hq] at q
    simp only at q
    intro H3 hj hb3 he3 v hv
    rw [Stt] at he3
    simp only [he3, lk_text, lk_at, put_at, put_text, put_at1, lk_sign, lk_must_be, lk_may, lk_run, lk_whole_number, lk_quoted, lk_key, lk_thing, lk_things, lk_pairs, T.c_Strip, T.na_text, T.na_at, HO.ins.injEq, exists_and_left, and_assoc, exists_eq_left', exists_eq_left, exists_eq, true_and, and_true, Option.some.injEq, V.int.injEq, V.ref.injEq, V.str.injEq, V.bl.injEq, upd_same, upd_upd, List.getElem?_cons_zero, List.getElem?_cons_succ, List.set_cons_zero, List.set_cons_succ, scal_ss, S_eq, S_cat, S_len, add_ii, add_ss, sub_ii, mul_ii, mod_ii, fdiv_ii, pow_ii, lt_ii, le_ii, gt_ii, ge_ii, lt_ss, le_ss, iadd_ii, iadd_ss, in_S, cut_fig, if_true, if_false, Bool.false_eq_true, reduceCtorEq, ix_si, ix_ri, ix_rs, sl_s, sl_r, eq_ss, eq_ii, eq_bb, eq_nn, eq_rr, int1_i, int1_b, int1_s, min2_ii, set_rs, set_ri, Bool.false_xor, Bool.true_xor, Bool.not_eq_false', Bool.not_eq_true']
    refine ⟨a, dx, W, j, rfl, he3, hW, hj, ?_⟩
    simp only [he3, lk_text, lk_at, put_at, put_text, put_at1, lk_sign, lk_must_be, lk_may, lk_run, lk_whole_number, lk_quoted, lk_key, lk_thing, lk_things, lk_pairs, T.c_Strip, T.na_text, T.na_at, HO.ins.injEq, exists_and_left, and_assoc, exists_eq_left', exists_eq_left, exists_eq, true_and, and_true, Option.some.injEq, V.int.injEq, V.ref.injEq, V.str.injEq, V.bl.injEq, upd_same, upd_upd, List.getElem?_cons_zero, List.getElem?_cons_succ, List.set_cons_zero, List.set_cons_succ, scal_ss, S_eq, S_cat, S_len, add_ii, add_ss, sub_ii, mul_ii, mod_ii, fdiv_ii, pow_ii, lt_ii, le_ii, gt_ii, ge_ii, lt_ss, le_ss, iadd_ii, iadd_ss, in_S, cut_fig, if_true, if_false, Bool.false_eq_true, reduceCtorEq, ix_si, ix_ri, ix_rs, sl_s, sl_r, eq_ss, eq_ii, eq_bb, eq_nn, eq_rr, int1_i, int1_b, int1_s, min2_ii, set_rs, set_ri, Bool.false_xor, Bool.true_xor, Bool.not_eq_false', Bool.not_eq_true']
    rw [head_nil]
    refine ⟨a, dx, W, j, _, rfl, he3, fun h => ?_, fun h => ?_⟩
    · rw [if_pos (by simpa using h)] at q
      refine q v H3 (sB hb3) (Rep.le (fun b u r => rd_fun (fun o z => ?_) r) _ _ hv)
      obtain ⟨z1, z2⟩ := fresh_of z
      exact fresh_at (n2 _ z1) z2 (fresh_nf z)
    · rw [if_neg (by simpa using h)] at q
      exact eE q hb3 he3
def spPaper (K : PySem.W.Frag) : Sp := fun vs H Q E => ∃ t v d, vs = [v, .int d] ∧ Rep t v H ∧ Ok t ∧ (spelt t).length ≤ 1000000 ∧ 0 ≤ d ∧
  ((dep t : Int) ≤ min d 100 → ∀ H', Same H H' → Q (.str (S (spelt t))) H') ∧ (min d 100 < dep t → ∀ H', Same H H' → E (tooDeep K) none H')
theorem ok_paper_text (T : Tx K w mg) (c_text_of : Fn P w K mg base 208 "text_of" [] (spText K 101))
    (F : FunD K "paper_text" "paper_text" (defArgs s_paper_text) (defBody s_paper_text) (defScope s_paper_text) [] [("deep", .int 40)] f fd) : FnOk P w K mg base (L2.CX P w) 210 f fd ["thing", "deep"] (spPaper K) := by
  refine F.ok sc_paper_text (fun vs H Q E h => by obtain ⟨t, v, d, rfl, _⟩ := h; rfl) (fun cdv A outer s H vs Q E hr h => ?_)
  have nd := (sc_paper_text).nd
  refine ⟨_, (pss_one
  (ps_ret (pe_fn c_text_of (hr.mono (by omega)) pass_def (pa_cons (pv 0) (pa_cons (pe_callB (call_minA rfl) (by rfl) T.b_min Lk.boot_min (pa_cons (pv 1) (pa_cons (pe_gint T.g_DEEPEST) pa_nil))) pa_nil))))), ?_⟩
  obtain ⟨t, v, d, rfl, hrep, hok, hl, hd0, q, qe⟩ := h
  rw [show L2.start N_paper_text [v, V.int d] = [some v, some (.int d)] from rfl]
  walk_at "r"
  by_cases h : (100 : Int) < d
  · rw [if_pos h]
    exact ⟨t, v, 100, rfl, hrep, hok, hl, by omega, by omega, fun _ => q (by omega), fun z => qe (by omega)⟩
  · rw [if_neg h]
    exact ⟨t, v, d, rfl, hrep, hok, hl, by omega, hd0, fun z => q (by omega), fun z => qe (by omega)⟩
/-! ### the defs by their names -/
theorem fn_mk {x nm qual : Str} {pa : Arguments} {bd : List Stmt} {sc : Scope} {kws : List (Str × V)} {ps : List Str} {k : Nat} {sp : Sp} (hm : mg x = some (.ref f)) (F : FunD K nm qual pa bd sc [] kws f fd) (ok : FnOk P w K mg base (L2.CX P w) k f fd ps sp)
    (hb : ∀ (kV doc pm : Value) (an : Option Addr) (cdv ct : Value) (us : List Value), us.length = ps.length → bindArgs (PySem.W.fnOf nm qual pa bd sc .none kV doc pm an cdv ct) ⟨us, []⟩ = pure (ps.zip us)) : Fn P w K mg base k x [] sp :=
  ⟨f, fd, ps, [], hm, ok, F.kp, F.bindsN hb, .nil⟩
theorem mt_mk {m nm qual : Str} {C : Addr} {pa : Arguments} {bd : List Stmt} {sc : Scope} {kws : List (Str × V)} {ps : List Str} {k : Nat} {sp : Sp} (hc : Cls K C) (hm : Meth K C m f) (F : FunD K nm qual pa bd sc [] kws f fd) (ok : FnOk P w K mg base (L2.CX P w) k f fd ps sp)
    (hb : ∀ (kV doc pm : Value) (an : Option Addr) (cdv ct : Value) (us : List Value), us.length = ps.length → bindArgs (PySem.W.fnOf nm qual pa bd sc .none kV doc pm an cdv ct) ⟨us, []⟩ = pure (ps.zip us)) : Mt P w K mg base k C m sp :=
  ⟨hc, f, fd, ps, hm, ok, F.bindsN hb⟩
end
end K97

set_option Elab.async false
set_option linter.all false
set_option maxRecDepth 100000
set_option maxHeartbeats 4000000
/-! The law's own speller, depth, kinds, likeness. -/
namespace K97
open PySem PySem.Spec PyProof.Rows L2 Lk SX
local macro_rules | `(tactic| walk_at "r") => `(tactic| simp only [tSeq, tNext, tRet, tRetN, tIfS, tDrop, tAsg, tAug, tFor, tWhile, tAndV, tOrV, tNotV, tAnd, tOr, tNot, tB, tTest, tIf, tIsN, tNotN, tOp, tVar, tC, tCB, tPar, tCons, tNil, tLc, tYes, tTup, tLst, tCall, tMeth, tFld, tSl, tPart, tNoPart, tM1, tBM, tVeI, tOst, sFld, sFldAug, tMkO, tMake, tTGet, gName, gNil, gCons, gTup, gUnl, gSub, iAny, iRng1, iKeys, iVals,
  List.getElem?_cons_zero, List.getElem?_cons_succ, List.set_cons_zero, List.set_cons_succ, Option.some.injEq, V.str.injEq, V.bl.injEq, V.int.injEq, V.ref.injEq, exists_and_left, exists_eq_left', exists_eq_left, exists_eq, cxK, cxW, HO.ins.injEq, and_assoc, upd_same, true_and, and_true, reduceCtorEq, false_and, and_false, exists_false, or_false, false_or, if_true, if_false, List.cons_append, List.nil_append, add_ii, add_ss, sub_ii, mul_ii, mod_ii, fdiv_ii, pow_ii, lt_ii, le_ii, gt_ii, ge_ii, lt_ss, le_ss, iadd_ii, iadd_ss, in_ss, ix_si, ix_ri, ix_rs, sl_s, sl_r, eq_ss, eq_ii, eq_bb, eq_nn, eq_rr, int1_i, int1_b, int1_s, min2_ii, set_rs, set_ri, Bool.true_xor, Bool.false_xor, Bool.not_eq_true', wipe, List.map_cons, List.map_nil, S_eq, S_cat, S_len, lit1, lit3, lit5, lit6, lit7, lit8, lit9, lit10, lit11, lit12, lit13, lit14, lit15, lit16, lit17, lit18, lit19, lit21, lit23, lit24, lit26, lit27, lit28, lit29, lit30, lit31, lit32, lit33, lit34, lit35, lit36, lit37, lit38, lit39, lit40, lit41, lit42, lit101, lit102, lit103, lit104, lit105, lit106, lit107, lit108, lit109, lit110, lit111, lit112, lit113, lit114, lit115])
section
variable {P : Program} {w : World} {K : PySem.W.Frag} {mg : Str → Option Value} {base : Heap} {f : Addr} {fd : FuncData}
def kindS : T → Str
  | .non => S wNone
  | .bl _ => S [116, 114, 117, 116, 104]
  | .int _ => S [110, 117, 109, 98, 101, 114]
  | .str _ => Str.ofString "text"
  | .dic _ _ => S [100, 105, 99, 116]
  | .lst _ => S [108, 105, 115, 116]
  | .tup _ => S [116, 117, 112, 108, 101]
def spKind : Sp := fun vs H Q E => ∃ t v, vs = [v] ∧ Rep t v H ∧ ∀ H', Same H H' → Q (.str (kindS t)) H'
theorem ok_law_kind (T : Tx K w mg)
    (F : FunD K "_law_kind" "_law_kind" (defArgs s_law_kind) (defBody s_law_kind) (defScope s_law_kind) [] [] f fd) : FnOk P w K mg base (L2.CX P w) 2 f fd ["one"] spKind := by
  refine F.ok sc_law_kind (fun vs H Q E h => by obtain ⟨t, v, rfl, _⟩ := h; rfl) (fun cdv A outer s H vs Q E hr h => ?_)
  have nd := (sc_law_kind).nd
  refine ⟨_, (pss_cons
  (ps_if (pt_cmp (pc_isN (pv 0)))
   (pss_one
    (ps_ret pe_str))
   pss_nil)
  (pss_cons
  (ps_if (pt_val (pe_callB call_isB (by rfl) T.b_isinstance Lk.boot_isinstance (pa_cons (pv 0) (pa_cons (pe_bty T.b_bool Lk.boot_bool) pa_nil))))
   (pss_one
    (ps_ret pe_str))
   pss_nil)
  (pss_cons
  (ps_if (pt_val (pe_callB call_isB (by rfl) T.b_isinstance Lk.boot_isinstance (pa_cons (pv 0) (pa_cons (pe_bty T.b_int Lk.boot_int) pa_nil))))
   (pss_one
    (ps_ret pe_str))
   pss_nil)
  (pss_cons
  (ps_if (pt_val (pe_callB call_isB (by rfl) T.b_isinstance Lk.boot_isinstance (pa_cons (pv 0) (pa_cons (pe_bty T.b_str Lk.boot_str) pa_nil))))
   (pss_one
    (ps_ret pe_str))
   pss_nil)
  (pss_cons
  (ps_if (pt_val (pe_callB call_isB (by rfl) T.b_isinstance Lk.boot_isinstance (pa_cons (pv 0) (pa_cons (pe_bty T.b_dict Lk.boot_dict) pa_nil))))
   (pss_one
    (ps_ret pe_str))
   pss_nil)
  (pss_one
  (ps_ret (pe_ix (k_ix K w rfl rfl) (pe_lst (pa_cons pe_str (pa_cons pe_str pa_nil))) (pe_callTy call_intA (by rfl) T.b_int Lk.boot_int (pa_cons (pe_callB call_isB (by rfl) T.b_isinstance Lk.boot_isinstance (pa_cons (pv 0) (pa_cons (pe_bty T.b_tuple Lk.boot_tuple) pa_nil))) pa_nil)) (fun _ _ => rfl))))))))), ?_⟩
  obtain ⟨t, v, rfl, hrep, q⟩ := h
  rw [show L2.start N_law_kind [v] = [some v] from rfl]
  have ht := rep_tag hrep
  walk_at "r"
  cases t with
  | non =>
    rw [Rep] at hrep
    subst hrep
    rw [if_pos (by simp)]
    exact q H Same.rfl'
  | bl b =>
    rw [Rep] at hrep
    subst hrep
    rw [if_neg (by simp)]
    refine isT ht rfl ⟨_, rfl, ?_⟩
    rw [if_pos rfl]
    exact q H Same.rfl'
  | int i =>
    rw [Rep] at hrep
    subst hrep
    rw [if_neg (by simp)]
    refine isF ht rfl ⟨_, rfl, ?_⟩
    rw [if_neg Bool.false_ne_true]
    refine isT ht rfl ⟨_, rfl, ?_⟩
    rw [if_pos rfl]
    exact q H Same.rfl'
  | str x =>
    rw [Rep] at hrep
    subst hrep
    rw [if_neg (by simp)]
    refine isF ht rfl ⟨_, rfl, ?_⟩
    rw [if_neg Bool.false_ne_true]
    refine isF ht rfl ⟨_, rfl, ?_⟩
    rw [if_neg Bool.false_ne_true]
    refine isT ht rfl ⟨_, rfl, ?_⟩
    rw [if_pos rfl]
    exact q H Same.rfl'
  | dic ks l =>
    have hv := hrep
    rw [Rep] at hv
    obtain ⟨a, _, _, rfl, _⟩ := hv
    rw [if_neg (by simp)]
    refine isF ht rfl ⟨_, rfl, ?_⟩
    rw [if_neg Bool.false_ne_true]
    refine isF ht rfl ⟨_, rfl, ?_⟩
    rw [if_neg Bool.false_ne_true]
    refine isF ht rfl ⟨_, rfl, ?_⟩
    rw [if_neg Bool.false_ne_true]
    refine isT ht rfl ⟨_, rfl, ?_⟩
    rw [if_pos rfl]
    exact q H Same.rfl'
  | lst l =>
    have hv := hrep
    rw [Rep] at hv
    obtain ⟨a, _, rfl, _⟩ := hv
    rw [if_neg (by simp)]
    refine isF ht rfl ⟨_, rfl, ?_⟩
    rw [if_neg Bool.false_ne_true]
    refine isF ht rfl ⟨_, rfl, ?_⟩
    rw [if_neg Bool.false_ne_true]
    refine isF ht rfl ⟨_, rfl, ?_⟩
    rw [if_neg Bool.false_ne_true]
    refine isF ht rfl ⟨_, rfl, ?_⟩
    rw [if_neg Bool.false_ne_true]
    refine ⟨by show 2 ≤ sizeLine; decide, fun p np => isF (rep_tag (hrep.le' (Same.new np))) rfl ?_⟩
    rw [int1_b]
    exact ⟨_, _, .inl (.of upd_same), rfl, q _ (Same.new np)⟩
  | tup l =>
    have hv := hrep
    rw [Rep] at hv
    obtain ⟨a, _, rfl, _⟩ := hv
    rw [if_neg (by simp)]
    refine isF ht rfl ⟨_, rfl, ?_⟩
    rw [if_neg Bool.false_ne_true]
    refine isF ht rfl ⟨_, rfl, ?_⟩
    rw [if_neg Bool.false_ne_true]
    refine isF ht rfl ⟨_, rfl, ?_⟩
    rw [if_neg Bool.false_ne_true]
    refine isF ht rfl ⟨_, rfl, ?_⟩
    rw [if_neg Bool.false_ne_true]
    refine ⟨by show 2 ≤ sizeLine; decide, fun p np => isT (rep_tag (hrep.le' (Same.new np))) rfl ?_⟩
    rw [int1_b]
    exact ⟨_, _, .inl (.of upd_same), rfl, q _ (Same.new np)⟩
theorem ok_law_is_bare (T : Tx K w mg)
    (F : FunD K "_law_is_bare" "_law_is_bare" (defArgs s_law_is_bare) (defBody s_law_is_bare) (defScope s_law_is_bare) [] [] f fd) : FnOk P w K mg base (L2.CX P w) 2 f fd ["text"] spBare := by
  refine F.ok sc_law_is_bare (fun vs H Q E h => by obtain ⟨t, rfl, _⟩ := h; rfl) (fun cdv A outer s H vs Q E hr h => ?_)
  have nd := (sc_law_is_bare).nd
  refine ⟨_, (pss_cons
  (ps_if (pt_cmpR (k_in K w rfl rfl) (pv 0) (pe_lst (pa_cons pe_str (pa_cons pe_str (pa_cons pe_str (pa_cons pe_str pa_nil))))) rfl)
   (pss_one
    (ps_ret pe_bl))
   pss_nil)
  (pss_one
  (ps_ret (pe_cmpR (k_eq K rfl (Lk.hu0 hr)) (pe_lcX (own := [("sign", 1)]) (g := gName 1) (tt := _) tk0 rfl rfl rfl nd (blkOk_by (own := [("sign", 1)]) (N := N_law_is_bare) (sc := defScope s_law_is_bare) (by decide +kernel)) (pi_any (pv 0)) (fun _ _ _ _ _ _ => (pg_name (i := 1) nd rfl (Or.inl rfl))) (fun _ _ _ _ _ _ px => (pts_one (pt_cmpR (k_notIn K w rfl rfl) (pv 1) pe_str rfl))) (fun _ _ _ _ _ _ px => (pv 1))) (pe_lst pa_nil) rfl)))), ?_⟩
  obtain ⟨l, rfl, hl, q⟩ := h
  rw [show L2.start N_law_is_bare [V.str (S l)] = [some (.str (S l)), none] from rfl]
  walk_at "r"
  have q' : ∀ {H' : Hp} {b : Bool}, Same H H' → bareT l = b → Q (.bl b) H' := fun s e => e ▸ q _ s
  refine ⟨by show 4 ≤ sizeLine; decide, fun p np => .inr ⟨_, .inl (.of upd_same), rfl, rfl, ?_⟩⟩
  have e : inV (V.str (S l)) [V.str (S []), V.str (S [110, 111, 110, 101]), V.str (S [121, 101, 115]), V.str (S [110, 111])] = (decide (l = []) || decide (l ∈ [wNone, wYes, wNo])) := by
    simp only [inV, List.any_cons, List.any_nil, Bool.or_false, eqV_str, wNone, wYes, wNo, List.mem_cons, List.mem_nil_iff, or_false]
    rw [Bool.eq_iff_iff]
    simp only [Bool.or_eq_true, decide_eq_true_eq]
    constructor <;> (intro h; rcases h with h | h | h | h <;> simp [h])
  refine ⟨_, rfl, ?_⟩
  rw [Bool.false_xor, e]
  by_cases h0 : l = []
  · rw [if_pos (by simp [h0])]
    exact q' (Same.new np) (by simp [bareT, h0])
  by_cases hk : l ∈ [wNone, wYes, wNo]
  · rw [if_pos (by simp [hk])]
    exact q' (Same.new np) (by simp [bareT, hk])
  rw [if_neg (by simp [h0, hk])]
  intro D nD
  refine lc_acc (walk_str (z := S l)) (xs := fun i => ((l.take i).filter fun c => !small c).map fun c => V.str (S [c])) nD rfl (fun _ _ => trivial) ?_ ?_
  · rintro i x Hi H' hi sm hD ⟨rfl, c, hc, rfl⟩
    have hc' : l[i]? = some c := by simpa using hc
    show rInA K w (V.str (S [c])) (V.str (S _)) H' _ true
    rw [in_S, small_mem]
    refine ⟨_, rfl, ?_⟩
    by_cases hs : small c = true
    · rw [if_neg (by simp [hs])]
      exact ⟨sm, by rw [hD, filter_skip hc' (by simp [hs])]⟩
    · rw [if_pos (by simp [hs])]
      refine acc_put sm nD hD (big_line hl ?_) (filter_put hc' (by simp [hs]))
      rw [List.length_map]
      exact Nat.le_trans (List.length_filter_le _ _) (by rw [List.length_take]; omega)
  · intro H' sm hD
    have hn : (S l).cps.size = l.length := by simp
    rw [hn, List.take_length] at hD
    refine ⟨Nat.zero_le _, fun p2 np2 => ⟨_, .of (by rw [upd_ne (ne_of_none hD np2)]; exact hD), [], .of upd_same, fun hz => ?_, q' ((Same.new np).trans (sm.trans (Same.new np2))) ?_⟩⟩
    · rw [List.eq_nil_of_length_eq_zero hz]
      rfl
    · have e2 : decide ((l.filter fun c => !small c).map (fun c => V.str (S [c])) = []) = l.all small := by
        rw [Bool.eq_iff_iff, decide_eq_true_eq, List.map_eq_nil_iff, List.filter_eq_nil_iff, List.all_eq_true]
        simp
      rw [e2]
      simp [bareT, h0, hk]
theorem ok_law_word (T : Tx K w mg) (c_law_is_bare : Fn P w K mg base 2 "_law_is_bare" [] spBare)
    (F : FunD K "_law_word" "_law_word" (defArgs s_law_word) (defBody s_law_word) (defScope s_law_word) [] [] f fd) : FnOk P w K mg base (L2.CX P w) 4 f fd ["text"] spWord := by
  refine F.ok sc_law_word (fun vs H Q E h => by obtain ⟨t, rfl, _⟩ := h; rfl) (fun cdv A outer s H vs Q E hr h => ?_)
  have nd := (sc_law_word).nd
  refine ⟨_, (pss_cons
  (ps_if (pt_val (pe_fn c_law_is_bare (hr.mono (by omega)) pass_def (pa_cons (pv 0) pa_nil)))
   (pss_one
    (ps_ret (pv 0)))
   pss_nil)
  (pss_one
  (ps_ret (pe_op op_addA (pe_opCT op_addA (CwR.pet_replT (CwR.pet_replT (CwR.pet_replC (pv 0))))) pe_str)))), ?_⟩
  obtain ⟨l, rfl, hl, q⟩ := h
  rw [show L2.start N_law_word [V.str (S l)] = [some (.str (S l))] from rfl]
  walk_at "r"
  have q' : ∀ {H' : Hp} {b : List Nat}, Same H H' → wordT l = b → Q (.str (S b)) H' := fun s e => e ▸ q _ s
  refine ⟨l, rfl, hl, fun H1 s1 => ⟨_, rfl, ?_⟩⟩
  by_cases hb : bareT l = true
  · rw [if_pos hb]
    exact q' s1 (by simp [wordT, hb])
  rw [if_neg hb]
  have l1 := rep_len l 94 94 94
  have l2 := rep_len (l.flatMap fun d => if d = 94 then [94, 94] else [d]) 39 94 39
  have l3 := rep_len ((l.flatMap fun d => if d = 94 then [94, 94] else [d]).flatMap fun d => if d = 39 then [94, 39] else [d]) 10 94 110
  refine ⟨_, rfl, S l, rfl, by rw [S_len]; show _ + _ * 2 ≤ 16777216; omega, _, rfl, by rw [rep_S l [94, 94] 94, S_len]; show _ + _ * 2 ≤ 16777216; omega, _, rfl, by rw [rep_S l [94, 94] 94, rep_S _ [94, 39] 39, S_len]; show _ + _ * 2 ≤ 16777216; omega, ?_⟩
  rw [rep_S l [94, 94] 94, rep_S _ [94, 39] 39, rep_S _ [94, 110] 10, esc_chain]
  have l4 := esc_len l
  refine wrap3 (a := [39]) (c := [39]) (by simp only [List.length_cons, List.length_nil]; omega) (q' s1 ?_)
  unfold wordT
  rw [if_neg hb]
  simp
def spDep (n : Nat) : Sp := fun vs H Q E => ∃ t v, vs = [v] ∧ Rep t v H ∧ Ok t ∧ dep t < n ∧ ∀ H', Same H H' → Q (.int (dep t : Int)) H'
theorem okL_of : ∀ {l : List K97.T}, (∀ t ∈ l, Ok t) → OkL l
  | [], _ => by rw [OkL]; trivial
  | t :: l, h => by
    rw [OkL]
    exact ⟨h t (List.mem_cons_self ..), okL_of fun u hu => h u (List.mem_cons_of_mem _ hu)⟩
end
end K97

set_option Elab.async false
set_option linter.all false
set_option maxRecDepth 100000
set_option maxHeartbeats 4000000
/-! The law's speller, likeness. -/
namespace K97
open PySem PySem.Spec PyProof.Rows L2 Lk SX
local macro_rules | `(tactic| walk_at "r") => `(tactic| simp only [tSeq, tNext, tRet, tRetN, tIfS, tDrop, tAsg, tAug, tFor, tWhile, tAndV, tOrV, tNotV, tAnd, tOr, tNot, tB, tTest, tIf, tIsN, tNotN, tOp, tVar, tC, tCB, tPar, tCons, tNil, tLc, tYes, tTup, tLst, tCall, tMeth, tFld, tSl, tPart, tNoPart, tM1, tBM, tVeI, tOst, sFld, sFldAug, tMkO, tMake, tTGet, gName, gNil, gCons, gTup, gUnl, gSub, iAny, iRng1, iKeys, iVals,
  List.getElem?_cons_zero, List.getElem?_cons_succ, List.set_cons_zero, List.set_cons_succ, Option.some.injEq, V.str.injEq, V.bl.injEq, V.int.injEq, V.ref.injEq, exists_and_left, exists_eq_left', exists_eq_left, exists_eq, cxK, cxW, HO.ins.injEq, and_assoc, upd_same, true_and, and_true, reduceCtorEq, false_and, and_false, exists_false, or_false, false_or, if_true, if_false, List.cons_append, List.nil_append, add_ii, add_ss, sub_ii, mul_ii, mod_ii, fdiv_ii, pow_ii, lt_ii, le_ii, gt_ii, ge_ii, lt_ss, le_ss, iadd_ii, iadd_ss, in_ss, ix_si, ix_ri, ix_rs, sl_s, sl_r, eq_ss, eq_ii, eq_bb, eq_nn, eq_rr, int1_i, int1_b, int1_s, min2_ii, set_rs, set_ri, Bool.true_xor, Bool.false_xor, Bool.not_eq_true', wipe, List.map_cons, List.map_nil, S_eq, S_cat, S_len, lit1, lit3, lit5, lit6, lit7, lit8, lit9, lit10, lit11, lit12, lit13, lit14, lit15, lit16, lit17, lit18, lit19, lit21, lit23, lit24, lit26, lit27, lit28, lit29, lit30, lit31, lit32, lit33, lit34, lit35, lit36, lit37, lit38, lit39, lit40, lit41, lit42, lit101, lit102, lit103, lit104, lit105, lit106, lit107, lit108, lit109, lit110, lit111, lit112, lit113, lit114, lit115])
section
variable {P : Program} {w : World} {K : PySem.W.Frag} {mg : Str → Option Value} {base : Heap} {f : Addr} {fd : FuncData}
def spSpelt (n : Nat) : Sp := fun vs H Q E => ∃ t v, vs = [v] ∧ Rep t v H ∧ Ok t ∧ (spelt t).length ≤ 1000000 ∧ dep t < n ∧ ∀ H', Same H H' → Q (.str (S (spelt t))) H'
theorem ok_law_spelt (T : Tx K w mg) (n : Nat) (c_law_word : Fn P w K mg base 4 "_law_word" [] spWord) (c_law_spelt : Fn P w K mg base (n + 4) "_law_spelt" [] (spSpelt n))
    (F : FunD K "_law_spelt" "_law_spelt" (defArgs s_law_spelt) (defBody s_law_spelt) (defScope s_law_spelt) [] [] f fd) : FnOk P w K mg base (L2.CX P w) (n + 5) f fd ["piece"] (spSpelt (n + 1)) := by
  refine F.ok sc_law_spelt (fun vs H Q E h => by obtain ⟨t, v, rfl, _⟩ := h; rfl) (fun cdv A outer s H vs Q E hr h => ?_)
  have nd := (sc_law_spelt).nd
  refine ⟨_, (pss_cons
  (ps_if (pt_cmp (pc_isN (pv 0)))
   (pss_one
    (ps_ret pe_str))
   pss_nil)
  (pss_cons
  (ps_if (pt_val (pe_callB call_isB (by rfl) T.b_isinstance Lk.boot_isinstance (pa_cons (pv 0) (pa_cons (pe_bty T.b_bool Lk.boot_bool) pa_nil))))
   (pss_one
    (ps_ret (pe_ix (k_ix K w rfl rfl) (pe_lst (pa_cons pe_str (pa_cons pe_str pa_nil))) (pe_callTy call_intA (by rfl) T.b_int Lk.boot_int (pa_cons (pv 0) pa_nil)) (fun _ _ => rfl))))
   pss_nil)
  (pss_cons
  (ps_if (pt_val (pe_callB call_isB (by rfl) T.b_isinstance Lk.boot_isinstance (pa_cons (pv 0) (pa_cons (pe_bty T.b_int Lk.boot_int) pa_nil))))
   (pss_one
    (ps_ret (pe_callTy call_strA (by rfl) T.b_str Lk.boot_str (pa_cons (pv 0) pa_nil))))
   pss_nil)
  (pss_cons
  (ps_if (pt_val (pe_callB call_isB (by rfl) T.b_isinstance Lk.boot_isinstance (pa_cons (pv 0) (pa_cons (pe_bty T.b_str Lk.boot_str) pa_nil))))
   (pss_one
    (ps_ret (pe_fn c_law_word (hr.mono (by omega)) pass_def (pa_cons (pv 0) pa_nil))))
   pss_nil)
  (pss_cons
  (ps_if (pt_val (pe_callB call_isB (by rfl) T.b_isinstance Lk.boot_isinstance (pa_cons (pv 0) (pa_cons (pe_bty T.b_dict Lk.boot_dict) pa_nil))))
   (pss_cons
    (ps_setLcX (i := 2) (own := [("one", 3)]) (g := gName 3) (tt := tYes) tk0 rfl rfl rfl nd rfl rfl (sw_true rfl rfl rfl (by decide +kernel)) (blkOk_by (own := [("one", 3)]) (N := N_law_spelt) (sc := defScope s_law_spelt) (by decide +kernel)) (pi_any (pe_callB (call_sortL rfl) (by rfl) T.b_sorted Lk.boot_sorted (pa_cons (pv 0) pa_nil))) (fun _ _ _ _ _ _ => (pg_name (i := 3) nd rfl (Or.inl rfl))) (fun _ _ _ _ _ _ px => pts_nil) (fun _ _ _ _ _ _ px => (pe_op op_addA (pe_op op_addA (pe_fn c_law_word (hr.mono (by omega)) px (pa_cons (pv 3) pa_nil)) pe_str) (pe_fn c_law_spelt (hr.mono (by omega)) px (pa_cons (pe_ix (k_ix K w rfl rfl) (pv 0) (pv 3) (fun _ _ => rfl)) pa_nil)))))
    (pss_one
    (ps_ret (pe_op op_addA (pe_op op_addA pe_str (pe_join pe_str (pv 2))) pe_str))))
   pss_nil)
  (pss_cons
  (ps_set (i := 1) nd rfl (by first | exact Or.inl rfl | exact Or.inr rfl) (pe_join pe_str (pe_lcX (own := [("part", 4)]) (g := gName 4) (tt := tYes) tk0 rfl rfl rfl nd (blkOk_by (own := [("part", 4)]) (N := N_law_spelt) (sc := defScope s_law_spelt) (by decide +kernel)) (pi_any (pv 0)) (fun _ _ _ _ _ _ => (pg_name (i := 4) nd rfl (Or.inl rfl))) (fun _ _ _ _ _ _ px => pts_nil) (fun _ _ _ _ _ _ px => (pe_fn c_law_spelt (hr.mono (by omega)) px (pa_cons (pv 4) pa_nil))))))
  (pss_one
  (ps_ret (pe_ix (k_ix K w rfl rfl) (pe_lst (pa_cons (pe_op op_addA (pe_op op_addA pe_str (pv 1)) pe_str) (pa_cons (pe_op op_addA (pe_op op_addA pe_str (pv 1)) pe_str) pa_nil))) (pe_callTy call_intA (by rfl) T.b_int Lk.boot_int (pa_cons (pe_callB call_isB (by rfl) T.b_isinstance Lk.boot_isinstance (pa_cons (pv 0) (pa_cons (pe_bty T.b_tuple Lk.boot_tuple) pa_nil))) pa_nil)) (fun _ _ => rfl)))))))))), ?_⟩
  obtain ⟨t, v, rfl, hrep, hok, hl, hdep, q⟩ := h
  rw [show L2.start N_law_spelt [v] = [some v, none, none, none, none] from rfl]
  have ht := rep_tag hrep
  walk_at "r"
  have e16 := sizeLine_eq
  cases t with
  | non =>
    rw [Rep] at hrep
    subst hrep
    rw [if_pos (by simp)]
    exact q H Same.rfl'
  | bl b =>
    rw [Rep] at hrep
    subst hrep
    rw [if_neg (by simp)]
    refine isT ht rfl ⟨_, rfl, ?_⟩
    rw [if_pos rfl]
    refine ⟨by show 2 ≤ sizeLine; decide, fun p np => ?_⟩
    rw [int1_b]
    have z := q _ (Same.new (o := HO.lst [V.str (S [110, 111]), V.str (S [121, 101, 115])]) np)
    cases b with
    | true => exact ⟨_, _, .inl (.of upd_same), rfl, z⟩
    | false => exact ⟨_, _, .inl (.of upd_same), rfl, z⟩
  | int i =>
    rw [Rep] at hrep
    subst hrep
    rw [Ok] at hok
    rw [if_neg (by simp)]
    refine isF ht rfl ⟨_, rfl, ?_⟩
    rw [if_neg Bool.false_ne_true]
    refine isT ht rfl ⟨_, rfl, ?_⟩
    rw [if_pos rfl]
    exact ⟨log2_ok hok, by rw [int_text]; exact q H Same.rfl'⟩
  | str x =>
    rw [Rep] at hrep
    subst hrep
    rw [if_neg (by simp)]
    refine isF ht rfl ⟨_, rfl, ?_⟩
    rw [if_neg Bool.false_ne_true]
    refine isF ht rfl ⟨_, rfl, ?_⟩
    rw [if_neg Bool.false_ne_true]
    refine isT ht rfl ⟨_, rfl, ?_⟩
    rw [if_pos rfl]
    exact ⟨x, rfl, Nat.le_trans (word_ge x) hl, fun H' s => q H' s⟩
  | lst l =>
    have hrep0 := hrep
    rw [Rep] at hrep
    obtain ⟨a, vs, rfl, hrd, hvs⟩ := hrep
    rw [Ok] at hok
    rw [dep] at hdep
    rw [spelt] at hl q
    rw [List.length_cons, List.length_append, List.length_singleton] at hl
    rw [if_neg (by simp)]
    refine isF ht rfl ⟨_, rfl, ?_⟩
    rw [if_neg Bool.false_ne_true]
    refine isF ht rfl ⟨_, rfl, ?_⟩
    rw [if_neg Bool.false_ne_true]
    refine isF ht rfl ⟨_, rfl, ?_⟩
    rw [if_neg Bool.false_ne_true]
    refine isF ht rfl ⟨_, rfl, ?_⟩
    rw [if_neg Bool.false_ne_true]
    have hvl := hvs.len
    refine ⟨⟨_, rfl⟩, .inl ⟨vs, .inl hrd, fun D nD => ?_⟩⟩
    refine lc_acc walk_list (xs := fun i => (l.take i).map fun t => V.str (S (spelt t))) nD rfl (fun H' s => .inl (s.rd hrd)) ?_ ?_
    · rintro i x Hi H' hi sm hD ⟨rfl, hx⟩
      obtain ⟨t, ht⟩ : ∃ t, l[i]? = some t := ⟨l[i]'(by omega), by simp⟩
      obtain ⟨v, hv, hr⟩ := hvs.get ht
      rw [hx] at hv
      cases hv
      have hm := List.mem_of_getElem? ht
      have hdm := dep_mem hm
      have hsp : (spelt t).length ≤ 1000000 := Nat.le_trans (joinB_mem (by rw [spelts_map]; exact List.mem_map_of_mem hm)) (show (joinB (spelts l)).length ≤ 1000000 by omega)
      refine ⟨t, x, rfl, hr.le' sm, okL_mem hok.1 hm, hsp, by omega, fun H2 s2 => acc_put (sm.trans s2) nD (s2 _ _ hD) ?_ (take_map ht)⟩
      have := hok.2
      rw [List.length_map, List.length_take]
      omega
    · intro H' sm hD
      rw [hvl, List.take_length] at hD
      have hj := joinB_sum (spelts l)
      have hsl : (spelts l).length = l.length := by rw [spelts_map, List.length_map]
      have h60 := hok.2
      refine ⟨D, rfl, (spelts l).map S, .inl (.of (by rw [hD, spelts_map, List.map_map, List.map_map]; rfl)), ?_, ?_⟩
      · rw [lens, List.length_map, hsl]
        have : (List.map (fun x => x.length) (spelts l)).sum ≤ _ := hj
        simp only [List.length_cons, List.length_nil]
        omega
      · rw [join_S]
        rw [show TL.joinL [32] (spelts l) = joinB (spelts l) from rfl]
        simp only [S_cat, S_len, List.length_append, List.length_cons, List.length_nil]
        refine ⟨by omega, by omega, by omega, by omega, by omega, fun p np => isF (rep_tag (hrep0.le' (sm.trans (Same.new np)))) rfl ?_⟩
        rw [int1_b]
        refine ⟨_, _, .inl (.of upd_same), rfl, ?_⟩
        have z := q _ (sm.trans (Same.new (o := HO.lst [V.str (S ([91] ++ joinB (spelts l) ++ [93])), V.str (S ([40] ++ joinB (spelts l) ++ [41]))]) np))
        simpa using z
  | tup l =>
    have hrep0 := hrep
    rw [Rep] at hrep
    obtain ⟨a, vs, rfl, hrd, hvs⟩ := hrep
    rw [Ok] at hok
    rw [dep] at hdep
    rw [spelt] at hl q
    rw [List.length_cons, List.length_append, List.length_singleton] at hl
    rw [if_neg (by simp)]
    refine isF ht rfl ⟨_, rfl, ?_⟩
    rw [if_neg Bool.false_ne_true]
    refine isF ht rfl ⟨_, rfl, ?_⟩
    rw [if_neg Bool.false_ne_true]
    refine isF ht rfl ⟨_, rfl, ?_⟩
    rw [if_neg Bool.false_ne_true]
    refine isF ht rfl ⟨_, rfl, ?_⟩
    rw [if_neg Bool.false_ne_true]
    have hvl := hvs.len
    refine ⟨⟨_, rfl⟩, .inr ⟨vs, .inl hrd, fun D nD => ?_⟩⟩
    refine lc_acc walk_tup (xs := fun i => (l.take i).map fun t => V.str (S (spelt t))) nD rfl (fun H' s => .inl (s.rd hrd)) ?_ ?_
    · rintro i x Hi H' hi sm hD ⟨rfl, hx⟩
      obtain ⟨t, ht⟩ : ∃ t, l[i]? = some t := ⟨l[i]'(by omega), by simp⟩
      obtain ⟨v, hv, hr⟩ := hvs.get ht
      rw [hx] at hv
      cases hv
      have hm := List.mem_of_getElem? ht
      have hdm := dep_mem hm
      have hsp : (spelt t).length ≤ 1000000 := Nat.le_trans (joinB_mem (by rw [spelts_map]; exact List.mem_map_of_mem hm)) (show (joinB (spelts l)).length ≤ 1000000 by omega)
      refine ⟨t, x, rfl, hr.le' sm, okL_mem hok.1 hm, hsp, by omega, fun H2 s2 => acc_put (sm.trans s2) nD (s2 _ _ hD) ?_ (take_map ht)⟩
      have := hok.2
      rw [List.length_map, List.length_take]
      omega
    · intro H' sm hD
      rw [hvl, List.take_length] at hD
      have hj := joinB_sum (spelts l)
      have hsl : (spelts l).length = l.length := by rw [spelts_map, List.length_map]
      have h60 := hok.2
      refine ⟨D, rfl, (spelts l).map S, .inl (.of (by rw [hD, spelts_map, List.map_map, List.map_map]; rfl)), ?_, ?_⟩
      · rw [lens, List.length_map, hsl]
        have : (List.map (fun x => x.length) (spelts l)).sum ≤ _ := hj
        simp only [List.length_cons, List.length_nil]
        omega
      · rw [join_S]
        rw [show TL.joinL [32] (spelts l) = joinB (spelts l) from rfl]
        simp only [S_cat, S_len, List.length_append, List.length_cons, List.length_nil]
        refine ⟨by omega, by omega, by omega, by omega, by omega, fun p np => isT (rep_tag (hrep0.le' (sm.trans (Same.new np)))) rfl ?_⟩
        rw [int1_b]
        refine ⟨_, _, .inl (.of upd_same), rfl, ?_⟩
        have z := q _ (sm.trans (Same.new (o := HO.lst [V.str (S ([91] ++ joinB (spelts l) ++ [93])), V.str (S ([40] ++ joinB (spelts l) ++ [41]))]) np))
        simpa using z
  | dic ks l =>
    rw [Rep] at hrep
    obtain ⟨a, kvs, vs, rfl, hrd, hperm, hkl, hval, hvs⟩ := hrep
    rw [Ok] at hok
    rw [dep] at hdep
    rw [spelt] at hl q
    rw [List.length_cons, List.length_append, List.length_singleton] at hl
    rw [if_neg (by simp)]
    refine isF ht rfl ⟨_, rfl, ?_⟩
    rw [if_neg Bool.false_ne_true]
    refine isF ht rfl ⟨_, rfl, ?_⟩
    rw [if_neg Bool.false_ne_true]
    refine isF ht rfl ⟨_, rfl, ?_⟩
    rw [if_neg Bool.false_ne_true]
    refine isT ht rfl ⟨_, rfl, ?_⟩
    rw [if_pos rfl]
    obtain ⟨hk1, hk2⟩ := keys_inv hperm
    refine ⟨kvs, (kvs.map (·.1)).map keyS, hrd, hk1, fun ys p2 hys hso np2 => ?_⟩
    have eys := sorted_eq (hys.trans hk2) hso hok.2.2.2
    subst eys
    have hvl : vs.length = l.length := hvs.len
    refine .inl ⟨_, .of upd_same, fun D nD => ?_⟩
    have s1 := Same.new (o := HO.lst ((ks.map S).map V.str)) np2
    refine lc_acc walk_list (xs := fun i => ((pairsT ks (spelts l)).take i).map fun x => V.str (S x)) nD rfl (fun H' s => .of (s _ _ upd_same)) ?_ ?_
    · rintro i x Hi H' hi sm hD ⟨rfl, hx⟩
      have hi' : i < l.length := by simpa [hkl] using hi
      obtain ⟨t, ht⟩ : ∃ t, l[i]? = some t := ⟨l[i]'(by omega), by simp⟩
      obtain ⟨k, hk⟩ : ∃ k, ks[i]? = some k := ⟨ks[i]'(by omega), by simp⟩
      obtain ⟨v, hv, hr⟩ := hvs.get ht
      have ex : x = V.str (S k) := by
        rw [List.getElem?_map, List.getElem?_map, hk] at hx
        simpa using hx.symm
      subst ex
      have hm := List.mem_of_getElem? ht
      have hdm := dep_mem hm
      have hpa := pairs_at (ss := spelts l) (s := spelt t) hk (by rw [spelts_map, List.getElem?_map, ht]; rfl)
      have hpl := Nat.le_trans (joinB_mem (List.mem_of_getElem? hpa)) (show _ ≤ 1000000 by omega)
      rw [List.length_append, List.length_cons] at hpl
      have hwg := word_ge k
      refine ⟨k, rfl, by omega, fun H2 s2 => ?_⟩
      have sA := sm.trans s2
      refine ⟨by rw [S_len, S_len]; simp only [List.length_cons, List.length_nil]; omega, ?_⟩
      refine .inr ⟨kvs, v, (s1.trans sA).rd hrd, hval _ (zip_at hk hv), ?_⟩
      refine ⟨t, v, rfl, (hr.le' s1).le' sA, okL_mem hok.1 hm, by omega, by omega, fun H3 s3 => ?_⟩
      rw [S_cat]
      refine ⟨by rw [S_len, S_len, List.length_append]; simp only [List.length_cons, List.length_nil]; omega, ?_⟩
      rw [S_cat]
      refine acc_put (sA.trans s3) nD (s3 _ _ (s2 _ _ hD)) ?_ ?_
      · rw [List.length_map, List.length_take]
        have := hok.2.1
        omega
      · rw [take_map hpa]
        simp
    · intro H' sm hD
      have hpl : (pairsT ks (spelts l)).length = l.length := by
        unfold pairsT
        rw [List.length_zipWith, spelts_map, List.length_map, hkl, Nat.min_self]
      have hn : ((ks.map S).map V.str).length = (pairsT ks (spelts l)).length := by rw [List.length_map, List.length_map, hpl, hkl]
      rw [hn, List.take_length] at hD
      have hj := joinB_sum (pairsT ks (spelts l))
      have h60 := hok.2.1
      refine ⟨⟨_, rfl⟩, D, rfl, (pairsT ks (spelts l)).map S, .inl (.of (by rw [hD, List.map_map]; rfl)), ?_, ?_⟩
      · rw [lens, List.length_map, hpl]
        have : (List.map (fun x => x.length) (pairsT ks (spelts l))).sum ≤ _ := hj
        simp only [List.length_cons, List.length_nil]
        omega
      · rw [join_S]
        rw [show TL.joinL [32] (pairsT ks (spelts l)) = joinB (pairsT ks (spelts l)) from rfl]
        simp only [S_cat, S_len, List.length_append, List.length_cons, List.length_nil]
        refine ⟨by omega, by omega, ?_⟩
        have z := q H' (s1.trans sm)
        simpa using z
theorem scals_S : ∀ l : List (List Nat), scals ((l.map S).map V.str) ((l.map S).map V.str) = true
  | [] => rfl
  | x :: l => by
    show (scal (V.str (S x)) (V.str (S x)) && true && scals ((l.map S).map V.str) ((l.map S).map V.str)) = true
    rw [scals_S l]
    rfl
theorem ifT {p : Prop} [Decidable p] {a b : Prop} (hp : p) (ha : a) : if p then a else b := by rw [if_pos hp]; exact ha
theorem ifF {p : Prop} [Decidable p] {a b : Prop} (hp : ¬ p) (ha : b) : if p then a else b := by rw [if_neg hp]; exact ha
theorem walk_zipT {K : PySem.W.Frag} {a b : Addr} {xs ys : List V} {n : Nat} (hn : n = min xs.length ys.length) : Walk (RZ.ItzT K a b) n (fun H => SqT K H a xs ∧ SqT K H b ys) (YPair (fun i => xs[i]?) (fun i => ys[i]?)) := by
  subst hn
  refine ⟨fun i _ hi q => ?_, fun _ q => ⟨xs, ys, q.1, q.2, by omega⟩, fun i H v H' _ q y => ?_⟩
  · have h1 : i < xs.length := by omega
    have h2 : i < ys.length := by omega
    exact ⟨xs, ys, xs[i], ys[i], q.1, q.2, by simp [h1], by simp [h2]⟩
  · obtain ⟨T, x, z, h1, h2, h3, h4, h5⟩ := y
    exact ⟨T, x, z, h1, h2, h3, h4 xs q.1, h5 ys q.2⟩
def spLike (n : Nat) : Sp := fun vs H Q E => ∃ t v v', vs = [v, v'] ∧ Rep t v H ∧ Rep t v' H ∧ Ok t ∧ dep t < n ∧ ∀ H', Same H H' → Q (.bl true) H'
theorem ok_law_like (T : Tx K w mg) (n : Nat) (c_law_kind : Fn P w K mg base 2 "_law_kind" [] spKind) (c_law_like : Fn P w K mg base (n + 2) "_law_like" [] (spLike n))
    (F : FunD K "_law_like" "_law_like" (defArgs s_law_like) (defBody s_law_like) (defScope s_law_like) [] [] f fd) : FnOk P w K mg base (L2.CX P w) (n + 3) f fd ["one", "other"] (spLike (n + 1)) := by
  refine F.ok sc_law_like (fun vs H Q E h => by obtain ⟨t, v, v', rfl, _⟩ := h; rfl) (fun cdv A outer s H vs Q E hr h => ?_)
  have nd := (sc_law_like).nd
  refine ⟨_, (pss_cons
  (ps_set (i := 2) nd rfl (by first | exact Or.inl rfl | exact Or.inr rfl) (pe_fn c_law_kind (hr.mono (by omega)) pass_def (pa_cons (pv 0) pa_nil)))
  (pss_cons
  (ps_if (pt_cmpR (k_ne K rfl (Lk.hu0 hr)) (pv 2) (pe_fn c_law_kind (hr.mono (by omega)) pass_def (pa_cons (pv 1) pa_nil)) rfl)
   (pss_one
    (ps_ret pe_bl))
   pss_nil)
  (pss_cons
  (ps_if (pt_cmpR (k_eq K rfl (Lk.hu0 hr)) (pv 2) pe_str rfl)
   (pss_one
    (ps_ret (pe_and (pe_cmpR (k_eq K rfl (Lk.hu0 hr)) (pe_callB (call_sortL rfl) (by rfl) T.b_sorted Lk.boot_sorted (pa_cons (pv 0) pa_nil)) (pe_callB (call_sortL rfl) (by rfl) T.b_sorted Lk.boot_sorted (pa_cons (pv 1) pa_nil)) rfl) (pe_one (pe_callB (k_all K rfl rfl) (by rfl) T.b_all Lk.boot_all (pa_cons (pe_lockA (pe_lcX (own := [("w", 3)]) (g := gName 3) (tt := tYes) tk0 rfl rfl rfl nd (blkOk_by (own := [("w", 3)]) (N := N_law_like) (sc := defScope s_law_like) (by decide +kernel)) (pi_keys (pv 0)) (fun _ _ _ _ _ _ => (pg_name (i := 3) nd rfl (Or.inl rfl))) (fun _ _ _ _ _ _ px => pts_nil) (fun _ _ _ _ _ _ px => (pe_fn c_law_like (hr.mono (by omega)) px (pa_cons (pe_ix (k_ix K w rfl rfl) (pv 0) (pv 3) (fun _ _ => rfl)) (pa_cons (pe_ix (k_ix K w rfl rfl) (pv 1) (pv 3) (fun _ _ => rfl)) pa_nil)))))) pa_nil))))))
   pss_nil)
  (pss_cons
  (ps_if (pt_cmpR (k_in K w rfl rfl) (pv 2) (pe_lst (pa_cons pe_str (pa_cons pe_str pa_nil))) rfl)
   (pss_one
    (ps_ret (pe_and (pe_cmpR (k_eq K rfl (Lk.hu0 hr)) (pe_callB (k_len K rfl) (by rfl) T.b_len Lk.boot_len (pa_cons (pv 0) pa_nil)) (pe_callB (k_len K rfl) (by rfl) T.b_len Lk.boot_len (pa_cons (pv 1) pa_nil)) rfl) (pe_one (pe_callB (k_all K rfl rfl) (by rfl) T.b_all Lk.boot_all (pa_cons (pe_lcX (own := [("part", 4), ("more", 5)]) (g := gTup K 2 (gCons (gName 4) (gCons (gName 5) gNil))) (tt := tYes) tk0 rfl rfl rfl nd (blkOk_by (own := [("part", 4), ("more", 5)]) (N := N_law_like) (sc := defScope s_law_like) (by decide +kernel)) (RZ.pi_zipA rfl T.b_zip (pa_cons (pv 0) (pa_cons (pv 1) pa_nil))) (fun _ _ _ _ _ _ => (k_ptup K 2 rfl rfl (pgs_cons (pg_name (i := 4) nd rfl (Or.inl rfl)) (pgs_cons (pg_name (i := 5) nd rfl (Or.inl rfl)) pgs_nil)))) (fun _ _ _ _ _ _ px => pts_nil) (fun _ _ _ _ _ _ px => (pe_fn c_law_like (hr.mono (by omega)) px (pa_cons (pv 4) (pa_cons (pv 5) pa_nil))))) pa_nil))))))
   pss_nil)
  (pss_one
  (ps_ret (pe_cmpR (k_eq K rfl (Lk.hu0 hr)) (pv 0) (pv 1) rfl))))))), ?_⟩
  obtain ⟨t, v, v', rfl, hrep, hrep', hok, hdep, q⟩ := h
  rw [show L2.start N_law_like [v, v'] = [some v, some v', none, none, none, none] from rfl]
  walk_at "r"
  have e16 := sizeLine_eq
  refine ⟨t, v, rfl, hrep, fun H1 s1 => ⟨t, v', rfl, hrep'.le' s1, fun H2 s2 => ?_⟩⟩
  show rEqQ K true (V.str (kindS t)) (V.str (kindS t)) H2 _
  rw [eq_ss]
  refine ⟨_, rfl, ?_⟩
  rw [if_neg (by simp), eq_ss]
  refine ⟨_, rfl, ?_⟩
  have s12 := s1.trans s2
  have r1 := hrep.le' s12
  have r2 := hrep'.le' s12
  have q2 : ∀ H', Same H2 H' → Q (.bl true) H' := fun H' s => q H' (s12.trans s)
  cases t with
  | dic ks l =>
    refine ifT (show (false ^^ decide (S [100, 105, 99, 116] = S [100, 105, 99, 116])) = true from by decide +kernel) ?_
    rw [Rep] at r1 r2
    obtain ⟨a, kvs, vs, rfl, hrd, hperm, hkl, hval, hvs⟩ := r1
    obtain ⟨a', kvs', vs', rfl, hrd', hperm', hkl', hval', hvs'⟩ := r2
    rw [Ok] at hok
    rw [dep] at hdep
    obtain ⟨hk1, hk2⟩ := keys_inv hperm
    obtain ⟨hk1', hk2'⟩ := keys_inv hperm'
    have h60 := hok.2.1
    refine ⟨kvs, (kvs.map (·.1)).map keyS, hrd, hk1, fun ys p hys hso np => ?_⟩
    have eys := sorted_eq (hys.trans hk2) hso hok.2.2.2
    subst eys
    have s3 := Same.new (o := HO.lst ((ks.map S).map V.str)) np
    refine ⟨kvs', (kvs'.map (·.1)).map keyS, s3.rd hrd', hk1', fun ys p' hys hso np' => ?_⟩
    have eys := sorted_eq (hys.trans hk2') hso hok.2.2.2
    subst eys
    have s4 := Same.new (o := HO.lst ((ks.map S).map V.str)) np'
    have s34 := s3.trans s4
    show rEqQ K false (V.ref p) (V.ref p') _ _
    rw [eq_rr]
    refine ⟨_, _, .inl ((s4.rd (.of upd_same))), .inl (.of upd_same), fun _ => scals_S ks, ?_⟩
    refine ⟨_, rfl, ?_⟩
    rw [if_pos (by simp)]
    have hdnd := keys_nodup hperm (nodup_lt hok.2.2.2)
    have hkvl : kvs.length = ks.length := by
      have := hperm.length_eq
      rw [List.length_map, List.length_map] at this
      exact this
    have core : ∀ (od : Obj) (HL : Hp), HL a = some (.frz od (.dK kvs)) → Rd HL a' (.dK kvs') → RepL l vs HL → RepL l vs' HL → ∀ (QQ : VK), (∀ D H', Same HL H' → HL D = none → H' D = some (.lst ((kvs.map fun _ => true).map V.bl)) → QQ (.ref D) H') →
        tLc (iKeys (tVar 0)) (gName 3) tYes (tCall (spLike n) [] E (tCons (tOp (rIxA K w) (tVar 0) (tVar 3)) (tCons (tOp (rIxA K w) (tVar 1) (tVar 3)) tNil))) [3] [some (V.ref a), some (V.ref a'), some (V.str (S [100, 105, 99, 116])), none, none, none] HL QQ := by
      intro od HL hlock hrd' hrL hrL' QQ hQ
      walk_at "r"
      refine ⟨od, .inl ⟨kvs, hlock, fun D nD => ?_⟩⟩
      refine lc_acc walk_keys (xs := fun i => (kvs.take i).map fun _ => V.bl true) nD rfl (fun H' s => s _ _ hlock) ?_ ?_
      · rintro i x Hi H' hi sm hD ⟨rfl, k, v, hx, rfl⟩
        have hmem := List.mem_of_getElem? hx
        obtain ⟨kk, hkk, ek⟩ := dic_key hperm hmem
        have ek : k = Sum.inr (S kk) := ek
        subst ek
        obtain ⟨j, hj⟩ := List.getElem?_of_mem hkk
        have hjl := (List.getElem?_eq_some_iff.mp hj).1
        obtain ⟨t, ht⟩ : ∃ t, l[j]? = some t := ⟨l[j]'(by omega), by simp⟩
        obtain ⟨v1, hv1, hr1⟩ := hrL.get ht
        obtain ⟨v2, hv2, hr2⟩ := hrL'.get ht
        have hm := List.mem_of_getElem? ht
        have hdm := dep_mem hm
        refine .inr ⟨kvs, v1, .inr ⟨od, sm _ _ hlock⟩, hval _ (zip_at hj hv1), ?_⟩
        refine .inr ⟨kvs', v2, sm.rd hrd', hval' _ (zip_at hj hv2), ?_⟩
        refine ⟨t, v1, v2, rfl, hr1.le' sm, hr2.le' sm, okL_mem hok.1 hm, by omega, fun H2 s2 => acc_put (sm.trans s2) nD (s2 _ _ hD) ?_ (take_map (r := fun _ => V.bl true) hx)⟩
        rw [List.length_map, List.length_take, sizeLine_eq]
        omega
      · intro H' sm hD
        rw [List.take_length] at hD
        exact hQ D H' sm nD (by rw [hD, List.map_map]; rfl)
    have eall : (kvs.map fun _ => true).all id = true := by simp
    have hrd1 := s34.rd hrd
    have hrd2 := s34.rd hrd'
    have hvs1 := hvs.le (s34.le)
    have hvs2 := hvs'.le (s34.le)
    rcases hrd1 with hu | ⟨od, hf⟩
    · refine .inl ⟨a, .dK kvs, hu, True.intro, fun od => core od _ upd_same ((le_lock hu fun _ _ z => nomatch z) _ _ hrd2) (RepL.le (le_lock hu fun _ _ z => nomatch z) _ _ hvs1) (RepL.le (le_lock hu fun _ _ z => nomatch z) _ _ hvs2) _ fun D H' sm nD hD => ⟨sm _ _ upd_same, ?_⟩⟩
      have hDa : D ≠ a := fun z => by rw [z, upd_same] at nD; cases nD
      refine ⟨kvs.map fun _ => true, .of (by rw [upd_ne hDa]; exact hD), ?_⟩
      rw [eall]
      exact q2 _ (s34.trans (same_unlock hu sm))
    · refine .inr (core od _ hf hrd2 hvs1 hvs2 _ fun D H' sm nD hD => ⟨kvs.map fun _ => true, .of hD, ?_⟩)
      rw [eall]
      exact q2 _ (s34.trans sm)
  | lst l =>
    refine ifF (show ¬ (false ^^ decide (S [108, 105, 115, 116] = S [100, 105, 99, 116])) = true from by decide +kernel) ?_
    refine ⟨by show 2 ≤ sizeLine; decide, fun p np => ?_⟩
    refine .inr ⟨_, .inl (.of upd_same), rfl, rfl, ?_⟩
    refine ⟨_, rfl, ?_⟩
    refine ifT (show (false ^^ inV (V.str (S [108, 105, 115, 116])) [V.str (S [108, 105, 115, 116]), V.str (S [116, 117, 112, 108, 101])]) = true from by decide +kernel) ?_
    have s3 := Same.new (o := HO.lst [V.str (S [108, 105, 115, 116]), V.str (S [116, 117, 112, 108, 101])]) np
    have r3 := r1.le' s3
    have r4 := r2.le' s3
    rw [Rep] at r3 r4
    obtain ⟨a, vs, rfl, hrd, hvs⟩ := r3
    obtain ⟨a', vs', rfl, hrd', hvs'⟩ := r4
    rw [Ok] at hok
    rw [dep] at hdep
    have hvl := hvs.len
    have hvl' := hvs'.len
    refine ⟨vs.length, .inl ⟨vs, .inl hrd, rfl⟩, vs'.length, .inl ⟨vs', .inl hrd', rfl⟩, ?_⟩
    show rEqQ K false (V.int _) (V.int _) _ _
    rw [eq_ii]
    refine ⟨_, rfl, ?_⟩
    rw [if_pos (by simp [hvl, hvl'])]
    refine ⟨_, rfl, _, rfl, a, a', vs, vs', rfl, .inl ⟨.inl hrd, .inl hrd', fun D nD => ?_⟩⟩
    refine lc_acc (walk_zip (n := l.length) (xs := vs) (ys := vs') (by omega)) (xs := fun i => (l.take i).map fun _ => V.bl true) nD rfl (fun H' s => ⟨.inl (s.rd hrd), .inl (s.rd hrd')⟩) ?_ ?_
    · rintro i x Hi H' hi sm hD ⟨TT, x1, x2, rfl, nT, rfl, hx1, hx2⟩
      have hx1 : vs[i]? = some x1 := hx1
      have hx2 : vs'[i]? = some x2 := hx2
      obtain ⟨t, ht⟩ : ∃ t, l[i]? = some t := ⟨l[i]'(by omega), by simp⟩
      obtain ⟨v, hv, hr⟩ := hvs.get ht
      obtain ⟨v', hv', hr'⟩ := hvs'.get ht
      rw [hx1] at hv
      cases hv
      rw [hx2] at hv'
      cases hv'
      have hm := List.mem_of_getElem? ht
      have hdm := dep_mem hm
      have s5 := Same.new (o := HO.tup [x1, x2]) nT
      have s6 := sm.trans s5
      refine ⟨TT, rfl, [x1, x2], .inl (.of upd_same), rfl, x1, [x2], rfl, x2, [], rfl, rfl, ?_⟩
      refine ⟨t, x1, x2, rfl, hr.le' s6, hr'.le' s6, okL_mem hok.1 hm, by omega, fun H2 s7 => acc_put (s6.trans s7) nD ((s5.trans s7) _ _ hD) ?_ (take_map (r := fun _ => V.bl true) ht)⟩
      have := hok.2
      rw [List.length_map, List.length_take]
      omega
    · intro H' sm hD
      rw [List.take_length] at hD
      refine ⟨l.map fun _ => true, .of (by rw [hD, List.map_map]; rfl), ?_⟩
      have e : (l.map fun _ => true).all id = true := by simp
      rw [e]
      exact q2 _ (s3.trans sm)
  | tup l =>
    refine ifF (show ¬ (false ^^ decide (S [116, 117, 112, 108, 101] = S [100, 105, 99, 116])) = true from by decide +kernel) ?_
    refine ⟨by show 2 ≤ sizeLine; decide, fun p np => ?_⟩
    refine .inr ⟨_, .inl (.of upd_same), rfl, rfl, ?_⟩
    refine ⟨_, rfl, ?_⟩
    refine ifT (show (false ^^ inV (V.str (S [116, 117, 112, 108, 101])) [V.str (S [108, 105, 115, 116]), V.str (S [116, 117, 112, 108, 101])]) = true from by decide +kernel) ?_
    have s3 := Same.new (o := HO.lst [V.str (S [108, 105, 115, 116]), V.str (S [116, 117, 112, 108, 101])]) np
    have r3 := r1.le' s3
    have r4 := r2.le' s3
    rw [Rep] at r3 r4
    obtain ⟨a, vs, rfl, hrd, hvs⟩ := r3
    obtain ⟨a', vs', rfl, hrd', hvs'⟩ := r4
    rw [Ok] at hok
    rw [dep] at hdep
    have hvl := hvs.len
    have hvl' := hvs'.len
    refine ⟨vs.length, .inr ⟨vs, .inl hrd, rfl⟩, vs'.length, .inr ⟨vs', .inl hrd', rfl⟩, ?_⟩
    show rEqQ K false (V.int _) (V.int _) _ _
    rw [eq_ii]
    refine ⟨_, rfl, ?_⟩
    rw [if_pos (by simp [hvl, hvl'])]
    refine ⟨_, rfl, _, rfl, a, a', vs, vs', rfl, .inr ⟨.inl hrd, .inl hrd', fun D nD => ?_⟩⟩
    refine lc_acc (walk_zipT (n := l.length) (xs := vs) (ys := vs') (by omega)) (xs := fun i => (l.take i).map fun _ => V.bl true) nD rfl (fun H' s => ⟨.inl (s.rd hrd), .inl (s.rd hrd')⟩) ?_ ?_
    · rintro i x Hi H' hi sm hD ⟨TT, x1, x2, rfl, nT, rfl, hx1, hx2⟩
      have hx1 : vs[i]? = some x1 := hx1
      have hx2 : vs'[i]? = some x2 := hx2
      obtain ⟨t, ht⟩ : ∃ t, l[i]? = some t := ⟨l[i]'(by omega), by simp⟩
      obtain ⟨v, hv, hr⟩ := hvs.get ht
      obtain ⟨v', hv', hr'⟩ := hvs'.get ht
      rw [hx1] at hv
      cases hv
      rw [hx2] at hv'
      cases hv'
      have hm := List.mem_of_getElem? ht
      have hdm := dep_mem hm
      have s5 := Same.new (o := HO.tup [x1, x2]) nT
      have s6 := sm.trans s5
      refine ⟨TT, rfl, [x1, x2], .inl (.of upd_same), rfl, x1, [x2], rfl, x2, [], rfl, rfl, ?_⟩
      refine ⟨t, x1, x2, rfl, hr.le' s6, hr'.le' s6, okL_mem hok.1 hm, by omega, fun H2 s7 => acc_put (s6.trans s7) nD ((s5.trans s7) _ _ hD) ?_ (take_map (r := fun _ => V.bl true) ht)⟩
      have := hok.2
      rw [List.length_map, List.length_take]
      omega
    · intro H' sm hD
      rw [List.take_length] at hD
      refine ⟨l.map fun _ => true, .of (by rw [hD, List.map_map]; rfl), ?_⟩
      have e : (l.map fun _ => true).all id = true := by simp
      rw [e]
      exact q2 _ (s3.trans sm)
  | non =>
    rw [Rep] at r1 r2
    subst r1 r2
    refine ifF (show ¬ (false ^^ decide (S wNone = S [100, 105, 99, 116])) = true from by decide +kernel) ?_
    refine ⟨by show 2 ≤ sizeLine; decide, fun p np => .inr ⟨_, .inl (.of upd_same), rfl, rfl, ?_⟩⟩
    refine ⟨_, rfl, ?_⟩
    refine ifF (show ¬ (false ^^ inV (V.str (S wNone)) [V.str (S [108, 105, 115, 116]), V.str (S [116, 117, 112, 108, 101])]) = true from by decide +kernel) ?_
    rw [eq_nn]
    exact q2 _ (Same.new np)
  | bl b =>
    rw [Rep] at r1 r2
    subst r1 r2
    refine ifF (show ¬ (false ^^ decide (S [116, 114, 117, 116, 104] = S [100, 105, 99, 116])) = true from by decide +kernel) ?_
    refine ⟨by show 2 ≤ sizeLine; decide, fun p np => .inr ⟨_, .inl (.of upd_same), rfl, rfl, ?_⟩⟩
    refine ⟨_, rfl, ?_⟩
    refine ifF (show ¬ (false ^^ inV (V.str (S [116, 114, 117, 116, 104])) [V.str (S [108, 105, 115, 116]), V.str (S [116, 117, 112, 108, 101])]) = true from by decide +kernel) ?_
    rw [eq_bb, decide_eq_true rfl]
    exact q2 _ (Same.new np)
  | int b =>
    rw [Rep] at r1 r2
    subst r1 r2
    refine ifF (show ¬ (false ^^ decide (S [110, 117, 109, 98, 101, 114] = S [100, 105, 99, 116])) = true from by decide +kernel) ?_
    refine ⟨by show 2 ≤ sizeLine; decide, fun p np => .inr ⟨_, .inl (.of upd_same), rfl, rfl, ?_⟩⟩
    refine ⟨_, rfl, ?_⟩
    refine ifF (show ¬ (false ^^ inV (V.str (S [110, 117, 109, 98, 101, 114])) [V.str (S [108, 105, 115, 116]), V.str (S [116, 117, 112, 108, 101])]) = true from by decide +kernel) ?_
    rw [eq_ii, decide_eq_true rfl]
    exact q2 _ (Same.new np)
  | str b =>
    rw [Rep] at r1 r2
    subst r1 r2
    refine ifF (show ¬ (false ^^ decide (Str.ofString "text" = S [100, 105, 99, 116])) = true from by decide +kernel) ?_
    refine ⟨by show 2 ≤ sizeLine; decide, fun p np => .inr ⟨_, .inl (.of upd_same), rfl, rfl, ?_⟩⟩
    refine ⟨_, rfl, ?_⟩
    refine ifF (show ¬ (false ^^ inV (V.str (Str.ofString "text")) [V.str (S [108, 105, 115, 116]), V.str (S [116, 117, 112, 108, 101])]) = true from by decide +kernel) ?_
    rw [eq_ss, decide_eq_true rfl]
    exact q2 _ (Same.new np)
end
end K97

set_option Elab.async false
set_option linter.all false
set_option maxRecDepth 100000
set_option maxHeartbeats 4000000
/-! What is read of a text put together, in plain Lean: the thing, or the place of the first sign that opens one too many. -/
namespace K97
open PySem PySem.Spec PyProof.Rows L2 Lk SX
/-- neither letter nor figure goes on -/
def Stop (post : List Nat) : Prop := ∀ c, post.head? = some c → small c = false ∧ fig c = false
theorem stop_nil : Stop [] := fun c h => nomatch h
theorem stop_cons {c : Nat} {r : List Nat} (h1 : small c = false) (h2 : fig c = false) : Stop (c :: r) := fun d h => by
  cases h
  exact ⟨h1, h2⟩
theorem drop_add {W a post : List Nat} {i : Nat} (h : W.drop i = a ++ post) : W.drop (i + a.length) = post := by
  rw [← List.drop_drop, h, List.drop_left]
theorem drop_cons {W r : List Nat} {c i : Nat} (h : W.drop i = c :: r) : W[i]? = some c ∧ W.drop (i + 1) = r := by
  have e : (W.drop i)[0]? = some c := by rw [h]; rfl
  rw [List.getElem?_drop, Nat.add_zero] at e
  refine ⟨e, ?_⟩
  rw [← List.drop_drop, h]
  rfl
theorem drop_len {W a post : List Nat} {i : Nat} (h : W.drop i = a ++ post) : a.length + post.length ≤ W.length := by
  have := congrArg List.length h
  rw [List.length_drop, List.length_append] at this
  omega
theorem tw_app {p : Nat → Bool} : ∀ {a post : List Nat}, a.all p = true → (∀ c, post.head? = some c → p c = false) → (a ++ post).takeWhile p = a
  | [], [], _, _ => rfl
  | [], c :: r, _, h => by
    have := h c rfl
    rw [List.nil_append, List.takeWhile_cons, this]
    rfl
  | c :: a, post, ha, h => by
    rw [List.all_cons, Bool.and_eq_true] at ha
    rw [List.cons_append, List.takeWhile_cons, ha.1, if_pos rfl, tw_app ha.2 h]
theorem numL_head : ∀ (n : Nat), 0 < n → ∃ c r, TL.numL n = c :: r ∧ 49 ≤ c ∧ c ≤ 57 := fun n => by
  induction n using Nat.strongRecOn with
  | _ n ih =>
    intro h
    by_cases h10 : n < 10
    · exact ⟨48 + n, [], TL.numL_lt h10, by omega, by omega⟩
    · obtain ⟨c, r, e, h1, h2⟩ := ih (n / 10) (by omega) (by omega)
      exact ⟨c, r ++ [48 + n % 10], by rw [TL.numL_step (by omega), e]; rfl, h1, h2⟩
theorem numL_fig (n : Nat) : (TL.numL n).all fig = true := by
  rw [List.all_eq_true]
  intro c hc
  have := TL.numL_digits n c hc
  unfold fig
  simp [this.1, this.2]
theorem num_at {W post : List Nat} {i n : Nat} (b : Bool) (h : W.drop i = TL.numL n ++ post) (hp : Stop post) (hn : n < 10 ^ 500) (hb : b = true → 0 < n) :
    pNat W b i = .ok (if b then 0 - (n : Int) else (n : Int)) (i + (TL.numL n).length) := by
  have hd : digits W i = TL.numL n := by
    unfold digits
    rw [h]
    exact tw_app (numL_fig n) fun c hc => (hp c hc).2
  unfold pNat
  by_cases h0 : n = 0
  · subst h0
    have hb' : b = false := by
      cases b with
      | false => rfl
      | true => exact absurd (hb rfl) (by omega)
    subst hb'
    have e0 : TL.numL 0 = [48] := TL.numL_lt (by omega)
    rw [e0] at h ⊢
    have := (drop_cons (r := post) h).1
    rw [if_pos ⟨rfl, this⟩]
    rfl
  · obtain ⟨c, r, e, h1, h2⟩ := numL_head n (by omega)
    have hc : W[i]? = some c := (drop_cons (r := r ++ post) (by rw [h, e]; rfl)).1
    rw [if_neg (by rw [hc]; intro z; have := Option.some.inj z.2; omega), hc]
    have hl := TL.numL_len (k := 500) (by omega) hn
    rw [if_pos (by simp [h1, h2]), hd, if_pos (by omega), TL.numL_val]
theorem int_at {W post : List Nat} {i : Nat} {z : Int} (h : W.drop i = intT z ++ post) (hp : Stop post) (hn : z.natAbs < 10 ^ 500) : pNum W i = .ok z (i + (intT z).length) := by
  unfold pNum
  unfold intT at h ⊢
  by_cases hz : z < 0
  · rw [if_pos hz] at h ⊢
    obtain ⟨h1, h2⟩ := drop_cons (r := TL.numL z.natAbs ++ post) h
    rw [if_pos h1, num_at true h2 hp hn (fun _ => by omega), if_pos rfl]
    congr 1
    · omega
    · rw [List.length_cons]; omega
  · rw [if_neg hz] at h ⊢
    have hne : W[i]? ≠ some 45 := by
      intro e
      cases hl : TL.numL z.natAbs with
      | nil => exact TL.numL_ne _ hl
      | cons c r =>
        rw [hl] at h
        have := (drop_cons (r := r ++ post) h).1
        rw [e] at this
        have hc := TL.numL_digits z.natAbs c (by rw [hl]; exact List.mem_cons_self ..)
        have := Option.some.inj this
        omega
    rw [if_neg hne, num_at false h hp hn (fun z => nomatch z)]
    congr 1
    simp
    omega
theorem int_head (z : Int) : ∃ c r, intT z = c :: r ∧ (c = 45 ∨ (48 ≤ c ∧ c ≤ 57)) := by
  unfold intT
  by_cases hz : z < 0
  · rw [if_pos hz]; exact ⟨_, _, rfl, .inl rfl⟩
  · rw [if_neg hz]
    cases hl : TL.numL z.natAbs with
    | nil => exact absurd hl (TL.numL_ne _)
    | cons c r => exact ⟨c, r, rfl, .inr (TL.numL_digits z.natAbs c (by rw [hl]; exact List.mem_cons_self ..))⟩
theorem bare_cons {x : List Nat} (h : bareT x = true) : x ≠ [] ∧ x ∉ [wNone, wYes, wNo] ∧ x.all small = true := by
  unfold bareT at h
  simp only [Bool.and_eq_true, Bool.not_eq_true', decide_eq_false_iff_not] at h
  exact ⟨h.1, h.2.1, h.2.2⟩
theorem word_at {W x post : List Nat} {i : Nat} (h : W.drop i = x ++ post) (hx : x.all small = true) (hp : Stop post) : word W i = x := by
  unfold word
  rw [h]
  exact tw_app hx fun c hc => (hp c hc).1
theorem esc_ge : ∀ l : List Nat, l.length ≤ (l.flatMap escT).length
  | [] => Nat.zero_le _
  | c :: l => by
    rw [List.flatMap_cons, List.length_append, List.length_cons]
    have := esc_ge l
    have h1 : 1 ≤ (escT c).length := by
      unfold escT
      split
      · simp
      · split <;> simp
    omega
theorem loop_at {W post : List Nat} : ∀ (x : List Nat) (acc : List Nat) (i n : Nat), x.length < n → W.drop i = x.flatMap escT ++ 39 :: post → qLoop W n i acc = .ok (acc ++ x) (i + (x.flatMap escT).length + 1)
  | [], acc, i, n, hn, h => by
    obtain ⟨m, rfl⟩ : ∃ m, n = m + 1 := ⟨n - 1, by simp at hn; omega⟩
    have := (drop_cons (r := post) h).1
    rw [qLoop, this]
    simp
  | c :: x, acc, i, n, hn, h => by
    obtain ⟨m, rfl⟩ : ∃ m, n = m + 1 := ⟨n - 1, by simp at hn; omega⟩
    have hm : x.length < m := by simp at hn; omega
    rw [List.flatMap_cons, List.append_assoc] at h
    rw [List.flatMap_cons, List.length_append]
    unfold qLoop
    by_cases h10 : c = 10
    · subst h10
      rw [show escT 10 = [94, 110] from rfl] at h ⊢
      obtain ⟨e1, h1⟩ := drop_cons (r := 110 :: (x.flatMap escT ++ 39 :: post)) h
      obtain ⟨e2, h2⟩ := drop_cons h1
      rw [e1, e2]
      simp only
      rw [if_neg (by decide), if_neg (by decide), if_pos trivial, if_pos trivial, loop_at x _ (i + 2) m hm h2]
      simp
      omega
    · by_cases h39 : c = 39 ∨ c = 94
      · rw [show escT c = [94, c] from by unfold escT; rw [if_neg h10, if_pos h39]] at h ⊢
        obtain ⟨e1, h1⟩ := drop_cons (r := c :: (x.flatMap escT ++ 39 :: post)) h
        obtain ⟨e2, h2⟩ := drop_cons h1
        rw [e1, e2]
        simp only
        rw [if_neg (by decide), if_neg (by decide), if_pos trivial, if_neg (by omega), if_pos h39, loop_at x _ (i + 2) m hm h2]
        simp
        omega
      · rw [show escT c = [c] from by unfold escT; rw [if_neg h10, if_neg h39]] at h ⊢
        obtain ⟨e1, h1⟩ := drop_cons (r := x.flatMap escT ++ 39 :: post) h
        rw [e1]
        simp only
        rw [if_neg (by omega), if_neg h10, if_neg (by omega), loop_at x _ (i + 1) m hm h1]
        simp
        omega
theorem quo_at {W x post : List Nat} {i : Nat} (h : W.drop i = wordT x ++ post) (hb : bareT x = false) : W[i]? = some 39 ∧ pQuo W i = .ok x (i + (wordT x).length) := by
  unfold wordT at h ⊢
  rw [if_neg (by rw [hb]; exact Bool.false_ne_true)] at h ⊢
  obtain ⟨e1, h1⟩ := drop_cons (c := 39) (r := x.flatMap escT ++ 39 :: post) (by rw [h]; simp)
  refine ⟨e1, ?_⟩
  unfold pQuo
  have hl := drop_len h1
  have hg := esc_ge x
  rw [List.length_cons] at hl
  rw [loop_at x [] (i + 1) _ (by omega) h1]
  simp only [List.nil_append]
  rw [if_neg (by rw [hb]; exact Bool.false_ne_true)]
  congr 1
  simp
  omega
theorem bare_at {W x post : List Nat} {i : Nat} (h : W.drop i = wordT x ++ post) (hb : bareT x = true) (hp : Stop post) : (∃ c, W[i]? = some c ∧ small c = true) ∧ word W i = x ∧ wordT x = x := by
  have e : wordT x = x := by unfold wordT; rw [if_pos hb]
  rw [e] at h
  obtain ⟨h1, h2, h3⟩ := bare_cons hb
  refine ⟨?_, word_at h h3 hp, e⟩
  cases x with
  | nil => exact absurd rfl h1
  | cons c x =>
    rw [List.all_cons, Bool.and_eq_true] at h3
    exact ⟨c, (drop_cons (r := x ++ post) h).1, h3.1⟩
theorem small_ne {c d : Nat} (h : small c = true) (hd : small d = false) : c ≠ d := fun e => by
  rw [e, hd] at h
  cases h
theorem key_at {W k post : List Nat} {i : Nat} {ahead : Option (List Nat)} (h : W.drop i = wordT k ++ post) (hp : Stop post) (hl : late ahead k = false) : pKey W i ahead = .ok k (i + (wordT k).length) := by
  unfold pKey pRaw
  cases hb : bareT k with
  | true =>
    obtain ⟨⟨c, hc, hs⟩, hw, e⟩ := bare_at h hb hp
    have hne : W[i]? ≠ some 39 := by
      rw [hc]
      intro z
      exact small_ne hs (by decide) (Option.some.inj z)
    rw [if_neg hne, hw]
    simp only
    rw [if_neg (by rw [hl]; exact Bool.false_ne_true), if_pos (.inr hb), e]
  | false =>
    obtain ⟨h1, h2⟩ := quo_at h hb
    rw [if_pos h1, h2]
    simp only
    rw [if_neg (by rw [hl]; exact Bool.false_ne_true), if_pos (.inl h1)]
/-! ### the place of the first sign that opens one too many -/
mutual
def deepAt : Nat → T → Option Nat
  | d, .tup l => match d with
    | 0 => some 0
    | d + 1 => (deepL d l).map (· + 1)
  | d, .lst l => match d with
    | 0 => some 0
    | d + 1 => (deepL d l).map (· + 1)
  | d, .dic ks l => match d with
    | 0 => some 0
    | d + 1 => (deepD d ks l).map (· + 1)
  | _, .non => none
  | _, .bl _ => none
  | _, .int _ => none
  | _, .str _ => none
def deepL : Nat → List T → Option Nat
  | _, [] => none
  | d, t :: l => match deepAt d t with
    | some k => some k
    | none => (deepL d l).map (· + ((spelt t).length + 1))
def deepD : Nat → List (List Nat) → List T → Option Nat
  | _, _, [] => none
  | d, ks, t :: l => match ks with
    | [] => none
    | k :: ks => match deepAt d t with
      | some j => some ((wordT k).length + 1 + j)
      | none => (deepD d ks l).map (· + ((wordT k).length + 1 + (spelt t).length + 1))
end
def resAt (d : Nat) (t : T) (i : Nat) : R T := match deepAt d t with
  | none => .ok t (i + (spelt t).length)
  | some k => .err (i + k)
def At (t : T) : Prop := Ok t → ∀ (d : Nat) (W : List Nat) (i : Nat) (post : List Nat), W.drop i = spelt t ++ post → Stop post → pThing W d i = resAt d t i
/-- each with a blank ahead -/
def tl32 (ss : List (List Nat)) : List Nat := ss.flatMap fun s => 32 :: s
theorem joinB_cons (s : List Nat) : ∀ ss : List (List Nat), joinB (s :: ss) = s ++ tl32 ss
  | [] => by
    show TL.joinL [32] [s] = s ++ []
    rw [List.append_nil]
    rfl
  | a :: ss => by
    have e : joinB (s :: a :: ss) = s ++ ([32] ++ joinB (a :: ss)) := rfl
    rw [e, joinB_cons a ss]
    unfold tl32
    simp
theorem head_of (t : T) : ∃ c r, spelt t = c :: r ∧ c ≠ 41 ∧ c ≠ 93 ∧ c ≠ 125 := by
  cases t with
  | non => exact ⟨_, _, rfl, by decide, by decide, by decide⟩
  | bl b => cases b with
    | true => exact ⟨_, _, rfl, by decide, by decide, by decide⟩
    | false => exact ⟨_, _, rfl, by decide, by decide, by decide⟩
  | int z =>
    obtain ⟨c, r, e, h⟩ := int_head z
    exact ⟨c, r, by rw [spelt, e], by omega, by omega, by omega⟩
  | str x =>
    rw [spelt]
    unfold wordT
    by_cases hb : bareT x = true
    · rw [if_pos hb]
      obtain ⟨h1, _, h3⟩ := bare_cons hb
      cases x with
      | nil => exact absurd rfl h1
      | cons c x =>
        rw [List.all_cons, Bool.and_eq_true] at h3
        exact ⟨c, x, rfl, small_ne h3.1 (by decide), small_ne h3.1 (by decide), small_ne h3.1 (by decide)⟩
    · rw [if_neg hb]
      exact ⟨_, _, rfl, by decide, by decide, by decide⟩
  | tup l => exact ⟨_, _, by rw [spelt], by decide, by decide, by decide⟩
  | lst l => exact ⟨_, _, by rw [spelt], by decide, by decide, by decide⟩
  | dic ks l => exact ⟨_, _, by rw [spelt], by decide, by decide, by decide⟩
theorem stop_tl {e : Nat} {post : List Nat} (h1 : small e = false) (h2 : fig e = false) : ∀ ss : List (List Nat), Stop (tl32 ss ++ e :: post)
  | [] => stop_cons h1 h2
  | s :: ss => stop_cons (c := 32) (r := s ++ (tl32 ss ++ e :: post)) (by decide) (by decide) |> fun h => by
    have e : tl32 (s :: ss) ++ e :: post = 32 :: (s ++ (tl32 ss ++ e :: post)) := by
      unfold tl32
      simp
    rw [e]
    exact h
theorem tl32_cons (s : List Nat) (ss : List (List Nat)) : tl32 (s :: ss) = 32 :: (s ++ tl32 ss) := by
  unfold tl32
  simp
/-- the things behind the first one -/
theorem tail_at {W post : List Nat} {d e : Nat} (he : small e = false) (he2 : fig e = false) (h32 : e ≠ 32) : ∀ (l : List T), (∀ t ∈ l, At t) → OkL l → ∀ (acc : List T) (i n : Nat), acc ≠ [] → l.length < n → W.drop i = tl32 (spelts l) ++ e :: post →
    pThings W (pThing W d) e n i acc = match deepL d l with | none => .ok (acc ++ l) (i + (tl32 (spelts l)).length + 1) | some k => .err (i + 1 + k)
  | [], hA, hO, acc, i, n, ha, hn, h => by
    obtain ⟨m, rfl⟩ : ∃ m, n = m + 1 := ⟨n - 1, by simp at hn; omega⟩
    have := (drop_cons (r := post) h).1
    rw [pThings, if_pos this, deepL]
    simp [spelts, tl32]
  | t :: l, hA, hO, acc, i, n, ha, hn, h => by
    obtain ⟨m, rfl⟩ : ∃ m, n = m + 1 := ⟨n - 1, by simp at hn; omega⟩
    rw [spelts, tl32_cons] at h
    obtain ⟨e1, h1⟩ := drop_cons (c := 32) (r := spelt t ++ (tl32 (spelts l) ++ e :: post)) (by rw [h]; simp)
    rw [OkL] at hO
    have hf := hA t (List.mem_cons_self ..) hO.1 d W (i + 1) _ h1 (stop_tl he he2 _)
    have h2 := drop_add h1
    rw [pThings, e1, if_neg (by intro z; exact h32 (Option.some.inj z).symm), if_neg (by simp), if_neg ha, hf]
    unfold resAt
    rw [deepL]
    cases hd : deepAt d t with
    | some k => rfl
    | none =>
      simp only
      rw [tail_at he he2 h32 l (fun t ht => hA t (List.mem_cons_of_mem _ ht)) hO.2 (acc ++ [t]) _ m (by simp) (by simp at hn; omega) h2]
      cases hd2 : deepL d l with
      | none =>
        simp only [Option.map_none]
        congr 1
        · simp
        · rw [spelts, tl32_cons, List.length_cons, List.length_append]; omega
      | some k =>
        simp only [Option.map_some]
        congr 1
        omega
theorem list_at {W post : List Nat} {d e : Nat} (he : small e = false) (he2 : fig e = false) (h32 : e ≠ 32) (hne : e = 41 ∨ e = 93) (l : List T) (hA : ∀ t ∈ l, At t) (hO : OkL l) (i n : Nat) (hn : l.length < n) (h : W.drop i = joinB (spelts l) ++ e :: post) :
    pThings W (pThing W d) e n i [] = match deepL d l with | none => .ok l (i + (joinB (spelts l)).length + 1) | some k => .err (i + k) := by
  cases l with
  | nil =>
    obtain ⟨m, rfl⟩ : ∃ m, n = m + 1 := ⟨n - 1, by simp at hn; omega⟩
    have := (drop_cons (r := post) h).1
    rw [pThings, if_pos this, deepL]
    rfl
  | cons t l =>
    obtain ⟨m, rfl⟩ : ∃ m, n = m + 1 := ⟨n - 1, by simp at hn; omega⟩
    rw [spelts, joinB_cons, List.append_assoc] at h
    rw [OkL] at hO
    have hf := hA t (List.mem_cons_self ..) hO.1 d W i _ h (stop_tl he he2 _)
    have h2 := drop_add h
    obtain ⟨c, r, ec, c1, c2, c3⟩ := head_of t
    have e1 : W[i]? = some c := (drop_cons (r := r ++ (tl32 (spelts l) ++ e :: post)) (by rw [h, ec]; rfl)).1
    rw [pThings, e1, if_neg (by intro z; have := Option.some.inj z; omega), if_neg (by simp), if_pos rfl, hf]
    unfold resAt
    rw [deepL]
    cases hd : deepAt d t with
    | some k => rfl
    | none =>
      simp only
      rw [tail_at he he2 h32 l (fun t ht => hA t (List.mem_cons_of_mem _ ht)) hO.2 ([] ++ [t]) _ m (by simp) (by simp at hn; omega) h2]
      cases hd2 : deepL d l with
      | none =>
        simp only [Option.map_none]
        congr 1
        rw [spelts, joinB_cons, List.length_append]; omega
      | some k =>
        simp only [Option.map_some]
        congr 1
        omega
theorem late_last {ks0 : List (List Nat)} {k : List Nat} (h : ∀ a ∈ ks0, a < k) : late ks0.getLast? k = false := by
  cases e : ks0.getLast? with
  | none => rfl
  | some a =>
    have := h a (List.mem_of_getLast? e)
    unfold late
    simp [this]
/-- the pairs behind the first one -/
theorem ptail_at {W post : List Nat} {d : Nat} : ∀ (l : List T) (ks : List (List Nat)), ks.length = l.length → (∀ t ∈ l, At t) → OkL l → ∀ (ks0 : List (List Nat)) (ts0 : List T) (i n : Nat), (ks0 ++ ks).Pairwise (· < ·) → ks0 ≠ [] → l.length < n → W.drop i = tl32 (pairsT ks (spelts l)) ++ 125 :: post →
    pPairs W (pThing W d) n i ks0 ts0 = match deepD d ks l with | none => .ok (.dic (ks0 ++ ks) (ts0 ++ l)) (i + (tl32 (pairsT ks (spelts l))).length + 1) | some k => .err (i + 1 + k)
  | [], ks, hk, hA, hO, ks0, ts0, i, n, hpw, ha, hn, h => by
    have : ks = [] := List.eq_nil_of_length_eq_zero hk
    subst this
    obtain ⟨m, rfl⟩ : ∃ m, n = m + 1 := ⟨n - 1, by simp at hn; omega⟩
    have := (drop_cons (r := post) h).1
    rw [pPairs, if_pos this, deepD]
    simp [spelts, pairsT, tl32]
  | t :: l, [], hk, hA, hO, ks0, ts0, i, n, hpw, ha, hn, h => by simp at hk
  | t :: l, k :: ks, hk, hA, hO, ks0, ts0, i, n, hpw, ha, hn, h => by
    obtain ⟨m, rfl⟩ : ∃ m, n = m + 1 := ⟨n - 1, by simp at hn; omega⟩
    have ep : pairsT (k :: ks) (spelts (t :: l)) = (wordT k ++ 32 :: spelt t) :: pairsT ks (spelts l) := by rw [spelts]; rfl
    rw [ep, tl32_cons] at h
    obtain ⟨e1, h1⟩ := drop_cons (c := 32) (r := wordT k ++ (32 :: (spelt t ++ (tl32 (pairsT ks (spelts l)) ++ 125 :: post)))) (by rw [h]; simp)
    have hkey := key_at (ahead := ks0.getLast?) h1 (stop_cons (by decide) (by decide)) (late_last fun a ha => (List.pairwise_append.mp hpw).2.2 a ha k (List.mem_cons_self ..))
    obtain ⟨e2, h2⟩ := drop_cons (drop_add h1)
    rw [OkL] at hO
    have hf := hA t (List.mem_cons_self ..) hO.1 d W _ _ h2 (stop_tl (by decide) (by decide) _)
    have h3 := drop_add h2
    rw [pPairs, e1, if_neg (by decide), if_neg (by simp), if_neg ha, hkey]
    simp only
    rw [if_neg (by simp [e2]), hf]
    unfold resAt
    rw [deepD]
    cases hd : deepAt d t with
    | some j =>
      simp only
      congr 1
      omega
    | none =>
      simp only
      rw [ptail_at l ks (by simpa using hk) (fun t ht => hA t (List.mem_cons_of_mem _ ht)) hO.2 (ks0 ++ [k]) (ts0 ++ [t]) _ m (by simpa using hpw) (by simp) (by simp at hn; omega) h3]
      cases hd2 : deepD d ks l with
      | none =>
        simp only [Option.map_none]
        congr 1
        · simp
        · rw [ep, tl32_cons, List.length_cons, List.length_append, List.length_append, List.length_cons]; omega
      | some k =>
        simp only [Option.map_some]
        congr 1
        omega
theorem word_head (k : List Nat) : ∃ c r, wordT k = c :: r ∧ c ≠ 125 := by
  obtain ⟨c, r, e, _, _, h⟩ := head_of (.str k)
  exact ⟨c, r, by rw [← e, spelt], h⟩
theorem dict_at {W post : List Nat} {d : Nat} (ks : List (List Nat)) (l : List T) (hk : ks.length = l.length) (hA : ∀ t ∈ l, At t) (hO : OkL l) (i n : Nat) (hpw : ks.Pairwise (· < ·)) (hn : l.length < n) (h : W.drop i = joinB (pairsT ks (spelts l)) ++ 125 :: post) :
    pPairs W (pThing W d) n i [] [] = match deepD d ks l with | none => .ok (.dic ks l) (i + (joinB (pairsT ks (spelts l))).length + 1) | some k => .err (i + k) := by
  cases l with
  | nil =>
    have : ks = [] := List.eq_nil_of_length_eq_zero hk
    subst this
    obtain ⟨m, rfl⟩ : ∃ m, n = m + 1 := ⟨n - 1, by simp at hn; omega⟩
    have := (drop_cons (r := post) h).1
    rw [pPairs, if_pos this, deepD]
    rfl
  | cons t l =>
    cases ks with
    | nil => simp at hk
    | cons k ks =>
      obtain ⟨m, rfl⟩ : ∃ m, n = m + 1 := ⟨n - 1, by simp at hn; omega⟩
      have ep : pairsT (k :: ks) (spelts (t :: l)) = (wordT k ++ 32 :: spelt t) :: pairsT ks (spelts l) := by rw [spelts]; rfl
      rw [ep, joinB_cons] at h
      have h1 : W.drop i = wordT k ++ (32 :: (spelt t ++ (tl32 (pairsT ks (spelts l)) ++ 125 :: post))) := by rw [h]; simp
      obtain ⟨c, r, ec, hc⟩ := word_head k
      have e1 : W[i]? = some c := (drop_cons (r := r ++ (32 :: (spelt t ++ (tl32 (pairsT ks (spelts l)) ++ 125 :: post)))) (by rw [h1, ec]; rfl)).1
      have hkey := key_at (ahead := ([] : List (List Nat)).getLast?) h1 (stop_cons (by decide) (by decide)) rfl
      obtain ⟨e2, h2⟩ := drop_cons (drop_add h1)
      rw [OkL] at hO
      have hf := hA t (List.mem_cons_self ..) hO.1 d W _ _ h2 (stop_tl (by decide) (by decide) _)
      have h3 := drop_add h2
      rw [pPairs, e1, if_neg (by intro z; exact hc (Option.some.inj z)), if_neg (by simp), if_pos rfl, hkey]
      simp only
      rw [if_neg (by simp [e2]), hf]
      unfold resAt
      rw [deepD]
      cases hd : deepAt d t with
      | some j =>
        simp only
        congr 1
        omega
      | none =>
        simp only
        rw [ptail_at l ks (by simpa using hk) (fun t ht => hA t (List.mem_cons_of_mem _ ht)) hO.2 ([] ++ [k]) ([] ++ [t]) _ m (by simpa using hpw) (by simp) (by simp at hn; omega) h3]
        cases hd2 : deepD d ks l with
        | none =>
          simp only [Option.map_none]
          congr 1
          rw [ep, joinB_cons, List.length_append, List.length_append, List.length_cons]; omega
        | some k =>
          simp only [Option.map_some]
          congr 1
          omega
theorem spelts_ge : ∀ l : List T, l.length ≤ (joinB (spelts l)).length := fun l => by
  have h := joinB_sum (spelts l)
  have : ∀ l : List T, l.length ≤ ((spelts l).map List.length).sum := fun l => by
    induction l with
    | nil => exact Nat.zero_le _
    | cons t l ih =>
      rw [spelts, List.map_cons, List.sum_cons, List.length_cons]
      obtain ⟨c, r, e, _⟩ := head_of t
      rw [e, List.length_cons]
      omega
  have := this l
  omega
theorem pairs_ge : ∀ (ks : List (List Nat)) (l : List T), ks.length = l.length → l.length ≤ (joinB (pairsT ks (spelts l))).length := fun ks l hk => by
  have h := joinB_sum (pairsT ks (spelts l))
  have : ∀ (l : List T) (ks : List (List Nat)), ks.length = l.length → l.length ≤ ((pairsT ks (spelts l)).map List.length).sum := fun l => by
    induction l with
    | nil => intro _ _; exact Nat.zero_le _
    | cons t l ih =>
      intro ks hk
      cases ks with
      | nil => simp at hk
      | cons k ks =>
        have := ih ks (by simpa using hk)
        rw [show pairsT (k :: ks) (spelts (t :: l)) = (wordT k ++ 32 :: spelt t) :: pairsT ks (spelts l) from by rw [spelts]; rfl]
        rw [List.map_cons, List.sum_cons, List.length_cons, List.length_append, List.length_cons]
        omega
  have := this l ks hk
  omega
def subOf (W : List Nat) : Nat → Option (Nat → R T)
  | 0 => none
  | d + 1 => some (pThing W d)
theorem pThing_sub (W : List Nat) (d i : Nat) : pThing W d i = pStep W (subOf W d) i := by
  cases d <;> rfl
mutual
theorem thing_at : ∀ t : T, At t
  | .non => fun _ d W i post h hp => by
    rw [pThing_sub, pStep]
    rw [spelt] at h
    have e := (drop_cons (r := [111, 110, 101] ++ post) h).1
    have hw : word W i = wNone := word_at h (by decide) hp
    rw [e, hw]
    unfold resAt
    rw [deepAt, spelt]
    rfl
  | .bl b => fun _ d W i post h hp => by
    rw [pThing_sub, pStep]
    unfold resAt
    rw [deepAt]
    rw [spelt] at h
    cases b with
    | true =>
      have e := (drop_cons (r := [101, 115] ++ post) h).1
      have hw : word W i = wYes := word_at h (by decide) hp
      rw [e, hw, spelt]
      rfl
    | false =>
      have e := (drop_cons (r := [111] ++ post) h).1
      have hw : word W i = wNo := word_at h (by decide) hp
      rw [e, hw, spelt]
      rfl
  | .int z => fun hO d W i post h hp => by
    rw [pThing_sub, pStep]
    rw [spelt] at h
    rw [Ok] at hO
    obtain ⟨c, r, ec, hc⟩ := int_head z
    have e := (drop_cons (r := r ++ post) (by rw [h, ec]; rfl)).1
    rw [e]
    simp only
    have hs : small c = false := by
      unfold small
      rcases hc with rfl | hc
      · decide
      · rw [show decide (97 ≤ c) = false from decide_eq_false (by omega)]
        rfl
    rw [if_neg (by omega), if_neg (by rw [hs]; exact Bool.false_ne_true), if_neg (by omega), int_at h hp hO]
    unfold resAt
    rw [deepAt, spelt]
    rfl
  | .str x => fun _ d W i post h hp => by
    rw [pThing_sub, pStep]
    rw [spelt] at h
    unfold resAt
    rw [deepAt, spelt]
    cases hb : bareT x with
    | true =>
      obtain ⟨⟨c, hc, hs⟩, hw, e⟩ := bare_at h hb hp
      rw [hc, hw]
      simp only
      rw [if_neg (small_ne hs (by decide)), if_pos hs, e]
      obtain ⟨_, h2, _⟩ := bare_cons hb
      unfold keptT
      rw [if_neg (fun z => h2 (by rw [z]; decide)), if_neg (fun z => h2 (by rw [z]; decide)), if_neg (fun z => h2 (by rw [z]; decide))]
    | false =>
      obtain ⟨h1, h2⟩ := quo_at h hb
      rw [h1]
      simp only
      rw [if_pos trivial, h2]
      rfl
  | .tup l => fun hO d W i post h hp => by
    rw [pThing_sub, pStep]
    rw [spelt] at h
    rw [Ok] at hO
    obtain ⟨e, h1⟩ := drop_cons (c := 40) (r := joinB (spelts l) ++ 41 :: post) (by rw [h]; simp)
    rw [e]
    simp only
    rw [if_neg (by decide), if_neg (by decide), if_pos (by decide)]
    unfold resAt
    rw [deepAt.eq_def]
    cases d with
    | zero => rfl
    | succ d =>
      have hl := drop_len h1
      have hg := spelts_ge l
      simp only [subOf]
      rw [if_neg (by decide), if_pos trivial, list_at (by decide) (by decide) (by decide) (.inl rfl) l (things_at l) hO.1 (i + 1) _ (by omega) h1]
      cases deepL d l with
      | none =>
        simp only [Option.map_none, R.map]
        congr 1
        rw [spelt, List.length_cons, List.length_append]
        simp
        omega
      | some k =>
        simp only [Option.map_some, R.map]
        congr 1
        omega
  | .lst l => fun hO d W i post h hp => by
    rw [pThing_sub, pStep]
    rw [spelt] at h
    rw [Ok] at hO
    obtain ⟨e, h1⟩ := drop_cons (c := 91) (r := joinB (spelts l) ++ 93 :: post) (by rw [h]; simp)
    rw [e]
    simp only
    rw [if_neg (by decide), if_neg (by decide), if_pos (by decide)]
    unfold resAt
    rw [deepAt.eq_def]
    cases d with
    | zero => rfl
    | succ d =>
      have hl := drop_len h1
      have hg := spelts_ge l
      simp only [subOf]
      rw [if_neg (by decide), if_neg (by decide), list_at (by decide) (by decide) (by decide) (.inr rfl) l (things_at l) hO.1 (i + 1) _ (by omega) h1]
      cases deepL d l with
      | none =>
        simp only [Option.map_none, R.map]
        congr 1
        rw [spelt, List.length_cons, List.length_append]
        simp
        omega
      | some k =>
        simp only [Option.map_some, R.map]
        congr 1
        omega
  | .dic ks l => fun hO d W i post h hp => by
    rw [pThing_sub, pStep]
    rw [spelt] at h
    rw [Ok] at hO
    obtain ⟨e, h1⟩ := drop_cons (c := 123) (r := joinB (pairsT ks (spelts l)) ++ 125 :: post) (by rw [h]; simp)
    rw [e]
    simp only
    rw [if_neg (by decide), if_neg (by decide), if_pos (by decide)]
    unfold resAt
    rw [deepAt.eq_def]
    cases d with
    | zero => rfl
    | succ d =>
      have hl := drop_len h1
      have hg := pairs_ge ks l hO.2.2.1
      simp only [subOf]
      rw [if_pos trivial, dict_at ks l hO.2.2.1 (things_at l) hO.1 (i + 1) _ hO.2.2.2 (by omega) h1]
      cases deepD d ks l with
      | none =>
        simp only [Option.map_none]
        congr 1
        rw [spelt, List.length_cons, List.length_append]
        simp
        omega
      | some k =>
        simp only [Option.map_some]
        congr 1
        omega
theorem things_at : ∀ l : List T, ∀ t ∈ l, At t
  | [] => fun t h => nomatch h
  | u :: l => fun t h => by
    rcases List.mem_cons.mp h with e | h
    · rw [e]; exact thing_at u
    · exact things_at l t h
end
/-- the whole of it -/
theorem paper_at {t : T} (hO : Ok t) (d : Nat) : pPaper (spelt t) d = resAt d t 0 := by
  unfold pPaper
  have h := thing_at t hO d (spelt t) 0 [] (by simp) stop_nil
  rw [h]
  unfold resAt
  cases deepAt d t with
  | some k => rfl
  | none => simp
/-! ### too deep, and how deep -/
mutual
theorem deep_none : ∀ (t : T) (d : Nat), Ok t → dep t ≤ d → deepAt d t = none
  | .non, _, _, _ => rfl
  | .bl _, _, _, _ => rfl
  | .int _, _, _, _ => rfl
  | .str _, _, _, _ => rfl
  | .tup l, d, hO, h => by
    rw [dep] at h
    rw [Ok] at hO
    obtain ⟨e, rfl⟩ : ∃ e, d = e + 1 := ⟨d - 1, by omega⟩
    rw [deepAt.eq_def]
    simp only
    rw [deepL_none l e hO.1 (by omega)]
    rfl
  | .lst l, d, hO, h => by
    rw [dep] at h
    rw [Ok] at hO
    obtain ⟨e, rfl⟩ : ∃ e, d = e + 1 := ⟨d - 1, by omega⟩
    rw [deepAt.eq_def]
    simp only
    rw [deepL_none l e hO.1 (by omega)]
    rfl
  | .dic ks l, d, hO, h => by
    rw [dep] at h
    rw [Ok] at hO
    obtain ⟨e, rfl⟩ : ∃ e, d = e + 1 := ⟨d - 1, by omega⟩
    rw [deepAt.eq_def]
    simp only
    rw [deepD_none l ks e hO.1 (by omega)]
    rfl
theorem deepL_none : ∀ (l : List T) (d : Nat), OkL l → depL l ≤ d → deepL d l = none
  | [], _, _, _ => rfl
  | t :: l, d, hO, h => by
    rw [depL] at h
    rw [OkL] at hO
    rw [deepL, deep_none t d hO.1 (by omega)]
    simp only
    rw [deepL_none l d hO.2 (by omega)]
    rfl
theorem deepD_none : ∀ (l : List T) (ks : List (List Nat)) (d : Nat), OkL l → depL l ≤ d → deepD d ks l = none
  | [], _, _, _, _ => by rw [deepD]
  | t :: l, [], d, hO, h => by rw [deepD]
  | t :: l, k :: ks, d, hO, h => by
    rw [depL] at h
    rw [OkL] at hO
    rw [deepD, deep_none t d hO.1 (by omega)]
    simp only
    rw [deepD_none l ks d hO.2 (by omega)]
    rfl
end
mutual
theorem deep_some : ∀ (t : T) (d : Nat), Ok t → d < dep t → ∃ k, deepAt d t = some k
  | .non, _, _, h => absurd h (Nat.not_lt_zero _)
  | .bl _, _, _, h => absurd h (Nat.not_lt_zero _)
  | .int _, _, _, h => absurd h (Nat.not_lt_zero _)
  | .str _, _, _, h => absurd h (Nat.not_lt_zero _)
  | .tup l, d, hO, h => by
    rw [dep] at h
    rw [Ok] at hO
    rw [deepAt.eq_def]
    cases d with
    | zero => exact ⟨_, rfl⟩
    | succ d =>
      obtain ⟨k, e⟩ := deepL_some l d hO.1 (by omega)
      exact ⟨k + 1, by simp only; rw [e]; rfl⟩
  | .lst l, d, hO, h => by
    rw [dep] at h
    rw [Ok] at hO
    rw [deepAt.eq_def]
    cases d with
    | zero => exact ⟨_, rfl⟩
    | succ d =>
      obtain ⟨k, e⟩ := deepL_some l d hO.1 (by omega)
      exact ⟨k + 1, by simp only; rw [e]; rfl⟩
  | .dic ks l, d, hO, h => by
    rw [dep] at h
    rw [Ok] at hO
    rw [deepAt.eq_def]
    cases d with
    | zero => exact ⟨_, rfl⟩
    | succ d =>
      obtain ⟨k, e⟩ := deepD_some l ks d hO.1 hO.2.2.1 (by omega)
      exact ⟨k + 1, by simp only; rw [e]; rfl⟩
theorem deepL_some : ∀ (l : List T) (d : Nat), OkL l → d < depL l → ∃ k, deepL d l = some k
  | [], d, _, h => by rw [depL] at h; omega
  | t :: l, d, hO, h => by
    rw [depL] at h
    rw [OkL] at hO
    rw [deepL]
    cases e : deepAt d t with
    | some k => exact ⟨_, rfl⟩
    | none =>
      by_cases ht : d < dep t
      · obtain ⟨k, e2⟩ := deep_some t d hO.1 ht
        rw [e] at e2
        cases e2
      · obtain ⟨k, e2⟩ := deepL_some l d hO.2 (by omega)
        exact ⟨_, by simp only; rw [e2]; rfl⟩
theorem deepD_some : ∀ (l : List T) (ks : List (List Nat)) (d : Nat), OkL l → ks.length = l.length → d < depL l → ∃ k, deepD d ks l = some k
  | [], _, d, _, _, h => by rw [depL] at h; omega
  | t :: l, [], d, _, hk, _ => by simp at hk
  | t :: l, k :: ks, d, hO, hk, h => by
    rw [depL] at h
    rw [OkL] at hO
    rw [deepD]
    cases e : deepAt d t with
    | some k => exact ⟨_, rfl⟩
    | none =>
      by_cases ht : d < dep t
      · obtain ⟨k, e2⟩ := deep_some t d hO.1 ht
        rw [e] at e2
        cases e2
      · obtain ⟨k, e2⟩ := deepD_some l ks d hO.2 (by simpa using hk) (by omega)
        exact ⟨_, by simp only; rw [e2]; rfl⟩
end
/-! ### the law's own counting: sign by sign -/
/-- an even number of carets ahead -/
def pend (W : List Nat) : Nat → Bool
  | 0 => true
  | i + 1 => if W[i]? = some 94 then !pend W i else true
def opens (c : Option Nat) : Bool := decide (c = some 40 ∨ c = some 91 ∨ c = some 123)
def shuts (c : Option Nat) : Bool := decide (c = some 41 ∨ c = some 93 ∨ c = some 125)
def turns (W : List Nat) (i : Nat) (b : Bool) : Bool := decide (W[i]? = some 39) && (decide (i = 0) || (!b || pend W i))
def stp (W : List Nat) (i : Nat) (s : Int × Bool) : Int × Bool :=
  if turns W i s.2 = true then (s.1, !s.2) else if (!s.2 && opens W[i]?) = true then (s.1 + 1, s.2) else if (!s.2 && shuts W[i]?) = true then (s.1 - 1, s.2) else s
def sts (W : List Nat) : Nat → Int × Bool
  | 0 => (0, false)
  | i + 1 => stp W i (sts W i)
def Hit (W : List Nat) (many : Int) (j : Nat) : Prop := (sts W j).2 = false ∧ opens W[j]? = true ∧ (sts W j).1 = many
def Go (W : List Nat) (many : Int) (i : Nat) (a : Int × Bool) (j : Nat) (b : Int × Bool) : Prop := sts W i = a → i ≤ j ∧ sts W j = b ∧ ∀ k, i ≤ k → k < j → ¬ Hit W many k
theorem Go.trans {W : List Nat} {many : Int} {i j k : Nat} {a b c : Int × Bool} (h1 : Go W many i a j b) (h2 : Go W many j b k c) : Go W many i a k c := fun e => by
  obtain ⟨l1, e1, n1⟩ := h1 e
  obtain ⟨l2, e2, n2⟩ := h2 e1
  exact ⟨by omega, e2, fun m a b => if h : m < j then n1 m a h else n2 m (by omega) b⟩
theorem Go.nil {W : List Nat} {many : Int} {i : Nat} {a : Int × Bool} : Go W many i a i a := fun e => ⟨Nat.le_refl _, e, fun k a b => by omega⟩
/-- a sign that changes nothing -/
def calm (c : Nat) : Bool := !decide (c = 39) && (!opens (some c) && !shuts (some c))
theorem go_calm {W : List Nat} {many : Int} {i c : Nat} {a : Int × Bool} (h : W[i]? = some c) (hc : calm c = true) : Go W many i a (i + 1) a := fun e => by
  unfold calm at hc
  simp only [Bool.and_eq_true, Bool.not_eq_true', decide_eq_false_iff_not] at hc
  refine ⟨by omega, ?_, fun k h1 h2 z => ?_⟩
  · rw [sts, e, stp]
    unfold turns
    rw [h, hc.2.1, hc.2.2, show decide (some c = some 39) = false from decide_eq_false (fun z => hc.1 (Option.some.inj z))]
    simp
  · have : k = i := by omega
    subst this
    have := z.2.1
    rw [h, hc.2.1] at this
    cases this
theorem go_calms {W : List Nat} {many : Int} {a : Int × Bool} : ∀ (x post : List Nat) (i : Nat), W.drop i = x ++ post → x.all calm = true → Go W many i a (i + x.length) a
  | [], _, i, _, _ => Go.nil
  | c :: x, post, i, h, hc => by
    rw [List.all_cons, Bool.and_eq_true] at hc
    obtain ⟨e1, h1⟩ := drop_cons (c := c) (r := x ++ post) h
    have := (go_calm (many := many) (a := a) e1 hc.1).trans (go_calms x post (i + 1) h1 hc.2)
    rw [show i + (c :: x).length = i + 1 + x.length from by rw [List.length_cons]; omega]
    exact this
/-- within a quoted text -/
theorem go_in {W : List Nat} {many h : Int} {i c : Nat} (e : W[i]? = some c) (ht : c = 39 → i ≠ 0 ∧ pend W i = false) : Go W many i (h, true) (i + 1) (h, true) := fun es => by
  refine ⟨by omega, ?_, fun k h1 h2 z => ?_⟩
  · rw [sts, es, stp]
    have : turns W i true = false := by
      unfold turns
      rw [e]
      by_cases hc : c = 39
      · obtain ⟨a, b⟩ := ht hc
        simp [a, b]
      · simp [hc]
    simp [this]
  · have : k = i := by omega
    subst this
    have := z.1
    rw [es] at this
    cases this
theorem pend_step {W : List Nat} {i c : Nat} (e : W[i]? = some c) : pend W (i + 1) = if c = 94 then !pend W i else true := by
  rw [pend, e]
  simp
theorem go_esc {W post : List Nat} {many h : Int} : ∀ (x : List Nat) (i : Nat), W.drop i = x.flatMap escT ++ post → pend W i = true → i ≠ 0 → Go W many i (h, true) (i + (x.flatMap escT).length) (h, true) ∧ pend W (i + (x.flatMap escT).length) = true
  | [], i, _, hp, _ => ⟨Go.nil, hp⟩
  | c :: x, i, hd, hp, h0 => by
    rw [List.flatMap_cons, List.append_assoc] at hd
    rw [List.flatMap_cons, List.length_append]
    by_cases h2 : c = 10 ∨ c = 39 ∨ c = 94
    · obtain ⟨e, he, hee⟩ : ∃ e, escT c = [94, e] ∧ (e = 110 ∨ e = 39 ∨ e = 94) := by
        unfold escT
        by_cases h10 : c = 10
        · rw [if_pos h10]; exact ⟨110, rfl, .inl rfl⟩
        · rw [if_neg h10, if_pos (by omega)]; exact ⟨c, rfl, by omega⟩
      rw [he] at hd ⊢
      obtain ⟨e1, d1⟩ := drop_cons (c := 94) (r := e :: (x.flatMap escT ++ post)) hd
      obtain ⟨e2, d2⟩ := drop_cons d1
      have p1 := pend_step e1
      rw [if_pos rfl, hp] at p1
      have p2 := pend_step e2
      have p2' : pend W (i + 1 + 1) = true := by
        rw [p2, p1]
        by_cases z : e = 94
        · rw [if_pos z]; rfl
        · rw [if_neg z]
      obtain ⟨g, q⟩ := go_esc (many := many) (h := h) x (i + 2) d2 p2' (by omega)
      have g1 := go_in (many := many) (h := h) e1 (fun z => by omega)
      have g2 := go_in (many := many) (h := h) e2 (fun z => ⟨by omega, p1⟩)
      rw [show i + ([94, e].length + (x.flatMap escT).length) = i + 2 + (x.flatMap escT).length from by simp; omega]
      exact ⟨(g1.trans g2).trans g, q⟩
    · have he : escT c = [c] := by
        unfold escT
        rw [if_neg (by omega), if_neg (by omega)]
      rw [he] at hd ⊢
      obtain ⟨e1, d1⟩ := drop_cons (c := c) (r := x.flatMap escT ++ post) hd
      have p1 := pend_step e1
      rw [if_neg (by omega)] at p1
      obtain ⟨g, q⟩ := go_esc (many := many) (h := h) x (i + 1) d1 p1 (by omega)
      have g1 := go_in (many := many) (h := h) e1 (fun z => by omega)
      rw [show i + ([c].length + (x.flatMap escT).length) = i + 1 + (x.flatMap escT).length from by simp; omega]
      exact ⟨g1.trans g, q⟩
theorem go_quo {W : List Nat} {many h : Int} {i : Nat} {b : Bool} (e : W[i]? = some 39) (ht : b = true → pend W i = true) : Go W many i (h, b) (i + 1) (h, !b) := fun es => by
  refine ⟨by omega, ?_, fun k h1 h2 z => ?_⟩
  · rw [sts, es, stp]
    have : turns W i b = true := by
      unfold turns
      rw [e]
      cases b with
      | false => simp
      | true => simp [ht rfl]
    simp [this]
  · have : k = i := by omega
    subst this
    have := z.2.1
    rw [e] at this
    cases this
theorem small_calm : ∀ x : List Nat, x.all small = true → x.all calm = true := fun x h => by
  rw [List.all_eq_true] at h ⊢
  intro c hc
  have hs := h c hc
  unfold calm opens shuts
  have a := fun d (hd : small d = false) => small_ne hs hd
  simp [a 39 rfl, a 40 rfl, a 41 rfl, a 91 rfl, a 93 rfl, a 123 rfl, a 125 rfl]
theorem go_word {W post : List Nat} {many h : Int} (x : List Nat) (i : Nat) (hd : W.drop i = wordT x ++ post) : Go W many i (h, false) (i + (wordT x).length) (h, false) := by
  by_cases hb : bareT x = true
  · have e : wordT x = x := by unfold wordT; rw [if_pos hb]
    rw [e] at hd ⊢
    exact go_calms x post i hd (small_calm x (bare_cons hb).2.2)
  · have e : wordT x = 39 :: (x.flatMap escT ++ [39]) := by unfold wordT; rw [if_neg hb]
    rw [e] at hd ⊢
    obtain ⟨e1, d1⟩ := drop_cons (c := 39) (r := x.flatMap escT ++ (39 :: post)) (by rw [hd]; simp)
    have p1 := pend_step e1
    rw [if_neg (by decide)] at p1
    obtain ⟨g, q⟩ := go_esc (many := many) (h := h) x (i + 1) d1 p1 (by omega)
    obtain ⟨e3, _⟩ := drop_cons (drop_add d1)
    have g1 := go_quo (many := many) (h := h) (b := false) e1 (fun z => nomatch z)
    have g3 := go_quo (many := many) (h := h) (b := true) e3 (fun _ => q)
    rw [show i + (39 :: (x.flatMap escT ++ [39])).length = i + 1 + (x.flatMap escT).length + 1 from by simp; omega]
    exact (g1.trans g).trans g3
theorem int_calm (z : Int) : (intT z).all calm = true := by
  rw [List.all_eq_true]
  intro c hc
  have hf : ∀ c, c ∈ TL.numL z.natAbs → calm c = true := fun c hc => by
    have := TL.numL_digits z.natAbs c hc
    unfold calm opens shuts
    simp
    omega
  unfold intT at hc
  by_cases hz : z < 0
  · rw [if_pos hz] at hc
    rcases List.mem_cons.mp hc with rfl | hc
    · decide
    · exact hf c hc
  · rw [if_neg hz] at hc
    exact hf c hc
theorem go_open {W : List Nat} {many h : Int} {i c : Nat} (e : W[i]? = some c) (hc : opens (some c) = true) (hm : h < many) : Go W many i (h, false) (i + 1) (h + 1, false) := fun es => by
  have h39 : c ≠ 39 := fun z => by rw [z] at hc; cases hc
  refine ⟨by omega, ?_, fun k h1 h2 z => ?_⟩
  · rw [sts, es, stp]
    unfold turns
    rw [e, hc, show decide (some c = some 39) = false from decide_eq_false (fun z => h39 (Option.some.inj z))]
    simp
  · have : k = i := by omega
    subst this
    have := z.2.2
    rw [es] at this
    have : h = many := this
    omega
theorem go_shut {W : List Nat} {many h : Int} {i c : Nat} (e : W[i]? = some c) (hc : shuts (some c) = true) (ho : opens (some c) = false) : Go W many i (h + 1, false) (i + 1) (h, false) := fun es => by
  have h39 : c ≠ 39 := fun z => by rw [z] at hc; cases hc
  refine ⟨by omega, ?_, fun k h1 h2 z => ?_⟩
  · rw [sts, es, stp]
    unfold turns
    rw [e, ho, hc, show decide (some c = some 39) = false from decide_eq_false (fun z => h39 (Option.some.inj z))]
    simp
  · have : k = i := by omega
    subst this
    have := z.2.1
    rw [e, ho] at this
    cases this
/-- what the counting finds of it -/
def Cnt (W : List Nat) (many h : Int) (i len : Nat) : Option Nat → Prop
  | none => Go W many i (h, false) (i + len) (h, false)
  | some k => sts W i = (h, false) → Hit W many (i + k) ∧ ∀ j, i ≤ j → j < i + k → ¬ Hit W many j
theorem Cnt.shift {W : List Nat} {many h h' : Int} {i j len k : Nat} (g : Go W many i (h', false) j (h, false)) (c : Cnt W many h j len (some k)) : Cnt W many h' i len (some (j - i + k)) := fun e => by
  obtain ⟨l1, e1, n1⟩ := g e
  obtain ⟨c1, c2⟩ := c e1
  rw [show i + (j - i + k) = j + k from by omega]
  exact ⟨c1, fun m a b => if hm : m < j then n1 m a hm else c2 m (by omega) b⟩
def CntAt (t : T) : Prop := Ok t → ∀ (d : Nat) (W : List Nat) (i : Nat) (post : List Nat) (many h : Int), W.drop i = spelt t ++ post → many = h + d → Cnt W many h i (spelt t).length (deepAt d t)
theorem cnt_tail {d : Nat} {W : List Nat} {many h : Int} (hm : many = h + d) : ∀ (l : List T), (∀ t ∈ l, CntAt t) → OkL l → ∀ (i : Nat) (post : List Nat), W.drop i = tl32 (spelts l) ++ post → Cnt W many h i (tl32 (spelts l)).length ((deepL d l).map (· + 1))
  | [], _, _, i, post, hd => Go.nil
  | t :: l, hA, hO, i, post, hd => by
    rw [OkL] at hO
    rw [spelts, tl32_cons] at hd ⊢
    obtain ⟨e1, h1⟩ := drop_cons (c := 32) (r := spelt t ++ (tl32 (spelts l) ++ post)) (by rw [hd]; simp)
    have g1 := go_calm (many := many) (a := (h, false)) e1 (by decide)
    have c1 := hA t (List.mem_cons_self ..) hO.1 d W (i + 1) _ many h h1 hm
    have h2 := drop_add h1
    have c2 := cnt_tail hm l (fun t ht => hA t (List.mem_cons_of_mem _ ht)) hO.2 _ post h2
    rw [deepL]
    cases ed : deepAt d t with
    | some k =>
      rw [ed] at c1
      have := Cnt.shift (len := (32 :: (spelt t ++ tl32 (spelts l))).length) g1 c1
      simp only [Option.map_some]
      rw [show k + 1 = i + 1 - i + k from by omega]
      exact this
    | none =>
      rw [ed] at c1
      simp only
      have g2 := g1.trans c1
      cases ed2 : deepL d l with
      | none =>
        rw [ed2] at c2
        simp only [Option.map_none]
        have := g2.trans c2
        show Go _ _ _ _ _ _
        rw [show i + (32 :: (spelt t ++ tl32 (spelts l))).length = i + 1 + (spelt t).length + (tl32 (spelts l)).length from by rw [List.length_cons, List.length_append]; omega]
        exact this
      | some k =>
        rw [ed2] at c2
        simp only [Option.map_some] at c2 ⊢
        have := Cnt.shift (len := (32 :: (spelt t ++ tl32 (spelts l))).length) g2 c2
        rw [show k + ((spelt t).length + 1) + 1 = i + 1 + (spelt t).length - i + (k + 1) from by omega]
        exact this
theorem cnt_list {d : Nat} {W : List Nat} {many h : Int} (hm : many = h + d) (l : List T) (hA : ∀ t ∈ l, CntAt t) (hO : OkL l) (i : Nat) (post : List Nat) (hd : W.drop i = joinB (spelts l) ++ post) : Cnt W many h i (joinB (spelts l)).length (deepL d l) := by
  cases l with
  | nil => exact Go.nil
  | cons t l =>
    rw [OkL] at hO
    rw [spelts, joinB_cons] at hd ⊢
    rw [List.append_assoc] at hd
    have c1 := hA t (List.mem_cons_self ..) hO.1 d W i _ many h hd hm
    have h2 := drop_add hd
    have c2 := cnt_tail hm l (fun t ht => hA t (List.mem_cons_of_mem _ ht)) hO.2 _ post h2
    rw [deepL]
    cases ed : deepAt d t with
    | some k =>
      rw [ed] at c1
      exact c1
    | none =>
      rw [ed] at c1
      simp only
      cases ed2 : deepL d l with
      | none =>
        rw [ed2] at c2
        simp only [Option.map_none]
        have := Go.trans c1 c2
        show Go _ _ _ _ _ _
        rw [List.length_append, ← Nat.add_assoc]
        exact this
      | some k =>
        rw [ed2] at c2
        simp only [Option.map_some] at c2 ⊢
        have := Cnt.shift (len := (spelt t ++ tl32 (spelts l)).length) c1 c2
        rw [show k + ((spelt t).length + 1) = i + (spelt t).length - i + (k + 1) from by omega]
        exact this
theorem cnt_ptail {d : Nat} {W : List Nat} {many h : Int} (hm : many = h + d) : ∀ (l : List T) (ks : List (List Nat)), ks.length = l.length → (∀ t ∈ l, CntAt t) → OkL l → ∀ (i : Nat) (post : List Nat), W.drop i = tl32 (pairsT ks (spelts l)) ++ post → Cnt W many h i (tl32 (pairsT ks (spelts l))).length ((deepD d ks l).map (· + 1))
  | [], ks, hk, _, _, i, post, hd => by
    have : ks = [] := List.eq_nil_of_length_eq_zero hk
    subst this
    rw [deepD]
    exact Go.nil
  | t :: l, [], hk, hA, hO, i, post, hd => by simp at hk
  | t :: l, q :: ks, hk, hA, hO, i, post, hd => by
    rw [OkL] at hO
    have ep : pairsT (q :: ks) (spelts (t :: l)) = (wordT q ++ 32 :: spelt t) :: pairsT ks (spelts l) := by rw [spelts]; rfl
    rw [ep, tl32_cons] at hd ⊢
    obtain ⟨e1, h1⟩ := drop_cons (c := 32) (r := wordT q ++ (32 :: (spelt t ++ (tl32 (pairsT ks (spelts l)) ++ post)))) (by rw [hd]; simp)
    have g1 := go_calm (many := many) (a := (h, false)) e1 (by decide)
    have g2 := go_word (many := many) (h := h) q _ h1
    obtain ⟨e2, h2⟩ := drop_cons (drop_add h1)
    have g3 := go_calm (many := many) (a := (h, false)) e2 (by decide)
    have g := (g1.trans g2).trans g3
    have c1 := hA t (List.mem_cons_self ..) hO.1 d W _ _ many h h2 hm
    have h3 := drop_add h2
    have c2 := cnt_ptail hm l ks (by simpa using hk) (fun t ht => hA t (List.mem_cons_of_mem _ ht)) hO.2 _ post h3
    rw [deepD]
    cases ed : deepAt d t with
    | some k =>
      rw [ed] at c1
      have := Cnt.shift (len := (32 :: (wordT q ++ 32 :: spelt t ++ tl32 (pairsT ks (spelts l)))).length) g c1
      simp only [Option.map_some]
      rw [show (wordT q).length + 1 + k + 1 = i + 1 + (wordT q).length + 1 - i + k from by omega]
      exact this
    | none =>
      rw [ed] at c1
      simp only
      have g4 := g.trans c1
      cases ed2 : deepD d ks l with
      | none =>
        rw [ed2] at c2
        simp only [Option.map_none]
        have := g4.trans c2
        show Go _ _ _ _ _ _
        rw [show i + (32 :: (wordT q ++ 32 :: spelt t ++ tl32 (pairsT ks (spelts l)))).length = i + 1 + (wordT q).length + 1 + (spelt t).length + (tl32 (pairsT ks (spelts l))).length from by
          rw [List.length_cons, List.length_append, List.length_append, List.length_cons]; omega]
        exact this
      | some k =>
        rw [ed2] at c2
        simp only [Option.map_some] at c2 ⊢
        have := Cnt.shift (len := (32 :: (wordT q ++ 32 :: spelt t ++ tl32 (pairsT ks (spelts l)))).length) g4 c2
        rw [show k + ((wordT q).length + 1 + (spelt t).length + 1) + 1 = i + 1 + (wordT q).length + 1 + (spelt t).length - i + (k + 1) from by omega]
        exact this
theorem cnt_dict {d : Nat} {W : List Nat} {many h : Int} (hm : many = h + d) (ks : List (List Nat)) (l : List T) (hk : ks.length = l.length) (hA : ∀ t ∈ l, CntAt t) (hO : OkL l) (i : Nat) (post : List Nat) (hd : W.drop i = joinB (pairsT ks (spelts l)) ++ post) : Cnt W many h i (joinB (pairsT ks (spelts l))).length (deepD d ks l) := by
  cases l with
  | nil =>
    have : ks = [] := List.eq_nil_of_length_eq_zero hk
    subst this
    rw [deepD]
    exact Go.nil
  | cons t l =>
    cases ks with
    | nil => simp at hk
    | cons q ks =>
      rw [OkL] at hO
      have ep : pairsT (q :: ks) (spelts (t :: l)) = (wordT q ++ 32 :: spelt t) :: pairsT ks (spelts l) := by rw [spelts]; rfl
      rw [ep, joinB_cons] at hd ⊢
      have h1 : W.drop i = wordT q ++ (32 :: (spelt t ++ (tl32 (pairsT ks (spelts l)) ++ post))) := by rw [hd]; simp
      have g2 := go_word (many := many) (h := h) q _ h1
      obtain ⟨e2, h2⟩ := drop_cons (drop_add h1)
      have g3 := go_calm (many := many) (a := (h, false)) e2 (by decide)
      have g := g2.trans g3
      have c1 := hA t (List.mem_cons_self ..) hO.1 d W _ _ many h h2 hm
      have h3 := drop_add h2
      have c2 := cnt_ptail hm l ks (by simpa using hk) (fun t ht => hA t (List.mem_cons_of_mem _ ht)) hO.2 _ post h3
      rw [deepD]
      cases ed : deepAt d t with
      | some k =>
        rw [ed] at c1
        have := Cnt.shift (len := (wordT q ++ 32 :: spelt t ++ tl32 (pairsT ks (spelts l))).length) g c1
        simp only
        rw [show (wordT q).length + 1 + k = i + (wordT q).length + 1 - i + k from by omega]
        exact this
      | none =>
        rw [ed] at c1
        simp only
        have g4 := g.trans c1
        cases ed2 : deepD d ks l with
        | none =>
          rw [ed2] at c2
          simp only [Option.map_none]
          have := g4.trans c2
          show Go _ _ _ _ _ _
          rw [show i + (wordT q ++ 32 :: spelt t ++ tl32 (pairsT ks (spelts l))).length = i + (wordT q).length + 1 + (spelt t).length + (tl32 (pairsT ks (spelts l))).length from by
            rw [List.length_append, List.length_append, List.length_cons]; omega]
          exact this
        | some k =>
          rw [ed2] at c2
          simp only [Option.map_some] at c2 ⊢
          have := Cnt.shift (len := (wordT q ++ 32 :: spelt t ++ tl32 (pairsT ks (spelts l))).length) g4 c2
          rw [show k + ((wordT q).length + 1 + (spelt t).length + 1) = i + (wordT q).length + 1 + (spelt t).length - i + (k + 1) from by omega]
          exact this
/-- a bracket, what is within, its end -/
theorem cnt_wrap {W : List Nat} {many h : Int} {i o e len : Nat} {r : Option Nat} (d : Nat) (hm : many = h + d) (ho : W[i]? = some o) (hoo : opens (some o) = true) (he : W[i + 1 + len]? = some e) (hs : shuts (some e) = true) (hse : opens (some e) = false)
    (hc : ∀ d', d = d' + 1 → Cnt W many (h + 1) (i + 1) len r) : Cnt W many h i (len + 2) (match d with | 0 => some 0 | d + 1 => r.map (· + 1)) := by
  cases d with
  | zero =>
    intro es
    refine ⟨?_, fun j a b => by omega⟩
    rw [Nat.add_zero]
    refine ⟨by rw [es], by rw [ho]; exact hoo, by rw [es]; show h = many; omega⟩
  | succ d =>
    have c := hc d rfl
    have g1 := go_open (many := many) ho hoo (h := h) (by omega)
    simp only
    cases r with
    | none =>
      have g3 := go_shut (many := many) (h := h) he hs hse
      have := (g1.trans c).trans g3
      show Go _ _ _ _ _ _
      rw [show i + (len + 2) = i + 1 + len + 1 from by omega]
      exact this
    | some k =>
      have := Cnt.shift (len := len + 2) g1 c
      simp only [Option.map_some]
      rw [show k + 1 = i + 1 - i + k from by omega]
      exact this
mutual
theorem cnt_at : ∀ t : T, CntAt t
  | .non => fun hO d W i post many h hd hm => by
    rw [deepAt]
    rw [spelt] at hd ⊢
    exact go_calms _ post i hd (by decide)
  | .bl b => fun hO d W i post many h hd hm => by
    rw [deepAt]
    rw [spelt] at hd ⊢
    exact go_calms _ post i hd (by cases b <;> decide)
  | .int z => fun hO d W i post many h hd hm => by
    rw [deepAt]
    rw [spelt] at hd ⊢
    exact go_calms _ post i hd (int_calm z)
  | .str x => fun hO d W i post many h hd hm => by
    rw [deepAt]
    rw [spelt] at hd ⊢
    exact go_word x i hd
  | .tup l => fun hO d W i post many h hd hm => by
    rw [spelt] at hd ⊢
    rw [deepAt.eq_def]
    rw [Ok] at hO
    obtain ⟨e1, h1⟩ := drop_cons (c := 40) (r := joinB (spelts l) ++ 41 :: post) (by rw [hd]; simp)
    have e2 := (drop_cons (drop_add h1)).1
    have := cnt_wrap (r := deepL (d - 1) l) d hm e1 rfl e2 rfl rfl fun d' ed => cnt_list (by omega) l (cnts_at l) hO.1 (i + 1) _ h1
    rw [show (40 :: (joinB (spelts l) ++ [41])).length = (joinB (spelts l)).length + 2 from by simp]
    cases d with
    | zero => exact this
    | succ d => exact this
  | .lst l => fun hO d W i post many h hd hm => by
    rw [spelt] at hd ⊢
    rw [deepAt.eq_def]
    rw [Ok] at hO
    obtain ⟨e1, h1⟩ := drop_cons (c := 91) (r := joinB (spelts l) ++ 93 :: post) (by rw [hd]; simp)
    have e2 := (drop_cons (drop_add h1)).1
    have := cnt_wrap (r := deepL (d - 1) l) d hm e1 rfl e2 rfl rfl fun d' ed => cnt_list (by omega) l (cnts_at l) hO.1 (i + 1) _ h1
    rw [show (91 :: (joinB (spelts l) ++ [93])).length = (joinB (spelts l)).length + 2 from by simp]
    cases d with
    | zero => exact this
    | succ d => exact this
  | .dic ks l => fun hO d W i post many h hd hm => by
    rw [spelt] at hd ⊢
    rw [deepAt.eq_def]
    rw [Ok] at hO
    obtain ⟨e1, h1⟩ := drop_cons (c := 123) (r := joinB (pairsT ks (spelts l)) ++ 125 :: post) (by rw [hd]; simp)
    have e2 := (drop_cons (drop_add h1)).1
    have := cnt_wrap (r := deepD (d - 1) ks l) d hm e1 rfl e2 rfl rfl fun d' ed => cnt_dict (by omega) ks l hO.2.2.1 (cnts_at l) hO.1 (i + 1) _ h1
    rw [show (123 :: (joinB (pairsT ks (spelts l)) ++ [125])).length = (joinB (pairsT ks (spelts l))).length + 2 from by simp]
    cases d with
    | zero => exact this
    | succ d => exact this
theorem cnts_at : ∀ l : List T, ∀ t ∈ l, CntAt t
  | [] => fun t h => nomatch h
  | u :: l => fun t h => by
    rcases List.mem_cons.mp h with e | h
    · rw [e]; exact cnt_at u
    · exact cnts_at l t h
end
end K97

set_option Elab.async false
set_option linter.all false
set_option maxRecDepth 100000
set_option maxHeartbeats 4000000
/-! The law's purse, draws. -/
namespace K97
open PySem PySem.Spec PyProof.Rows L2 Lk SX
local macro_rules | `(tactic| walk_at "r") => `(tactic| simp only [tSeq, tNext, tRet, tRetN, tIfS, tDrop, tAsg, tAug, tFor, tWhile, tAndV, tOrV, tNotV, tAnd, tOr, tNot, tB, tTest, tIf, tIsN, tNotN, tOp, tVar, tC, tCB, tPar, tCons, tNil, tLc, tYes, tTup, tLst, tCall, tMeth, tFld, tSl, tPart, tNoPart, tM1, tBM, tVeI, tOst, sFld, sFldAug, tMkO, tMake, tTGet, gName, gNil, gCons, gTup, gUnl, gSub, iAny, iRng1, iKeys, iVals,
  List.getElem?_cons_zero, List.getElem?_cons_succ, List.set_cons_zero, List.set_cons_succ, Option.some.injEq, V.str.injEq, V.bl.injEq, V.int.injEq, V.ref.injEq, exists_and_left, exists_eq_left', exists_eq_left, exists_eq, cxK, cxW, HO.ins.injEq, and_assoc, upd_same, true_and, and_true, reduceCtorEq, false_and, and_false, exists_false, or_false, false_or, if_true, if_false, List.cons_append, List.nil_append, add_ii, add_ss, sub_ii, mul_ii, mod_ii, fdiv_ii, pow_ii, lt_ii, le_ii, gt_ii, ge_ii, lt_ss, le_ss, iadd_ii, iadd_ss, in_ss, ix_si, ix_ri, ix_rs, sl_s, sl_r, eq_ss, eq_ii, eq_bb, eq_nn, eq_rr, int1_i, int1_b, int1_s, min2_ii, set_rs, set_ri, Bool.true_xor, Bool.false_xor, Bool.not_eq_true', wipe, List.map_cons, List.map_nil, S_eq, S_cat, S_len, lit1, lit3, lit5, lit6, lit7, lit8, lit9, lit10, lit11, lit12, lit13, lit14, lit15, lit16, lit17, lit18, lit19, lit21, lit23, lit24, lit26, lit27, lit28, lit29, lit30, lit31, lit32, lit33, lit34, lit35, lit36, lit37, lit38, lit39, lit40, lit41, lit42, lit101, lit102, lit103, lit104, lit105, lit106, lit107, lit108, lit109, lit110, lit111, lit112, lit113, lit114, lit115])
abbrev bigC : Int := (10 ^ 60) ^ 60
/-- the purse: what is drawn from, how many draws went -/
structure Pu (p c : Addr) (n : Nat) (H : Hp) : Prop where
  ne : p ≠ c
  ex : ∃ cs : List Int, H p = some (.lst [.ref c, .int (n : Int)]) ∧ H c = some (.lst (cs.map V.int)) ∧ 1 ≤ cs.length ∧ cs.length ≤ 63 ∧ ∀ x ∈ cs, 0 ≤ x ∧ x < bigC
/-- what is there but the purse stays -/
def Off (p c : Addr) (H H' : Hp) : Prop := ∀ b o, b ≠ p → b ≠ c → H b = some o → H' b = some o
section
variable {P : Program} {w : World} {K : PySem.W.Frag} {mg : Str → Option Value} {base : Heap} {f : Addr} {fd : FuncData}
def spPurse {K : PySem.W.Frag} : Sp := fun vs H Q E => ∃ (a : Addr) (xs : List Int), vs = [.ref a] ∧ SqL K H a (xs.map V.int) ∧ xs.length ≤ 63 ∧ ∀ p c H', Pu p c 0 H' → Same H H' → H p = none → H c = none → Q (.ref p) H'
def spDraw : Sp := fun vs H Q E => ∃ (p c : Addr) (n : Nat) (m : Int), vs = [.ref p, .int m] ∧ Pu p c n H ∧ n ≤ 1000000 ∧ 1 ≤ m ∧ m ≤ 10 ^ 30 ∧ ∀ i H', 0 ≤ i → i < m → Pu p c (n + 1) H' → Off p c H H' → Q (.int i) H'
theorem mulA {i j : Int} (a : i.natAbs < 2 ^ 200) (b : j.natAbs < 2 ^ 200) : CMulW i j := wide_mul a b (by decide) (by decide) (by decide)
theorem modB {i j : Int} (h : 0 < j) : 0 ≤ i % j ∧ i % j < j := ⟨Int.emod_nonneg _ (by omega), Int.emod_lt_of_pos _ h⟩
theorem sq_lt {x y : Int} {a b : Nat} (hx : x.natAbs < 2 ^ a) (hy : y.natAbs < 2 ^ b) : (x * y).natAbs < 2 ^ (a + b) := by
  rw [Int.natAbs_mul, Nat.pow_add]
  exact Nat.mul_lt_mul'' hx hy
theorem pu_step {p c : Addr} {n : Nat} {H : Hp} {cs : List Int} (ne : p ≠ c) (hc : H c = some (.lst (cs.map V.int))) (h1 : 1 ≤ cs.length) (h2 : cs.length ≤ 63) (h3 : ∀ x ∈ cs, 0 ≤ x ∧ x < bigC) : Pu p c (n + 1) (upd H p (.lst [.ref c, .int ((n : Int) + 1)])) :=
  ⟨ne, cs, by rw [upd_same]; rfl, by rw [upd_ne (Ne.symm ne)]; exact hc, h1, h2, h3⟩
theorem ok_law_draw (T : Tx K w mg)
    (F : FunD K "_law_draw" "_law_draw" (defArgs s_law_draw) (defBody s_law_draw) (defScope s_law_draw) [] [] f fd) : FnOk P w K mg base (L2.CX P w) 2 f fd ["purse", "out_of"] spDraw := by
  refine F.ok sc_law_draw (fun vs H Q E h => by obtain ⟨p, c, n, m, rfl, _⟩ := h; rfl) (fun cdv A outer s H vs Q E hr h => ?_)
  have nd := (sc_law_draw).nd
  refine ⟨_, (pss_cons
  (ps_asg (pv 0) (pg_unl (n := 2) rfl (pgs_cons (pg_name (i := 2) nd rfl (by first | exact Or.inl rfl | exact Or.inr rfl)) (pgs_cons (pg_name (i := 3) nd rfl (by first | exact Or.inl rfl | exact Or.inr rfl)) pgs_nil))))
  (pss_cons
  (ps_set (i := 4) nd rfl (by first | exact Or.inl rfl | exact Or.inr rfl) (pe_op op_modA (pv 3) (pe_callB (k_len K rfl) (by rfl) T.b_len Lk.boot_len (pa_cons (pv 2) pa_nil))))
  (pss_cons
  (ps_set (i := 5) nd rfl (by first | exact Or.inl rfl | exact Or.inr rfl) (pe_ix (k_ix K w rfl rfl) (pv 2) (pv 4) (fun _ _ => rfl)))
  (pss_cons
  (ps_asg (pe_op op_addA (pv 3) pe_int) (pg_sub (pv 0) pe_int (Lk.set_dictA (Lk.hu1 hr))))
  (pss_cons
  (ps_if (pt_cmpR (op_geA) (pv 5) (pe_op op_powA pe_int pe_int) rfl)
   (pss_cons
    (ps_asg (pe_op op_fdivA (pv 5) (pv 1)) (pg_sub (pv 2) (pv 4) (Lk.set_dictA (Lk.hu1 hr))))
    (pss_one
    (ps_ret (pe_op op_modA (pv 5) (pv 1)))))
   pss_nil)
  (pss_cons
  (ps_set (i := 6) nd rfl (by first | exact Or.inl rfl | exact Or.inr rfl) (pe_op op_modA (pe_op op_addA (pe_op op_addA (pe_op op_mulA (pe_op op_modA (pv 5) pe_int) pe_int) (pe_op op_mulA (pe_op op_mulA (pv 3) (pv 3)) pe_int)) pe_int) pe_int))
  (pss_cons
  (ps_set (i := 6) nd rfl (by first | exact Or.inl rfl | exact Or.inr rfl) (pe_op op_modA (pe_op op_mulA (pv 6) (pv 6)) pe_int))
  (pss_cons
  (ps_set (i := 6) nd rfl (by first | exact Or.inl rfl | exact Or.inr rfl) (pe_op op_modA (pe_op op_mulA (pv 6) (pv 6)) pe_int))
  (pss_cons
  (ps_if (pt_cmpR (op_gtA) (pv 1) (pe_op op_powA pe_int pe_int) rfl)
   (pss_cons
    (ps_set (i := 7) nd rfl (by first | exact Or.inl rfl | exact Or.inr rfl) (pe_op op_modA (pe_op op_addA (pe_op op_addA (pe_op op_mulA (pv 6) pe_int) (pe_op op_mulA (pv 3) pe_int)) pe_int) pe_int))
    (pss_one
    (ps_set (i := 6) nd rfl (by first | exact Or.inl rfl | exact Or.inr rfl) (pe_op op_mulA (pv 6) (pe_op op_addA (pe_op op_mulA (pe_op op_mulA (pv 7) (pv 7)) (pv 7)) pe_int)))))
   pss_nil)
  (pss_one
  (ps_ret (pe_op op_modA (pv 6) (pv 1))))))))))))), ?_⟩
  obtain ⟨p, c, n, m, rfl, hp, hn, hm1, hm2, q⟩ := h
  rw [show L2.start N_law_draw [V.ref p, V.int m] = [some (.ref p), some (.int m), none, none, none, none, none, none] from rfl]
  walk_at "r"
  obtain ⟨ne, cs, hp0, hc0, h1, h2, h3⟩ := hp
  refine ⟨_, .inl (.of hp0), rfl, _, _, rfl, _, _, rfl, rfl, cs.length, .inl ⟨_, .inl (.of hc0), by simp⟩, ?_⟩
  show rModA (V.int (n : Int)) (V.int (cs.length : Int)) _ _
  rw [mod_ii]
  refine ⟨by omega, ?_⟩
  rw [← Int.natCast_emod]
  have hj : n % cs.length < cs.length := Nat.mod_lt _ (by omega)
  generalize n % cs.length = j at hj
  obtain ⟨x, hx⟩ : ∃ x, cs[j]? = some x := ⟨cs[j], by simp [hj]⟩
  have hb := h3 x (List.mem_of_getElem? hx)
  refine ⟨_, V.int x, .inl (.inl (.of hc0)), atI_nat (by rw [List.getElem?_map, hx]; rfl), ?_⟩
  show rAddA (V.int (n : Int)) (V.int 1) _ _
  rw [add_ii]
  refine ⟨_, hp0, 1, rfl, ⟨by decide, by decide +kernel⟩, ?_⟩
  have hp1 := pu_step (n := n) ne hc0 h1 h2 h3
  have hc1 : upd H p (.lst [.ref c, .int ((n : Int) + 1)]) c = some (.lst (cs.map V.int)) := by rw [upd_ne (Ne.symm ne)]; exact hc0
  have o1 : Off p c H (upd H p (.lst [.ref c, .int ((n : Int) + 1)])) := fun b o h1 h2 e => by rw [upd_ne h1]; exact e
  show rGeA (V.int x) (V.int (10 ^ Int.toNat 18)) (upd H p (.lst [.ref c, .int ((n : Int) + 1)])) _
  generalize upd H p (.lst [.ref c, .int ((n : Int) + 1)]) = H1 at hp1 hc1 o1 ⊢
  rw [ge_ii]
  refine ⟨_, rfl, ?_⟩
  by_cases hge : (10 ^ Int.toNat 18 : Int) ≤ x
  · rw [if_pos (by simpa using hge)]
    show rFdivA (V.int x) (V.int m) _ _
    rw [fdiv_ii]
    refine ⟨wide_div (b := 100) (by omega) (by omega) (by decide) (by decide), ?_⟩
    refine ⟨_, j, hc1, by unfold ixN; rw [if_pos (by omega), if_pos (by rw [List.length_map]; omega)]; rfl, ?_⟩
    show rModA (V.int x) (V.int m) _ _
    rw [mod_ii]
    obtain ⟨ne', cs', hpp, hcc, _⟩ := hp1
    refine ⟨by omega, q _ _ (modB (by omega)).1 (modB (by omega)).2 ⟨ne, cs.set j (x / m), by rw [upd_ne ne]; exact hpp, by rw [upd_same, List.map_set], by rw [List.length_set]; omega, by rw [List.length_set]; omega, fun y hy => ?_⟩ fun b o b1 b2 e => by rw [upd_ne b2]; exact o1 b o b1 b2 e⟩
    rcases List.mem_or_eq_of_mem_set hy with hy | rfl
    · exact h3 y hy
    · have := Int.ediv_nonneg (a := x) (b := m) hb.1 (by omega)
      have := Int.ediv_le_self (a := x) m hb.1
      omega
  · rw [if_neg (by simpa using hge)]
    show rModA (V.int x) _ _ _
    rw [mod_ii]
    refine ⟨by decide, ?_⟩
    have b1 := modB (i := x) (j := 2147483629) (by decide)
    generalize x % 2147483629 = x1 at b1
    rw [mul_ii]
    refine ⟨mulA (by omega) (by decide), ?_⟩
    show rMulA (V.int (n : Int)) (V.int (n : Int)) _ _
    rw [mul_ii]
    refine ⟨mulA (by omega) (by omega), ?_⟩
    have b2 : ((n : Int) * (n : Int)).natAbs < 2 ^ 40 := sq_lt (a := 20) (b := 20) (by omega) (by omega)
    rw [mul_ii]
    refine ⟨mulA (by omega) (by decide), ?_⟩
    rw [add_ii, add_ii, mod_ii]
    refine ⟨by decide, ?_⟩
    have b3 := modB (i := x1 * 48271 + (n : Int) * (n : Int) * 69621 + 11) (j := 2147483647) (by decide)
    generalize (x1 * 48271 + (n : Int) * (n : Int) * 69621 + 11) % 2147483647 = x2 at b3
    rw [mul_ii]
    refine ⟨mulA (by omega) (by omega), ?_⟩
    rw [mod_ii]
    refine ⟨by decide, ?_⟩
    have b4 := modB (i := x2 * x2) (j := 2147483629) (by decide)
    generalize x2 * x2 % 2147483629 = x3 at b4
    rw [mul_ii]
    refine ⟨mulA (by omega) (by omega), ?_⟩
    rw [mod_ii]
    refine ⟨by decide, ?_⟩
    have b5 := modB (i := x3 * x3) (j := 2147483587) (by decide)
    generalize x3 * x3 % 2147483587 = x4 at b5
    refine ⟨⟨by decide, by decide +kernel⟩, ?_⟩
    by_cases hbig : (10 ^ Int.toNat 9 : Int) < m
    · rw [if_pos (by simpa using hbig)]
      rw [mul_ii]
      refine ⟨mulA (by omega) (by decide), ?_⟩
      show rMulA (V.int (n : Int)) (V.int 7919) _ _
      rw [mul_ii]
      refine ⟨mulA (by omega) (by decide), ?_⟩
      rw [add_ii, add_ii, mod_ii]
      refine ⟨by decide, ?_⟩
      have b6 := modB (i := x4 * 39373 + (n : Int) * 7919 + 500) (j := 2147483629) (by decide)
      generalize (x4 * 39373 + (n : Int) * 7919 + 500) % 2147483629 = x5 at b6
      rw [mul_ii]
      refine ⟨mulA (by omega) (by omega), ?_⟩
      have b7 : (x5 * x5).natAbs < 2 ^ 64 := sq_lt (a := 32) (b := 32) (by omega) (by omega)
      rw [mul_ii]
      refine ⟨mulA (by omega) (by omega), ?_⟩
      have b8 : (x5 * x5 * x5).natAbs < 2 ^ 96 := sq_lt (a := 64) (b := 32) b7 (by omega)
      rw [add_ii, mul_ii]
      refine ⟨mulA (by omega) (by omega), ?_⟩
      rw [mod_ii]
      exact ⟨by omega, q _ _ (modB (by omega)).1 (modB (by omega)).2 hp1 o1⟩
    · rw [if_neg (by simpa using hbig)]
      rw [mod_ii]
      exact ⟨by omega, q _ _ (modB (by omega)).1 (modB (by omega)).2 hp1 o1⟩
theorem cutV_all {xs : List V} (h : xs.length ≤ 63) : cutV xs none (some 63) = xs := by
  unfold cutV
  have e1 : HT.sIx xs.length 0 none = 0 := rfl
  have e2 : HT.sIx xs.length xs.length (some 63) = xs.length := by
    unfold HT.sIx
    simp
    omega
  rw [e1, e2, List.drop_zero, Nat.sub_zero, List.take_length]
theorem ok_law_purse (T : Tx K w mg)
    (F : FunD K "_law_purse" "_law_purse" (defArgs s_law_purse) (defBody s_law_purse) (defScope s_law_purse) [] [] f fd) : FnOk P w K mg base (L2.CX P w) 2 f fd ["script"] (spPurse (K := K)) := by
  refine F.ok sc_law_purse (fun vs H Q E h => by obtain ⟨a, xs, rfl, _⟩ := h; rfl) (fun cdv A outer s H vs Q E hr h => ?_)
  have nd := (sc_law_purse).nd
  refine ⟨_, (pss_cons
  (ps_setLcX (i := 1) (own := [("cell", 2)]) (g := gName 2) (tt := tYes) tk0 rfl rfl rfl nd rfl rfl (sw_true rfl rfl rfl (by decide +kernel)) (blkOk_by (own := [("cell", 2)]) (N := N_law_purse) (sc := defScope s_law_purse) (by decide +kernel)) (pi_any (pe_slice (k_sl K rfl) (pv 0) po_none (po_some pe_int))) (fun _ _ _ _ _ _ => (pg_name (i := 2) nd rfl (Or.inl rfl))) (fun _ _ _ _ _ _ px => pts_nil) (fun _ _ _ _ _ _ px => (pe_op op_modA (pv 2) (pe_op op_powA (pe_op op_powA pe_int pe_int) pe_int))))
  (pss_cons
  (ps_if (pt_cmpR (k_eq K rfl (Lk.hu0 hr)) (pv 1) (pe_lst pa_nil) rfl)
   (pss_one
    (ps_set (i := 1) nd rfl (by first | exact Or.inl rfl | exact Or.inr rfl) (pe_lst (pa_cons pe_int pa_nil))))
   pss_nil)
  (pss_one
  (ps_ret (pe_lst (pa_cons (pv 1) (pa_cons pe_int pa_nil))))))), ?_⟩
  obtain ⟨a, xs, rfl, hx, h63, q⟩ := h
  rw [show L2.start N_law_purse [V.ref a] = [some (.ref a), none, none] from rfl]
  walk_at "r"
  refine ⟨_, hx, fun p0 np0 => .inl ⟨_, .inl (.of upd_same), fun D nD => ?_⟩⟩
  have ecut : cutV (xs.map V.int) none (some 63) = xs.map V.int := cutV_all (by rw [List.length_map]; omega)
  rw [ecut] at nD ⊢
  have s0 := Same.new (o := HO.lst (xs.map V.int)) np0
  refine lc_acc walk_list (xs := fun i => (xs.take i).map fun x => V.int (x % bigC)) nD rfl (fun H' s => .inl (.of (s _ _ upd_same))) ?_ ?_
  · rintro i x Hi H' hi sm hD ⟨rfl, hx⟩
    obtain ⟨z, hz, rfl⟩ : ∃ z, xs[i]? = some z ∧ V.int z = x := by
      rw [List.getElem?_map] at hx
      cases e : xs[i]? with
      | none => rw [e] at hx; cases hx
      | some z => rw [e] at hx; exact ⟨z, rfl, Option.some.inj hx⟩
    refine ⟨⟨by decide, by decide +kernel⟩, ⟨by decide, by decide +kernel⟩, ?_⟩
    rw [mod_ii]
    refine ⟨by decide +kernel, ?_⟩
    refine acc_put sm nD hD ?_ (take_map (r := fun x => V.int (x % bigC)) hz)
    rw [List.length_map, List.length_take, sizeLine_eq]
    omega
  · intro H5 sm hD
    rw [List.length_map, List.take_length] at hD
    have e : (xs.map fun x => V.int (x % bigC)) = (xs.map (· % bigC)).map V.int := by rw [List.map_map]; rfl
    rw [e] at hD
    have sA := s0.trans sm
    have hpos : (0 : Int) < bigC := by decide +kernel
    refine ⟨by show 0 ≤ sizeLine; decide, fun p1 np1 => ⟨_, .inl (.of (Same.new np1 _ _ hD)), [], .inl (.of upd_same), fun z => by cases hh : (xs.map (· % bigC)).map V.int with | nil => rfl | cons a b => rw [hh] at z; simp at z, ?_⟩⟩
    have sB := sA.trans (Same.new (o := HO.lst []) np1)
    by_cases hnil : xs = []
    · subst hnil
      rw [if_pos (by simp)]
      refine ⟨by show 1 ≤ sizeLine; decide, fun p2 np2 => ⟨by show 2 ≤ sizeLine; decide, fun p3 np3 => ?_⟩⟩
      have h23 : p3 ≠ p2 := fun z => by rw [z, upd_same] at np3; cases np3
      have sC := sB.trans (Same.new (o := HO.lst [V.int 0]) np2)
      have nH : ∀ {b : Addr} {H' : Hp}, Same H H' → H' b = none → H b = none := fun {b H'} s n => by
        cases e : H b with
        | none => rfl
        | some o => rw [s _ _ e] at n; cases n
      exact q p3 p2 _ ⟨h23, [0], upd_same, by rw [upd_ne (Ne.symm h23), upd_same]; rfl, by simp, by simp, fun x hx => by rw [List.mem_singleton.mp hx]; exact ⟨by omega, hpos⟩⟩ (sC.trans (Same.new np3)) (nH sC np3) (nH sB np2)
    · rw [if_neg (by simpa using hnil)]
      refine ⟨by show 2 ≤ sizeLine; decide, fun p3 np3 => ?_⟩
      have hDp : D ≠ p3 := fun z => by rw [← z, Same.new np1 _ _ hD] at np3; cases np3
      have nH : ∀ {b : Addr} {H' : Hp}, Same H H' → H' b = none → H b = none := fun {b H'} s n => by
        cases e : H b with
        | none => rfl
        | some o => rw [s _ _ e] at n; cases n
      have hlen : 0 < xs.length := List.length_pos_iff.mpr hnil
      exact q p3 D _ ⟨Ne.symm hDp, _, upd_same, by rw [upd_ne hDp]; exact Same.new np1 _ _ hD, by rw [List.length_map]; omega, by rw [List.length_map]; omega, fun x hx => by
        obtain ⟨z, _, rfl⟩ := List.mem_map.mp hx
        exact modB hpos⟩ (sB.trans (Same.new np3)) (nH sB np3) (nH s0 nD)
theorem Pu.ne_of {p c D : Addr} {n : Nat} {H : Hp} (h : Pu p c n H) (e : H D = none) : D ≠ p ∧ D ≠ c := by
  obtain ⟨_, cs, h1, h2, _⟩ := h
  exact ⟨fun z => by (rw [z, h1] at e; cases e), fun z => by (rw [z, h2] at e; cases e)⟩
theorem Pu.upd {p c D : Addr} {n : Nat} {H : Hp} {o : HO} (h : Pu p c n H) (a : D ≠ p ∧ D ≠ c) : Pu p c n (L2.upd H D o) := by
  obtain ⟨ne, cs, h1, h2, h3⟩ := h
  exact ⟨ne, cs, by rw [upd_ne (Ne.symm a.1)]; exact h1, by rw [upd_ne (Ne.symm a.2)]; exact h2, h3⟩
theorem Off.rfl' {p c : Addr} {H : Hp} : Off p c H H := fun _ _ _ _ h => h
theorem Off.trans {p c : Addr} {H H1 H2 : Hp} (a : Off p c H H1) (b : Off p c H1 H2) : Off p c H H2 := fun x o h1 h2 e => b x o h1 h2 (a x o h1 h2 e)
theorem Same.off {p c : Addr} {H H' : Hp} (s : Same H H') : Off p c H H' := fun x o _ _ e => s x o e
theorem Off.put {p c D : Addr} {H H1 : Hp} {o : HO} (a : Off p c H H1) (n : H D = none) : Off p c H (L2.upd H1 D o) := fun x u h1 h2 e => by
  rw [upd_ne (ne_of_none e n)]
  exact a x u h1 h2 e
/-- a text by the law: short, and none has both a blank and a bracket -/
def brk (c : Nat) : Bool := decide (c ∈ [40, 41, 91, 93, 123, 125])
def okX (x : List Nat) : Prop := x.length ≤ 9 ∧ ((∀ c ∈ x, brk c = false) ∨ ((∀ c ∈ x, c ≠ 32) ∧ x.length ≤ 4))
mutual
def LawT : T → Prop
  | .int i => i.natAbs < 10 ^ 29
  | .str x => okX x
  | .tup l => LawL l
  | .lst l => LawL l
  | .dic ks l => (∀ k ∈ ks, okX k) ∧ LawL l
  | .non => True
  | .bl _ => True
def LawL : List T → Prop
  | [] => True
  | t :: l => LawT t ∧ LawL l
end
theorem lawL_of : ∀ {l : List K97.T}, (∀ t ∈ l, LawT t) → LawL l
  | [], _ => by rw [LawL]; trivial
  | t :: l, h => by
    rw [LawL]
    exact ⟨h t (List.mem_cons_self ..), lawL_of fun u hu => h u (List.mem_cons_of_mem _ hu)⟩
theorem lawL_mem : ∀ {l : List K97.T} {t : K97.T}, LawL l → t ∈ l → LawT t
  | u :: l, t, h, m => by
    rw [LawL] at h
    rcases List.mem_cons.mp m with rfl | m
    · exact h.1
    · exact lawL_mem h.2 m
def spTextL : Sp := fun vs H Q E => ∃ (p c : Addr) (n : Nat), vs = [.ref p] ∧ Pu p c n H ∧ n + 20 ≤ 1000000 ∧ ∀ x m H', okX x → m ≤ n + 20 → Pu p c m H' → Off p c H H' → Q (.str (S x)) H'
theorem flat1 : ∀ xs : List Nat, (xs.map fun c => [c]).flatten = xs
  | [] => rfl
  | c :: xs => by rw [List.map_cons, List.flatten_cons, flat1 xs]; rfl
theorem ok_law_text (T : Tx K w mg) (c_law_draw : Fn P w K mg base 2 "_law_draw" [] spDraw)
    (F : FunD K "_law_text" "_law_text" (defArgs s_law_text) (defBody s_law_text) (defScope s_law_text) [] [] f fd) : FnOk P w K mg base (L2.CX P w) 4 f fd ["purse"] spTextL := by
  refine F.ok sc_law_text (fun vs H Q E h => by obtain ⟨p, c, n, rfl, _⟩ := h; rfl) (fun cdv A outer s H vs Q E hr h => ?_)
  have nd := (sc_law_text).nd
  refine ⟨_, (pss_cons
  (ps_set (i := 1) nd rfl (by first | exact Or.inl rfl | exact Or.inr rfl) (pe_fn c_law_draw (hr.mono (by omega)) pass_def (pa_cons (pv 0) (pa_cons pe_int pa_nil))))
  (pss_cons
  (ps_if (pt_cmpR (k_eq K rfl (Lk.hu0 hr)) (pv 1) pe_int rfl)
   (pss_one
    (ps_ret (pe_ix (k_ix K w rfl rfl) (pe_lst (pa_cons pe_str (pa_cons pe_str (pa_cons pe_str (pa_cons pe_str (pa_cons pe_str (pa_cons pe_str (pa_cons pe_str (pa_cons pe_str pa_nil))))))))) (pe_fn c_law_draw (hr.mono (by omega)) pass_def (pa_cons (pv 0) (pa_cons pe_int pa_nil))) (fun _ _ => rfl))))
   pss_nil)
  (pss_cons
  (ps_if (pt_cmpR (k_eq K rfl (Lk.hu0 hr)) (pv 1) pe_int rfl)
   (pss_one
    (ps_ret (pe_join pe_str (pe_lcX (own := [("sign", 2)]) (g := gName 2) (tt := tYes) tk0 rfl rfl rfl nd (blkOk_by (own := [("sign", 2)]) (N := N_law_text) (sc := defScope s_law_text) (by decide +kernel)) (pi_range1 rfl T.b_range (pa_cons (pe_fn c_law_draw (hr.mono (by omega)) pass_def (pa_cons (pv 0) (pa_cons pe_int pa_nil))) pa_nil)) (fun _ _ _ _ _ _ => (pg_name (i := 2) nd rfl (Or.inl rfl))) (fun _ _ _ _ _ _ px => pts_nil) (fun _ _ _ _ _ _ px => (pe_ix (k_ix K w rfl rfl) pe_str (pe_fn c_law_draw (hr.mono (by omega)) px (pa_cons (pv 0) (pa_cons pe_int pa_nil))) (fun _ _ => rfl)))))))
   pss_nil)
  (pss_cons
  (ps_if (pt_cmpR (k_eq K rfl (Lk.hu0 hr)) (pv 1) pe_int rfl)
   (pss_one
    (ps_ret (pe_join pe_str (pe_lcX (own := [("sign", 2)]) (g := gName 2) (tt := tYes) tk0 rfl rfl rfl nd (blkOk_by (own := [("sign", 2)]) (N := N_law_text) (sc := defScope s_law_text) (by decide +kernel)) (pi_range1 rfl T.b_range (pa_cons (pe_fn c_law_draw (hr.mono (by omega)) pass_def (pa_cons (pv 0) (pa_cons pe_int pa_nil))) pa_nil)) (fun _ _ _ _ _ _ => (pg_name (i := 2) nd rfl (Or.inl rfl))) (fun _ _ _ _ _ _ px => pts_nil) (fun _ _ _ _ _ _ px => (pe_ix (k_ix K w rfl rfl) pe_str (pe_fn c_law_draw (hr.mono (by omega)) px (pa_cons (pv 0) (pa_cons pe_int pa_nil))) (fun _ _ => rfl)))))))
   pss_nil)
  (pss_one
  (ps_ret (pe_join pe_str (pe_lcX (own := [("sign", 2)]) (g := gName 2) (tt := tYes) tk0 rfl rfl rfl nd (blkOk_by (own := [("sign", 2)]) (N := N_law_text) (sc := defScope s_law_text) (by decide +kernel)) (pi_range1 rfl T.b_range (pa_cons (pe_op op_addA pe_int (pe_fn c_law_draw (hr.mono (by omega)) pass_def (pa_cons (pv 0) (pa_cons pe_int pa_nil)))) pa_nil)) (fun _ _ _ _ _ _ => (pg_name (i := 2) nd rfl (Or.inl rfl))) (fun _ _ _ _ _ _ px => pts_nil) (fun _ _ _ _ _ _ px => (pe_ix (k_ix K w rfl rfl) pe_str (pe_fn c_law_draw (hr.mono (by omega)) px (pa_cons (pv 0) (pa_cons pe_int pa_nil))) (fun _ _ => rfl))))))))))), ?_⟩
  obtain ⟨p, c, n, rfl, hp, hn, q⟩ := h
  rw [show L2.start N_law_text [V.ref p] = [some (.ref p), none, none] from rfl]
  walk_at "r"
  have loop : ∀ (L : List Nat) (j : Nat) (z : Int) (H1 : Hp) (n1 : Nat) (D : Addr), z = (j : Int) → 1 ≤ L.length → L.length ≤ 12 → j ≤ 9 → (∀ xs : List Nat, xs.length = j → (∀ c ∈ xs, c ∈ L) → okX xs) → Pu p c n1 H1 → n1 + j ≤ n + 20 → Off p c H H1 → H1 D = none →
      ∃ W : Nat → Nat → Hp → Prop, (∃ m, W 0 m (upd H1 D (HO.lst []))) ∧ ∀ i m H, W i m H →
        ((Itr 0 z.toNat).stop i H ∧ ∃ x, [V.ref D] = [V.ref x] ∧ ∃ ys : List Str, (SqL K H x (ys.map V.str) ∨ SqT K H x (ys.map V.str)) ∧ (ys.map (fun x => x.length)).sum + ys.length * ([] : List Nat).length ≤ 16777216 ∧ Q (V.str (Txt.join (S []) ys)) H) ∨
        ((Itr 0 z.toNat).go i H ∧ ∃ Nx : Hp → Prop, (∀ H', Nx H' → ∃ m', m' < m ∧ W (i + 1) m' H') ∧ ∀ x H', (Itr 0 z.toNat).yld i H x H' →
          spDraw [V.ref p, V.int (L.length : Nat)] H' (fun y H2 => rIxA K w (V.str (S L)) y H2 fun y H4 => ∃ acc, H4 D = some (HO.lst acc) ∧ acc.length < sizeLine ∧ Nx (upd H4 D (HO.lst (acc ++ [y])))) E) := by
    intro L j z H1 n1 D hz hL1 hL2 hj hok hp1 hn1 o1 nD
    subst hz
    rw [Int.toNat_natCast]
    have hD := hp1.ne_of nD
    refine lc_any walk_range (fun i H' => i ≤ j ∧ ∃ xs : List Nat, (xs.length = i ∧ ∀ c ∈ xs, c ∈ L) ∧ H' D = some (.lst ((xs.map fun c => S [c]).map V.str)) ∧ Pu p c (n1 + i) H' ∧ Off p c H1 H') ⟨Nat.zero_le _, [], ⟨rfl, fun _ h => (nomatch h)⟩, upd_same, hp1.upd hD, Off.put Off.rfl' nD⟩ (fun _ _ _ _ => trivial) ?_ ?_
    · rintro i x Hi H' hi ⟨_, xs, ⟨hxl, hxm⟩, hxD, hpi, oi⟩ ⟨rfl, rfl⟩
      refine ⟨p, c, n1 + i, _, rfl, hpi, by omega, by omega, by omega, fun y H2 y0 y1 hp2 o2 => ?_⟩
      obtain ⟨y, rfl⟩ : ∃ k : Nat, y = (k : Int) := ⟨y.toNat, by omega⟩
      have hy : y < L.length := by omega
      obtain ⟨d, hd⟩ : ∃ d, L[y]? = some d := ⟨L[y], by simp [hy]⟩
      refine ⟨by rw [S_len, sizeLine_eq]; omega, d, atI_nat (xs := L) hd, (xs.map fun c => S [c]).map V.str, o2 _ _ hD.1 hD.2 hxD, by rw [List.length_map, List.length_map, sizeLine_eq]; omega, by omega, xs ++ [d], ⟨by rw [List.length_append, hxl]; rfl, fun c hc => by
        rcases List.mem_append.mp hc with h | h
        · exact hxm c h
        · rw [List.mem_singleton.mp h]; exact List.mem_of_getElem? hd⟩, by rw [upd_same, List.map_append, List.map_append]; rfl, ?_, ?_⟩
      · rw [← Nat.add_assoc]
        exact hp2.upd hD
      · exact Off.put (oi.trans o2) nD
    · rintro H' ⟨_, xs, ⟨hxl, hxm⟩, hxD, hpi, oi⟩
      refine ⟨D, rfl, xs.map fun c => S [c], .inl (.inl (.of hxD)), ?_, ?_⟩
      · have : ((xs.map fun c => S [c]).map fun x => x.length).sum = xs.length := by
          rw [List.map_map]
          clear hxl hxD hxm
          induction xs with
          | nil => rfl
          | cons a xs ih => rw [List.map_cons, List.sum_cons, ih, List.length_cons]; show 1 + _ = _; omega
        rw [this]
        simp
        omega
      · rw [show (xs.map fun c => S [c]) = (xs.map fun c => [c]).map S from by rw [List.map_map]; rfl, join_S]
        rw [joinL_nil, flat1]
        exact q xs _ H' (hok xs hxl hxm) (by omega) hpi (o1.trans oi)
  refine ⟨p, c, n, 5, rfl, hp, by omega, by decide, by decide, fun way H1 w0 w1 hp1 o1 => ?_⟩
  show rEqQ K false (V.int way) _ _ _
  rw [eq_ii]
  refine ⟨_, rfl, ?_⟩
  by_cases e0 : way = 0
  · rw [if_pos (by simp [e0])]
    refine ⟨by show 8 ≤ sizeLine; decide, fun p1 np1 => ?_⟩
    have hd1 := hp1.ne_of np1
    refine ⟨p, c, n + 1, 8, rfl, hp1.upd hd1, by omega, by decide, by decide, fun y H2 y0 y1 hp2 o2 => ?_⟩
    obtain ⟨y, rfl⟩ : ∃ k : Nat, y = (k : Int) := ⟨y.toNat, by omega⟩
    have h2 := o2 _ _ hd1.1 hd1.2 upd_same
    obtain ⟨x, hx, hl⟩ : ∃ x : List Nat, [V.str (S [110, 111, 110, 101]), V.str (S [121, 101, 115]), V.str (S [110, 111]), V.str (S []), V.str (S [97]), V.str (S [110]), V.str (S [110, 111, 110, 101, 115]), V.str (S [122, 122])][y]? = some (V.str (S x)) ∧ okX x := by
      rcases (show y = 0 ∨ y = 1 ∨ y = 2 ∨ y = 3 ∨ y = 4 ∨ y = 5 ∨ y = 6 ∨ y = 7 by omega) with rfl | rfl | rfl | rfl | rfl | rfl | rfl | rfl <;> exact ⟨_, rfl, by decide, .inl (by decide)⟩
    exact ⟨_, _, .inl (.inl (.of h2)), atI_nat hx, q x _ H2 hl (by omega) hp2 ((o1.trans (Same.new np1).off).trans o2)⟩
  · rw [if_neg (by simpa using e0)]
    show rEqQ K false (V.int way) _ _ _
    rw [eq_ii]
    refine ⟨_, rfl, ?_⟩
    by_cases e1 : way = 1
    · rw [if_pos (by simp [e1])]
      refine ⟨⟨_, rfl⟩, p, c, n + 1, 6, rfl, hp1, by omega, by decide, by decide, fun y H2 y0 y1 hp2 o2 => ?_⟩
      exact ⟨y, rfl, by omega, by omega, fun D nD => loop [39, 94, 110, 10, 65, 122, 32, 48] y.toNat y H2 _ D (by omega) (by decide) (by decide) (by omega) (fun xs hl hm => ⟨by omega, .inl fun c hc => (show ∀ c ∈ [39, 94, 110, 10, 65, 122, 32, 48], brk c = false from by decide) c (hm c hc)⟩) hp2 (by omega) (o1.trans o2) nD⟩
    · rw [if_neg (by simpa using e1)]
      show rEqQ K false (V.int way) _ _ _
      rw [eq_ii]
      refine ⟨_, rfl, ?_⟩
      by_cases e2 : way = 2
      · rw [if_pos (by simp [e2])]
        refine ⟨⟨_, rfl⟩, p, c, n + 1, 5, rfl, hp1, by omega, by decide, by decide, fun y H2 y0 y1 hp2 o2 => ?_⟩
        exact ⟨y, rfl, by omega, by omega, fun D nD => loop [126, 33, 123, 125, 40, 41, 91, 93, 45, 44, 46, 39] y.toNat y H2 _ D (by omega) (by decide) (by decide) (by omega) (fun xs hl hm => ⟨by omega, .inr ⟨fun c hc => (show ∀ c ∈ [126, 33, 123, 125, 40, 41, 91, 93, 45, 44, 46, 39], c ≠ 32 from by decide) c (hm c hc), by omega⟩⟩) hp2 (by omega) (o1.trans o2) nD⟩
      · rw [if_neg (by simpa using e2)]
        refine ⟨⟨_, rfl⟩, p, c, n + 1, 9, rfl, hp1, by omega, by decide, by decide, fun y H2 y0 y1 hp2 o2 => ?_⟩
        show rAddA (V.int 1) (V.int y) _ _
        rw [add_ii]
        exact ⟨1 + y, rfl, by omega, by omega, fun D nD => loop [97, 98, 110, 111, 115, 121, 122] (1 + y).toNat (1 + y) H2 _ D (by omega) (by decide) (by decide) (by omega) (fun xs hl hm => ⟨by omega, .inl fun c hc => (show ∀ c ∈ [97, 98, 110, 111, 115, 121, 122], brk c = false from by decide) c (hm c hc)⟩) hp2 (by omega) (o1.trans o2) nD⟩
end
end K97

set_option Elab.async false
set_option linter.all false
set_option maxRecDepth 100000
set_option maxHeartbeats 4000000
/-! The law's plain things, things, nested things. -/
namespace K97
open PySem PySem.Spec PyProof.Rows L2 Lk SX
local macro_rules | `(tactic| walk_at "r") => `(tactic| simp only [tSeq, tNext, tRet, tRetN, tIfS, tDrop, tAsg, tAug, tFor, tWhile, tAndV, tOrV, tNotV, tAnd, tOr, tNot, tB, tTest, tIf, tIsN, tNotN, tOp, tVar, tC, tCB, tPar, tCons, tNil, tLc, tYes, tTup, tLst, tCall, tMeth, tFld, tSl, tPart, tNoPart, tM1, tBM, tVeI, tOst, sFld, sFldAug, tMkO, tMake, tTGet, gName, gNil, gCons, gTup, gUnl, gSub, iAny, iRng1, iKeys, iVals,
  List.getElem?_cons_zero, List.getElem?_cons_succ, List.set_cons_zero, List.set_cons_succ, Option.some.injEq, V.str.injEq, V.bl.injEq, V.int.injEq, V.ref.injEq, exists_and_left, exists_eq_left', exists_eq_left, exists_eq, cxK, cxW, HO.ins.injEq, and_assoc, upd_same, true_and, and_true, reduceCtorEq, false_and, and_false, exists_false, or_false, false_or, if_true, if_false, List.cons_append, List.nil_append, add_ii, add_ss, sub_ii, mul_ii, mod_ii, fdiv_ii, pow_ii, lt_ii, le_ii, gt_ii, ge_ii, lt_ss, le_ss, iadd_ii, iadd_ss, in_ss, ix_si, ix_ri, ix_rs, sl_s, sl_r, eq_ss, eq_ii, eq_bb, eq_nn, eq_rr, int1_i, int1_b, int1_s, min2_ii, set_rs, set_ri, Bool.true_xor, Bool.false_xor, Bool.not_eq_true', wipe, List.map_cons, List.map_nil, S_eq, S_cat, S_len, lit1, lit3, lit5, lit6, lit7, lit8, lit9, lit10, lit11, lit12, lit13, lit14, lit15, lit16, lit17, lit18, lit19, lit21, lit23, lit24, lit26, lit27, lit28, lit29, lit30, lit31, lit32, lit33, lit34, lit35, lit36, lit37, lit38, lit39, lit40, lit41, lit42, lit101, lit102, lit103, lit104, lit105, lit106, lit107, lit108, lit109, lit110, lit111, lit112, lit113, lit114, lit115])
section
variable {P : Program} {w : World} {K : PySem.W.Frag} {mg : Str → Option Value} {base : Heap} {f : Addr} {fd : FuncData}
/-! ### a dict made of texts and things: in the order of its keys -/
abbrev Tr := List Nat × T × V
def insT (x : Tr) : List Tr → List Tr
  | [] => [x]
  | y :: r => if x.1 < y.1 then x :: y :: r else if x.1 = y.1 then x :: r else y :: insT x r
theorem insT_mem {x z : Tr} : ∀ {l : List Tr}, z ∈ insT x l → z = x ∨ z ∈ l
  | [], h => .inl (List.mem_singleton.mp h)
  | y :: r, h => by
    unfold insT at h
    split at h
    · rcases List.mem_cons.mp h with h | h
      · exact .inl h
      · exact .inr h
    · split at h
      · rcases List.mem_cons.mp h with h | h
        · exact .inl h
        · exact .inr (List.mem_cons_of_mem _ h)
      · rcases List.mem_cons.mp h with h | h
        · exact .inr (h ▸ List.mem_cons_self ..)
        · rcases insT_mem h with h | h
          · exact .inl h
          · exact .inr (List.mem_cons_of_mem _ h)
theorem lt_of_not {a b : List Nat} (h1 : ¬ a < b) (h2 : a ≠ b) : b < a := by
  by_cases h : b < a
  · exact h
  · exact absurd (List.le_antisymm (List.not_lt.mp h) (List.not_lt.mp h1)) h2
theorem insT_sort {x : Tr} : ∀ {l : List Tr}, l.Pairwise (fun a b => a.1 < b.1) → (insT x l).Pairwise fun a b => a.1 < b.1
  | [], _ => List.pairwise_singleton ..
  | y :: r, h => by
    obtain ⟨h1, h2⟩ := List.pairwise_cons.mp h
    unfold insT
    by_cases hl : x.1 < y.1
    · rw [if_pos hl]
      refine List.pairwise_cons.mpr ⟨fun z hz => ?_, h⟩
      rcases List.mem_cons.mp hz with rfl | hz
      · exact hl
      · exact List.lt_trans hl (h1 z hz)
    · rw [if_neg hl]
      by_cases he : x.1 = y.1
      · rw [if_pos he]
        exact List.pairwise_cons.mpr ⟨fun z hz => by rw [he]; exact h1 z hz, h2⟩
      · rw [if_neg he]
        refine List.pairwise_cons.mpr ⟨fun z hz => ?_, insT_sort h2⟩
        rcases insT_mem hz with rfl | hz
        · exact lt_of_not hl he
        · exact h1 z hz
theorem insT_keys {x : Tr} : ∀ {l : List Tr}, l.Pairwise (fun a b => a.1 < b.1) → (x.1 ∈ l.map (·.1) → (insT x l).map (·.1) = l.map (·.1)) ∧ (x.1 ∉ l.map (·.1) → ((insT x l).map (·.1)).Perm (x.1 :: l.map (·.1)))
  | [], _ => ⟨fun h => (nomatch h), fun _ => .refl _⟩
  | y :: r, h => by
    obtain ⟨h1, h2⟩ := List.pairwise_cons.mp h
    obtain ⟨i1, i2⟩ := insT_keys (x := x) h2
    unfold insT
    by_cases hl : x.1 < y.1
    · rw [if_pos hl]
      refine ⟨fun hm => ?_, fun _ => .refl _⟩
      rcases List.mem_cons.mp hm with e | hm
      · rw [e] at hl; exact absurd hl (List.lt_irrefl _)
      · obtain ⟨z, hz, e⟩ := List.mem_map.mp hm
        have := List.lt_trans hl (h1 z hz)
        rw [e] at this
        exact absurd this (List.lt_irrefl _)
    · rw [if_neg hl]
      by_cases he : x.1 = y.1
      · rw [if_pos he]
        refine ⟨fun _ => by rw [List.map_cons, List.map_cons, he], fun hm => absurd (by rw [List.map_cons, he]; exact List.mem_cons_self ..) hm⟩
      · rw [if_neg he]
        refine ⟨fun hm => ?_, fun hm => ?_⟩
        · rcases List.mem_cons.mp hm with e | hm
          · exact absurd e he
          · rw [List.map_cons, List.map_cons, i1 hm]
        · rw [List.map_cons, List.map_cons]
          exact ((i2 fun z => hm (List.mem_cons_of_mem _ z)).cons y.1).trans (.swap ..)
structure DicR (kvs : List (Key × V)) (l : List Tr) : Prop where
  sort : l.Pairwise fun a b => a.1 < b.1
  perm : (kvs.map (·.1)).Perm (l.map fun x => Sum.inr (S x.1))
  val : ∀ x ∈ l, valV kvs (Sum.inr (S x.1)) = some x.2.2
theorem insT_new {x z : Tr} : ∀ {l : List Tr}, l.Pairwise (fun a b => a.1 < b.1) → z ∈ insT x l → z = x ∨ (z ∈ l ∧ z.1 ≠ x.1)
  | [], _, h => .inl (List.mem_singleton.mp h)
  | y :: r, hs, h => by
    obtain ⟨h1, h2⟩ := List.pairwise_cons.mp hs
    unfold insT at h
    split at h
    · rename_i hl
      rcases List.mem_cons.mp h with h | h
      · exact .inl h
      · refine .inr ⟨h, fun e => ?_⟩
        rcases List.mem_cons.mp h with rfl | h
        · rw [e] at hl; exact List.lt_irrefl _ hl
        · have := List.lt_trans hl (h1 z h)
          rw [e] at this
          exact List.lt_irrefl _ this
    · rename_i hl
      split at h
      · rename_i he
        rcases List.mem_cons.mp h with h | h
        · exact .inl h
        · refine .inr ⟨List.mem_cons_of_mem _ h, fun e => ?_⟩
          have := h1 z h
          rw [e, he] at this
          exact List.lt_irrefl _ this
      · rename_i he
        rcases List.mem_cons.mp h with rfl | h
        · exact .inr ⟨List.mem_cons_self .., fun e => he e.symm⟩
        · rcases insT_new h2 h with h | h
          · exact .inl h
          · exact .inr ⟨List.mem_cons_of_mem _ h.1, h.2⟩
theorem putK_keys {kvs : List (Key × V)} {k : Key} {v : V} : (k ∈ kvs.map (·.1) → (putK kvs k v).map (·.1) = kvs.map (·.1)) ∧ (k ∉ kvs.map (·.1) → (putK kvs k v).map (·.1) = kvs.map (·.1) ++ [k]) := by
  unfold putK
  have e : (kvs.any fun kv => decide (kv.1 = k)) = true ↔ k ∈ kvs.map (·.1) := by
    rw [List.any_eq_true, List.mem_map]
    exact ⟨fun ⟨x, h1, h2⟩ => ⟨x, h1, of_decide_eq_true h2⟩, fun ⟨x, h1, h2⟩ => ⟨x, h1, decide_eq_true h2⟩⟩
  refine ⟨fun h => ?_, fun h => ?_⟩
  · rw [if_pos (e.mpr h), List.map_map]
    refine List.map_congr_left fun kv _ => ?_
    show (if kv.1 = k then (kv.1, v) else kv).1 = kv.1
    split <;> rfl
  · rw [if_neg (fun z => h (e.mp z)), List.map_append]
    rfl
theorem DicR.put {kvs : List (Key × V)} {l : List Tr} (h : DicR kvs l) (x : List Nat) (t : T) (v : V) : DicR (putK kvs (Sum.inr (S x)) v) (insT (x, t, v) l) := by
  have hk : (l.map fun x => (Sum.inr (S x.1) : Key)) = (l.map (·.1)).map fun k => Sum.inr (S k) := by rw [List.map_map]; rfl
  have hmem : (Sum.inr (S x) : Key) ∈ kvs.map (·.1) ↔ x ∈ l.map (·.1) := by
    rw [h.perm.mem_iff, hk, List.mem_map]
    exact ⟨fun ⟨k, hk, e⟩ => S_inj (Sum.inr.inj e) ▸ hk, fun hx => ⟨x, hx, rfl⟩⟩
  refine ⟨insT_sort h.sort, ?_, fun z hz => ?_⟩
  · have hk2 : ((insT (x, t, v) l).map fun x => (Sum.inr (S x.1) : Key)) = ((insT (x, t, v) l).map (·.1)).map fun k => Sum.inr (S k) := by rw [List.map_map]; rfl
    rw [hk2]
    obtain ⟨i1, i2⟩ := insT_keys (x := (x, t, v)) h.sort
    by_cases hx : x ∈ l.map (·.1)
    · rw [putK_keys.1 (hmem.mpr hx), i1 hx, ← hk]
      exact h.perm
    · rw [putK_keys.2 (fun z => hx (hmem.mp z))]
      refine List.Perm.trans ?_ ((i2 hx).map fun k => (Sum.inr (S k) : Key)).symm
      rw [List.map_cons, ← hk]
      exact (List.perm_append_singleton _ _).trans (h.perm.cons _)
  · rw [valV_put]
    rcases insT_new h.sort hz with rfl | ⟨hz, hne⟩
    · rw [if_pos rfl]
    · rw [if_neg (fun e => hne (S_inj (Sum.inr.inj e)))]
      exact h.val z hz
theorem repL_of {H : Hp} : ∀ {l : List Tr}, (∀ x ∈ l, Rep x.2.1 x.2.2 H) → RepL (l.map (·.2.1)) (l.map (·.2.2)) H
  | [], _ => by rw [List.map_nil, RepL, List.map_nil]
  | x :: l, h => by
    rw [List.map_cons, List.map_cons, RepL]
    exact ⟨_, _, rfl, h x (List.mem_cons_self ..), repL_of fun y hy => h y (List.mem_cons_of_mem _ hy)⟩
theorem DicR.rep {kvs : List (Key × V)} {l : List Tr} {H : Hp} {a : Addr} (h : DicR kvs l) (ha : Rd H a (.dK kvs)) (hr : ∀ x ∈ l, Rep x.2.1 x.2.2 H) : Rep (.dic (l.map (·.1)) (l.map (·.2.1))) (.ref a) H := by
  rw [Rep]
  refine ⟨a, kvs, l.map (·.2.2), rfl, ha, ?_, by rw [List.length_map, List.length_map], fun p hp => ?_, repL_of hr⟩
  · rw [List.map_map]
    exact h.perm
  · have : ∀ l : List Tr, p ∈ (l.map (·.1)).zip (l.map (·.2.2)) → ∃ x ∈ l, p = (x.1, x.2.2) := fun l => by
      induction l with
      | nil => intro h; cases h
      | cons y r ih =>
        intro h
        rw [List.map_cons, List.map_cons, List.zip_cons_cons] at h
        rcases List.mem_cons.mp h with rfl | h
        · exact ⟨y, List.mem_cons_self .., rfl⟩
        · obtain ⟨x, hx, e⟩ := ih h
          exact ⟨x, List.mem_cons_of_mem _ hx, e⟩
    obtain ⟨x, hx, rfl⟩ := this l hp
    exact h.val x hx
def spPlainL : Sp := fun vs H Q E => ∃ (p c : Addr) (n : Nat), vs = [.ref p] ∧ Pu p c n H ∧ n + 25 ≤ 1000000 ∧ ∀ t v m H', plainV t = some v → Ok t ∧ LawT t → (spelt t).length ≤ 40 → m ≤ n + 25 → Pu p c m H' → Off p c H H' → Q v H'
theorem ok_law_plain (T : Tx K w mg) (c_law_draw : Fn P w K mg base 2 "_law_draw" [] spDraw) (c_law_text : Fn P w K mg base 4 "_law_text" [] spTextL)
    (F : FunD K "_law_plain" "_law_plain" (defArgs s_law_plain) (defBody s_law_plain) (defScope s_law_plain) [] [] f fd) : FnOk P w K mg base (L2.CX P w) 6 f fd ["purse"] spPlainL := by
  refine F.ok sc_law_plain (fun vs H Q E h => by obtain ⟨p, c, n, rfl, _⟩ := h; rfl) (fun cdv A outer s H vs Q E hr h => ?_)
  have nd := (sc_law_plain).nd
  refine ⟨_, (pss_cons
  (ps_set (i := 1) nd rfl (by first | exact Or.inl rfl | exact Or.inr rfl) (pe_fn c_law_draw (hr.mono (by omega)) pass_def (pa_cons (pv 0) (pa_cons pe_int pa_nil))))
  (pss_cons
  (ps_if (pt_cmpR (op_ltA) (pv 1) pe_int rfl)
   (pss_one
    (ps_ret (pe_fn c_law_text (hr.mono (by omega)) pass_def (pa_cons (pv 0) pa_nil))))
   pss_nil)
  (pss_cons
  (ps_if (pt_cmpR (k_eq K rfl (Lk.hu0 hr)) (pv 1) pe_int rfl)
   (pss_one
    (ps_ret (pe_ix (k_ix K w rfl rfl) (pe_lst (pa_cons pe_non (pa_cons pe_bl (pa_cons pe_bl pa_nil)))) (pe_fn c_law_draw (hr.mono (by omega)) pass_def (pa_cons (pv 0) (pa_cons pe_int pa_nil))) (fun _ _ => rfl))))
   pss_nil)
  (pss_cons
  (ps_set (i := 2) nd rfl (by first | exact Or.inl rfl | exact Or.inr rfl) (pe_ix (k_ix K w rfl rfl) (pe_lst (pa_cons (pe_fn c_law_draw (hr.mono (by omega)) pass_def (pa_cons (pv 0) (pa_cons pe_int pa_nil))) (pa_cons (pe_fn c_law_draw (hr.mono (by omega)) pass_def (pa_cons (pv 0) (pa_cons pe_int pa_nil))) (pa_cons (pe_fn c_law_draw (hr.mono (by omega)) pass_def (pa_cons (pv 0) (pa_cons (pe_op op_powA pe_int pe_int) pa_nil))) pa_nil)))) (pe_fn c_law_draw (hr.mono (by omega)) pass_def (pa_cons (pv 0) (pa_cons pe_int pa_nil))) (fun _ _ => rfl)))
  (pss_one
  (ps_ret (pe_ix (k_ix K w rfl rfl) (pe_lst (pa_cons (pv 2) (pa_cons (pe_op op_subA pe_int (pv 2)) pa_nil))) (pe_fn c_law_draw (hr.mono (by omega)) pass_def (pa_cons (pv 0) (pa_cons pe_int pa_nil))) (fun _ _ => rfl)))))))), ?_⟩
  obtain ⟨p, c, n, rfl, hp, hn, q⟩ := h
  rw [show L2.start N_law_plain [V.ref p] = [some (.ref p), none, none] from rfl]
  walk_at "r"
  have fin : ∀ (z : Int) (m : Nat) (H' : Hp), z.natAbs < 10 ^ 29 → m ≤ n + 25 → Pu p c m H' → Off p c H H' → Q (V.int z) H' := fun z m H' hz hm hpu ho => by
    refine q (.int z) _ m H' rfl ⟨by rw [Ok]; exact Nat.lt_trans hz (by decide +kernel), by rw [LawT]; exact hz⟩ ?_ hm hpu ho
    rw [spelt]
    have := TL.numL_len (k := 29) (by omega) hz
    unfold intT
    split
    · rw [List.length_cons]; omega
    · omega
  refine ⟨p, c, n, 6, rfl, hp, by omega, by decide, by decide, fun way H1 w0 w1 hp1 o1 => ?_⟩
  show rLtA (V.int way) _ _ _
  rw [lt_ii]
  refine ⟨_, rfl, ?_⟩
  by_cases h2 : way < 2
  · rw [if_pos (by simpa using h2)]
    refine ⟨p, c, n + 1, rfl, hp1, by omega, fun x m H' hx hm hpm om => q (.str x) _ m H' rfl ⟨True.intro, by rw [LawT]; exact hx⟩ ?_ (by omega) hpm (o1.trans om)⟩
    rw [spelt]
    have := word_len x
    have := hx.1
    omega
  · rw [if_neg (by simpa using h2)]
    show rEqQ K false (V.int way) _ _ _
    rw [eq_ii]
    refine ⟨_, rfl, ?_⟩
    by_cases e2 : way = 2
    · rw [if_pos (by simp [e2])]
      refine ⟨by show 3 ≤ sizeLine; decide, fun p1 np1 => ?_⟩
      have hd1 := hp1.ne_of np1
      refine ⟨p, c, n + 1, 3, rfl, hp1.upd hd1, by omega, by decide, by decide, fun y H2 y0 y1 hp2 o2 => ?_⟩
      have h2' := o2 _ _ hd1.1 hd1.2 upd_same
      have oo := (o1.trans (Same.new np1).off).trans o2
      rcases (show y = 0 ∨ y = 1 ∨ y = 2 by omega) with rfl | rfl | rfl
      · exact ⟨_, _, .inl (.inl (.of h2')), rfl, q .non _ _ H2 rfl ⟨True.intro, True.intro⟩ (by decide) (by omega) hp2 oo⟩
      · exact ⟨_, _, .inl (.inl (.of h2')), rfl, q (.bl true) _ _ H2 rfl ⟨True.intro, True.intro⟩ (by decide) (by omega) hp2 oo⟩
      · exact ⟨_, _, .inl (.inl (.of h2')), rfl, q (.bl false) _ _ H2 rfl ⟨True.intro, True.intro⟩ (by decide) (by omega) hp2 oo⟩
    · rw [if_neg (by simpa using e2)]
      refine ⟨p, c, n + 1, 12, rfl, hp1, by omega, by decide, by decide, fun a H2 a0 a1 hp2 o2 => ?_⟩
      refine ⟨p, c, n + 2, 1000, rfl, hp2, by omega, by decide, by decide, fun b H3 b0 b1 hp3 o3 => ?_⟩
      refine ⟨⟨by decide, by decide +kernel⟩, ?_⟩
      refine ⟨p, c, n + 3, _, rfl, hp3, by omega, by decide +kernel, by decide +kernel, fun d H4 d0 d1 hp4 o4 => ?_⟩
      refine ⟨by show 3 ≤ sizeLine; decide, fun p1 np1 => ?_⟩
      have hd1 := hp4.ne_of np1
      refine ⟨p, c, n + 4, 3, rfl, hp4.upd hd1, by omega, by decide, by decide, fun y H5 y0 y1 hp5 o5 => ?_⟩
      have h5 := o5 _ _ hd1.1 hd1.2 upd_same
      have oo := (((o1.trans o2).trans o3).trans (o4.trans (Same.new np1).off)).trans o5
      have d1' : d < 10 ^ 29 := d1
      obtain ⟨z, hz, z0, z1⟩ : ∃ z, atI [V.int a, V.int b, V.int d] y = some (V.int z) ∧ 0 ≤ z ∧ z < 10 ^ 29 := by
        rcases (show y = 0 ∨ y = 1 ∨ y = 2 by omega) with rfl | rfl | rfl
        · exact ⟨a, rfl, a0, by omega⟩
        · exact ⟨b, rfl, b0, by omega⟩
        · exact ⟨d, rfl, d0, d1'⟩
      refine ⟨_, _, .inl (.inl (.of h5)), hz, ?_⟩
      show rSubA (V.int 0) (V.int z) _ _
      rw [sub_ii]
      refine ⟨by show 2 ≤ sizeLine; decide, fun p2 np2 => ?_⟩
      have hd2 := hp5.ne_of np2
      refine ⟨p, c, n + 5, 2, rfl, hp5.upd hd2, by omega, by decide, by decide, fun y H6 y0 y1 hp6 o6 => ?_⟩
      have h6 := o6 _ _ hd2.1 hd2.2 upd_same
      have oo2 := (oo.trans (Same.new np2).off).trans o6
      rcases (show y = 0 ∨ y = 1 by omega) with rfl | rfl
      · exact ⟨_, _, .inl (.inl (.of h6)), rfl, fin z _ _ (by omega) (by omega) hp6 oo2⟩
      · exact ⟨_, _, .inl (.inl (.of h6)), rfl, fin (0 - z) _ _ (by omega) (by omega) hp6 oo2⟩
end
end K97

set_option Elab.async false
set_option linter.all false
set_option maxRecDepth 100000
set_option maxHeartbeats 4000000
/-! The law's things, nested things. -/
namespace K97
open PySem PySem.Spec PyProof.Rows L2 Lk SX
local macro_rules | `(tactic| walk_at "r") => `(tactic| simp only [tSeq, tNext, tRet, tRetN, tIfS, tDrop, tAsg, tAug, tFor, tWhile, tAndV, tOrV, tNotV, tAnd, tOr, tNot, tB, tTest, tIf, tIsN, tNotN, tOp, tVar, tC, tCB, tPar, tCons, tNil, tLc, tYes, tTup, tLst, tCall, tMeth, tFld, tSl, tPart, tNoPart, tM1, tBM, tVeI, tOst, sFld, sFldAug, tMkO, tMake, tTGet, gName, gNil, gCons, gTup, gUnl, gSub, iAny, iRng1, iKeys, iVals,
  List.getElem?_cons_zero, List.getElem?_cons_succ, List.set_cons_zero, List.set_cons_succ, Option.some.injEq, V.str.injEq, V.bl.injEq, V.int.injEq, V.ref.injEq, exists_and_left, exists_eq_left', exists_eq_left, exists_eq, cxK, cxW, HO.ins.injEq, and_assoc, upd_same, true_and, and_true, reduceCtorEq, false_and, and_false, exists_false, or_false, false_or, if_true, if_false, List.cons_append, List.nil_append, add_ii, add_ss, sub_ii, mul_ii, mod_ii, fdiv_ii, pow_ii, lt_ii, le_ii, gt_ii, ge_ii, lt_ss, le_ss, iadd_ii, iadd_ss, in_ss, ix_si, ix_ri, ix_rs, sl_s, sl_r, eq_ss, eq_ii, eq_bb, eq_nn, eq_rr, int1_i, int1_b, int1_s, min2_ii, set_rs, set_ri, Bool.true_xor, Bool.false_xor, Bool.not_eq_true', wipe, List.map_cons, List.map_nil, S_eq, S_cat, S_len, lit1, lit3, lit5, lit6, lit7, lit8, lit9, lit10, lit11, lit12, lit13, lit14, lit15, lit16, lit17, lit18, lit19, lit21, lit23, lit24, lit26, lit27, lit28, lit29, lit30, lit31, lit32, lit33, lit34, lit35, lit36, lit37, lit38, lit39, lit40, lit41, lit42, lit101, lit102, lit103, lit104, lit105, lit106, lit107, lit108, lit109, lit110, lit111, lit112, lit113, lit114, lit115])
section
variable {P : Program} {w : World} {K : PySem.W.Frag} {mg : Str → Option Value} {base : Heap} {f : Addr} {fd : FuncData}
/-- draws at most, signs at most -/
def bud : Nat → Nat
  | 0 => 26
  | n + 1 => 3 * bud n + 90
def sz : Nat → Nat
  | 0 => 40
  | n + 1 => 3 * sz n + 90
def hol (D : Addr) (X : Hp) : Hp := fun b => if b = D then none else X b
theorem hol_of {D : Addr} {X : Hp} {b : Addr} {o : HO} (h : hol D X b = some o) : b ≠ D ∧ X b = some o := by
  unfold hol at h
  by_cases e : b = D
  · rw [if_pos e] at h; cases h
  · rw [if_neg e] at h; exact ⟨e, h⟩
theorem hol_at {D : Addr} {X : Hp} {b : Addr} {o : HO} (h : b ≠ D) (e : X b = some o) : hol D X b = some o := by
  unfold hol
  rw [if_neg h]
  exact e
theorem same_out {D : Addr} {X : Hp} : Same (hol D X) X := fun b o h => (hol_of h).2
theorem same_hol {D : Addr} {H H1 H2 : Hp} (h : ∀ b o, b ≠ D → H b = none → H1 b = some o → H2 b = some o) : Same (hol D (fresh H H1)) (hol D (fresh H H2)) := fun b o e => by
  obtain ⟨e1, e2⟩ := hol_of e
  obtain ⟨e3, e4⟩ := fresh_of e2
  exact hol_at e1 (fresh_at e3 (h b o e1 e3 e4) (fresh_nf e2))
theorem same_in {D : Addr} {H Hi H' : Hp} (hD : Hi D ≠ none) (h : ∀ b, Hi b = none → H b = none) : Same (fresh Hi H') (hol D (fresh H H')) := fun b o e => by
  obtain ⟨e3, e4⟩ := fresh_of e
  exact hol_at (fun z => hD (z ▸ e3)) (fresh_at (h b e3) e4 (fresh_nf e))
theorem same_put {D : Addr} {H H1 : Hp} {o : HO} : Same (hol D (fresh H H1)) (hol D (fresh H (upd H1 D o))) := same_hol fun b u h _ e => by rw [upd_ne h]; exact e
theorem Off.dom {p c : Addr} {n : Nat} {H H1 : Hp} (o : Off p c H H1) (h : Pu p c n H1) : ∀ b, H1 b = none → H b = none := fun b z => by
  obtain ⟨h1, h2⟩ := h.ne_of z
  cases e : H b with
  | none => rfl
  | some u => rw [o b u h1 h2 e] at z; cases z
theorem Off.hol {p c D : Addr} {n : Nat} {H H1 H2 : Hp} (o : Off p c H1 H2) (h : Pu p c n H) : Same (hol D (fresh H H1)) (hol D (fresh H H2)) := same_hol fun b u _ z e => by
  obtain ⟨h1, h2⟩ := h.ne_of z
  exact o b u h1 h2 e
theorem joinB_le {s : Nat} : ∀ ps : List (List Nat), (∀ x ∈ ps, x.length ≤ s) → (joinB ps).length ≤ ps.length * (s + 1)
  | [], _ => Nat.zero_le _
  | [x], h => by
    show x.length ≤ _
    have := h x (List.mem_cons_self ..)
    simp
    omega
  | x :: y :: r, h => by
    have e : joinB (x :: y :: r) = x ++ ([32] ++ joinB (y :: r)) := rfl
    have i := joinB_le (y :: r) fun z hz => h z (List.mem_cons_of_mem _ hz)
    have := h x (List.mem_cons_self ..)
    rw [e, List.length_append, List.length_append, List.length_cons (a := x), Nat.succ_mul]
    simp only [List.length_cons, List.length_nil] at i ⊢
    omega
theorem plain_rep {t : T} {v : V} {H : Hp} (h : plainV t = some v) : Rep t v H ∧ dep t = 0 := by
  cases t with
  | non => cases h; exact ⟨rfl, rfl⟩
  | bl b => cases h; exact ⟨rfl, rfl⟩
  | int b => cases h; exact ⟨rfl, rfl⟩
  | str b => cases h; exact ⟨rfl, rfl⟩
  | tup l => cases h
  | lst l => cases h
  | dic ks l => cases h
theorem spelts_le {l : List T} {s : Nat} (h : ∀ t ∈ l, (spelt t).length ≤ s) (h3 : l.length ≤ 3) : (joinB (spelts l)).length ≤ 3 * (s + 1) := by
  have := joinB_le (s := s) (spelts l) fun x hx => by
    rw [spelts_map] at hx
    obtain ⟨t, ht, rfl⟩ := List.mem_map.mp hx
    exact h t ht
  rw [spelts_map, List.length_map, ← spelts_map] at this
  exact Nat.le_trans this (Nat.mul_le_mul_right _ h3)
theorem pairs_tr : ∀ l : List Tr, pairsT (l.map (·.1)) (spelts (l.map (·.2.1))) = l.map fun x => wordT x.1 ++ 32 :: spelt x.2.1
  | [] => rfl
  | x :: l => by
    rw [List.map_cons, List.map_cons, List.map_cons, spelts, ← pairs_tr l]
    rfl
def spThingL (n : Nat) : Sp := fun vs H Q E => ∃ (p c : Addr) (m d : Nat), vs = [.ref p, .int (d : Int)] ∧ d < n ∧ d ≤ 4 ∧ Pu p c m H ∧ m + bud d ≤ 1000000 ∧
  ∀ t v k H', Rep t v (fresh H H') → Ok t ∧ LawT t → dep t ≤ d → (spelt t).length ≤ sz d → k ≤ m + bud d → Pu p c k H' → Off p c H H' → Q v H'
theorem ok_law_thing (T : Tx K w mg) (n : Nat) (c_law_draw : Fn P w K mg base 2 "_law_draw" [] spDraw) (c_law_text : Fn P w K mg base 4 "_law_text" [] spTextL) (c_law_plain : Fn P w K mg base 6 "_law_plain" [] spPlainL) (c_law_thing : Fn P w K mg base (n + 7) "_law_thing" [] (spThingL n))
    (F : FunD K "_law_thing" "_law_thing" (defArgs s_law_thing) (defBody s_law_thing) (defScope s_law_thing) [] [] f fd) : FnOk P w K mg base (L2.CX P w) (n + 8) f fd ["purse", "room_here"] (spThingL (n + 1)) := by
  refine F.ok sc_law_thing (fun vs H Q E h => by obtain ⟨p, c, m, d, rfl, _⟩ := h; rfl) (fun cdv A outer s H vs Q E hr h => ?_)
  have nd := (sc_law_thing).nd
  refine ⟨_, (pss_cons
  (ps_set (i := 2) nd rfl (by first | exact Or.inl rfl | exact Or.inr rfl) (pe_fn c_law_draw (hr.mono (by omega)) pass_def (pa_cons (pv 0) (pa_cons pe_int pa_nil))))
  (pss_cons
  (ps_if (PW.pt (pw_or (pt_cmpR (op_ltA) (pv 1) pe_int rfl) (pw_or1 (pt_cmpR (op_ltA) (pv 2) pe_int rfl))))
   (pss_one
    (ps_ret (pe_fn c_law_plain (hr.mono (by omega)) pass_def (pa_cons (pv 0) pa_nil))))
   pss_nil)
  (pss_cons
  (ps_setLcX (i := 3) (own := [("k", 6)]) (g := gName 6) (tt := tYes) tk0 rfl rfl rfl nd rfl rfl (sw_true rfl rfl rfl (by decide +kernel)) (blkOk_by (own := [("k", 6)]) (N := N_law_thing) (sc := defScope s_law_thing) (by decide +kernel)) (pi_range1 rfl T.b_range (pa_cons (pe_fn c_law_draw (hr.mono (by omega)) pass_def (pa_cons (pv 0) (pa_cons pe_int pa_nil))) pa_nil)) (fun _ _ _ _ _ _ => (pg_name (i := 6) nd rfl (Or.inl rfl))) (fun _ _ _ _ _ _ px => pts_nil) (fun _ _ _ _ _ _ px => (pe_fn c_law_thing (hr.mono (by omega)) px (pa_cons (pv 0) (pa_cons (pe_op op_subA (pv 1) pe_int) pa_nil)))))
  (pss_cons
  (ps_if (pt_cmpR (op_ltA) (pv 2) pe_int rfl)
   (pss_one
    (ps_ret (pe_callTy (k_tup K rfl) (by rfl) T.b_tuple Lk.boot_tuple (pa_cons (pv 3) pa_nil))))
   pss_nil)
  (pss_cons
  (ps_if (pt_cmpR (op_ltA) (pv 2) pe_int rfl)
   (pss_one
    (ps_ret (pv 3)))
   pss_nil)
  (pss_cons
  (ps_set (i := 4) nd rfl (by first | exact Or.inl rfl | exact Or.inr rfl) pe_dnewK)
  (pss_cons
  (ps_for own_def rfl (pi_any (pv 3)) (pg_name (i := 5) nd rfl (by first | exact Or.inl rfl | exact Or.inr rfl))
   (pss_one
    (ps_asg (pv 5) (pg_sub (pv 4) (pe_fn c_law_text (hr.mono (by omega)) pass_def (pa_cons (pv 0) pa_nil)) (Lk.set_dictA (Lk.hu1 hr))))))
  (pss_one
  (ps_ret (pv 4)))))))))), ?_⟩
  obtain ⟨p, c, m, d, rfl, hd, hd4, hp, hm, q⟩ := h
  rw [show L2.start N_law_thing [V.ref p, V.int (d : Int)] = [some (.ref p), some (.int (d : Int)), none, none, none, none, none] from rfl]
  walk_at "r"
  have eb : bud d ≥ 26 := by cases d <;> simp [bud]
  have es : sz d ≥ 40 := by cases d <;> simp [sz]
  have plain : ∀ (k : Nat) (H1 : Hp), k ≤ m + 1 → Pu p c k H1 → Off p c H H1 → spPlainL [V.ref p] H1 Q E := fun k H1 hk hp1 o1 =>
    ⟨p, c, k, rfl, hp1, by omega, fun t v k' H' hv hok hl hk' hp' o' => q t v k' H' (plain_rep hv).1 hok (by rw [(plain_rep (H := H) hv).2]; omega) (by omega) (by omega) hp' (o1.trans o')⟩
  refine ⟨p, c, m, 7, rfl, hp, by omega, by decide, by decide, fun way H1 w0 w1 hp1 o1 => ?_⟩
  show if decide ((d : Int) < 1) = true then _ else _
  by_cases hd0 : d = 0
  · rw [if_pos (by simp [hd0])]
    exact plain _ H1 (Nat.le_refl _) hp1 o1
  rw [if_neg (by simp; omega)]
  obtain ⟨e, rfl⟩ : ∃ e, d = e + 1 := ⟨d - 1, by omega⟩
  rw [show bud (e + 1) = 3 * bud e + 90 from rfl] at hm q
  rw [show sz (e + 1) = 3 * sz e + 90 from rfl] at q
  show rLtA (V.int way) _ _ _
  rw [lt_ii]
  refine ⟨_, rfl, ?_⟩
  by_cases h2 : way < 2
  · rw [if_pos (by simpa using h2)]
    exact plain _ H1 (Nat.le_refl _) hp1 o1
  rw [if_neg (by simpa using h2)]
  refine ⟨p, c, m + 1, 4, rfl, hp1, by omega, by decide, by decide, fun j H2 j0 j1 hp2 o2 => ?_⟩
  obtain ⟨j, rfl⟩ : ∃ k : Nat, j = (k : Int) := ⟨j.toNat, by omega⟩
  refine ⟨_, rfl, by omega, by omega, fun D nD => ?_⟩
  rw [Int.toNat_natCast]
  have oA := o1.trans o2
  have hDpc := hp2.ne_of nD
  have nDH := oA.dom hp2 D nD
  refine lc_any walk_range (fun i H' => i ≤ j ∧ ∃ (ts : List K97.T) (vs : List V) (kk : Nat), ts.length = i ∧ vs.length = i ∧ H' D = some (.lst vs) ∧ RepL ts vs (hol D (fresh H H')) ∧ (∀ t ∈ ts, (Ok t ∧ LawT t) ∧ dep t ≤ e ∧ (spelt t).length ≤ sz e) ∧ Pu p c kk H' ∧ kk ≤ m + 2 + i * bud e ∧ Off p c H H')
    ⟨Nat.zero_le _, [], [], m + 2, rfl, rfl, upd_same, by rw [RepL], fun t h => (nomatch h), hp2.upd hDpc, by omega, oA.put nDH⟩ (fun _ _ _ _ => trivial) ?_ ?_
  · rintro i x Hi H' hi ⟨_, ts, vs, kk, htl, hvl, hD, hR, hts, hpi, hkk, oi⟩ ⟨rfl, rfl⟩
    have hib : i * bud e ≤ 2 * bud e := Nat.mul_le_mul_right _ (by omega)
    refine ⟨p, c, kk, e, by rw [show ((e + 1 : Nat) : Int) - 1 = (e : Int) from by omega], by omega, by omega, hpi, by omega, fun t v k' H2 hr hok hdt hlt hk' hp' o' => ?_⟩
    have hD2 := o' _ _ hDpc.1 hDpc.2 hD
    refine ⟨vs, hD2, by rw [sizeLine_eq]; omega, by omega, ts ++ [t], vs ++ [v], k', by simp [htl], by simp [hvl], upd_same, ?_, ?_, hp'.upd hDpc, by rw [Nat.succ_mul]; omega, (oi.trans o').put nDH⟩
    · refine RepL_put ?_ ?_
      · exact (hR.le (o'.hol hp).le).le (same_put).le
      · exact Rep.le (same_put).le _ _ (Rep.le (same_in (by rw [hD]; simp) (oi.dom hpi)).le _ _ hr)
    · intro u hu
      rcases List.mem_append.mp hu with hu | hu
      · exact hts u hu
      · rw [List.mem_singleton.mp hu]; exact ⟨hok, hdt, hlt⟩
  · rintro H5 ⟨_, ts, vs, kk, htl, hvl, hD, hR, hts, hp5, hkk, o5⟩
    have hjb : j * bud e ≤ 3 * bud e := Nat.mul_le_mul_right _ (by omega)
    have hR5 : RepL ts vs (fresh H H5) := hR.le (same_out).le
    have hokts : OkL ts := okL_of fun t ht => (hts t ht).1.1
    have hlawts : LawL ts := lawL_of fun t ht => (hts t ht).1.2
    have hdts : depL ts ≤ e := depL_le fun t ht => (hts t ht).2.1
    have hsl := spelts_le (l := ts) (fun t ht => (hts t ht).2.2) (by omega)
    show rLtA (V.int way) _ _ _
    rw [lt_ii]
    refine ⟨_, rfl, ?_⟩
    by_cases h4 : way < 4
    · rw [if_pos (by simpa using h4)]
      refine ⟨vs, .inl (.of hD), fun T1 nT => ?_⟩
      refine q (.tup ts) _ kk _ ?_ ⟨by rw [Ok]; exact ⟨hokts, by omega⟩, by rw [LawT]; exact hlawts⟩ (by rw [dep]; omega) (by rw [spelt, List.length_cons, List.length_append]; simp; omega) (by omega) (hp5.upd (hp5.ne_of nT)) (o5.put (o5.dom hp5 _ nT))
      rw [Rep]
      refine ⟨T1, vs, rfl, .of (fresh_at (o5.dom hp5 _ nT) upd_same), hR5.le (fresh_le fun b o _ eb => by rw [upd_ne (ne_of_none eb nT)]; exact eb)⟩
    rw [if_neg (by simpa using h4)]
    show rLtA (V.int way) _ _ _
    rw [lt_ii]
    refine ⟨_, rfl, ?_⟩
    by_cases h6 : way < 6
    · rw [if_pos (by simpa using h6)]
      refine q (.lst ts) _ kk _ ?_ ⟨by rw [Ok]; exact ⟨hokts, by omega⟩, by rw [LawT]; exact hlawts⟩ (by rw [dep]; omega) (by rw [spelt, List.length_cons, List.length_append]; simp; omega) (by omega) hp5 o5
      rw [Rep]
      exact ⟨D, vs, rfl, .of (fresh_at nDH hD), hR5⟩
    rw [if_neg (by simpa using h6)]
    intro Fd nF
    have hFpc := hp5.ne_of nF
    have hDF : D ≠ Fd := fun z => by rw [← z, hD] at nF; cases nF
    have nFH := o5.dom hp5 Fd nF
    have hvs60 : vs.length ≤ 3 := by omega
    refine .inl ⟨vs, .inl (.of (by rw [upd_ne hDF]; exact hD)), ?_⟩
    refine for_any (walk_list (K := K) (a := D) (xs := vs)) (fun i σ H' => (∃ x5, σ = [some (V.ref p), some (V.int ((e + 1 : Nat) : Int)), some (V.int way), some (V.ref D), some (V.ref Fd), x5, none]) ∧ ∃ (kvs : List (Key × V)) (tr : List Tr) (kk : Nat), H' D = some (.lst vs) ∧ H' Fd = some (.dK kvs) ∧ DicR kvs tr ∧ kvs.length ≤ i ∧
      (∀ x ∈ tr, Rep x.2.1 x.2.2 (hol Fd (fresh H H')) ∧ x.2.1 ∈ ts ∧ okX x.1) ∧ RepL ts vs (hol Fd (fresh H H')) ∧ Pu p c kk H' ∧ kk ≤ m + 2 + 3 * bud e + i * 20 ∧ Off p c H H')
      ⟨⟨_, rfl⟩, [], [], kk, by rw [upd_ne hDF]; exact hD, upd_same, ⟨.nil, .refl _, fun x h => (nomatch h)⟩, Nat.le_refl _, fun x h => (nomatch h), hR5.le (Same.le fun b o eb => ?_), hp5.upd hFpc, by omega, o5.put nFH⟩ (fun i σ H' _ h => ?_) ?_ ?_
    · obtain ⟨e1, e2⟩ := fresh_of eb
      exact hol_at (ne_of_none e2 nF) (fresh_at e1 (by rw [upd_ne (ne_of_none e2 nF)]; exact e2) (fresh_nf eb))
    · obtain ⟨_, kvs, tr, kk, h, _⟩ := h
      exact .inl (.of h)
    · rintro i x σ Hi H' hi ⟨⟨x5, rfl⟩, kvs, tr, kk, h1, h2, h3, h4, h5, h6, h7, h8, h9⟩ ⟨rfl, hx⟩
      refine ⟨_, rfl, _, rfl, _, rfl, p, c, kk, rfl, h7, by omega, fun y k' H2 hy hk' hp' o' => ?_⟩
      have hD2 := o' _ _ hDpc.1 hDpc.2 h1
      have hF2 := o' _ _ hFpc.1 hFpc.2 h2
      have hlen := length_putK kvs (Sum.inr (S y)) x
      refine ⟨kvs, hF2, by rw [sizeLine_eq]; omega, ⟨_, rfl⟩, _, insT (y, ts[i]'(by omega), x) tr, k', by rw [upd_ne hDF]; exact hD2, upd_same, h3.put y _ x, by omega, ?_, ?_, hp'.upd hFpc, by omega, (h9.trans o').put nFH⟩
      · intro z hz
        rcases insT_mem hz with rfl | hz
        · obtain ⟨v', hv', hr'⟩ := h6.get (t := ts[i]'(by omega)) (i := i) (by simp [show i < ts.length by omega])
          rw [hx] at hv'
          cases hv'
          exact ⟨Rep.le (same_put).le _ _ (Rep.le (o'.hol hp).le _ _ hr'), List.getElem_mem _, hy⟩
        · obtain ⟨a1, a2, a3⟩ := h5 z hz
          exact ⟨Rep.le (same_put).le _ _ (Rep.le (o'.hol hp).le _ _ a1), a2, a3⟩
      · exact (h6.le (o'.hol hp).le).le (same_put).le
    · rintro σ H' ⟨⟨x5, rfl⟩, kvs, tr, kk, h1, h2, h3, h4, h5, h6, h7, h8, h9⟩
      have htr : tr.length = kvs.length := by
        have := h3.perm.length_eq
        rw [List.length_map, List.length_map] at this
        exact this.symm
      have htr3 : tr.length ≤ 3 := by omega
      have h20 : vs.length * 20 ≤ 60 := by omega
      refine ⟨_, rfl, q (.dic (tr.map (·.1)) (tr.map (·.2.1))) _ kk H' (h3.rep (.of (fresh_at nFH h2)) fun x hx => Rep.le (same_out).le _ _ (h5 x hx).1) ?_ ?_ ?_ (by omega) h7 h9⟩
      · rw [Ok, LawT]
        refine ⟨⟨okL_of fun t ht => ?_, by rw [List.length_map]; omega, by rw [List.length_map, List.length_map], List.pairwise_map.mpr h3.sort⟩, fun k hk => ?_, lawL_of fun t ht => ?_⟩
        · obtain ⟨x, hx, rfl⟩ := List.mem_map.mp ht
          exact (hts _ (h5 x hx).2.1).1.1
        · obtain ⟨x, hx, rfl⟩ := List.mem_map.mp hk
          exact (h5 x hx).2.2
        · obtain ⟨x, hx, rfl⟩ := List.mem_map.mp ht
          exact (hts _ (h5 x hx).2.1).1.2
      · rw [dep]
        have : depL (tr.map (·.2.1)) ≤ e := depL_le fun t ht => by
          obtain ⟨x, hx, rfl⟩ := List.mem_map.mp ht
          exact (hts _ (h5 x hx).2.1).2.1
        omega
      · rw [spelt, List.length_cons, List.length_append, pairs_tr]
        have hj := joinB_le (s := sz e + 21) (tr.map fun x => wordT x.1 ++ 32 :: spelt x.2.1) fun z hz => by
          obtain ⟨x, hx, rfl⟩ := List.mem_map.mp hz
          obtain ⟨_, a2, a3⟩ := h5 x hx
          have a4 := a3.1
          have b1 := word_len x.1
          have b2 := (hts _ a2).2.2
          rw [List.length_append, List.length_cons]
          omega
        rw [List.length_map] at hj
        have := Nat.le_trans hj (Nat.mul_le_mul_right _ htr3)
        simp only [List.length_cons, List.length_nil]
        omega
end
end K97

set_option Elab.async false
set_option linter.all false
set_option maxRecDepth 100000
set_option maxHeartbeats 4000000
/-! How deep a text lets a reader go: scanners, in plain Lean. -/
namespace K97
open PySem PySem.Spec PyProof.Rows L2 Lk SX
/-! ### kinds of signs -/
inductive Kn where
  | op | sh | qu | ca | bl | nl | en | ot
def kin (c : Nat) : Kn := if c = 40 ∨ c = 91 ∨ c = 123 then .op else if c = 41 ∨ c = 93 ∨ c = 125 then .sh else if c = 39 then .qu else if c = 94 then .ca else if c = 32 then .bl else if c = 10 then .nl else if c = 110 then .en else .ot
/-! ### a thing's text, run through by any scanner -/
section
variable {σ : Type} (stp : σ → Nat → σ) (F A : Nat → σ → Prop) (Px : List Nat → Prop) (Pi : Int → Prop) (B : Nat)
mutual
def TxP (Px : List Nat → Prop) (Pi : Int → Prop) : T → Prop
  | .int i => Pi i
  | .str x => Px x
  | .tup l => TxL Px Pi l
  | .lst l => TxL Px Pi l
  | .dic ks l => ks.length = l.length ∧ (∀ k ∈ ks, Px k) ∧ TxL Px Pi l
  | .non => True
  | .bl _ => True
def TxL (Px : List Nat → Prop) (Pi : Int → Prop) : List T → Prop
  | [] => True
  | t :: l => TxP Px Pi t ∧ TxL Px Pi l
end
structure Sc : Prop where
  op : ∀ D s c, F D s → kin c = .op → D < B → F (D + 1) (stp s c)
  sh : ∀ D s c, (F (D + 1) s ∨ A (D + 1) s) → kin c = .sh → A D (stp s c)
  bl : ∀ D s, A D s → F D (stp s 32)
  wd : ∀ D s x, F D s → Px x → A D ((wordT x).foldl stp s)
  it : ∀ D s i, F D s → Pi i → A D ((intT i).foldl stp s)
  kn : ∀ D s x, F D s → x ∈ [wNone, wYes, wNo] → A D (x.foldl stp s)
variable {stp F A Px Pi B}
theorem join_cons2 (x y : List Nat) (r : List (List Nat)) : joinB (x :: y :: r) = x ++ 32 :: joinB (y :: r) := by
  show x ++ ([32] ++ joinB (y :: r)) = _
  rfl
mutual
theorem run_spelt (C : Sc stp F A Px Pi B) : ∀ (t : T) (D : Nat) (s : σ), F D s → TxP Px Pi t → D + dep t ≤ B → A D ((spelt t).foldl stp s)
  | .non, D, s, h, _, _ => C.kn D s _ h (by simp [spelt])
  | .bl true, D, s, h, _, _ => C.kn D s _ h (by simp [spelt])
  | .bl false, D, s, h, _, _ => C.kn D s _ h (by simp [spelt])
  | .int i, D, s, h, hp, _ => by
    rw [TxP] at hp
    rw [spelt]
    exact C.it D s i h hp
  | .str x, D, s, h, hp, _ => by
    rw [TxP] at hp
    rw [spelt]
    exact C.wd D s x h hp
  | .tup l, D, s, h, hp, hB => by
    rw [TxP] at hp
    rw [dep] at hB
    rw [spelt, List.foldl_cons, List.foldl_append]
    exact C.sh D _ 41 (run_spelts C l (D + 1) _ (C.op D s 40 h rfl (by omega)) hp (by omega)) rfl
  | .lst l, D, s, h, hp, hB => by
    rw [TxP] at hp
    rw [dep] at hB
    rw [spelt, List.foldl_cons, List.foldl_append]
    exact C.sh D _ 93 (run_spelts C l (D + 1) _ (C.op D s 91 h rfl (by omega)) hp (by omega)) rfl
  | .dic ks l, D, s, h, hp, hB => by
    rw [TxP] at hp
    rw [dep] at hB
    rw [spelt, List.foldl_cons, List.foldl_append]
    exact C.sh D _ 125 (run_pairs C l ks (D + 1) _ (C.op D s 123 h rfl (by omega)) hp.1 hp.2.1 hp.2.2 (by omega)) rfl
theorem run_spelts (C : Sc stp F A Px Pi B) : ∀ (l : List T) (D : Nat) (s : σ), F D s → TxL Px Pi l → D + depL l ≤ B → F D ((joinB (spelts l)).foldl stp s) ∨ A D ((joinB (spelts l)).foldl stp s)
  | [], D, s, h, _, _ => .inl h
  | [t], D, s, h, hp, hB => by
    rw [TxL] at hp
    rw [depL] at hB
    exact .inr (run_spelt C t D s h hp.1 (by omega))
  | t :: u :: l, D, s, h, hp, hB => by
    rw [TxL] at hp
    rw [depL] at hB
    rw [spelts, spelts, join_cons2, List.foldl_append, List.foldl_cons]
    have h1 := run_spelt C t D s h hp.1 (by omega)
    have h2 := run_spelts C (u :: l) D _ (C.bl D _ h1) hp.2 (by omega)
    rw [spelts] at h2
    exact h2
theorem run_pairs (C : Sc stp F A Px Pi B) : ∀ (l : List T) (ks : List (List Nat)) (D : Nat) (s : σ), F D s → ks.length = l.length → (∀ k ∈ ks, Px k) → TxL Px Pi l → D + depL l ≤ B → F D ((joinB (pairsT ks (spelts l))).foldl stp s) ∨ A D ((joinB (pairsT ks (spelts l))).foldl stp s)
  | [], ks, D, s, h, hl, _, _, _ => by
    obtain rfl : ks = [] := List.length_eq_zero_iff.mp hl
    exact .inl h
  | [t], ks, D, s, h, hl, hk, hp, hB => by
    match ks, hl with
    | [k], _ =>
      rw [TxL] at hp
      rw [depL] at hB
      show _ ∨ A D ((wordT k ++ 32 :: spelt t).foldl stp s)
      rw [List.foldl_append, List.foldl_cons]
      exact .inr (run_spelt C t D _ (C.bl D _ (C.wd D s k h (hk k (List.mem_cons_self ..)))) hp.1 (by omega))
  | t :: u :: l, ks, D, s, h, hl, hk, hp, hB => by
    match ks, hl with
    | k :: k' :: ks, hl =>
      rw [TxL] at hp
      rw [depL] at hB
      have h2 := run_pairs C (u :: l) (k' :: ks) D _ (C.bl D _ (run_spelt C t D _ (C.bl D _ (C.wd D s k h (hk k (List.mem_cons_self ..)))) hp.1 (by omega))) (by simpa using hl) (fun x hx => hk x (List.mem_cons_of_mem _ hx)) hp.2 (by omega)
      have e : joinB (pairsT (k :: k' :: ks) (spelts (t :: u :: l))) = (wordT k ++ 32 :: spelt t) ++ 32 :: joinB (pairsT (k' :: ks) (spelts (u :: l))) := by
        show joinB ((wordT k ++ 32 :: spelt t) :: (wordT k' ++ 32 :: spelt u) :: pairsT ks (spelts l)) = _
        rw [join_cons2]
        rfl
      rw [e, List.foldl_append, List.foldl_cons, List.foldl_append, List.foldl_cons]
      exact h2
end
end
/-! ### the reader's scanner -/
inductive Qs where
  | fresh | word | done | inn | esc | dead
def scs (s : Qs × Nat) (c : Nat) : Qs × Nat := match s.1, kin c with
  | .dead, _ => (.dead, 0)
  | .inn, .qu => (.done, s.2)
  | .inn, .ca => (.esc, s.2)
  | .inn, _ => (.inn, s.2)
  | .esc, _ => (.inn, s.2)
  | .fresh, .op => (.fresh, s.2 + 1)
  | .fresh, .sh => (.done, s.2 - 1)
  | .fresh, .qu => (.inn, s.2)
  | .fresh, .ca => (.dead, 0)
  | .fresh, .bl => (.dead, 0)
  | .fresh, _ => (.word, s.2)
  | .word, .op => (.dead, 0)
  | .word, .sh => (.done, s.2 - 1)
  | .word, .qu => (.dead, 0)
  | .word, .ca => (.dead, 0)
  | .word, .bl => (.fresh, s.2)
  | .word, _ => (.word, s.2)
  | .done, .sh => (.done, s.2 - 1)
  | .done, .bl => (.fresh, s.2)
  | .done, _ => (.dead, 0)
def scan (s : Qs × Nat) (l : List Nat) : Qs × Nat := l.foldl scs s
/-! ### the scanner of a text by the law -/
inductive Cl where
  | c0 | ck (k : Nat) | cb
inductive Us where
  | fresh | word | done | inn (c : Cl) | esc (c : Cl) | dead
def usc (s : Us × Nat) (c : Nat) : Us × Nat := match s.1, kin c with
  | .dead, _ => (.dead, 0)
  | .fresh, .op => if s.2 < 4 then (.fresh, s.2 + 1) else (.dead, 0)
  | .fresh, .sh => if 0 < s.2 then (.done, s.2 - 1) else (.dead, 0)
  | .fresh, .qu => (.inn .c0, s.2)
  | .fresh, .en => (.word, s.2)
  | .fresh, .ot => (.word, s.2)
  | .fresh, _ => (.dead, 0)
  | .word, .sh => if 0 < s.2 then (.done, s.2 - 1) else (.dead, 0)
  | .word, .bl => (.fresh, s.2)
  | .word, .en => (.word, s.2)
  | .word, .ot => (.word, s.2)
  | .word, _ => (.dead, 0)
  | .done, .sh => if 0 < s.2 then (.done, s.2 - 1) else (.dead, 0)
  | .done, .bl => (.fresh, s.2)
  | .done, _ => (.dead, 0)
  | .inn c, .qu => (.done, s.2)
  | .inn c, .ca => (.esc c, s.2)
  | .inn c, .nl => (.dead, 0)
  | .inn .c0, .op => (.inn (.ck 1), s.2)
  | .inn (.ck k), .op => if k < 4 then (.inn (.ck (k + 1)), s.2) else (.dead, 0)
  | .inn .cb, .op => (.dead, 0)
  | .inn .c0, .sh => (.inn (.ck 0), s.2)
  | .inn (.ck k), .sh => (.inn (.ck k), s.2)
  | .inn .cb, .sh => (.dead, 0)
  | .inn .c0, .bl => (.inn .cb, s.2)
  | .inn (.ck k), .bl => (.dead, 0)
  | .inn .cb, .bl => (.inn .cb, s.2)
  | .inn c, .en => (.inn c, s.2)
  | .inn c, .ot => (.inn c, s.2)
  | .esc c, .qu => (.inn c, s.2)
  | .esc c, .ca => (.inn c, s.2)
  | .esc c, .en => (.inn c, s.2)
  | .esc c, _ => (.dead, 0)
/-- what the scanner of a text by the law keeps -/
def Uok (u : Us × Nat) : Prop := u.2 ≤ 4 ∧ match u.1 with
  | .inn (.ck k) => k ≤ 4
  | .esc (.ck k) => k ≤ 4
  | _ => True
def kcl (D0 : Nat) : Cl → Nat
  | .c0 => D0
  | .ck k => D0 + k
  | .cb => D0 + 4
/-- both side by side: D0 is how deep the reader was when the piece began -/
def Iv (D0 : Nat) (u : Us × Nat) (r : Qs × Nat) : Prop := match u.1, r.1 with
  | .dead, _ => True
  | _, .dead => r.2 = 0
  | .inn _, .inn => r.2 ≤ u.2 + D0
  | .esc _, .esc => r.2 ≤ u.2 + D0
  | .inn c, .fresh => r.2 ≤ kcl D0 c
  | .inn _, .esc => r.2 ≤ D0
  | .inn _, _ => r.2 ≤ D0 + 4
  | .esc _, _ => r.2 ≤ D0
  | _, .inn => r.2 ≤ D0 + 4
  | _, .esc => r.2 ≤ D0
  | _, _ => r.2 ≤ u.2 + D0
theorem uok_step (u : Us × Nat) (c : Nat) (h : Uok u) : Uok (usc u c) := by
  obtain ⟨u, l⟩ := u
  obtain ⟨h1, h2⟩ := h
  unfold usc
  cases hk : kin c <;> rcases u with _ | _ | _ | (_ | k | _) | (_ | k | _) | _ <;> simp only at h1 h2 ⊢ <;> (try split) <;> (refine ⟨?_, ?_⟩) <;> (first | omega | (simp_all; done) | (simp_all; omega))
theorem iv_step (D0 : Nat) (u : Us × Nat) (r : Qs × Nat) (c : Nat) (hu : Uok u) (h : Iv D0 u r) : Iv D0 (usc u c) (scs r c) := by
  obtain ⟨u, l⟩ := u
  obtain ⟨q, D⟩ := r
  obtain ⟨h1, h2⟩ := hu
  unfold Iv at h
  unfold Iv usc scs
  by_cases hl : l < 4 <;> by_cases h0 : 0 < l <;> cases hk : kin c <;> rcases u with _ | _ | _ | (_ | k | _) | (_ | k | _) | _ <;> (try by_cases hk4 : k < 4) <;> cases q <;> simp only [kcl, *, ↓reduceIte] at h h1 h2 ⊢ <;> omega
theorem iv_start (u : Us × Nat) (r : Qs × Nat) (h : r.1 = .dead → r.2 = 0) : Iv r.2 u r := by
  obtain ⟨u, l⟩ := u
  obtain ⟨q, D⟩ := r
  unfold Iv
  rcases u with _ | _ | _ | (_ | k | _) | (_ | k | _) | _ <;> cases q <;> simp_all [kcl]
theorem iv_le {D0 : Nat} {u : Us × Nat} {r : Qs × Nat} (hu : Uok u) (h : Iv D0 u r) (hd : u.1 ≠ .dead) : r.2 ≤ D0 + 4 := by
  obtain ⟨u, l⟩ := u
  obtain ⟨q, D⟩ := r
  obtain ⟨h1, h2⟩ := hu
  unfold Iv at h
  rcases u with _ | _ | _ | (_ | k | _) | (_ | k | _) | _ <;> cases q <;> (first | omega | (simp_all [kcl]; done) | (simp_all [kcl]; omega))
/-! ### the two scanners over a thing's text -/
theorem kin_small {c : Nat} (h : small c = true) : kin c = .en ∨ kin c = .ot := by
  unfold small at h
  simp only [Bool.and_eq_true, decide_eq_true_eq] at h
  unfold kin
  by_cases e : c = 110
  · subst e; exact .inl rfl
  · right
    rw [if_neg (by omega), if_neg (by omega), if_neg (by omega), if_neg (by omega), if_neg (by omega), if_neg (by omega), if_neg (by omega)]
theorem kin_num {c : Nat} (h : (48 ≤ c ∧ c ≤ 57) ∨ c = 45) : kin c = .en ∨ kin c = .ot := by
  right
  unfold kin
  rw [if_neg (by omega), if_neg (by omega), if_neg (by omega), if_neg (by omega), if_neg (by omega), if_neg (by omega), if_neg (by omega)]
theorem usc_word {c D : Nat} (h : kin c = .en ∨ kin c = .ot) : usc (.fresh, D) c = (.word, D) ∧ usc (.word, D) c = (.word, D) := by
  unfold usc
  rcases h with h | h <;> rw [h] <;> exact ⟨rfl, rfl⟩
theorem scs_word {c D : Nat} (h : kin c = .en ∨ kin c = .ot) : scs (.fresh, D) c = (.word, D) ∧ scs (.word, D) c = (.word, D) := by
  unfold scs
  rcases h with h | h <;> rw [h] <;> exact ⟨rfl, rfl⟩
theorem fold_word {σ : Type} {f : σ → Nat → σ} {a b : σ} (l : List Nat) (hn : l ≠ []) (h : ∀ c ∈ l, f a c = b ∧ f b c = b) : l.foldl f a = b := by
  have go : ∀ m : List Nat, (∀ c ∈ m, f b c = b) → m.foldl f b = b := fun m => by
    induction m with
    | nil => intro _; rfl
    | cons c m ih => intro hm; rw [List.foldl_cons, hm c (List.mem_cons_self ..)]; exact ih fun d hd => hm d (List.mem_cons_of_mem _ hd)
  cases l with
  | nil => exact absurd rfl hn
  | cons c l =>
    rw [List.foldl_cons, (h c (List.mem_cons_self ..)).1]
    exact go l fun d hd => (h d (List.mem_cons_of_mem _ hd)).2
theorem intT_ne (i : Int) : intT i ≠ [] := by
  unfold intT
  split
  · exact List.cons_ne_nil _ _
  · exact TL.numL_ne _
theorem intT_mem {i : Int} {c : Nat} (h : c ∈ intT i) : (48 ≤ c ∧ c ≤ 57) ∨ c = 45 := by
  unfold intT at h
  split at h
  · rcases List.mem_cons.mp h with h | h
    · exact .inr h
    · exact .inl (TL.numL_digits _ c h)
  · exact .inl (TL.numL_digits _ c h)
theorem kn_small {x : List Nat} (h : x ∈ [wNone, wYes, wNo]) : x ≠ [] ∧ ∀ c ∈ x, small c = true := by
  simp only [List.mem_cons, List.mem_nil_iff, or_false] at h
  rcases h with rfl | rfl | rfl <;> exact ⟨by decide, by decide⟩
theorem bare_small {x : List Nat} (h : bareT x = true) : x ≠ [] ∧ ∀ c ∈ x, small c = true := by
  unfold bareT at h
  simp only [Bool.and_eq_true, Bool.not_eq_true', decide_eq_false_iff_not, List.all_eq_true] at h
  exact ⟨h.1, h.2.2⟩
/-- a sign of a text, as written -/
theorem scs_esc (c D : Nat) : (escT c).foldl scs (.inn, D) = (.inn, D) := by
  unfold escT
  by_cases h : c = 10
  · rw [if_pos h]; rfl
  rw [if_neg h]
  by_cases h2 : c = 39 ∨ c = 94
  · rw [if_pos h2]
    rcases h2 with rfl | rfl <;> rfl
  · rw [if_neg h2]
    show scs (.inn, D) c = _
    unfold scs kin
    by_cases h3 : c = 40 ∨ c = 91 ∨ c = 123
    · rw [if_pos h3]
    rw [if_neg h3]
    by_cases h4 : c = 41 ∨ c = 93 ∨ c = 125
    · rw [if_pos h4]
    rw [if_neg h4, if_neg (fun z => h2 (.inl z)), if_neg (fun z => h2 (.inr z))]
    by_cases h5 : c = 32
    · rw [if_pos h5]
    rw [if_neg h5, if_neg h]
    by_cases h6 : c = 110
    · rw [if_pos h6]
    rw [if_neg h6]
theorem scs_escs (D : Nat) : ∀ l : List Nat, (l.flatMap escT).foldl scs (.inn, D) = (.inn, D)
  | [] => rfl
  | c :: l => by rw [List.flatMap_cons, List.foldl_append, scs_esc, scs_escs D l]
theorem scs_wordT (D : Nat) (x : List Nat) : (wordT x).foldl scs (.fresh, D) = (.word, D) ∨ (wordT x).foldl scs (.fresh, D) = (.done, D) := by
  unfold wordT
  by_cases h : bareT x = true
  · rw [if_pos h]
    obtain ⟨h1, h2⟩ := bare_small h
    exact .inl (fold_word x h1 fun c hc => scs_word (kin_small (h2 c hc)))
  · rw [if_neg h, List.foldl_cons, List.foldl_append]
    right
    show List.foldl scs ((x.flatMap escT).foldl scs (.inn, D)) [39] = _
    rw [scs_escs]
    rfl
theorem sc_scs (B : Nat) : Sc scs (fun D s => s = (.fresh, D)) (fun D s => s = (.word, D) ∨ s = (.done, D)) (fun _ => True) (fun _ => True) B where
  op := fun D s c h hk _ => by
    subst h
    unfold scs
    rw [hk]
  sh := fun D s c h hk => by
    unfold scs
    rcases h with rfl | rfl | rfl <;> rw [hk] <;> exact .inr rfl
  bl := fun D s h => by
    rcases h with rfl | rfl <;> rfl
  wd := fun D s x h _ => by
    subst h
    exact scs_wordT D x
  it := fun D s i h _ => by
    subst h
    exact .inl (fold_word _ (intT_ne i) fun c hc => scs_word (kin_num (intT_mem hc)))
  kn := fun D s x h hx => by
    subst h
    obtain ⟨h1, h2⟩ := kn_small hx
    exact .inl (fold_word _ h1 fun c hc => scs_word (kin_small (h2 c hc)))
/-- no bracket: the class is c0 or cb -/
theorem usc_escA (D : Nat) : ∀ l : List Nat, (∀ c ∈ l, brk c = false) → ∀ cl, cl = Cl.c0 ∨ cl = Cl.cb → ∃ cl', (l.flatMap escT).foldl usc (.inn cl, D) = (.inn cl', D)
  | [], _, cl, _ => ⟨cl, rfl⟩
  | c :: l, h, cl, hcl => by
    have hc := h c (List.mem_cons_self ..)
    have ih := usc_escA D l fun d hd => h d (List.mem_cons_of_mem _ hd)
    rw [List.flatMap_cons, List.foldl_append]
    have : ∃ cl', (cl' = Cl.c0 ∨ cl' = Cl.cb) ∧ (escT c).foldl usc (.inn cl, D) = (.inn cl', D) := by
      unfold escT
      by_cases h1 : c = 10
      · rw [if_pos h1]; exact ⟨cl, hcl, rfl⟩
      rw [if_neg h1]
      by_cases h2 : c = 39 ∨ c = 94
      · rw [if_pos h2]
        rcases h2 with rfl | rfl <;> exact ⟨cl, hcl, rfl⟩
      rw [if_neg h2]
      have hb : ¬ (c = 40 ∨ c = 91 ∨ c = 123) ∧ ¬ (c = 41 ∨ c = 93 ∨ c = 125) := by
        unfold brk at hc
        rw [decide_eq_false_iff_not] at hc
        simp only [List.mem_cons, List.mem_nil_iff, or_false] at hc
        constructor <;> omega
      show ∃ cl', _ ∧ usc (.inn cl, D) c = _
      unfold usc kin
      rw [if_neg hb.1, if_neg hb.2, if_neg (fun z => h2 (.inl z)), if_neg (fun z => h2 (.inr z))]
      by_cases h5 : c = 32
      · rw [if_pos h5]
        rcases hcl with rfl | rfl <;> exact ⟨.cb, .inr rfl, rfl⟩
      rw [if_neg h5, if_neg h1]
      by_cases h6 : c = 110
      · rw [if_pos h6]; exact ⟨cl, hcl, rfl⟩
      · rw [if_neg h6]; exact ⟨cl, hcl, rfl⟩
    obtain ⟨cl', h1, h2⟩ := this
    rw [h2]
    exact ih cl' h1
/-- no blank, few signs: the class is c0 or counts -/
theorem usc_escB (D : Nat) : ∀ (l : List Nat) (m : Nat), (∀ c ∈ l, c ≠ 32) → l.length + m ≤ 4 → ∀ cl, (cl = Cl.c0 ∨ ∃ k, cl = Cl.ck k ∧ k ≤ m) → ∃ cl', (l.flatMap escT).foldl usc (.inn cl, D) = (.inn cl', D)
  | [], _, _, _, cl, _ => ⟨cl, rfl⟩
  | c :: l, m, h, hm, cl, hcl => by
    have hc := h c (List.mem_cons_self ..)
    rw [List.length_cons] at hm
    have ih := usc_escB D l (m + 1) (fun d hd => h d (List.mem_cons_of_mem _ hd)) (by omega)
    rw [List.flatMap_cons, List.foldl_append]
    have up : ∀ cl, (cl = Cl.c0 ∨ ∃ k, cl = Cl.ck k ∧ k ≤ m) → (cl = Cl.c0 ∨ ∃ k, cl = Cl.ck k ∧ k ≤ m + 1) := fun cl z => by
      rcases z with z | ⟨k, z, hk⟩
      · exact .inl z
      · exact .inr ⟨k, z, by omega⟩
    have : ∃ cl', (cl' = Cl.c0 ∨ ∃ k, cl' = Cl.ck k ∧ k ≤ m + 1) ∧ (escT c).foldl usc (.inn cl, D) = (.inn cl', D) := by
      unfold escT
      by_cases h1 : c = 10
      · rw [if_pos h1]; exact ⟨cl, up cl hcl, rfl⟩
      rw [if_neg h1]
      by_cases h2 : c = 39 ∨ c = 94
      · rw [if_pos h2]
        rcases h2 with rfl | rfl <;> exact ⟨cl, up cl hcl, rfl⟩
      rw [if_neg h2]
      show ∃ cl', _ ∧ usc (.inn cl, D) c = _
      unfold usc kin
      by_cases h3 : c = 40 ∨ c = 91 ∨ c = 123
      · rw [if_pos h3]
        rcases hcl with rfl | ⟨k, rfl, hk⟩
        · exact ⟨.ck 1, .inr ⟨1, rfl, by omega⟩, rfl⟩
        · refine ⟨.ck (k + 1), .inr ⟨k + 1, rfl, by omega⟩, ?_⟩
          show (if k < 4 then _ else _) = _
          rw [if_pos (by omega)]
      rw [if_neg h3]
      by_cases h4 : c = 41 ∨ c = 93 ∨ c = 125
      · rw [if_pos h4]
        rcases hcl with rfl | ⟨k, rfl, hk⟩
        · exact ⟨.ck 0, .inr ⟨0, rfl, by omega⟩, rfl⟩
        · exact ⟨.ck k, .inr ⟨k, rfl, by omega⟩, rfl⟩
      rw [if_neg h4, if_neg (fun z => h2 (.inl z)), if_neg (fun z => h2 (.inr z)), if_neg hc, if_neg h1]
      by_cases h6 : c = 110
      · rw [if_pos h6]; exact ⟨cl, up cl hcl, rfl⟩
      · rw [if_neg h6]; exact ⟨cl, up cl hcl, rfl⟩
    obtain ⟨cl', h1, h2⟩ := this
    rw [h2]
    exact ih cl' h1
theorem usc_wordT (D : Nat) (x : List Nat) (hx : okX x) : (wordT x).foldl usc (.fresh, D) = (.word, D) ∨ (wordT x).foldl usc (.fresh, D) = (.done, D) := by
  unfold wordT
  by_cases h : bareT x = true
  · rw [if_pos h]
    obtain ⟨h1, h2⟩ := bare_small h
    exact .inl (fold_word x h1 fun c hc => usc_word (kin_small (h2 c hc)))
  · rw [if_neg h, List.foldl_cons, List.foldl_append]
    right
    have : ∃ cl', (x.flatMap escT).foldl usc (.inn .c0, D) = (.inn cl', D) := by
      rcases hx.2 with h | ⟨h, h4⟩
      · exact usc_escA D x h .c0 (.inl rfl)
      · exact usc_escB D x 0 h (by omega) .c0 (.inl rfl)
    obtain ⟨cl', e⟩ := this
    show List.foldl usc ((x.flatMap escT).foldl usc (.inn .c0, D)) [39] = _
    rw [e]
    rfl
theorem sc_usc : Sc usc (fun D s => s = (.fresh, D)) (fun D s => s = (.word, D) ∨ s = (.done, D)) okX (fun i => i.natAbs < 10 ^ 29) 4 where
  op := fun D s c h hk hD => by
    subst h
    unfold usc
    rw [hk]
    show (if D < 4 then _ else _) = _
    rw [if_pos hD]
  sh := fun D s c h hk => by
    unfold usc
    rcases h with rfl | rfl | rfl <;> rw [hk] <;> exact .inr (by show (if 0 < D + 1 then _ else _) = _; rw [if_pos (by omega)]; rfl)
  bl := fun D s h => by
    rcases h with rfl | rfl <;> rfl
  wd := fun D s x h hx => by
    subst h
    exact usc_wordT D x hx
  it := fun D s i h _ => by
    subst h
    exact .inl (fold_word _ (intT_ne i) fun c hc => usc_word (kin_num (intT_mem hc)))
  kn := fun D s x h hx => by
    subst h
    obtain ⟨h1, h2⟩ := kn_small hx
    exact .inl (fold_word _ h1 fun c hc => usc_word (kin_small (h2 c hc)))
mutual
theorem law_tx : ∀ t : T, LawT t → Ok t → TxP okX (fun i => i.natAbs < 10 ^ 29) t
  | .non, _, _ => by rw [TxP]; trivial
  | .bl _, _, _ => by rw [TxP]; trivial
  | .int i, h, _ => by rw [LawT] at h; rw [TxP]; exact h
  | .str x, h, _ => by rw [LawT] at h; rw [TxP]; exact h
  | .tup l, h, o => by rw [LawT] at h; rw [Ok] at o; rw [TxP]; exact law_txs l h o.1
  | .lst l, h, o => by rw [LawT] at h; rw [Ok] at o; rw [TxP]; exact law_txs l h o.1
  | .dic ks l, h, o => by rw [LawT] at h; rw [Ok] at o; rw [TxP]; exact ⟨o.2.2.1, h.1, law_txs l h.2 o.1⟩
theorem law_txs : ∀ l : List T, LawL l → OkL l → TxL okX (fun i => i.natAbs < 10 ^ 29) l
  | [], _, _ => by rw [TxL]; trivial
  | t :: l, h, o => by rw [LawL] at h; rw [OkL] at o; rw [TxL]; exact ⟨law_tx t h.1 o.1, law_txs l h.2 o.2⟩
end
/-! ### how much deeper a piece can lead -/
theorem scan_app (s : Qs × Nat) (a b : List Nat) : scan s (a ++ b) = scan (scan s a) b := List.foldl_append ..
theorem scs_dead (s : Qs × Nat) (c : Nat) (h : s.1 = .dead → s.2 = 0) : (scs s c).1 = .dead → (scs s c).2 = 0 := by
  obtain ⟨q, D⟩ := s
  unfold scs
  cases q <;> cases kin c <;> simp_all
theorem scan_dead : ∀ (l : List Nat) (s : Qs × Nat), (s.1 = .dead → s.2 = 0) → (scan s l).1 = .dead → (scan s l).2 = 0
  | [], _, h => h
  | c :: l, s, h => scan_dead l (scs s c) (scs_dead s c h)
def Gr (n : Nat) (F : List Nat) : Prop := ∀ (s : Qs × Nat) (k : Nat), (s.1 = .dead → s.2 = 0) → (scan s (F.take k)).2 ≤ s.2 + n
theorem gr_app {n m : Nat} {F G : List Nat} (h1 : Gr n F) (h2 : Gr m G) : Gr (n + m) (F ++ G) := fun s k hs => by
  by_cases h : k ≤ F.length
  · rw [List.take_append_of_le_length h]
    have := h1 s k hs
    omega
  · rw [List.take_append, List.take_of_length_le (by omega), scan_app]
    have a := h1 s F.length hs
    rw [List.take_length] at a
    have b := h2 (scan s F) (k - F.length) (scan_dead F s hs)
    omega
theorem gr_nil : Gr 0 [] := fun s k _ => by rw [List.take_nil]; exact Nat.le_refl _
theorem gr_one (c : Nat) : Gr 1 [c] := fun s k _ => by
  cases k with
  | zero => exact Nat.le_succ _
  | succ k =>
    rw [show List.take (k + 1) [c] = [c] from by simp]
    show (scs s c).2 ≤ _
    obtain ⟨q, D⟩ := s
    unfold scs
    cases q <;> cases kin c <;> simp <;> omega
theorem usc_dead : ∀ (l : List Nat), l.foldl usc (.dead, 0) = (.dead, 0)
  | [] => rfl
  | c :: l => usc_dead l
theorem usc_dead0 (u : Us × Nat) (c : Nat) (h : (usc u c).1 = .dead) : u.1 = .dead ∨ usc u c = (.dead, 0) := by
  obtain ⟨u, l⟩ := u
  unfold usc at h ⊢
  rcases u with _ | _ | _ | (_ | k | _) | (_ | k | _) | _ <;> cases hk : kin c <;> simp only [hk] at h ⊢ <;> (try split at h) <;> simp_all
theorem alive_pre (u : Us × Nat) (a b : List Nat) (hu : u.1 ≠ .dead) (h : ((a ++ b).foldl usc u).1 ≠ .dead) : (a.foldl usc u).1 ≠ .dead := by
  induction a generalizing u with
  | nil => exact hu
  | cons c a ih =>
    rw [List.cons_append, List.foldl_cons] at h
    rw [List.foldl_cons]
    refine ih _ (fun z => ?_) h
    rcases usc_dead0 u c z with z | z
    · exact hu z
    · rw [z, usc_dead] at h
      exact h rfl
theorem both_run (D0 : Nat) : ∀ (l : List Nat) (u : Us × Nat) (r : Qs × Nat), Uok u → Iv D0 u r → Uok (l.foldl usc u) ∧ Iv D0 (l.foldl usc u) (scan r l)
  | [], _, _, hu, h => ⟨hu, h⟩
  | c :: l, u, r, hu, h => both_run D0 l (usc u c) (scs r c) (uok_step u c hu) (iv_step D0 u r c hu h)
/-- any piece of a text of a thing by the law leads four deeper at most -/
theorem gr_fac {t : T} (hl : LawT t) (ho : Ok t) (hd : dep t ≤ 4) {F : List Nat} (hF : F <:+: spelt t) : Gr 4 F := by
  intro s k hs
  obtain ⟨a, b, e⟩ := hF
  have fin := run_spelt sc_usc t 0 (.fresh, 0) rfl (law_tx t hl ho) (by omega)
  have alive : ((spelt t).foldl usc (.fresh, 0)).1 ≠ .dead := by
    rcases fin with h | h <;> rw [h] <;> exact fun z => nomatch z
  have al2 : ((a ++ F.take k).foldl usc (.fresh, 0)).1 ≠ .dead := by
    refine alive_pre (.fresh, 0) (a ++ F.take k) (F.drop k ++ b) (fun z => nomatch z) ?_
    have : (a ++ F.take k) ++ (F.drop k ++ b) = spelt t := by
      rw [← e, List.append_assoc, ← List.append_assoc (F.take k), List.take_append_drop, List.append_assoc]
    rw [this]
    exact alive
  rw [List.foldl_append] at al2
  obtain ⟨u1, _⟩ := both_run 0 a (.fresh, 0) (.dead, 0) ⟨by show 0 ≤ 4; omega, trivial⟩ rfl
  obtain ⟨u2, i2⟩ := both_run s.2 (F.take k) _ s u1 (iv_start _ s hs)
  exact iv_le u2 i2 al2
/-! ### what bending makes of a text: pieces of it and single signs -/
inductive Wt (u : List Nat) : Nat → List Nat → Prop where
  | nil : Wt u 0 []
  | fac {n : Nat} {F W : List Nat} : F <:+: u → Wt u n W → Wt u (n + 4) (F ++ W)
  | one {n c : Nat} {W : List Nat} : Wt u n W → Wt u (n + 1) (c :: W)
theorem Wt.app {u : List Nat} {n m : Nat} {A B : List Nat} (h1 : Wt u n A) (h2 : Wt u m B) : Wt u (n + m) (A ++ B) := by
  induction h1 with
  | nil => rw [Nat.zero_add]; exact h2
  | fac hF _ ih => rw [List.append_assoc, Nat.add_right_comm]; exact .fac hF ih
  | one _ ih => rw [List.cons_append, Nat.add_right_comm]; exact .one ih
theorem Wt.cut {u : List Nat} {n : Nat} {A : List Nat} (h : Wt u n A) : ∀ k : Nat, ∃ a b, Wt u a (A.take k) ∧ Wt u b (A.drop k) ∧ a + b ≤ n + 4 := by
  induction h with
  | nil => exact fun k => ⟨0, 0, by rw [List.take_nil]; exact .nil, by rw [List.drop_nil]; exact .nil, by omega⟩
  | @fac n F W hF hW ih =>
    intro k
    by_cases hk : k ≤ F.length
    · rw [List.take_append_of_le_length hk, List.drop_append_of_le_length hk]
      refine ⟨4, n + 4, ?_, .fac (List.IsInfix.trans (List.drop_suffix k F).isInfix hF) hW, by omega⟩
      have := Wt.fac (n := 0) (W := []) (List.IsInfix.trans (List.take_prefix k F).isInfix hF) .nil
      rw [List.append_nil, Nat.zero_add] at this
      exact this
    · obtain ⟨a, b, h1, h2, h3⟩ := ih (k - F.length)
      rw [List.take_append, List.take_of_length_le (by omega), List.drop_append, List.drop_of_length_le (by omega), List.nil_append]
      exact ⟨a + 4, b, .fac hF h1, h2, by omega⟩
  | @one n c W hW ih =>
    intro k
    cases k with
    | zero => exact ⟨0, n + 1, .nil, .one hW, by omega⟩
    | succ k =>
      obtain ⟨a, b, h1, h2, h3⟩ := ih k
      exact ⟨a + 1, b, .one h1, h2, by omega⟩
theorem Wt.self (u : List Nat) : Wt u 4 u := by
  have := Wt.fac (n := 0) (W := []) (List.infix_refl u) .nil
  rw [List.append_nil, Nat.zero_add] at this
  exact this
theorem Wt.grow {t : T} (hl : LawT t) (ho : Ok t) (hd : dep t ≤ 4) {n : Nat} {W : List Nat} (h : Wt (spelt t) n W) : Gr n W := by
  induction h with
  | nil => exact gr_nil
  | @fac n F W hF _ ih => rw [Nat.add_comm]; exact gr_app (gr_fac hl ho hd hF) ih
  | @one n c W _ ih => rw [Nat.add_comm]; exact gr_app (gr_one c) ih
/-! ### figures in a row -/
def Dg (m : Nat) (W : List Nat) : Prop := ∀ i, ((W.drop i).takeWhile fig).length ≤ m
theorem tw_app_le (p : Nat → Bool) : ∀ a b : List Nat, ((a ++ b).takeWhile p).length ≤ (a.takeWhile p).length + (b.takeWhile p).length
  | [], b => by simp
  | c :: a, b => by
    rw [List.cons_append]
    by_cases h : p c = true
    · rw [List.takeWhile_cons_of_pos h, List.takeWhile_cons_of_pos h, List.length_cons, List.length_cons]
      have := tw_app_le p a b
      omega
    · rw [List.takeWhile_cons_of_neg h, List.takeWhile_cons_of_neg h]
      simp
theorem dg_app {m n : Nat} {F G : List Nat} (h1 : Dg m F) (h2 : Dg n G) : Dg (m + n) (F ++ G) := fun i => by
  rw [List.drop_append]
  have := tw_app_le fig (F.drop i) (G.drop (i - F.length))
  have := h1 i
  have := h2 (i - F.length)
  omega
theorem dg_len {W : List Nat} : Dg W.length W := fun i => by
  have := tw_len (p := fig) (W.drop i)
  rw [List.length_drop] at this
  omega
theorem dg_mono {m n : Nat} {W : List Nat} (h : Dg m W) (hm : m ≤ n) : Dg n W := fun i => Nat.le_trans (h i) hm
theorem tw_pre (p : Nat → Bool) : ∀ a c : List Nat, (a.takeWhile p).length ≤ ((a ++ c).takeWhile p).length
  | [], c => by simp
  | x :: a, c => by
    have ih := tw_pre p a c
    rw [List.cons_append]
    by_cases h : p x = true
    · rw [List.takeWhile_cons_of_pos h, List.takeWhile_cons_of_pos h, List.length_cons, List.length_cons]
      omega
    · rw [List.takeWhile_cons_of_neg h, List.takeWhile_cons_of_neg h]
      exact Nat.le_refl _
theorem dg_infix {m : Nat} {F U : List Nat} (h : F <:+: U) (hU : Dg m U) : Dg m F := fun i => by
  obtain ⟨a, b, e⟩ := h
  by_cases hi : i ≤ F.length
  · have e2 : U.drop (a.length + i) = F.drop i ++ b := by rw [← e, List.append_assoc, ← List.drop_drop, List.drop_left, List.drop_append_of_le_length hi]
    have := hU (a.length + i)
    rw [e2] at this
    exact Nat.le_trans (tw_pre fig _ _) this
  · rw [List.drop_of_length_le (by omega)]
    simp
/-- the scanner that counts figures in a row -/
def dst (s : Option Nat) (c : Nat) : Option Nat := match s with
  | none => none
  | some r => if fig c = true then (if r < 30 then some (r + 1) else none) else some 0
theorem dst_some (r c : Nat) : dst (some r) c = if fig c = true then (if r < 30 then some (r + 1) else none) else some 0 := rfl
theorem dst_none : ∀ l : List Nat, l.foldl dst none = none
  | [] => rfl
  | _ :: l => dst_none l
theorem dst_any : ∀ (l : List Nat) (r : Nat), r + l.length ≤ 30 → ∃ r', r' ≤ 30 ∧ l.foldl dst (some r) = some r'
  | [], r, h => ⟨r, by simpa using h, rfl⟩
  | c :: l, r, h => by
    rw [List.length_cons] at h
    rw [List.foldl_cons, dst_some]
    by_cases hc : fig c = true
    · rw [if_pos hc, if_pos (by omega)]
      exact dst_any l (r + 1) (by omega)
    · rw [if_neg hc]
      exact dst_any l 0 (by omega)
theorem fig_kin {c : Nat} (h : kin c = .op ∨ kin c = .sh) : fig c = false := by
  unfold fig
  unfold kin at h
  rw [Bool.and_eq_false_iff, decide_eq_false_iff_not, decide_eq_false_iff_not]
  by_cases h1 : c = 40 ∨ c = 91 ∨ c = 123
  · omega
  rw [if_neg h1] at h
  by_cases h2 : c = 41 ∨ c = 93 ∨ c = 125
  · omega
  rw [if_neg h2] at h
  repeat (first | (split at h; · simp at h) | simp at h)
theorem sc_dst (B : Nat) : Sc dst (fun _ s => s = some 0) (fun _ s => ∃ r, r ≤ 30 ∧ s = some r) okX (fun i => i.natAbs < 10 ^ 29) B where
  op := fun D s c h hk _ => by
    subst h
    unfold dst
    rw [fig_kin (.inl hk)]
    rfl
  sh := fun D s c h hk => by
    unfold dst
    rcases h with rfl | ⟨r, _, rfl⟩ <;> rw [fig_kin (.inr hk)] <;> exact ⟨0, by omega, rfl⟩
  bl := fun D s h => by
    obtain ⟨r, _, rfl⟩ := h
    rfl
  wd := fun D s x h hx => by
    subst h
    have := word_len x
    have := hx.1
    exact dst_any _ 0 (by omega)
  it := fun D s i h hi => by
    subst h
    have := TL.numL_len (k := 29) (by omega) hi
    refine dst_any _ 0 ?_
    unfold intT
    split
    · rw [List.length_cons]; omega
    · omega
  kn := fun D s x h hx => by
    subst h
    refine dst_any _ 0 ?_
    simp only [List.mem_cons, List.mem_nil_iff, or_false] at hx
    rcases hx with rfl | rfl | rfl <;> decide
theorem dst_figs : ∀ (l : List Nat) (r r' : Nat), (∀ c ∈ l, fig c = true) → l.foldl dst (some r) = some r' → r ≤ 30 → l.length ≤ 30
  | l, r, r', hl, h, hr => by
    have : ∀ (l : List Nat) (r r' : Nat), (∀ c ∈ l, fig c = true) → l.foldl dst (some r) = some r' → r ≤ 30 → r + l.length ≤ 30 := fun l => by
      induction l with
      | nil => intro r r' _ _ hr; simpa using hr
      | cons c l ih =>
        intro r r' hl h hr
        rw [List.foldl_cons, dst_some] at h
        rw [if_pos (hl c (List.mem_cons_self ..))] at h
        by_cases h30 : r < 30
        · rw [if_pos h30] at h
          have := ih (r + 1) r' (fun d hd => hl d (List.mem_cons_of_mem _ hd)) h (by omega)
          rw [List.length_cons]
          omega
        · rw [if_neg h30, dst_none] at h
          cases h
    have := this l r r' hl h hr
    omega
theorem dg_thing {t : T} (hl : LawT t) (ho : Ok t) : Dg 30 (spelt t) := fun i => by
  obtain ⟨r, _, e⟩ := run_spelt (sc_dst (dep t)) t 0 (some 0) rfl (law_tx t hl ho) (by omega)
  have e0 : spelt t = (spelt t).take i ++ (((spelt t).drop i).takeWhile fig ++ ((spelt t).drop i).dropWhile fig) := by
    rw [List.takeWhile_append_dropWhile, List.take_append_drop]
  rw [e0, List.foldl_append, List.foldl_append] at e
  have some1 : ∀ (l : List Nat) (s : Option Nat) (r : Nat), l.foldl dst s = some r → ∃ r', s = some r' := fun l s r h => by
    cases s with
    | none => rw [dst_none] at h; cases h
    | some r' => exact ⟨r', rfl⟩
  obtain ⟨r2, e2⟩ := some1 _ _ _ e
  obtain ⟨r1, e1⟩ := some1 _ _ _ e2
  rw [e1] at e2
  have le30 : ∀ (l : List Nat) (s r : Nat), s ≤ 30 → l.foldl dst (some s) = some r → r ≤ 30 := fun l => by
    induction l with
    | nil => intro s r hs h; cases h; exact hs
    | cons c l ih =>
      intro s r hs h
      rw [List.foldl_cons, dst_some] at h
      by_cases hc : fig c = true
      · rw [if_pos hc] at h
        by_cases h30 : s < 30
        · rw [if_pos h30] at h; exact ih _ r (by omega) h
        · rw [if_neg h30, dst_none] at h; cases h
      · rw [if_neg hc] at h; exact ih 0 r (by omega) h
  refine dst_figs _ r1 r2 (fun c hc => ?_) e2 (le30 _ 0 r1 (by omega) e1)
  have := tw_all (p := fig) ((spelt t).drop i)
  rw [List.all_eq_true] at this
  exact this c hc
theorem Wt.figs {t : T} (hl : LawT t) (ho : Ok t) {n : Nat} {W : List Nat} (h : Wt (spelt t) n W) : Dg (8 * n) W := by
  induction h with
  | nil => exact dg_len
  | @fac n F W hF _ ih => exact dg_mono (dg_app (dg_infix hF (dg_thing hl ho)) ih) (by omega)
  | @one n c W _ ih => exact dg_mono (dg_app (dg_len (W := [c])) ih) (by simp; omega)
end K97

set_option Elab.async false
set_option linter.all false
set_option maxRecDepth 100000
set_option maxHeartbeats 4000000
/-! What is read is written as the text; a reader that is never led too deep never sticks. -/
namespace K97
open PySem PySem.Spec PyProof.Rows L2 Lk SX
def lThing (W : List Nat) : Nat → Nat → R T
  | 0, _ => .stuck
  | d + 1, i => pStep W (some (lThing W d)) i
/-! ### a deeper reader reads the same -/
def Lee {α : Type} (a b : R α) : Prop := a = .stuck ∨ b = a
theorem things_lee {W : List Nat} {f g : Nat → R T} (h : ∀ i, Lee (f i) (g i)) (e : Nat) : ∀ (n i : Nat) (acc : List T), Lee (pThings W f e n i acc) (pThings W g e n i acc)
  | 0, _, _ => .inl rfl
  | n + 1, i, acc => by
    unfold pThings
    by_cases h1 : W[i]? = some e
    · rw [if_pos h1, if_pos h1]; exact .inr rfl
    rw [if_neg h1, if_neg h1]
    by_cases h2 : acc ≠ [] ∧ W[i]? ≠ some 32
    · rw [if_pos h2, if_pos h2]; exact .inr rfl
    rw [if_neg h2, if_neg h2]
    rcases h (if acc = [] then i else i + 1) with hf | hf
    · rw [hf]; exact .inl rfl
    · rw [hf]
      cases f (if acc = [] then i else i + 1) with
      | ok t k => exact things_lee h e n k (acc ++ [t])
      | err k => exact .inr rfl
      | stuck => exact .inl rfl
theorem pairs_lee {W : List Nat} {f g : Nat → R T} (h : ∀ i, Lee (f i) (g i)) : ∀ (n i : Nat) (ks : List (List Nat)) (ts : List T), Lee (pPairs W f n i ks ts) (pPairs W g n i ks ts)
  | 0, _, _, _ => .inl rfl
  | n + 1, i, ks, ts => by
    unfold pPairs
    by_cases h1 : W[i]? = some 125
    · rw [if_pos h1, if_pos h1]; exact .inr rfl
    rw [if_neg h1, if_neg h1]
    by_cases h2 : ks ≠ [] ∧ W[i]? ≠ some 32
    · rw [if_pos h2, if_pos h2]; exact .inr rfl
    rw [if_neg h2, if_neg h2]
    cases pKey W (if ks = [] then i else i + 1) ks.getLast? with
    | err k => exact .inr rfl
    | stuck => exact .inl rfl
    | ok key k =>
      simp only
      by_cases h3 : W[k]? ≠ some 32
      · rw [if_pos h3, if_pos h3]; exact .inr rfl
      rw [if_neg h3, if_neg h3]
      rcases h (k + 1) with hf | hf
      · rw [hf]; exact .inl rfl
      · rw [hf]
        cases f (k + 1) with
        | ok t m => exact pairs_lee h n m _ _
        | err m => exact .inr rfl
        | stuck => exact .inl rfl
theorem map_lee {α β : Type} {a b : R α} (f : α → β) (h : Lee a b) : Lee (a.map f) (b.map f) := by
  rcases h with h | h
  · rw [h]; exact .inl rfl
  · rw [h]; exact .inr rfl
theorem step_lee {W : List Nat} {f g : Nat → R T} (h : ∀ i, Lee (f i) (g i)) (i : Nat) : Lee (pStep W (some f) i) (pStep W (some g) i) := by
  unfold pStep
  cases W[i]? with
  | none => exact .inr rfl
  | some c =>
    simp only
    by_cases h1 : c = 39
    · rw [if_pos h1, if_pos h1]; exact .inr rfl
    rw [if_neg h1, if_neg h1]
    by_cases h2 : small c = true
    · rw [if_pos h2, if_pos h2]; exact .inr rfl
    rw [if_neg h2, if_neg h2]
    by_cases h3 : c = 40 ∨ c = 91 ∨ c = 123
    · rw [if_pos h3, if_pos h3]
      by_cases h4 : c = 123
      · rw [if_pos h4, if_pos h4]; exact pairs_lee h _ _ _ _
      rw [if_neg h4, if_neg h4]
      by_cases h5 : c = 40
      · rw [if_pos h5, if_pos h5]; exact map_lee _ (things_lee h _ _ _ _)
      rw [if_neg h5, if_neg h5]
      exact map_lee _ (things_lee h _ _ _ _)
    · rw [if_neg h3, if_neg h3]; exact .inr rfl
theorem thing_lee (W : List Nat) : ∀ (n d i : Nat), n ≤ d → Lee (lThing W n i) (pThing W d i)
  | 0, _, _, _ => .inl rfl
  | n + 1, d, i, h => by
    obtain ⟨e, rfl⟩ : ∃ e, d = e + 1 := ⟨d - 1, by omega⟩
    exact step_lee (fun j => thing_lee W n e j (by omega)) i
/-! ### places -/
theorem take_of_drop {W a : List Nat} {i j : Nat} (hi : i ≤ W.length) (hj : j ≤ W.length) (h : W.drop i = a ++ W.drop j) : j = i + a.length ∧ W.take j = W.take i ++ a := by
  have hl := congrArg List.length h
  rw [List.length_append, List.length_drop, List.length_drop] at hl
  have e : j = i + a.length := by omega
  refine ⟨e, ?_⟩
  have h1 : W.take i ++ a ++ W.drop j = W := by rw [List.append_assoc, ← h, List.take_append_drop]
  have h2 := congrArg (List.take j) h1
  rw [← h2, List.take_append_of_le_length (by rw [List.length_append, List.length_take]; omega), List.take_of_length_le (by rw [List.length_append, List.length_take]; omega)]
theorem drop_at {W : List Nat} {i c : Nat} (h : W[i]? = some c) : W.drop i = [c] ++ W.drop (i + 1) ∧ i < W.length ∧ W.take (i + 1) = W.take i ++ [c] := by
  refine ⟨drop_some h, (List.getElem?_eq_some_iff.mp h).1, ?_⟩
  rw [List.take_add_one, h]
  rfl
/-! ### numbers -/
theorem numL_back : ∀ (ds : List Nat), ds ≠ [] → (∀ c ∈ ds, 48 ≤ c ∧ c ≤ 57) → (∀ c, ds.head? = some c → 49 ≤ c) → TL.numL (NumText.digitsVal ds) = ds := fun ds => by
  induction hn : ds.length generalizing ds with
  | zero => intro h; exact absurd (List.length_eq_zero_iff.mp hn) h
  | succ n ih =>
    intro hne hd hh
    obtain ⟨cs, c, rfl⟩ : ∃ cs c, ds = cs ++ [c] := ⟨ds.dropLast, ds.getLast hne, (List.dropLast_concat_getLast hne).symm⟩
    have hc := hd c (by simp)
    rw [NumText.digitsVal_snoc]
    cases cs with
    | nil =>
      have := hh c rfl
      rw [show NumText.digitsVal [] = 0 from rfl, TL.numL_lt (by omega)]
      show [48 + (0 * 10 + (c - 48))] = [c]
      congr 1
      omega
    | cons x cs =>
      have hx := hh x rfl
      have i1 := ih (x :: cs) (by simpa using hn) (List.cons_ne_nil _ _) (fun d h => hd d (List.mem_append_left _ h)) (fun d h => hh d (by simpa using h))
      have hp := NumText.digitsVal_pos (c := x) (cs := cs) hx
      rw [TL.numL_step (by omega), show (NumText.digitsVal (x :: cs) * 10 + (c - 48)) / 10 = NumText.digitsVal (x :: cs) from by omega, i1]
      congr 1
      show [48 + _] = [c]
      congr 1
      omega
theorem val_lt : ∀ (ds : List Nat), (∀ c ∈ ds, 48 ≤ c ∧ c ≤ 57) → NumText.digitsVal ds < 10 ^ ds.length := fun ds => by
  induction hn : ds.length generalizing ds with
  | zero => intro _; rw [List.length_eq_zero_iff.mp hn]; decide
  | succ n ih =>
    intro hd
    have hne : ds ≠ [] := fun z => by rw [z] at hn; cases hn
    obtain ⟨cs, c, rfl⟩ : ∃ cs c, ds = cs ++ [c] := ⟨ds.dropLast, ds.getLast hne, (List.dropLast_concat_getLast hne).symm⟩
    have hc := hd c (by simp)
    have i1 := ih cs (by simpa using hn) (fun d h => hd d (List.mem_append_left _ h))
    rw [NumText.digitsVal_snoc, Nat.pow_succ]
    omega
theorem nat_rd {W : List Nat} {b : Bool} {j : Nat} (hj : j ≤ W.length) (hd : (digits W j).length ≤ 400) : match pNat W b j with
    | .stuck => False
    | .err _ => True
    | .ok z k => ∃ n : Nat, z = (if b then 0 - (n : Int) else (n : Int)) ∧ (b = true → 0 < n) ∧ k ≤ W.length ∧ j < k ∧ W.drop j = TL.numL n ++ W.drop k ∧ n < 10 ^ 400 := by
  unfold pNat
  by_cases h0 : b = false ∧ W[j]? = some 48
  · rw [if_pos h0]
    obtain ⟨hb0, h48⟩ := h0
    subst hb0
    obtain ⟨e1, e2, _⟩ := drop_at h48
    refine ⟨0, rfl, (fun z => nomatch z), e2, Nat.lt_succ_self _, ?_, Nat.pow_pos (by omega)⟩
    rw [e1, show TL.numL 0 = [48] from TL.numL_lt (by omega)]
  rw [if_neg h0]
  cases hc : W[j]? with
  | none => rw [if_neg (by simp)]; trivial
  | some c =>
    by_cases h1 : (decide (49 ≤ c) && decide (c ≤ 57)) = true
    · rw [if_pos h1, if_pos (by omega)]
      simp only [Bool.and_eq_true, decide_eq_true_eq] at h1
      have hf : fig c = true := by unfold fig; simp; omega
      have all : ∀ d ∈ digits W j, 48 ≤ d ∧ d ≤ 57 := fun d hd => by
        have := tw_all (p := fig) (W.drop j)
        rw [List.all_eq_true] at this
        have := this d hd
        unfold fig at this
        simpa using this
      have hcons : ∃ r, digits W j = c :: r := by
        unfold digits
        rw [drop_some hc, List.takeWhile_cons_of_pos hf]
        exact ⟨_, rfl⟩
      obtain ⟨r, hr⟩ := hcons
      have hne : digits W j ≠ [] := by rw [hr]; exact List.cons_ne_nil _ _
      have hh : ∀ d, (digits W j).head? = some d → 49 ≤ d := fun d h => by
        rw [hr] at h
        cases h
        exact h1.1
      have hlen : (digits W j).length ≤ (W.drop j).length := tw_len _
      rw [List.length_drop] at hlen
      have hpos : 0 < (digits W j).length := List.length_pos_iff.mpr hne
      refine ⟨NumText.digitsVal (digits W j), rfl, fun _ => ?_, by omega, by omega, ?_, ?_⟩
      · rw [hr]; exact NumText.digitsVal_pos h1.1
      · rw [numL_back _ hne all hh]
        unfold digits
        rw [← List.drop_drop]
        conv => lhs; rw [← List.take_append_drop ((W.drop j).takeWhile fig).length (W.drop j), tw_take]
      · exact Nat.lt_of_lt_of_le (val_lt _ all) (Nat.pow_le_pow_right (by omega) hd)
    · rw [if_neg h1]; trivial
theorem num_rd {W : List Nat} {i : Nat} (hi : i ≤ W.length) (hd : ∀ j, (digits W j).length ≤ 400) : match pNum W i with
    | .stuck => False
    | .err _ => True
    | .ok z k => k ≤ W.length ∧ i < k ∧ W.drop i = intT z ++ W.drop k ∧ z.natAbs < 10 ^ 400 := by
  unfold pNum
  by_cases h : W[i]? = some 45
  · rw [if_pos h]
    obtain ⟨e1, e2, _⟩ := drop_at h
    have := nat_rd (b := true) (j := i + 1) (W := W) e2 (hd _)
    cases hp : pNat W true (i + 1) with
    | stuck => rw [hp] at this; exact this
    | err k => trivial
    | ok z k =>
      rw [hp] at this
      obtain ⟨n, rfl, hn, h1, h2, h3, h4⟩ := this
      have := hn rfl
      refine ⟨h1, by omega, ?_, by simp; exact h4⟩
      rw [e1, h3]
      unfold intT
      rw [if_pos (by simp; omega), show (if true = true then 0 - (n : Int) else (n : Int)).natAbs = n from by simp]
      rfl
  · rw [if_neg h]
    have := nat_rd (b := false) (j := i) (W := W) hi (hd _)
    cases hp : pNat W false i with
    | stuck => rw [hp] at this; exact this
    | err k => trivial
    | ok z k =>
      rw [hp] at this
      obtain ⟨n, rfl, hn, h1, h2, h3, h4⟩ := this
      refine ⟨h1, h2, ?_, by simpa using h4⟩
      rw [h3]
      unfold intT
      rw [if_neg (by simp), show (if false = true then 0 - (n : Int) else (n : Int)).natAbs = n from by simp]
/-! ### texts between quotes -/
theorem q_rd {W : List Nat} : ∀ (n i : Nat) (acc : List Nat), i ≤ W.length → W.length < n + i → match qLoop W n i acc with
    | .stuck => False
    | .err _ => True
    | .ok l j => ∃ m, l = acc ++ m ∧ j ≤ W.length ∧ i < j ∧ W.drop i = m.flatMap escT ++ 39 :: W.drop j
  | 0, i, acc, hi, hn => by omega
  | n + 1, i, acc, hi, hn => by
    unfold qLoop
    cases hc : W[i]? with
    | none => trivial
    | some c =>
      obtain ⟨e1, e2, _⟩ := drop_at hc
      simp only
      by_cases h1 : c = 39
      · rw [if_pos h1]
        subst h1
        exact ⟨[], by simp, e2, Nat.lt_succ_self _, e1⟩
      rw [if_neg h1]
      by_cases h2 : c = 10
      · rw [if_pos h2]; trivial
      rw [if_neg h2]
      by_cases h3 : c = 94
      · rw [if_pos h3]
        subst h3
        cases hd : W[i + 1]? with
        | none => trivial
        | some d =>
          obtain ⟨f1, f2, _⟩ := drop_at hd
          have go : ∀ x, escT x = [94, d] → match qLoop W n (i + 2) (acc ++ [x]) with
              | .stuck => False
              | .err _ => True
              | .ok l j => ∃ m, l = acc ++ m ∧ j ≤ W.length ∧ i < j ∧ W.drop i = m.flatMap escT ++ 39 :: W.drop j := fun x hx => by
            have ih := q_rd (W := W) n (i + 2) (acc ++ [x]) (by omega) (by omega)
            cases hq : qLoop W n (i + 2) (acc ++ [x]) with
            | stuck => rw [hq] at ih; exact ih
            | err k => trivial
            | ok l j =>
              rw [hq] at ih
              obtain ⟨m, rfl, g1, g2, g3⟩ := ih
              refine ⟨x :: m, by simp, g1, by omega, ?_⟩
              rw [e1, f1, g3, List.flatMap_cons, hx]
              simp
          simp only
          by_cases h4 : d = 110
          · rw [if_pos h4]
            exact go 10 (by rw [h4]; rfl)
          rw [if_neg h4]
          by_cases h5 : d = 39 ∨ d = 94
          · rw [if_pos h5]
            refine go d ?_
            unfold escT
            rw [if_neg (by omega), if_pos h5]
          · rw [if_neg h5]; trivial
      rw [if_neg h3]
      have ih := q_rd (W := W) n (i + 1) (acc ++ [c]) (by omega) (by omega)
      cases hq : qLoop W n (i + 1) (acc ++ [c]) with
      | stuck => rw [hq] at ih; exact ih
      | err k => trivial
      | ok l j =>
        rw [hq] at ih
        obtain ⟨m, rfl, g1, g2, g3⟩ := ih
        refine ⟨c :: m, by simp, g1, by omega, ?_⟩
        rw [e1, g3, List.flatMap_cons]
        have : escT c = [c] := by unfold escT; rw [if_neg h2, if_neg (by omega)]
        rw [this]
        simp
theorem quo_rd {W : List Nat} {i : Nat} (h : W[i]? = some 39) : match pQuo W i with
    | .stuck => False
    | .err _ => True
    | .ok l j => j ≤ W.length ∧ i < j ∧ W.drop i = wordT l ++ W.drop j := by
  obtain ⟨e1, e2, _⟩ := drop_at h
  unfold pQuo
  have := q_rd (W := W) (W.length + 1) (i + 1) [] e2 (by omega)
  cases hq : qLoop W (W.length + 1) (i + 1) [] with
  | stuck => rw [hq] at this; exact this
  | err k => trivial
  | ok l j =>
    rw [hq] at this
    obtain ⟨m, rfl, g1, g2, g3⟩ := this
    simp only [List.nil_append]
    by_cases hb : bareT l = true
    · rw [if_pos hb]; trivial
    · rw [if_neg hb]
      refine ⟨g1, by omega, ?_⟩
      rw [e1, g3]
      unfold wordT
      rw [if_neg hb]
      simp
theorem word_rd {W : List Nat} {i : Nat} (hi : i ≤ W.length) : i + (word W i).length ≤ W.length ∧ W.drop i = word W i ++ W.drop (i + (word W i).length) ∧ ∀ c ∈ word W i, small c = true := by
  have hl : (word W i).length ≤ (W.drop i).length := tw_len _
  rw [List.length_drop] at hl
  refine ⟨by omega, ?_, fun c hc => ?_⟩
  · unfold word
    rw [← List.drop_drop]
    conv => lhs; rw [← List.take_append_drop ((W.drop i).takeWhile small).length (W.drop i), tw_take]
  · have := tw_all (p := small) (W.drop i)
    rw [List.all_eq_true] at this
    exact this c hc
theorem key_rd {W : List Nat} {i : Nat} {ahead : Option (List Nat)} (hi : i ≤ W.length) : match pKey W i ahead with
    | .stuck => False
    | .err _ => True
    | .ok l j => j ≤ W.length ∧ i < j ∧ W.drop i = wordT l ++ W.drop j := by
  unfold pKey pRaw
  by_cases h : W[i]? = some 39
  · rw [if_pos h]
    have := quo_rd h
    cases hq : pQuo W i with
    | stuck => rw [hq] at this; exact this
    | err k => trivial
    | ok l j =>
      rw [hq] at this
      simp only
      by_cases h1 : late ahead l = true
      · rw [if_pos h1]; trivial
      · rw [if_neg h1, if_pos (.inl h)]; exact this
  · rw [if_neg h]
    simp only
    obtain ⟨h1, h2, h3⟩ := word_rd hi
    by_cases hl : late ahead (word W i) = true
    · rw [if_pos hl]; trivial
    rw [if_neg hl]
    by_cases hb : bareT (word W i) = true
    · rw [if_pos (.inr hb)]
      refine ⟨h1, ?_, by unfold wordT; rw [if_pos hb]; exact h2⟩
      have := List.length_pos_iff.mpr (bare_small hb).1
      omega
    · rw [if_neg (fun z => z.elim h hb)]; trivial
/-! ### things -/
structure Deep (W : List Nat) (M : Nat) : Prop where
  len : W.length ≤ 1000000
  dp : ∀ i, (scan (.fresh, 0) (W.take i)).2 ≤ M
  dg : ∀ j, (digits W j).length ≤ 400
/-- where a reader stands that has read the first i signs, with D open -/
abbrev At0 (W : List Nat) (i D : Nat) : Prop := scan (.fresh, 0) (W.take i) = (.fresh, D)
def At1 (W : List Nat) (i D : Nat) : Prop := scan (.fresh, 0) (W.take i) = (.word, D) ∨ scan (.fresh, 0) (W.take i) = (.done, D)
def Post (W : List Nat) (M D i : Nat) : R T → Prop
  | .stuck => False
  | .err _ => True
  | .ok t j => j ≤ W.length ∧ i < j ∧ W.drop i = spelt t ++ W.drop j ∧ Ok t ∧ dep t + D ≤ M
mutual
theorem ok_tx : ∀ t : T, Ok t → TxP (fun _ => True) (fun _ => True) t
  | .non, _ => by rw [TxP]; trivial
  | .bl _, _ => by rw [TxP]; trivial
  | .int i, _ => by rw [TxP]; trivial
  | .str x, _ => by rw [TxP]; trivial
  | .tup l, o => by rw [Ok] at o; rw [TxP]; exact ok_txs l o.1
  | .lst l, o => by rw [Ok] at o; rw [TxP]; exact ok_txs l o.1
  | .dic ks l, o => by rw [Ok] at o; rw [TxP]; exact ⟨o.2.2.1, fun _ _ => trivial, ok_txs l o.1⟩
theorem ok_txs : ∀ l : List T, OkL l → TxL (fun _ => True) (fun _ => True) l
  | [], _ => by rw [TxL]; trivial
  | t :: l, o => by rw [OkL] at o; rw [TxL]; exact ⟨ok_tx t o.1, ok_txs l o.2⟩
end
theorem at_thing {W : List Nat} {i j D : Nat} {t : T} (hi : i ≤ W.length) (hj : j ≤ W.length) (h : W.drop i = spelt t ++ W.drop j) (ho : Ok t) (a : At0 W i D) : At1 W j D := by
  have e := (take_of_drop hi hj h).2
  unfold At1
  rw [e, scan_app, a]
  exact run_spelt (sc_scs (D + dep t)) t D (.fresh, D) rfl (ok_tx t ho) (Nat.le_refl _)
theorem at_word {W x : List Nat} {i j D : Nat} (hi : i ≤ W.length) (hj : j ≤ W.length) (h : W.drop i = wordT x ++ W.drop j) (a : At0 W i D) : At1 W j D := by
  have e := (take_of_drop hi hj h).2
  unfold At1
  rw [e, scan_app, a]
  exact scs_wordT D x
theorem at_blank {W : List Nat} {i D : Nat} (h : W[i]? = some 32) (a : At1 W i D) : At0 W (i + 1) D := by
  have e := (drop_at h).2.2
  unfold At0
  rw [e, scan_app]
  rcases a with a | a <;> rw [a] <;> rfl
theorem at_open {W : List Nat} {i c D : Nat} (h : W[i]? = some c) (hc : c = 40 ∨ c = 91 ∨ c = 123) (a : At0 W i D) : At0 W (i + 1) (D + 1) := by
  have e := (drop_at h).2.2
  unfold At0
  rw [e, scan_app, a]
  rcases hc with rfl | rfl | rfl <;> rfl
theorem at_deep0 {W : List Nat} {M i D : Nat} (h : Deep W M) (a : At0 W i D) : D ≤ M := by
  have := h.dp i
  rw [a] at this
  exact this
theorem at_deep1 {W : List Nat} {M i D : Nat} (h : Deep W M) (a : At1 W i D) : D ≤ M := by
  have := h.dp i
  rcases a with a | a <;> rw [a] at this <;> exact this
/-- where the next item of a list begins, and what stands ahead of it -/
theorem next_at {W : List Nat} {α : Type} {acc : List α} {i D : Nat} (h2 : ¬ (acc ≠ [] ∧ W[i]? ≠ some 32)) (hi : i ≤ W.length) (a : (acc = [] ∧ At0 W i D) ∨ (acc ≠ [] ∧ At1 W i D)) :
    (if acc = [] then i else i + 1) ≤ W.length ∧ i ≤ (if acc = [] then i else i + 1) ∧ At0 W (if acc = [] then i else i + 1) D ∧ W.drop i = (if acc = [] then [] else [32]) ++ W.drop (if acc = [] then i else i + 1) := by
  rcases a with ⟨rfl, a⟩ | ⟨hne, a⟩
  · rw [if_pos rfl, if_pos rfl]
    exact ⟨hi, Nat.le_refl _, a, rfl⟩
  · rw [if_neg hne, if_neg hne]
    have h32 : W[i]? = some 32 := Decidable.byContradiction fun z => h2 ⟨hne, z⟩
    obtain ⟨e1, e2, _⟩ := drop_at h32
    exact ⟨e2, Nat.le_succ _, at_blank h32 a, e1⟩
def tailB (b : Bool) (ss : List (List Nat)) : List Nat := if b then joinB ss else tl32 ss
theorem tailB_cons (b : Bool) (s : List Nat) (ss : List (List Nat)) : tailB b (s :: ss) = (if b then [] else [32]) ++ (s ++ tl32 ss) := by
  unfold tailB
  cases b with
  | true => rw [if_pos rfl, if_pos rfl, joinB_cons]; rfl
  | false => rw [if_neg Bool.false_ne_true, if_neg Bool.false_ne_true, tl32_cons]; rfl
theorem things_rd {W : List Nat} {M D : Nat} (hW : Deep W M) {f : Nat → R T} (hf : ∀ i, i ≤ W.length → At0 W i D → Post W M D i (f i)) (e : Nat) : ∀ (n i : Nat) (acc : List T), i ≤ W.length → W.length < n + i →
    ((acc = [] ∧ At0 W i D) ∨ (acc ≠ [] ∧ At1 W i D)) → match pThings W f e n i acc with
    | .stuck => False
    | .err _ => True
    | .ok l j => ∃ m, l = acc ++ m ∧ j ≤ W.length ∧ i < j ∧ W.drop i = tailB (decide (acc = [])) (spelts m) ++ e :: W.drop j ∧ OkL m ∧ depL m + D ≤ M ∧ m.length + i < j
  | 0, i, acc, hi, hn, _ => by omega
  | n + 1, i, acc, hi, hn, a => by
    unfold pThings
    by_cases h1 : W[i]? = some e
    · rw [if_pos h1]
      obtain ⟨e1, e2, _⟩ := drop_at h1
      refine ⟨[], by simp, e2, Nat.lt_succ_self _, ?_, by rw [OkL]; trivial, ?_, by simp⟩
      · rw [e1]
        cases hd : decide (acc = []) <;> rfl
      · rw [depL, Nat.zero_add]
        rcases a with ⟨_, a⟩ | ⟨_, a⟩
        · exact at_deep0 hW a
        · exact at_deep1 hW a
    rw [if_neg h1]
    by_cases h2 : acc ≠ [] ∧ W[i]? ≠ some 32
    · rw [if_pos h2]; trivial
    rw [if_neg h2]
    obtain ⟨b1, b2, b3, b4⟩ := next_at h2 hi a
    have hp := hf _ b1 b3
    cases hfi : f (if acc = [] then i else i + 1) with
    | stuck => rw [hfi] at hp; exact hp
    | err k => trivial
    | ok t k =>
      rw [hfi] at hp
      obtain ⟨c1, c2, c3, c4, c5⟩ := hp
      have ih := things_rd hW hf e n k (acc ++ [t]) c1 (by omega) (.inr ⟨by simp, at_thing b1 c1 c3 c4 b3⟩)
      simp only
      cases hq : pThings W f e n k (acc ++ [t]) with
      | stuck => rw [hq] at ih; exact ih
      | err k => trivial
      | ok l j =>
        rw [hq] at ih
        obtain ⟨m, rfl, g1, g2, g3, g4, g5, g6⟩ := ih
        refine ⟨t :: m, by simp, g1, by omega, ?_, by rw [OkL]; exact ⟨c4, g4⟩, by rw [depL]; omega, by rw [List.length_cons]; omega⟩
        rw [b4, c3, g3, spelts, tailB_cons, decide_eq_false (by simp)]
        by_cases ha : acc = []
        · simp [ha, tailB]
        · simp [ha, tailB]
theorem pairs_rd {W : List Nat} {M D : Nat} (hW : Deep W M) {f : Nat → R T} (hf : ∀ i, i ≤ W.length → At0 W i D → Post W M D i (f i)) : ∀ (n i : Nat) (ks : List (List Nat)) (ts : List T), i ≤ W.length → W.length < n + i → ks.Pairwise (· < ·) →
    ((ks = [] ∧ At0 W i D) ∨ (ks ≠ [] ∧ At1 W i D)) → match pPairs W f n i ks ts with
    | .stuck => False
    | .err _ => True
    | .ok t j => ∃ mk mt, t = .dic (ks ++ mk) (ts ++ mt) ∧ mk.length = mt.length ∧ j ≤ W.length ∧ i < j ∧ W.drop i = tailB (decide (ks = [])) (pairsT mk (spelts mt)) ++ 125 :: W.drop j ∧ OkL mt ∧ (ks ++ mk).Pairwise (· < ·) ∧ depL mt + D ≤ M ∧ mt.length + i < j
  | 0, i, ks, ts, hi, hn, _, _ => by omega
  | n + 1, i, ks, ts, hi, hn, hs, a => by
    unfold pPairs
    by_cases h1 : W[i]? = some 125
    · rw [if_pos h1]
      obtain ⟨e1, e2, _⟩ := drop_at h1
      refine ⟨[], [], by simp, rfl, e2, Nat.lt_succ_self _, ?_, by rw [OkL]; trivial, by simpa using hs, ?_, by simp⟩
      · rw [e1]
        cases hd : decide (ks = []) <;> rfl
      · rw [depL, Nat.zero_add]
        rcases a with ⟨_, a⟩ | ⟨_, a⟩
        · exact at_deep0 hW a
        · exact at_deep1 hW a
    rw [if_neg h1]
    by_cases h2 : ks ≠ [] ∧ W[i]? ≠ some 32
    · rw [if_pos h2]; trivial
    rw [if_neg h2]
    obtain ⟨b1, b2, b3, b4⟩ := next_at h2 hi a
    have hk := key_rd (ahead := ks.getLast?) b1
    cases hki : pKey W (if ks = [] then i else i + 1) ks.getLast? with
    | stuck => rw [hki] at hk; exact hk
    | err k => trivial
    | ok key k =>
      rw [hki] at hk
      obtain ⟨d1, d2, d3⟩ := hk
      simp only
      by_cases h3 : W[k]? ≠ some 32
      · rw [if_pos h3]; trivial
      rw [if_neg h3]
      have h32 : W[k]? = some 32 := Decidable.byContradiction h3
      obtain ⟨e1, e2, _⟩ := drop_at h32
      have a3 := at_blank h32 (at_word b1 d1 d3 b3)
      have hp := hf _ e2 a3
      cases hfi : f (k + 1) with
      | stuck => rw [hfi] at hp; exact hp
      | err k => trivial
      | ok t m =>
        rw [hfi] at hp
        obtain ⟨c1, c2, c3, c4, c5⟩ := hp
        have hpw : (ks ++ [key]).Pairwise (· < ·) := List.pairwise_append.mpr ⟨hs, List.pairwise_singleton .., fun x hx y hy => by
          rw [List.mem_singleton.mp hy]
          exact last_all hs (pKey_late hki) x hx⟩
        have ih := pairs_rd hW hf n m (ks ++ [key]) (ts ++ [t]) c1 (by omega) hpw (.inr ⟨by simp, at_thing e2 c1 c3 c4 a3⟩)
        simp only
        cases hq : pPairs W f n m (ks ++ [key]) (ts ++ [t]) with
        | stuck => rw [hq] at ih; exact ih
        | err k => trivial
        | ok l j =>
          rw [hq] at ih
          obtain ⟨mk, mt, rfl, g0, g1, g2, g3, g4, g5, g6, g7⟩ := ih
          refine ⟨key :: mk, t :: mt, by simp, by simpa using g0, g1, by omega, ?_, by rw [OkL]; exact ⟨c4, g4⟩, by simpa using g5, by rw [depL]; omega, by rw [List.length_cons]; omega⟩
          have ep : pairsT (key :: mk) (spelts (t :: mt)) = (wordT key ++ 32 :: spelt t) :: pairsT mk (spelts mt) := rfl
          rw [b4, d3, e1, c3, g3, ep, tailB_cons, decide_eq_false (by simp)]
          by_cases ha : ks = []
          · simp [ha, tailB]
          · simp [ha, tailB]
theorem kept_rd {x : List Nat} (hn : x ≠ []) (hs : ∀ c ∈ x, small c = true) : spelt (keptT x) = x ∧ Ok (keptT x) ∧ dep (keptT x) = 0 := by
  unfold keptT
  by_cases h1 : x = wNone
  · rw [if_pos h1, h1]; exact ⟨rfl, trivial, rfl⟩
  rw [if_neg h1]
  by_cases h2 : x = wYes
  · rw [if_pos h2, h2]; exact ⟨rfl, trivial, rfl⟩
  rw [if_neg h2]
  by_cases h3 : x = wNo
  · rw [if_pos h3, h3]; exact ⟨rfl, trivial, rfl⟩
  rw [if_neg h3]
  refine ⟨?_, trivial, rfl⟩
  rw [spelt]
  unfold wordT
  have : bareT x = true := by
    unfold bareT
    simp [hn, h1, h2, h3]
    exact hs
  rw [if_pos this]
theorem thing_rd {W : List Nat} {M : Nat} (hW : Deep W M) : ∀ (n D i : Nat), i ≤ W.length → At0 W i D → M < n + D → Post W M D i (lThing W n i)
  | 0, D, i, hi, a, h => absurd (at_deep0 hW a) (by omega)
  | n + 1, D, i, hi, a, h => by
    have hD := at_deep0 hW a
    rw [lThing]
    unfold pStep
    cases hc : W[i]? with
    | none => trivial
    | some c =>
      obtain ⟨e1, e2, _⟩ := drop_at hc
      simp only
      by_cases h1 : c = 39
      · rw [if_pos h1]
        subst h1
        have := quo_rd hc
        cases hq : pQuo W i with
        | stuck => rw [hq] at this; exact this
        | err k => trivial
        | ok l j =>
          rw [hq] at this
          obtain ⟨g1, g2, g3⟩ := this
          exact ⟨g1, g2, by rw [spelt]; exact g3, trivial, by show 0 + D ≤ M; omega⟩
      rw [if_neg h1]
      by_cases h2 : small c = true
      · rw [if_pos h2]
        obtain ⟨g1, g2, g3⟩ := word_rd hi
        have hne : word W i ≠ [] := by
          unfold word
          rw [drop_some hc, List.takeWhile_cons_of_pos h2]
          exact List.cons_ne_nil _ _
        obtain ⟨k1, k2, k3⟩ := kept_rd hne g3
        have := List.length_pos_iff.mpr hne
        exact ⟨g1, by omega, by rw [k1]; exact g2, k2, by rw [k3]; omega⟩
      rw [if_neg h2]
      by_cases h3 : c = 40 ∨ c = 91 ∨ c = 123
      · rw [if_pos h3]
        have a1 := at_open hc h3 a
        have hf : ∀ j, j ≤ W.length → At0 W j (D + 1) → Post W M (D + 1) j (lThing W n j) := fun j hj aj => thing_rd hW n (D + 1) j hj aj (by omega)
        by_cases h4 : c = 123
        · rw [if_pos h4]
          subst h4
          have := pairs_rd hW hf (W.length + 1) (i + 1) [] [] e2 (by omega) .nil (.inl ⟨rfl, a1⟩)
          cases hq : pPairs W (lThing W n) (W.length + 1) (i + 1) [] [] with
          | stuck => rw [hq] at this; exact this
          | err k => trivial
          | ok t j =>
            rw [hq] at this
            obtain ⟨mk, mt, rfl, g0, g1, g2, g3, g4, g5, g6, g7⟩ := this
            have hl := hW.len
            simp only [List.nil_append] at g5 ⊢
            refine ⟨g1, by omega, ?_, by rw [Ok]; exact ⟨g4, by omega, g0, g5⟩, by rw [dep]; omega⟩
            rw [e1, g3, spelt]
            simp [tailB]
        rw [if_neg h4]
        have things : ∀ e, match pThings W (lThing W n) e (W.length + 1) (i + 1) [] with
            | .stuck => False
            | .err _ => True
            | .ok l j => j ≤ W.length ∧ i < j ∧ W.drop i = c :: (joinB (spelts l) ++ [e]) ++ W.drop j ∧ OkL l ∧ l.length ≤ 1000000 ∧ 1 + depL l + D ≤ M := fun e => by
          have := things_rd hW hf e (W.length + 1) (i + 1) [] e2 (by omega) (.inl ⟨rfl, a1⟩)
          cases hq : pThings W (lThing W n) e (W.length + 1) (i + 1) [] with
          | stuck => rw [hq] at this; exact this
          | err k => trivial
          | ok l j =>
            rw [hq] at this
            obtain ⟨m, rfl, g1, g2, g3, g4, g5, g6⟩ := this
            have hl := hW.len
            refine ⟨g1, by omega, ?_, g4, by omega, by omega⟩
            rw [e1, g3]
            simp [tailB]
        by_cases h5 : c = 40
        · rw [if_pos h5]
          have := things 41
          cases hq : pThings W (lThing W n) 41 (W.length + 1) (i + 1) [] with
          | stuck => rw [hq] at this; exact this
          | err k => trivial
          | ok l j =>
            rw [hq] at this
            obtain ⟨g1, g2, g3, g4, g5, g6⟩ := this
            exact ⟨g1, g2, by rw [g3, spelt, h5], by rw [Ok]; exact ⟨g4, g5⟩, by rw [dep]; omega⟩
        rw [if_neg h5]
        have h6 : c = 91 := by omega
        have := things 93
        cases hq : pThings W (lThing W n) 93 (W.length + 1) (i + 1) [] with
        | stuck => rw [hq] at this; exact this
        | err k => trivial
        | ok l j =>
          rw [hq] at this
          obtain ⟨g1, g2, g3, g4, g5, g6⟩ := this
          exact ⟨g1, g2, by rw [g3, spelt, h6], by rw [Ok]; exact ⟨g4, g5⟩, by rw [dep]; omega⟩
      rw [if_neg h3]
      have := num_rd (W := W) hi hW.dg
      cases hq : pNum W i with
      | stuck => rw [hq] at this; exact this
      | err k => trivial
      | ok z k =>
        rw [hq] at this
        obtain ⟨g1, g2, g3, g4⟩ := this
        refine ⟨g1, g2, by rw [spelt]; exact g3, ?_, by show 0 + D ≤ M; omega⟩
        rw [Ok]
        exact Nat.lt_of_lt_of_le g4 (Nat.pow_le_pow_right (by omega) (by omega))
end K97

set_option Elab.async false
set_option linter.all false
set_option maxRecDepth 100000
set_option maxHeartbeats 4000000
/-! The law's own reader: its steps. -/
namespace K97
open PySem PySem.Spec PyProof.Rows L2 Lk SX
local macro_rules | `(tactic| walk_at "r") => `(tactic| simp only [tSeq, tNext, tRet, tRetN, tIfS, tDrop, tAsg, tAug, tFor, tWhile, tAndV, tOrV, tNotV, tAnd, tOr, tNot, tB, tTest, tIf, tIsN, tNotN, tOp, tVar, tC, tCB, tPar, tCons, tNil, tLc, tYes, tTup, tLst, tCall, tMeth, tFld, tSl, tPart, tNoPart, tM1, tBM, tVeI, tOst, sFld, sFldAug, tMkO, tMake, tTGet, gName, gNil, gCons, gTup, gUnl, gSub, iAny, iRng1, iKeys, iVals,
  List.getElem?_cons_zero, List.getElem?_cons_succ, List.set_cons_zero, List.set_cons_succ, Option.some.injEq, V.str.injEq, V.bl.injEq, V.int.injEq, V.ref.injEq, exists_and_left, exists_eq_left', exists_eq_left, exists_eq, cxK, cxW, HO.ins.injEq, and_assoc, upd_same, true_and, and_true, reduceCtorEq, false_and, and_false, exists_false, or_false, false_or, if_true, if_false, List.cons_append, List.nil_append, add_ii, add_ss, sub_ii, mul_ii, mod_ii, fdiv_ii, pow_ii, lt_ii, le_ii, gt_ii, ge_ii, lt_ss, le_ss, iadd_ii, iadd_ss, in_ss, ix_si, ix_ri, ix_rs, sl_s, sl_r, eq_ss, eq_ii, eq_bb, eq_nn, eq_rr, int1_i, int1_b, int1_s, min2_ii, set_rs, set_ri, Bool.true_xor, Bool.false_xor, Bool.not_eq_true', wipe, List.map_cons, List.map_nil, S_eq, S_cat, S_len, lit1, lit3, lit5, lit6, lit7, lit8, lit9, lit10, lit11, lit12, lit13, lit14, lit15, lit16, lit17, lit18, lit19, lit21, lit23, lit24, lit26, lit27, lit28, lit29, lit30, lit31, lit32, lit33, lit34, lit35, lit36, lit37, lit38, lit39, lit40, lit41, lit42, lit101, lit102, lit103, lit104, lit105, lit106, lit107, lit108, lit109, lit110, lit111, lit112, lit113, lit114, lit115])
section
variable {P : Program} {w : World} {K : PySem.W.Frag} {mg : Str → Option Value} {base : Heap} {f : Addr} {fd : FuncData}
/-- the law's strip: the text, the place, whether all went well -/
abbrev slo (W : List Nat) (i : Nat) (ok : Bool) : HO := .lst [.str (S W), .int (i : Int), .bl ok]
def Sl (a : Addr) (W : List Nat) (i : Nat) (ok : Bool) (H : Hp) : Prop := H a = some (slo W i ok)
def spLSign : Sp := fun vs H Q E => ∃ a W i ok, vs = [.ref a] ∧ Sl a W i ok H ∧ W.length ≤ 1000000 ∧ i ≤ W.length ∧ Q (.str (S ((W.drop i).take 1))) H
theorem ok_law_sign (T : Tx K w mg)
    (F : FunD K "_law_sign" "_law_sign" (defArgs s_law_sign) (defBody s_law_sign) (defScope s_law_sign) [] [] f fd) : FnOk P w K mg base (L2.CX P w) 2 f fd ["strip"] spLSign := by
  refine F.ok sc_law_sign (fun vs H Q E h => by obtain ⟨a, W, i, ok, rfl, _⟩ := h; rfl) (fun cdv A outer s H vs Q E hr h => ?_)
  have nd := (sc_law_sign).nd
  refine ⟨_, (pss_one
  (ps_ret (pe_slice (k_sl K rfl) (pe_ix (k_ix K w rfl rfl) (pv 0) pe_int (fun _ _ => rfl)) (po_some (pe_ix (k_ix K w rfl rfl) (pv 0) pe_int (fun _ _ => rfl))) (po_some (pe_op op_addA (pe_ix (k_ix K w rfl rfl) (pv 0) pe_int (fun _ _ => rfl)) pe_int))))), ?_⟩
  obtain ⟨a, W, i, ok, rfl, he, hW, hi, q⟩ := h
  rw [show L2.start N_law_sign [V.ref a] = [some (.ref a)] from rfl]
  walk_at "r"
  refine ⟨_, .inl (.of he), _, rfl, _, .inl (.of he), _, rfl, _, rfl, _, .inl (.of he), _, rfl, ?_⟩
  rw [add_ii]
  refine ⟨_, rfl, ?_⟩
  rw [sl_s, cut_at hi]
  exact ⟨by rw [S_len, sizeLine_eq]; omega, q⟩
def spLBroken : Sp := fun vs H Q E => ∃ a W i ok, ∃ j : Nat, vs = [.ref a, .int (j : Int)] ∧ Sl a W i ok H ∧ Q .non (upd H a (slo W j false))
theorem ok_law_broken (T : Tx K w mg)
    (F : FunD K "_law_broken" "_law_broken" (defArgs s_law_broken) (defBody s_law_broken) (defScope s_law_broken) [] [] f fd) : FnOk P w K mg base (L2.CX P w) 2 f fd ["strip", "at"] spLBroken := by
  refine F.ok sc_law_broken (fun vs H Q E h => by obtain ⟨a, W, i, ok, j, rfl, _⟩ := h; rfl) (fun cdv A outer s H vs Q E hr h => ?_)
  have nd := (sc_law_broken).nd
  refine ⟨_, (pss_cons
  (ps_asg (pv 1) (pg_sub (pv 0) pe_int (Lk.set_dictA (Lk.hu1 hr))))
  (pss_one
  (ps_asg pe_bl (pg_sub (pv 0) pe_int (Lk.set_dictA (Lk.hu1 hr)))))), ?_⟩
  obtain ⟨a, W, i, ok, j, rfl, he, q⟩ := h
  rw [show L2.start N_law_broken [V.ref a, V.int (j : Int)] = [some (.ref a), some (.int (j : Int))] from rfl]
  walk_at "r"
  refine ⟨_, he, 1, rfl, _, rfl, 2, rfl, ?_⟩
  rw [upd_upd]
  exact q
def spLRun : Sp := fun vs H Q E => ∃ a W i ok cs, vs = [.ref a, .str (S cs)] ∧ Sl a W i ok H ∧ W.length ≤ 1000000 ∧ i ≤ W.length ∧
  (∀ H', But a H H' → Sl a W (i + ((W.drop i).takeWhile fun c => decide (c ∈ cs)).length) ok H' → Q (.str (S ((W.drop i).takeWhile fun c => decide (c ∈ cs)))) H')
theorem ok_law_run (T : Tx K w mg) (c_law_sign : Fn P w K mg base 2 "_law_sign" [] spLSign)
    (F : FunD K "_law_run" "_law_run" (defArgs s_law_run) (defBody s_law_run) (defScope s_law_run) [] [] f fd) : FnOk P w K mg base (L2.CX P w) 4 f fd ["strip", "signs"] spLRun := by
  refine F.ok sc_law_run (fun vs H Q E h => by obtain ⟨a, W, i, ok, cs, rfl, _⟩ := h; rfl) (fun cdv A outer s H vs Q E hr h => ?_)
  have nd := (sc_law_run).nd
  refine ⟨_, (pss_cons
  (ps_set (i := 2) nd rfl (by first | exact Or.inl rfl | exact Or.inr rfl) (pe_ix (k_ix K w rfl rfl) (pv 0) pe_int (fun _ _ => rfl)))
  (pss_cons
  (ps_while own_def (PW.pt (pw_and (pt_cmpR (k_ne K rfl (Lk.hu0 hr)) (pe_fn c_law_sign (hr.mono (by omega)) pass_def (pa_cons (pv 0) pa_nil)) pe_str rfl) (pw_and1 (pt_cmpR (k_in K w rfl rfl) (pe_fn c_law_sign (hr.mono (by omega)) pass_def (pa_cons (pv 0) pa_nil)) (pv 1) rfl))))
   (pss_one
    (ps_asg (pe_op op_addA (pe_ix (k_ix K w rfl rfl) (pv 0) pe_int (fun _ _ => rfl)) pe_int) (pg_sub (pv 0) pe_int (Lk.set_dictA (Lk.hu1 hr))))))
  (pss_one
  (ps_ret (pe_slice (k_sl K rfl) (pe_ix (k_ix K w rfl rfl) (pv 0) pe_int (fun _ _ => rfl)) (po_some (pv 2)) (po_some (pe_ix (k_ix K w rfl rfl) (pv 0) pe_int (fun _ _ => rfl)))))))), ?_⟩
  obtain ⟨a, W, i, ok, cs, rfl, he, hW, hi, q⟩ := h
  rw [show L2.start N_law_run [V.ref a, .str (S cs)] = [some (.ref a), some (.str (S cs)), none] from rfl]
  walk_at "r"
  obtain ⟨l, el⟩ : ∃ l, l = (W.drop i).takeWhile fun c => decide (c ∈ cs) := ⟨_, rfl⟩
  have hl : l.length ≤ (W.drop i).length := by rw [el]; exact tw_len _
  rw [List.length_drop] at hl
  rw [← el] at q
  refine ⟨_, .inl (.of he), _, rfl, ?_⟩
  refine ⟨fun m σ H' => ∃ j, j + m = l.length ∧ σ = [some (.ref a), some (.str (S cs)), some (.int (i : Int))] ∧ But a H H' ∧ Sl a W (i + j) ok H', ⟨l.length, 0, by omega, rfl, fun _ _ _ h => h, he⟩, ?_⟩
  rintro m σ H' ⟨j, hj, rfl, hb, he'⟩
  refine ⟨_, rfl, a, W, i + j, ok, rfl, he', hW, by omega, ?_⟩
  show rEqQ K true (V.str (S ((W.drop (i + j)).take 1))) (V.str (S [])) _ _
  rw [eq_ss]
  refine ⟨_, rfl, ?_⟩
  rw [show decide (S ((W.drop (i + j)).take 1) = S []) = decide (W[i + j]? = none) from by rw [← head_nil, decide_eq_decide, S_eq]]
  have hij : i + j ≤ W.length := by omega
  have fin : j = l.length → (S W).length ≤ sizeLine ∧ Q (V.str (cutS (S W) (some (i : Int)) (some ((i + j : Nat) : Int)))) H' := fun e => by
    subst e
    have htk : (W.drop i).take l.length = l := by rw [el]; exact tw_take _
    rw [cut_nat hi hij, Nat.add_sub_cancel_left, htk]
    exact ⟨by rw [S_len, sizeLine_eq]; omega, q H' hb he'⟩
  have eg : W[i + j]? = (W.drop i)[j]? := by rw [List.getElem?_drop]
  have stop : (S W).length ≤ sizeLine ∧ Q (V.str (cutS (S W) (some (i : Int)) (some ((i + j : Nat) : Int)))) H' → ∃ v, [some (V.ref a), some (V.str (S cs)), some (V.int (i : Int))][0]? = some (some v) ∧ rIxA K w v (V.int 0) H' fun x H1 => ∃ v, [some (V.ref a), some (V.str (S cs)), some (V.int (i : Int))][2]? = some (some v) ∧ ∃ i_1, v = V.int i_1 ∧
      ∃ v, [some (V.ref a), some (V.str (S cs)), some (V.int (i : Int))][0]? = some (some v) ∧ rIxA K w v (V.int 1) H1 fun x_1 H1 => ∃ i, x_1 = V.int i ∧ Lk.rSlA K x (some i_1) (some i) H1 Q := fun z =>
    ⟨_, rfl, _, _, .inl (.inl (.of he')), rfl, _, rfl, _, rfl, _, rfl, _, _, .inl (.inl (.of he')), rfl, _, rfl, z⟩
  by_cases hjl : j < l.length
  · obtain ⟨c, hc, hp⟩ := tw_lt (p := fun c => decide (c ∈ cs)) (l := W.drop i) (j := j) (by rw [← el]; exact hjl)
    rw [← eg] at hc
    rw [if_pos (by rw [hc]; rfl)]
    refine ⟨_, rfl, a, W, i + j, ok, rfl, he', hW, hij, _, rfl, ?_⟩
    rw [head_some hc]
    show rInA K w (V.str (S [c])) (V.str (S cs)) _ _ false
    rw [in_S, hp]
    refine ⟨_, rfl, ?_⟩
    rw [if_pos (by simp)]
    refine ⟨fun σ H' => ∃ j', j' + (m - 1) = l.length ∧ σ = [some (.ref a), some (.str (S cs)), some (.int (i : Int))] ∧ But a H H' ∧ Sl a W (i + j') ok H', fun σ' H'' h => ⟨m - 1, by omega, h⟩, ?_⟩
    refine ⟨_, rfl, _, _, .inl (.inl (.of he')), rfl, ?_⟩
    show rAddA (V.int ((i + j : Nat) : Int)) (V.int 1) _ _
    rw [add_ii]
    refine ⟨_, rfl, _, 1, he', rfl, j + 1, by omega, rfl, hb.trans But.upd, upd_same⟩
  · have ej : j = l.length := by omega
    cases hn : W[i + j]? with
    | none =>
      rw [if_neg (by simp)]
      exact stop (fin ej)
    | some c =>
      have hp : decide (c ∈ cs) = false := by
        refine tw_end (p := fun c => decide (c ∈ cs)) (l := W.drop i) ?_
        rw [← el, ← ej, ← eg]
        exact hn
      rw [if_pos (by simp)]
      refine ⟨_, rfl, a, W, i + j, ok, rfl, he', hW, hij, _, rfl, ?_⟩
      rw [head_some hn]
      show rInA K w (V.str (S [c])) (V.str (S cs)) _ _ false
      rw [in_S, hp]
      refine ⟨_, rfl, ?_⟩
      rw [if_neg (by simp)]
      exact stop (fin ej)
end
end K97

set_option Elab.async false
set_option linter.all false
set_option maxRecDepth 100000
set_option maxHeartbeats 4000000
/-! The law's own reader: numbers, texts, keys. -/
namespace K97
open PySem PySem.Spec PyProof.Rows L2 Lk SX
local macro_rules | `(tactic| walk_at "r") => `(tactic| simp only [tSeq, tNext, tRet, tRetN, tIfS, tDrop, tAsg, tAug, tFor, tWhile, tAndV, tOrV, tNotV, tAnd, tOr, tNot, tB, tTest, tIf, tIsN, tNotN, tOp, tVar, tC, tCB, tPar, tCons, tNil, tLc, tYes, tTup, tLst, tCall, tMeth, tFld, tSl, tPart, tNoPart, tM1, tBM, tVeI, tOst, sFld, sFldAug, tMkO, tMake, tTGet, gName, gNil, gCons, gTup, gUnl, gSub, iAny, iRng1, iKeys, iVals,
  List.getElem?_cons_zero, List.getElem?_cons_succ, List.set_cons_zero, List.set_cons_succ, Option.some.injEq, V.str.injEq, V.bl.injEq, V.int.injEq, V.ref.injEq, exists_and_left, exists_eq_left', exists_eq_left, exists_eq, cxK, cxW, HO.ins.injEq, and_assoc, upd_same, true_and, and_true, reduceCtorEq, false_and, and_false, exists_false, or_false, false_or, if_true, if_false, List.cons_append, List.nil_append, add_ii, add_ss, sub_ii, mul_ii, mod_ii, fdiv_ii, pow_ii, lt_ii, le_ii, gt_ii, ge_ii, lt_ss, le_ss, iadd_ii, iadd_ss, in_ss, ix_si, ix_ri, ix_rs, sl_s, sl_r, eq_ss, eq_ii, eq_bb, eq_nn, eq_rr, int1_i, int1_b, int1_s, min2_ii, set_rs, set_ri, Bool.true_xor, Bool.false_xor, Bool.not_eq_true', wipe, List.map_cons, List.map_nil, S_eq, S_cat, S_len, lit1, lit3, lit5, lit6, lit7, lit8, lit9, lit10, lit11, lit12, lit13, lit14, lit15, lit16, lit17, lit18, lit19, lit21, lit23, lit24, lit26, lit27, lit28, lit29, lit30, lit31, lit32, lit33, lit34, lit35, lit36, lit37, lit38, lit39, lit40, lit41, lit42, lit101, lit102, lit103, lit104, lit105, lit106, lit107, lit108, lit109, lit110, lit111, lit112, lit113, lit114, lit115])
section
variable {P : Program} {w : World} {K : PySem.W.Frag} {mg : Str → Option Value} {base : Heap} {f : Addr} {fd : FuncData}
/-- what a step of the law's reader leaves: the thing and the place, or a broken strip -/
def RL {α : Type} (a : Addr) (W : List Nat) (H : Hp) (Q : VK) (post : α → Hp → Prop) : R α → Prop
  | .ok x j => ∀ H', j ≤ W.length → But a H H' → Sl a W j true H' → post x H'
  | .err j => ∀ v H', j ≤ W.length → But a H H' → Sl a W j false H' → Q v H'
  | .stuck => False
def spLGo : Sp := fun vs H Q E => ∃ a W i ok c, vs = [.ref a, .str (S [c])] ∧ Sl a W i ok H ∧ W.length ≤ 1000000 ∧ i ≤ W.length ∧
  (ok = true → W[i]? = some c → ∀ H', But a H H' → Sl a W (i + 1) true H' → Q .non H') ∧ (ok = true → W[i]? ≠ some c → ∀ H', But a H H' → Sl a W i false H' → Q .non H') ∧ (ok = false → Q .non H)
theorem ok_law_go (T : Tx K w mg) (c_law_sign : Fn P w K mg base 2 "_law_sign" [] spLSign) (c_law_broken : Fn P w K mg base 2 "_law_broken" [] spLBroken)
    (F : FunD K "_law_go" "_law_go" (defArgs s_law_go) (defBody s_law_go) (defScope s_law_go) [] [] f fd) : FnOk P w K mg base (L2.CX P w) 4 f fd ["strip", "sign"] spLGo := by
  refine F.ok sc_law_go (fun vs H Q E h => by obtain ⟨a, W, i, ok, c, rfl, _⟩ := h; rfl) (fun cdv A outer s H vs Q E hr h => ?_)
  have nd := (sc_law_go).nd
  refine ⟨_, (pss_one
  (ps_if (PW.pt (pw_and (pt_val (pe_ix (k_ix K w rfl rfl) (pv 0) pe_int (fun _ _ => rfl))) (pw_and1 (pt_cmpR (k_eq K rfl (Lk.hu0 hr)) (pe_fn c_law_sign (hr.mono (by omega)) pass_def (pa_cons (pv 0) pa_nil)) (pv 1) rfl))))
   (pss_one
    (ps_asg (pe_op op_addA (pe_ix (k_ix K w rfl rfl) (pv 0) pe_int (fun _ _ => rfl)) pe_int) (pg_sub (pv 0) pe_int (Lk.set_dictA (Lk.hu1 hr)))))
   (pss_one
    (ps_if (pt_val (pe_ix (k_ix K w rfl rfl) (pv 0) pe_int (fun _ _ => rfl)))
     (pss_one
      (ps_expr (pe_fn c_law_broken (hr.mono (by omega)) pass_def (pa_cons (pv 0) (pa_cons (pe_ix (k_ix K w rfl rfl) (pv 0) pe_int (fun _ _ => rfl)) pa_nil)))))
     pss_nil)))), ?_⟩
  obtain ⟨a, W, i, ok, c, rfl, he, hW, hi, q1, q2, q3⟩ := h
  rw [show L2.start N_law_go [V.ref a, .str (S [c])] = [some (.ref a), some (.str (S [c]))] from rfl]
  walk_at "r"
  refine ⟨_, .inl (.of he), _, rfl, _, rfl, ?_⟩
  cases ok with
  | false =>
    rw [if_neg (by simp)]
    refine ⟨_, .inl (.of he), _, rfl, _, rfl, ?_⟩
    rw [if_neg (by simp)]
    exact q3 rfl
  | true =>
    rw [if_pos rfl]
    refine ⟨a, W, i, true, rfl, he, hW, hi, ?_⟩
    show rEqQ K false (V.str (S ((W.drop i).take 1))) (V.str (S [c])) _ _
    rw [eq_ss]
    refine ⟨_, rfl, ?_⟩
    rw [show decide (S ((W.drop i).take 1) = S [c]) = decide (W[i]? = some c) from by rw [← head_dec, decide_eq_decide, S_eq]]
    by_cases hc : W[i]? = some c
    · rw [if_pos (by simp [hc])]
      refine ⟨_, .inl (.of he), _, rfl, ?_⟩
      show rAddA (V.int (i : Int)) (V.int 1) _ _
      rw [add_ii]
      exact ⟨_, he, 1, rfl, q1 rfl hc _ But.upd upd_same⟩
    · rw [if_neg (by simp [hc])]
      refine ⟨_, .inl (.of he), _, rfl, _, rfl, ?_⟩
      rw [if_pos rfl]
      exact ⟨_, .inl (.of he), _, rfl, a, W, i, true, i, rfl, he, q2 rfl hc _ But.upd upd_same⟩
def spLNum : Sp := fun vs H Q E => ∃ a W i, vs = [.ref a] ∧ Sl a W i true H ∧ W.length ≤ 1000000 ∧ i ≤ W.length ∧ RL a W H Q (fun (n : Int) H' => Q (.int n) H') (pNum W i)
theorem ok_law_number (T : Tx K w mg) (c_law_sign : Fn P w K mg base 2 "_law_sign" [] spLSign) (c_law_broken : Fn P w K mg base 2 "_law_broken" [] spLBroken) (c_law_run : Fn P w K mg base 4 "_law_run" [] spLRun)
    (F : FunD K "_law_number" "_law_number" (defArgs s_law_number) (defBody s_law_number) (defScope s_law_number) [] [] f fd) : FnOk P w K mg base (L2.CX P w) 6 f fd ["strip"] spLNum := by
  refine F.ok sc_law_number (fun vs H Q E h => by obtain ⟨a, W, i, rfl, _⟩ := h; rfl) (fun cdv A outer s H vs Q E hr h => ?_)
  have nd := (sc_law_number).nd
  refine ⟨_, (pss_cons
  (ps_set (i := 1) nd rfl (by first | exact Or.inl rfl | exact Or.inr rfl) (pe_cmpR (k_eq K rfl (Lk.hu0 hr)) (pe_fn c_law_sign (hr.mono (by omega)) pass_def (pa_cons (pv 0) pa_nil)) pe_str rfl))
  (pss_cons
  (ps_asg (pe_op op_addA (pe_ix (k_ix K w rfl rfl) (pv 0) pe_int (fun _ _ => rfl)) (pe_callTy call_intA (by rfl) T.b_int Lk.boot_int (pa_cons (pv 1) pa_nil))) (pg_sub (pv 0) pe_int (Lk.set_dictA (Lk.hu1 hr))))
  (pss_cons
  (ps_set (i := 2) nd rfl (by first | exact Or.inl rfl | exact Or.inr rfl) (pe_fn c_law_sign (hr.mono (by omega)) pass_def (pa_cons (pv 0) pa_nil)))
  (pss_cons
  (ps_if (PW.pt (pw_and (pt_cmpR (k_eq K rfl (Lk.hu0 hr)) (pv 2) pe_str rfl) (pw_and1 (pt_not (pt_val (pv 1))))))
   (pss_cons
    (ps_asg (pe_op op_addA (pe_ix (k_ix K w rfl rfl) (pv 0) pe_int (fun _ _ => rfl)) pe_int) (pg_sub (pv 0) pe_int (Lk.set_dictA (Lk.hu1 hr))))
    (pss_one
    (ps_ret pe_int)))
   pss_nil)
  (pss_cons
  (ps_if (PW.pt (pw_or (pt_cmpR (k_eq K rfl (Lk.hu0 hr)) (pv 2) pe_str rfl) (pw_or1 (pt_cmpR (k_notIn K w rfl rfl) (pv 2) pe_str rfl))))
   (pss_cons
    (ps_expr (pe_fn c_law_broken (hr.mono (by omega)) pass_def (pa_cons (pv 0) (pa_cons (pe_ix (k_ix K w rfl rfl) (pv 0) pe_int (fun _ _ => rfl)) pa_nil))))
    (pss_one
    (ps_ret pe_non)))
   pss_nil)
  (pss_cons
  (ps_set (i := 3) nd rfl (by first | exact Or.inl rfl | exact Or.inr rfl) (pe_callTy call_intA (by rfl) T.b_int Lk.boot_int (pa_cons (pe_fn c_law_run (hr.mono (by omega)) pass_def (pa_cons (pv 0) (pa_cons pe_str pa_nil))) pa_nil)))
  (pss_one
  (ps_ret (pe_ix (k_ix K w rfl rfl) (pe_lst (pa_cons (pv 3) (pa_cons (pe_op op_subA pe_int (pv 3)) pa_nil))) (pe_callTy call_intA (by rfl) T.b_int Lk.boot_int (pa_cons (pv 1) pa_nil)) (fun _ _ => rfl)))))))))), ?_⟩
  obtain ⟨a, W, i, rfl, he, hW, hi, q⟩ := h
  rw [show L2.start N_law_number [V.ref a] = [some (.ref a), none, none, none] from rfl]
  walk_at "r"
  refine ⟨a, W, i, true, rfl, he, hW, hi, ?_⟩
  show rEqQ K false (V.str (S ((W.drop i).take 1))) (V.str (S [45])) _ _
  rw [eq_ss]
  rw [show decide (S ((W.drop i).take 1) = S [45]) = decide (W[i]? = some 45) from by rw [← head_dec, decide_eq_decide, S_eq], Bool.false_xor]
  refine ⟨_, .inl (.of he), _, rfl, ?_⟩
  obtain ⟨j, hj, hj2, e1, eq⟩ : ∃ j, (j = if decide (W[i]? = some 45) = true then i + 1 else i) ∧ j ≤ W.length ∧ ((i : Int) + (if decide (W[i]? = some 45) = true then 1 else 0) = (j : Int)) ∧ pNum W i = pNat W (decide (W[i]? = some 45)) j := by
    by_cases hm : W[i]? = some 45
    · exact ⟨i + 1, by simp [hm], (List.getElem?_eq_some_iff.mp hm).1, by simp [hm], by unfold pNum; simp [hm]⟩
    · exact ⟨i, by simp [hm], hi, by simp [hm], by unfold pNum; simp [hm]⟩
  rw [eq] at q
  have h45 : decide (W[i]? = some 45) = false → j = i ∧ W[i]? ≠ some 45 := fun z => by
    rw [z] at hj
    exact ⟨by simpa using hj, of_decide_eq_false z⟩
  generalize decide (W[i]? = some 45) = b at e1 q h45 ⊢
  rw [int1_b]
  show rAddA (V.int (i : Int)) (V.int (if b = true then 1 else 0)) _ _
  rw [add_ii, e1]
  refine ⟨_, he, 1, rfl, ?_⟩
  have b1 : But a H (upd H a (.lst ([V.str (S W), V.int (i : Int), V.bl true].set 1 (V.int (j : Int))))) := But.upd
  have he1 : Sl a W j true (upd H a (.lst ([V.str (S W), V.int (i : Int), V.bl true].set 1 (V.int (j : Int))))) := upd_same
  generalize upd H a (.lst ([V.str (S W), V.int (i : Int), V.bl true].set 1 (V.int (j : Int)))) = H1 at b1 he1 ⊢
  refine ⟨a, W, j, true, rfl, he1, hW, hj2, ?_⟩
  show rEqQ K false (V.str (S ((W.drop j).take 1))) (V.str (S [48])) _ _
  rw [eq_ss]
  rw [show decide (S ((W.drop j).take 1) = S [48]) = decide (W[j]? = some 48) from by rw [← head_dec, decide_eq_decide, S_eq], Bool.false_xor]
  have rest : ¬ (b = false ∧ W[j]? = some 48) → rEqQ K false (V.str (S ((W.drop j).take 1))) (V.str (S [])) H1 fun x_3 H' => ∃ k, x_3 = V.bl k ∧ if k = true then ∃ xs, (SqL K H' a xs ∨ SqT K H' a xs) ∧ ∃ x, atI xs 1 = some x ∧ spLBroken [V.ref a, x] H' (fun x H1 => Q V.non H1) E
      else rInA K w (V.str (S ((W.drop j).take 1))) (V.str (S [49, 50, 51, 52, 53, 54, 55, 56, 57])) H' (fun x H' => ∃ k, x = V.bl k ∧ if k = true then ∃ xs, (SqL K H' a xs ∨ SqT K H' a xs) ∧ ∃ x, atI xs 1 = some x ∧ spLBroken [V.ref a, x] H' (fun x H1 => Q V.non H1) E
        else spLRun [V.ref a, V.str (S [48, 49, 50, 51, 52, 53, 54, 55, 56, 57])] H' (fun x H1 => rInt1 [x] H1 fun x H1 => rSubA (V.int 0) x H1 fun x_4 H1 => [x, x_4].length ≤ sizeLine ∧ ∀ (p : Addr), H1 p = none → rInt1 [V.bl b] (upd H1 p (HO.lst [x, x_4])) fun y H2 => rIxA K w (V.ref p) y H2 Q) E) true := fun hn => by
    rw [eq_ss]
    rw [show decide (S ((W.drop j).take 1) = S []) = decide (W[j]? = none) from by rw [← head_nil, decide_eq_decide, S_eq], Bool.false_xor]
    refine ⟨_, rfl, ?_⟩
    have brk : RL a W H Q (fun (n : Int) H' => Q (.int n) H') (.err j) → ∃ xs, (SqL K H1 a xs ∨ SqT K H1 a xs) ∧ ∃ x, atI xs 1 = some x ∧ spLBroken [V.ref a, x] H1 (fun x H1 => Q V.non H1) E := fun z =>
      ⟨_, .inl (.of he1), _, rfl, a, W, j, true, j, rfl, he1, z _ _ hj2 (b1.trans But.upd) upd_same⟩
    cases hc : W[j]? with
    | none =>
      rw [if_pos (by simp)]
      have e : pNat W b j = .err j := by simp [pNat, hc]
      rw [e] at q
      exact brk q
    | some c =>
      rw [if_neg (by simp), head_some hc]
      show rInA K w (V.str (S [c])) (V.str (S [49, 50, 51, 52, 53, 54, 55, 56, 57])) _ _ true
      rw [in_S, fig1_mem]
      refine ⟨_, rfl, ?_⟩
      cases hg : (decide (49 ≤ c) && decide (c ≤ 57)) with
      | false =>
        rw [if_pos (by simp)]
        have e : pNat W b j = .err j := by
          unfold pNat
          rw [if_neg hn, hc, if_neg (by simp only; rw [hg]; exact Bool.false_ne_true)]
        rw [e] at q
        exact brk q
      | true =>
        rw [if_neg (by simp)]
        refine ⟨a, W, j, true, _, rfl, he1, hW, hj2, fun H2 hb2 he2 => ?_⟩
        rw [fig_mem] at he2 ⊢
        have e : pNat W b j = if (digits W j).length ≤ 640 then .ok (if b then 0 - ((NumText.digitsVal (digits W j) : Nat) : Int) else ((NumText.digitsVal (digits W j) : Nat) : Int)) (j + (digits W j).length) else .stuck := by
          unfold pNat
          rw [if_neg hn, hc, if_pos hg]
        rw [e] at q
        by_cases h640 : (digits W j).length ≤ 640
        · rw [if_pos h640] at q
          have hall : (digits W j).all (fun c => decide (48 ≤ c) && decide (c ≤ 57)) = true := tw_all (p := fig) _
          have hne : digits W j ≠ [] := by
            have hf : fig c = true := by
              unfold fig
              rw [Bool.and_eq_true, decide_eq_true_eq, decide_eq_true_eq] at hg ⊢
              omega
            unfold digits
            rw [drop_some hc, List.takeWhile_cons_of_pos hf]
            simp
          have hlen := tw_len (p := fig) (W.drop j)
          rw [List.length_drop] at hlen
          refine ⟨by rw [S_len]; exact h640, _, int_S hall hne (Nat.le_trans h640 (by decide)), ?_⟩
          show rSubA (V.int 0) (V.int _) _ _
          rw [sub_ii]
          refine ⟨by show 2 ≤ sizeLine; decide, fun p np => ?_⟩
          rw [int1_b]
          have hap : a ≠ p := ne_of_none he2 np
          have z := q (upd H2 p (HO.lst [V.int ((NumText.digitsVal (digits W j) : Nat) : Int), V.int (0 - ((NumText.digitsVal (digits W j) : Nat) : Int))])) (show _ ≤ W.length by unfold digits; omega)
            (fun b o h e => by rw [upd_ne (ne_of_none ((b1.trans hb2) b o h e) np)]; exact (b1.trans hb2) b o h e) (by rw [Sl, upd_ne hap]; exact he2)
          cases b with
          | false => exact ⟨_, _, .inl (.inl (.of upd_same)), rfl, z⟩
          | true => exact ⟨_, _, .inl (.inl (.of upd_same)), rfl, z⟩
        · rw [if_neg h640] at q
          exact q.elim
  by_cases h0 : W[j]? = some 48
  · refine ⟨_, rfl, ?_⟩
    rw [if_pos (by simp [h0])]
    refine ⟨_, rfl, ?_⟩
    cases b with
    | false =>
      rw [if_pos rfl]
      have e : pNat W false j = .ok 0 (j + 1) := by unfold pNat; rw [if_pos ⟨rfl, h0⟩]
      rw [e] at q
      refine ⟨_, .inl (.of he1), _, rfl, ?_⟩
      show rAddA (V.int (j : Int)) (V.int 1) _ _
      rw [add_ii]
      exact ⟨_, he1, 1, rfl, q _ (List.getElem?_eq_some_iff.mp h0).1 (b1.trans But.upd) upd_same⟩
    | true =>
      rw [if_neg (by simp)]
      exact rest (fun z => nomatch z.1)
  · refine ⟨_, rfl, ?_⟩
    rw [if_neg (by simp [h0])]
    exact rest (fun z => h0 z.2)
end
end K97

set_option Elab.async false
set_option linter.all false
set_option maxRecDepth 100000
set_option maxHeartbeats 4000000
/-! The law's own reader: texts between quotes, keys. -/
namespace K97
open PySem PySem.Spec PyProof.Rows L2 Lk SX CwR
local macro_rules | `(tactic| walk_at "r") => `(tactic| simp only [tSeq, tNext, tRet, tRetN, tIfS, tDrop, tAsg, tAug, tFor, tWhile, tAndV, tOrV, tNotV, tAnd, tOr, tNot, tB, tTest, tIf, tIsN, tNotN, tOp, tVar, tC, tCB, tPar, tCons, tNil, tLc, tYes, tTup, tLst, tCall, tMeth, tFld, tSl, tPart, tNoPart, tM1, tBM, tVeI, tOst, sFld, sFldAug, tMkO, tMake, tTGet, gName, gNil, gCons, gTup, gUnl, gSub, iAny, iRng1, iKeys, iVals,
  List.getElem?_cons_zero, List.getElem?_cons_succ, List.set_cons_zero, List.set_cons_succ, Option.some.injEq, V.str.injEq, V.bl.injEq, V.int.injEq, V.ref.injEq, exists_and_left, exists_eq_left', exists_eq_left, exists_eq, cxK, cxW, HO.ins.injEq, and_assoc, upd_same, true_and, and_true, reduceCtorEq, false_and, and_false, exists_false, or_false, false_or, if_true, if_false, List.cons_append, List.nil_append, add_ii, add_ss, sub_ii, mul_ii, mod_ii, fdiv_ii, pow_ii, lt_ii, le_ii, gt_ii, ge_ii, lt_ss, le_ss, iadd_ii, iadd_ss, in_ss, ix_si, ix_ri, ix_rs, sl_s, sl_r, eq_ss, eq_ii, eq_bb, eq_nn, eq_rr, int1_i, int1_b, int1_s, min2_ii, set_rs, set_ri, Bool.true_xor, Bool.false_xor, Bool.not_eq_true', wipe, List.map_cons, List.map_nil, S_eq, S_cat, S_len, lit1, lit3, lit5, lit6, lit7, lit8, lit9, lit10, lit11, lit12, lit13, lit14, lit15, lit16, lit17, lit18, lit19, lit21, lit23, lit24, lit26, lit27, lit28, lit29, lit30, lit31, lit32, lit33, lit34, lit35, lit36, lit37, lit38, lit39, lit40, lit41, lit42, lit101, lit102, lit103, lit104, lit105, lit106, lit107, lit108, lit109, lit110, lit111, lit112, lit113, lit114, lit115])
section
variable {P : Program} {w : World} {K : PySem.W.Frag} {mg : Str → Option Value} {base : Heap} {f : Addr} {fd : FuncData}
def spLQuo : Sp := fun vs H Q E => ∃ a W i, vs = [.ref a] ∧ Sl a W i true H ∧ W.length ≤ 1000000 ∧ i < W.length ∧ RL a W H Q (fun l H' => l.length ≤ W.length → Q (.str (S l)) H') (pQuo W i)
def quoF (i : Nat) : R (List Nat) → R (List Nat)
  | .ok l j => if bareT l = true then .err i else .ok l j
  | .err j => .err j
  | .stuck => .stuck
theorem quoF_eq (W : List Nat) (i : Nat) : pQuo W i = quoF i (qLoop W (W.length + 1) (i + 1) []) := by
  unfold pQuo quoF
  cases qLoop W (W.length + 1) (i + 1) [] <;> rfl
theorem ok_law_quoted (T : Tx K w mg) (c_law_sign : Fn P w K mg base 2 "_law_sign" [] spLSign) (c_law_broken : Fn P w K mg base 2 "_law_broken" [] spLBroken) (c_law_is_bare : Fn P w K mg base 2 "_law_is_bare" [] spBare)
    (F : FunD K "_law_quoted" "_law_quoted" (defArgs s_law_quoted) (defBody s_law_quoted) (defScope s_law_quoted) [] [] f fd) : FnOk P w K mg base (L2.CX P w) 4 f fd ["strip"] spLQuo := by
  refine F.ok sc_law_quoted (fun vs H Q E h => by obtain ⟨a, W, i, rfl, _⟩ := h; rfl) (fun cdv A outer s H vs Q E hr h => ?_)
  have nd := (sc_law_quoted).nd
  refine ⟨_, (pss_cons
  (ps_set (i := 1) nd rfl (by first | exact Or.inl rfl | exact Or.inr rfl) (pe_ix (k_ix K w rfl rfl) (pv 0) pe_int (fun _ _ => rfl)))
  (pss_cons
  (ps_asg (pe_op op_addA (pv 1) pe_int) (pg_sub (pv 0) pe_int (Lk.set_dictA (Lk.hu1 hr))))
  (pss_str (i := 2) nd rfl (by first | exact Or.inl rfl | exact Or.inr rfl)
  (psst_cons
  (pst_while own_def (PW.pt (pw_and (pt_val (pe_ix (k_ix K w rfl rfl) (pv 0) pe_int (fun _ _ => rfl))) (pw_and1 (pt_cmpR (k_ne K rfl (Lk.hu0 hr)) (pe_fn c_law_sign (hr.mono (by omega)) pass_def (pa_cons (pv 0) pa_nil)) pe_str rfl))))
   (psst_cons
    (PST.of (ps_set (i := 3) nd rfl (by first | exact Or.inl rfl | exact Or.inr rfl) (pe_fn c_law_sign (hr.mono (by omega)) pass_def (pa_cons (pv 0) pa_nil))))
    (psst_cons
    (pst_if (pt_cmpR (k_in K w rfl rfl) (pv 3) (pe_lst (pa_cons pe_str (pa_cons pe_str pa_nil))) rfl)
     (psst_cons
      (PST.of (ps_expr (pe_fn c_law_broken (hr.mono (by omega)) pass_def (pa_cons (pv 0) (pa_cons (pe_ix (k_ix K w rfl rfl) (pv 0) pe_int (fun _ _ => rfl)) pa_nil)))))
      psst_nil)
     (psst_cons
      (pst_if (pt_cmpR (k_eq K rfl (Lk.hu0 hr)) (pv 3) pe_str rfl)
       (psst_cons
        (PST.of (ps_asg (pe_op op_addA (pe_ix (k_ix K w rfl rfl) (pv 0) pe_int (fun _ _ => rfl)) pe_int) (pg_sub (pv 0) pe_int (Lk.set_dictA (Lk.hu1 hr)))))
        (psst_cons
        (pst_if (pt_cmpR (k_notIn K w rfl rfl) (pe_fn c_law_sign (hr.mono (by omega)) pass_def (pa_cons (pv 0) pa_nil)) (pe_lst (pa_cons pe_str (pa_cons pe_str (pa_cons pe_str pa_nil)))) rfl)
         (psst_cons
          (PST.of (ps_expr (pe_fn c_law_broken (hr.mono (by omega)) pass_def (pa_cons (pv 0) (pa_cons (pe_ix (k_ix K w rfl rfl) (pv 0) pe_int (fun _ _ => rfl)) pa_nil)))))
          psst_nil)
         (psst_cons
          (pst_set (i := 2) nd rfl (by first | exact Or.inl rfl | exact Or.inr rfl) (pet_op op_addA (PET.of (pv 2)) (CwR.pet_replC (pe_fn c_law_sign (hr.mono (by omega)) pass_def (pa_cons (pv 0) pa_nil)))))
          (psst_cons
          (PST.of (ps_asg (pe_op op_addA (pe_ix (k_ix K w rfl rfl) (pv 0) pe_int (fun _ _ => rfl)) pe_int) (pg_sub (pv 0) pe_int (Lk.set_dictA (Lk.hu1 hr)))))
          psst_nil)))
        psst_nil))
       (psst_cons
        (PST.of (ps_set (i := 2) nd rfl (by first | exact Or.inl rfl | exact Or.inr rfl) (pe_op op_addA (pv 2) (pv 3))))
        (psst_cons
        (PST.of (ps_asg (pe_op op_addA (pe_ix (k_ix K w rfl rfl) (pv 0) pe_int (fun _ _ => rfl)) pe_int) (pg_sub (pv 0) pe_int (Lk.set_dictA (Lk.hu1 hr)))))
        psst_nil)))
      psst_nil))
    psst_nil)))
  (psst_cons
  (PST.of (ps_if (pt_val (pe_ix (k_ix K w rfl rfl) (pv 0) pe_int (fun _ _ => rfl)))
   (pss_cons
    (ps_asg (pe_op op_addA (pe_ix (k_ix K w rfl rfl) (pv 0) pe_int (fun _ _ => rfl)) pe_int) (pg_sub (pv 0) pe_int (Lk.set_dictA (Lk.hu1 hr))))
    (pss_one
    (ps_if (pt_val (pe_fn c_law_is_bare (hr.mono (by omega)) pass_def (pa_cons (pv 2) pa_nil)))
     (pss_one
      (ps_expr (pe_fn c_law_broken (hr.mono (by omega)) pass_def (pa_cons (pv 0) (pa_cons (pv 1) pa_nil)))))
     pss_nil)))
   pss_nil))
  (psst_cons
  (PST.of (ps_ret (pv 2)))
  psst_nil)))))), ?_⟩
  obtain ⟨a, W, i, rfl, he, hW, hi, q⟩ := h
  rw [show L2.start N_law_quoted [V.ref a] = [some (.ref a), none, none, none] from rfl]
  walk_at "r"
  refine ⟨_, .inl (.of he), _, rfl, ?_⟩
  show rAddA (V.int (i : Int)) (V.int 1) _ _
  rw [add_ii]
  refine ⟨_, he, 1, rfl, ?_⟩
  have he1 : Sl a W (i + 1) true (upd H a (.lst ([V.str (S W), V.int (i : Int), V.bl true].set 1 (V.int ((i : Int) + 1))))) := upd_same
  have b1 : But a H (upd H a (.lst ([V.str (S W), V.int (i : Int), V.bl true].set 1 (V.int ((i : Int) + 1))))) := But.upd
  generalize upd H a (.lst ([V.str (S W), V.int (i : Int), V.bl true].set 1 (V.int ((i : Int) + 1)))) = H1 at he1 b1 ⊢
  obtain ⟨R0, eR⟩ : ∃ R0, R0 = qLoop W (W.length + 1) (i + 1) [] := ⟨_, rfl⟩
  rw [quoF_eq, ← eR] at q
  refine ⟨fun n σ H' => ∃ (j : Nat) (acc : List Nat) (ok : Bool) (x3 : Option V), σ = [some (.ref a), some (.int (i : Int)), some (.str (S acc)), x3] ∧ But a H H' ∧ Sl a W j ok H' ∧ j ≤ W.length ∧ acc.length ≤ j ∧ ((ok = true ∧ 0 < n ∧ qLoop W n j acc = R0) ∨ (ok = false ∧ R0 = .err j)), ⟨W.length + 1, i + 1, [], true, none, rfl, b1, he1, hi, by simp, .inl ⟨rfl, Nat.succ_pos _, eR.symm⟩⟩, ?_⟩
  rintro n σ H2 ⟨j, acc, ok, x3, rfl, hb, he2, hj, hal, hst⟩
  refine ⟨_, rfl, _, _, .inl (.inl (.of he2)), rfl, _, rfl, ?_⟩
  cases ok with
  | false =>
    rw [if_neg (by simp)]
    rcases hst with ⟨z, _⟩ | ⟨_, hR⟩
    · cases z
    rw [hR] at q
    refine ⟨_, rfl, _, _, .inl (.inl (.of he2)), rfl, _, rfl, ?_⟩
    rw [if_neg (by simp)]
    exact ⟨_, rfl, q _ _ hj hb he2⟩
  | true =>
    obtain ⟨hn, hR⟩ : 0 < n ∧ qLoop W n j acc = R0 := by
      rcases hst with ⟨_, h⟩ | ⟨z, _⟩
      · exact h
      · cases z
    obtain ⟨n, rfl⟩ : ∃ m, n = m + 1 := ⟨n - 1, by omega⟩
    unfold qLoop at hR
    rw [if_pos rfl]
    refine ⟨_, rfl, a, W, j, true, rfl, he2, hW, hj, ?_⟩
    show rEqQ K true (V.str (S ((W.drop j).take 1))) (V.str (S [39])) _ _
    rw [eq_ss]
    rw [show decide (S ((W.drop j).take 1) = S [39]) = decide (W[j]? = some 39) from by rw [← head_dec, decide_eq_decide, S_eq], Bool.true_xor]
    refine ⟨_, rfl, ?_⟩
    by_cases h39 : W[j]? = some 39
    · rw [if_neg (by simp [h39])]
      rw [h39] at hR
      simp only [if_true] at hR
      have hj1 : j + 1 ≤ W.length := (List.getElem?_eq_some_iff.mp h39).1
      refine ⟨_, rfl, _, _, .inl (.inl (.of he2)), rfl, _, rfl, ?_⟩
      rw [if_pos rfl]
      refine ⟨_, rfl, _, _, .inl (.inl (.of he2)), rfl, ?_⟩
      show rAddA (V.int (j : Int)) (V.int 1) _ _
      rw [add_ii]
      refine ⟨_, rfl, _, 1, he2, rfl, _, rfl, acc, rfl, by omega, fun H3 s3 => ⟨_, rfl, ?_⟩⟩
      have he3 : Sl a W (j + 1) true H3 := s3 _ _ upd_same
      have hb3 : But a H H3 := fun b o h e => s3 _ _ (by rw [upd_ne h]; exact hb b o h e)
      rw [← hR] at q
      by_cases hbr : bareT acc = true
      · rw [if_pos hbr]
        rw [show quoF i (.ok acc (j + 1)) = .err i from by show (if _ then _ else _) = _; rw [if_pos hbr]] at q
        exact ⟨_, rfl, _, rfl, a, W, j + 1, true, i, rfl, he3, _, rfl, q _ _ (by omega) (hb3.trans But.upd) upd_same⟩
      · rw [if_neg hbr]
        rw [show quoF i (.ok acc (j + 1)) = .ok acc (j + 1) from by show (if _ then _ else _) = _; rw [if_neg hbr]] at q
        exact ⟨_, rfl, q _ hj1 hb3 he3 (by omega)⟩
    · rw [if_pos (by simp [h39])]
      refine ⟨fun σ H' => ∃ (j : Nat) (acc : List Nat) (ok : Bool) (x3 : Option V), σ = [some (.ref a), some (.int (i : Int)), some (.str (S acc)), x3] ∧ But a H H' ∧ Sl a W j ok H' ∧ j ≤ W.length ∧ acc.length ≤ j ∧ ((ok = true ∧ 0 < n ∧ qLoop W n j acc = R0) ∨ (ok = false ∧ R0 = .err j)), fun σ' H' h => ⟨n, Nat.lt_succ_self n, h⟩, ?_⟩
      refine ⟨_, rfl, a, W, j, true, rfl, he2, hW, hj, _, rfl, by show 2 ≤ sizeLine; decide, fun p np => ?_⟩
      have hap : a ≠ p := ne_of_none he2 np
      have kp : ∀ b o, H2 b = some o → upd H2 p (HO.lst [V.str (S []), V.str (S [10])]) b = some o := fun b o e => by rw [upd_ne (ne_of_none e np)]; exact e
      have hb3 : But a H (upd H2 p (HO.lst [V.str (S []), V.str (S [10])])) := fun b o h e => kp _ _ (hb b o h e)
      have he3 : Sl a W j true (upd H2 p (HO.lst [V.str (S []), V.str (S [10])])) := kp _ _ he2
      refine .inr ⟨_, .inl (.of upd_same), rfl, rfl, ?_⟩
      generalize upd H2 p (HO.lst [V.str (S []), V.str (S [10])]) = H3 at kp hb3 he3 ⊢
      have brk : ∀ (k : Nat) (H4 : Hp) (x : V), k ≤ W.length → j ≤ k → R0 = .err k → But a H H4 → Sl a W k true H4 → ∃ v, [some (V.ref a), some (V.int (i : Int)), some (V.str (S acc)), some x][0]? = some (some v) ∧ ∃ v_1, [some (V.ref a), some (V.int (i : Int)), some (V.str (S acc)), some x][0]? = some (some v_1) ∧
          rIxA K w v_1 (V.int 1) H4 fun x_2 H1 => spLBroken [v, x_2] H1 (fun x_3 H1 => (fun σ H' => ∃ (j : Nat) (acc : List Nat) (ok : Bool) (x3 : Option V), σ = [some (.ref a), some (.int (i : Int)), some (.str (S acc)), x3] ∧ But a H H' ∧ Sl a W j ok H' ∧ j ≤ W.length ∧ acc.length ≤ j ∧ ((ok = true ∧ 0 < n ∧ qLoop W n j acc = R0) ∨ (ok = false ∧ R0 = .err j))) [some (V.ref a), some (V.int (i : Int)), some (V.str (S acc)), some x] H1) E := fun k H4 x hk hjk hR hb4 he4 =>
        ⟨_, rfl, _, rfl, _, _, .inl (.inl (.of he4)), rfl, a, W, k, true, k, rfl, he4, k, acc, false, _, rfl, hb4.trans But.upd, upd_same, hk, by omega, .inr ⟨rfl, hR⟩⟩
      have pos : ∀ {k : Nat} {l : List Nat}, qLoop W n k l = R0 → 0 < n := fun {k l} e => by
        rcases Nat.eq_zero_or_pos n with h0 | h0
        · subst h0
          rw [← e] at q
          exact (show False from q).elim
        · exact h0
      refine ⟨_, rfl, ?_⟩
      cases hc : W[j]? with
      | none =>
        rw [hc] at hR
        rw [drop_none hc]
        rw [if_pos (by decide)]
        exact brk j H3 _ hj (Nat.le_refl _) hR.symm hb3 he3
      | some c =>
        rw [hc] at hR
        have hc39 : c ≠ 39 := fun z => h39 (by rw [hc, z])
        simp only [if_neg hc39] at hR
        have hj1 : j + 1 ≤ W.length := (List.getElem?_eq_some_iff.mp hc).1
        rw [head_some hc]
        have ein : inV (V.str (S [c])) [V.str (S []), V.str (S [10])] = decide (c = 10) := by
          rw [Bool.eq_iff_iff]
          simp [inV, List.any_cons, eqV_str]
          omega
        rw [ein, Bool.false_xor]
        by_cases h10 : c = 10
        · rw [if_pos h10] at hR
          rw [if_pos (by simp [h10])]
          exact brk j H3 _ hj (Nat.le_refl _) hR.symm hb3 he3
        rw [if_neg h10] at hR
        rw [if_neg (by simp [h10])]
        refine ⟨_, rfl, ?_⟩
        show rEqQ K false (V.str (S [c])) (V.str (S [94])) _ _
        rw [eq_ss]
        refine ⟨_, rfl, ?_⟩
        by_cases h94 : c = 94
        · rw [if_pos h94] at hR
          rw [if_pos (by simp [h94])]
          refine ⟨_, rfl, _, _, .inl (.inl (.of he3)), rfl, ?_⟩
          show rAddA (V.int (j : Int)) (V.int 1) _ _
          rw [add_ii]
          refine ⟨_, rfl, _, 1, he3, rfl, ?_⟩
          have he4 : Sl a W (j + 1) true (upd H3 a (.lst ([V.str (S W), V.int (j : Int), V.bl true].set 1 (V.int ((j : Int) + 1))))) := upd_same
          have hb4 : But a H (upd H3 a (.lst ([V.str (S W), V.int (j : Int), V.bl true].set 1 (V.int ((j : Int) + 1))))) := hb3.trans But.upd
          generalize upd H3 a (.lst ([V.str (S W), V.int (j : Int), V.bl true].set 1 (V.int ((j : Int) + 1)))) = H4 at he4 hb4 ⊢
          refine ⟨_, rfl, a, W, j + 1, true, rfl, he4, hW, hj1, by show 3 ≤ sizeLine; decide, fun p5 np5 => ?_⟩
          have hb5 : But a H (upd H4 p5 (HO.lst [V.str (S [39]), V.str (S [94]), V.str (S [110])])) := fun b o h e => by rw [upd_ne (ne_of_none (hb4 b o h e) np5)]; exact hb4 b o h e
          have he5 : Sl a W (j + 1) true (upd H4 p5 (HO.lst [V.str (S [39]), V.str (S [94]), V.str (S [110])])) := by rw [Sl, upd_ne (ne_of_none he4 np5)]; exact he4
          refine .inr ⟨_, .inl (.of upd_same), rfl, rfl, ?_⟩
          generalize upd H4 p5 (HO.lst [V.str (S [39]), V.str (S [94]), V.str (S [110])]) = H5 at hb5 he5 ⊢
          refine ⟨_, rfl, ?_⟩
          cases hd : W[j + 1]? with
          | none =>
            rw [hd] at hR
            rw [drop_none hd]
            rw [if_pos (by decide)]
            exact brk (j + 1) H5 _ hj1 (Nat.le_succ _) hR.symm hb5 he5
          | some d =>
            rw [hd] at hR
            simp only at hR
            have hj2 : j + 2 ≤ W.length := (List.getElem?_eq_some_iff.mp hd).1
            rw [head_some hd]
            have ein : inV (V.str (S [d])) [V.str (S [39]), V.str (S [94]), V.str (S [110])] = decide (d = 39 ∨ d = 94 ∨ d = 110) := by
              rw [Bool.eq_iff_iff]
              simp [inV, List.any_cons, eqV_str]
              omega
            rw [ein, Bool.true_xor]
            by_cases hd3 : d = 39 ∨ d = 94 ∨ d = 110
            · obtain ⟨x, hx, hq⟩ : ∃ x, ([d].flatMap fun d => if d = 110 then [10] else [d]) = [x] ∧ qLoop W n (j + 2) (acc ++ [x]) = R0 := by
                by_cases e110 : d = 110
                · rw [if_pos e110] at hR
                  exact ⟨10, by rw [e110]; rfl, hR⟩
                · rw [if_neg e110, if_pos (by omega)] at hR
                  exact ⟨d, by simp [e110], hR⟩
              rw [if_neg (by simp [hd3])]
              refine ⟨_, rfl, _, rfl, a, W, j + 1, true, rfl, he5, hW, hj1, ?_⟩
              rw [head_some hd]
              refine ⟨S [d], rfl, by rw [S_len]; show 1 + (1 + 1) * 1 ≤ 16777216; omega, ?_⟩
              rw [rep_S, hx]
              show rAddA (V.str (S acc)) (V.str (S [x])) _ _
              refine ⟨by rw [S_len, S_len, sizeLine_eq]; simp; omega, ?_⟩
              rw [S_cat]
              refine ⟨_, rfl, _, _, .inl (.inl (.of he5)), rfl, ?_⟩
              show rAddA (V.int ((j + 1 : Nat) : Int)) (V.int 1) _ _
              rw [add_ii]
              exact ⟨_, rfl, _, 1, he5, rfl, j + 2, acc ++ [x], true, _, rfl, hb5.trans But.upd, upd_same, hj2, by simp; omega, .inl ⟨rfl, pos hq, hq⟩⟩
            · rw [if_neg (by omega), if_neg (by omega)] at hR
              rw [if_pos (by simp; omega)]
              exact brk (j + 1) H5 _ hj1 (Nat.le_succ _) hR.symm hb5 he5
        · rw [if_neg h94] at hR
          rw [if_neg (by simp [h94])]
          refine ⟨_, rfl, _, rfl, ?_⟩
          show rAddA (V.str (S acc)) (V.str (S [c])) _ _
          refine ⟨by rw [S_len, S_len, sizeLine_eq]; simp; omega, ?_⟩
          rw [S_cat]
          refine ⟨_, rfl, _, _, .inl (.inl (.of he3)), rfl, ?_⟩
          show rAddA (V.int (j : Int)) (V.int 1) _ _
          rw [add_ii]
          exact ⟨_, rfl, _, 1, he3, rfl, j + 1, acc ++ [c], true, _, rfl, hb3.trans But.upd, upd_same, hj1, by simp; omega, .inl ⟨rfl, pos hR, hR⟩⟩
/-- one tail for two places: R is found by unification at the first of them (R must not know what is bound there) -/
theorem use_tail {P0 : Prop} (G : V → Hp → Prop) {R : V → Hp → Prop} (h : (∀ v H, G v H → R v H) → P0) (tail : ∀ v H, G v H → R v H) : P0 := h tail
theorem ite_or {c A B : Prop} {dc : Decidable c} (hB : ¬ c → B) (hA : c → A) : if c then A else B := by
  by_cases h : c
  · rw [if_pos h]; exact hA h
  · rw [if_neg h]; exact hB h
def aheadL : Option (List Nat) → V
  | none => .non
  | some l => .str (S l)
def spLKey : Sp := fun vs H Q E => ∃ a W i ahead, vs = [.ref a, aheadL ahead] ∧ Sl a W i true H ∧ W.length ≤ 1000000 ∧ i ≤ W.length ∧ RL a W H Q (fun l H' => l.length ≤ W.length → Q (.str (S l)) H') (pKey W i ahead)
theorem ok_law_key (T : Tx K w mg) (c_law_sign : Fn P w K mg base 2 "_law_sign" [] spLSign) (c_law_broken : Fn P w K mg base 2 "_law_broken" [] spLBroken) (c_law_run : Fn P w K mg base 4 "_law_run" [] spLRun) (c_law_is_bare : Fn P w K mg base 2 "_law_is_bare" [] spBare) (c_law_quoted : Fn P w K mg base 4 "_law_quoted" [] spLQuo)
    (F : FunD K "_law_key" "_law_key" (defArgs s_law_key) (defBody s_law_key) (defScope s_law_key) [] [] f fd) : FnOk P w K mg base (L2.CX P w) 6 f fd ["strip", "last"] spLKey := by
  refine F.ok sc_law_key (fun vs H Q E h => by obtain ⟨a, W, i, ah, rfl, _⟩ := h; rfl) (fun cdv A outer s H vs Q E hr h => ?_)
  have nd := (sc_law_key).nd
  refine ⟨_, (pss_cons
  (ps_set (i := 2) nd rfl (by first | exact Or.inl rfl | exact Or.inr rfl) (pe_ix (k_ix K w rfl rfl) (pv 0) pe_int (fun _ _ => rfl)))
  (pss_cons
  (ps_set (i := 3) nd rfl (by first | exact Or.inl rfl | exact Or.inr rfl) (pe_cmpR (k_eq K rfl (Lk.hu0 hr)) (pe_fn c_law_sign (hr.mono (by omega)) pass_def (pa_cons (pv 0) pa_nil)) pe_str rfl))
  (pss_cons
  (ps_if (pt_val (pv 3))
   (pss_one
    (ps_set (i := 4) nd rfl (by first | exact Or.inl rfl | exact Or.inr rfl) (pe_fn c_law_quoted (hr.mono (by omega)) pass_def (pa_cons (pv 0) pa_nil))))
   (pss_one
    (ps_set (i := 4) nd rfl (by first | exact Or.inl rfl | exact Or.inr rfl) (pe_fn c_law_run (hr.mono (by omega)) pass_def (pa_cons (pv 0) (pa_cons pe_str pa_nil))))))
  (pss_cons
  (ps_if (PW.pt (pw_and (pt_val (pe_ix (k_ix K w rfl rfl) (pv 0) pe_int (fun _ _ => rfl))) (pw_and (pt_cmp (pc_notN (pv 1))) (pw_and1 (pt_cmpR (op_leA) (pv 4) (pv 1) rfl)))))
   (pss_one
    (ps_expr (pe_fn c_law_broken (hr.mono (by omega)) pass_def (pa_cons (pv 0) (pa_cons (pv 2) pa_nil)))))
   pss_nil)
  (pss_cons
  (ps_if (PW.pt (pw_and (pt_val (pe_ix (k_ix K w rfl rfl) (pv 0) pe_int (fun _ _ => rfl))) (pw_and (pt_not (pt_val (pv 3))) (pw_and1 (pt_not (pt_val (pe_fn c_law_is_bare (hr.mono (by omega)) pass_def (pa_cons (pv 4) pa_nil))))))))
   (pss_one
    (ps_expr (pe_fn c_law_broken (hr.mono (by omega)) pass_def (pa_cons (pv 0) (pa_cons (pe_ix (k_ix K w rfl rfl) (pv 0) pe_int (fun _ _ => rfl)) pa_nil)))))
   pss_nil)
  (pss_one
  (ps_ret (pv 4)))))))), ?_⟩
  obtain ⟨a, W, i, ah, rfl, he, hW, hi, q⟩ := h
  rw [show L2.start N_law_key [V.ref a, aheadL ah] = [some (.ref a), some (aheadL ah), none, none, none] from rfl]
  walk_at "r"
  refine ⟨_, .inl (.of he), _, rfl, a, W, i, true, rfl, he, hW, hi, ?_⟩
  show rEqQ K false (V.str (S ((W.drop i).take 1))) (V.str (S [39])) _ _
  rw [eq_ss]
  rw [show decide (S ((W.drop i).take 1) = S [39]) = decide (W[i]? = some 39) from by rw [← head_dec, decide_eq_decide, S_eq], Bool.false_xor]
  refine ⟨_, rfl, ?_⟩
  apply use_tail (fun v H' => (∃ l j, v = .str (S l) ∧ l.length ≤ W.length ∧ j ≤ W.length ∧ But a H H' ∧ Sl a W j true H' ∧ pRaw W i = .ok l j) ∨ ∃ j, j ≤ W.length ∧ But a H H' ∧ Sl a W j false H' ∧ pRaw W i = .err j)
  · intro tail
    refine ite_or (fun h39 => ?_) (fun h39 => ?_)
    · have h39 : W[i]? ≠ some 39 := by simpa using h39
      refine ⟨a, W, i, true, _, rfl, he, hW, hi, fun H2 hb2 he2 => ?_⟩
      rw [small_mem'] at he2 ⊢
      have hl := tw_len (p := small) (W.drop i)
      rw [List.length_drop] at hl
      obtain ⟨v, hv⟩ : ∃ v, v = V.str (S ((W.drop i).takeWhile small)) := ⟨_, rfl⟩
      rw [← hv]
      refine tail v H2 (.inl ⟨(W.drop i).takeWhile small, i + ((W.drop i).takeWhile small).length, hv, by omega, by omega, hb2, he2, ?_⟩)
      · unfold pRaw
        rw [if_neg h39]
        rfl
    · have h39 : W[i]? = some 39 := by simpa using h39
      have hlt : i < W.length := (List.getElem?_eq_some_iff.mp h39).1
      refine ⟨a, W, i, rfl, he, hW, hlt, ?_⟩
      have er : pRaw W i = pQuo W i := by unfold pRaw; rw [if_pos h39]
      have hrd := quo_rd h39
      cases hq : pQuo W i with
      | stuck => rw [hq] at hrd; exact hrd
      | err j => exact fun v H' h1 h2 h3 => tail v H' (.inr ⟨j, h1, h2, h3, er.trans hq⟩)
      | ok l j => exact fun H' h1 h2 h3 h4 => tail _ H' (.inl ⟨l, j, rfl, h4, h1, h2, h3, er.trans hq⟩)
  · rintro v H2 (⟨l, j, rfl, hl, hj, hb, he2, hr2⟩ | ⟨j, hj, hb, he2, hr2⟩)
    · have ek : pKey W i ah = if late ah l = true then .err i else if W[i]? = some 39 ∨ bareT l = true then .ok l j else .err j := by unfold pKey; rw [hr2]
      rw [ek] at q
      have fin2 : late ah l = false → ∃ xs, (SqL K H2 a xs ∨ SqT K H2 a xs) ∧ ∃ x, atI xs 2 = some x ∧ ∃ c, x = V.bl c ∧ if c = true then (∃ c, V.bl (decide (W[i]? = some 39)) = V.bl c ∧ if c = false then spBare [V.str (S l)] H2 (fun x H1 => ∃ c, x = V.bl c ∧ if c = false then ∃ xs, (SqL K H1 a xs ∨ SqT K H1 a xs) ∧ ∃ x, atI xs 1 = some x ∧ spLBroken [V.ref a, x] H1 (fun x H1 => Q (V.str (S l)) H1) E else Q (V.str (S l)) H1) E else Q (V.str (S l)) H2) else Q (V.str (S l)) H2 := fun hlt => by
        rw [if_neg (by simp [hlt])] at q
        refine ⟨_, .inl (.of he2), _, rfl, _, rfl, ?_⟩
        rw [if_pos rfl]
        refine ⟨_, rfl, ?_⟩
        by_cases h39 : W[i]? = some 39
        · rw [if_neg (by simp [h39])]
          rw [if_pos (.inl h39)] at q
          exact q _ hj hb he2 hl
        · rw [if_pos (by simp [h39])]
          refine ⟨l, rfl, by omega, fun H3 s3 => ⟨_, rfl, ?_⟩⟩
          have hb3 : But a H H3 := fun b o h e => s3 _ _ (hb b o h e)
          have he3 : Sl a W j true H3 := s3 _ _ he2
          cases hbt : bareT l with
          | true =>
            rw [if_neg (by simp)]
            rw [if_pos (.inr hbt)] at q
            exact q _ hj hb3 he3 hl
          | false =>
            rw [if_pos rfl]
            rw [if_neg (fun z => z.elim h39 (fun z => by rw [hbt] at z; cases z))] at q
            exact ⟨_, .inl (.of he3), _, rfl, a, W, j, true, j, rfl, he3, q _ _ hj (hb3.trans But.upd) upd_same⟩
      refine ⟨_, .inl (.of he2), _, rfl, _, rfl, ?_⟩
      rw [if_pos rfl]
      cases ah with
      | none =>
        rw [if_neg (by simp [aheadL])]
        exact fin2 rfl
      | some x =>
        rw [if_pos (by simp [aheadL])]
        show rLeA (V.str (S l)) (V.str (S x)) _ _
        rw [le_ss]
        refine ⟨_, rfl, ?_⟩
        by_cases hlt : late (some x) l = true
        · rw [if_pos hlt] at q
          rw [if_pos (by simpa [late] using hlt)]
          refine ⟨a, W, j, true, i, rfl, he2, _, .inl (.of upd_same), _, rfl, _, rfl, ?_⟩
          rw [if_neg (by simp)]
          exact q _ _ hi (hb.trans But.upd) upd_same
        · rw [if_neg (by simpa [late] using hlt)]
          exact fin2 (by simpa using hlt)
    · have e : pKey W i ah = .err j := by unfold pKey; rw [hr2]
      rw [e] at q
      refine ⟨_, .inl (.of he2), _, rfl, _, rfl, ?_⟩
      rw [if_neg (by simp)]
      refine ⟨_, .inl (.of he2), _, rfl, _, rfl, ?_⟩
      rw [if_neg (by simp)]
      exact q _ _ hj hb he2
end
end K97

set_option Elab.async false
set_option linter.all false
set_option maxRecDepth 100000
set_option maxHeartbeats 4000000
/-! The law's own reader: what stands between brackets. -/
namespace K97
open PySem PySem.Spec PyProof.Rows L2 Lk SX
local macro_rules | `(tactic| walk_at "r") => `(tactic| simp only [tSeq, tNext, tRet, tRetN, tIfS, tDrop, tAsg, tAug, tFor, tWhile, tAndV, tOrV, tNotV, tAnd, tOr, tNot, tB, tTest, tIf, tIsN, tNotN, tOp, tVar, tC, tCB, tPar, tCons, tNil, tLc, tYes, tTup, tLst, tCall, tMeth, tFld, tSl, tPart, tNoPart, tM1, tBM, tVeI, tOst, sFld, sFldAug, tMkO, tMake, tTGet, gName, gNil, gCons, gTup, gUnl, gSub, iAny, iRng1, iKeys, iVals,
  List.getElem?_cons_zero, List.getElem?_cons_succ, List.set_cons_zero, List.set_cons_succ, Option.some.injEq, V.str.injEq, V.bl.injEq, V.int.injEq, V.ref.injEq, exists_and_left, exists_eq_left', exists_eq_left, exists_eq, cxK, cxW, HO.ins.injEq, and_assoc, upd_same, true_and, and_true, reduceCtorEq, false_and, and_false, exists_false, or_false, false_or, if_true, if_false, List.cons_append, List.nil_append, add_ii, add_ss, sub_ii, mul_ii, mod_ii, fdiv_ii, pow_ii, lt_ii, le_ii, gt_ii, ge_ii, lt_ss, le_ss, iadd_ii, iadd_ss, in_ss, ix_si, ix_ri, ix_rs, sl_s, sl_r, eq_ss, eq_ii, eq_bb, eq_nn, eq_rr, int1_i, int1_b, int1_s, min2_ii, set_rs, set_ri, Bool.true_xor, Bool.false_xor, Bool.not_eq_true', wipe, List.map_cons, List.map_nil, S_eq, S_cat, S_len, lit1, lit3, lit5, lit6, lit7, lit8, lit9, lit10, lit11, lit12, lit13, lit14, lit15, lit16, lit17, lit18, lit19, lit21, lit23, lit24, lit26, lit27, lit28, lit29, lit30, lit31, lit32, lit33, lit34, lit35, lit36, lit37, lit38, lit39, lit40, lit41, lit42, lit101, lit102, lit103, lit104, lit105, lit106, lit107, lit108, lit109, lit110, lit111, lit112, lit113, lit114, lit115])
section
variable {P : Program} {w : World} {K : PySem.W.Frag} {mg : Str → Option Value} {base : Heap} {f : Addr} {fd : FuncData}
/-- at p: a list of pairs -/
def Its (H : Hp) (p : Addr) (its : List (V × V)) : Prop := ∃ ps : List Addr, H p = some (.lst (ps.map V.ref)) ∧ ps.length = its.length ∧ ∀ (i : Nat) (q : Addr) (x : V × V), ps[i]? = some q → its[i]? = some x → H q = some (.tup [x.1, x.2])
theorem Its.len {H : Hp} {p : Addr} {its : List (V × V)} (h : Its H p its) : ∃ xs, H p = some (.lst xs) ∧ xs.length = its.length := by
  obtain ⟨ps, h1, h2, _⟩ := h
  exact ⟨_, h1, by rw [List.length_map, h2]⟩
theorem Its.keep {H H' : Hp} {p : Addr} {its : List (V × V)} (h : Its H p its) (hk : ∀ b o, (∀ xs, o ≠ .lst xs) ∨ b = p → H b = some o → H' b = some o) : Its H' p its := by
  obtain ⟨ps, h1, h2, h3⟩ := h
  exact ⟨ps, hk _ _ (.inr rfl) h1, h2, fun i q x e1 e2 => hk _ _ (.inl fun xs z => by cases z) (h3 i q x e1 e2)⟩
theorem Its.put {H : Hp} {p q : Addr} {its : List (V × V)} {x : V × V} (h : Its H p its) (hq : H q = some (.tup [x.1, x.2])) {xs : List V} (hx : H p = some (.lst xs)) : Its (upd H p (.lst (xs ++ [.ref q]))) p (its ++ [x]) := by
  obtain ⟨ps, h1, h2, h3⟩ := h
  rw [hx] at h1
  cases h1
  have hn : ∀ (r : Addr) (y : V × V), H r = some (.tup [y.1, y.2]) → r ≠ p := fun r y e z => by rw [z, hx] at e; cases e
  refine ⟨ps ++ [q], by rw [upd_same, List.map_append]; rfl, by simp [h2], fun i r y e1 e2 => ?_⟩
  by_cases hi : i < ps.length
  · rw [List.getElem?_append_left hi] at e1
    rw [List.getElem?_append_left (by omega)] at e2
    have := h3 i r y e1 e2
    rw [upd_ne (hn r y this)]
    exact this
  · rw [List.getElem?_append_right (by omega)] at e1
    rw [List.getElem?_append_right (by omega)] at e2
    obtain ⟨k, hk⟩ : ∃ k, k = i - ps.length := ⟨_, rfl⟩
    rw [← h2, ← hk] at e2
    rw [← hk] at e1
    cases k with
    | succ k => simp at e1
    | zero =>
      cases e1
      cases e2
      rw [upd_ne (hn q x hq)]
      exact hq
/-- what the law's reader leaves of an inner piece -/
def RI {α : Type} (a : Addr) (W : List Nat) (H : Hp) (okp : α → Hp → Prop) (erp : Hp → Prop) : R α → Prop
  | .ok x j => ∀ H', j ≤ W.length → But a H H' → Sl a W j true H' → okp x H'
  | .err j => ∀ H', j ≤ W.length → But a H H' → Sl a W j false H' → erp H'
  | .stuck => False
def pairL (ks : List (List Nat)) (vs : List V) : List (V × V) := List.zipWith (fun k v => (V.str (S k), v)) ks vs
def spLOne (n : Nat) : Sp := fun vs H Q E => ∃ a W i, vs = [.ref a] ∧ Sl a W i true H ∧ W.length ≤ 1000000 ∧ i ≤ W.length ∧ RL a W H Q (fun t H' => ∀ v, Rep t v (fresh H H') → Q v H') (lThing W n i)
def spLInner (n : Nat) : Sp := fun vs H Q E => ∃ a W i e, vs = [.ref a, .str (S [e])] ∧ Sl a W i true H ∧ W.length ≤ 1000000 ∧ i < W.length ∧
  ((e ≠ 125 ∧ RI a W H (fun ts H' => ∀ p vs, vs.length ≤ W.length + 1 → H p = none → Its H' p (vs.map fun v => (V.non, v)) → RepL ts vs (fresh H H') → Q (.ref p) H') (fun H' => ∀ p its, its.length ≤ W.length + 1 → Its H' p its → Q (.ref p) H') (pThings W (lThing W n) e (W.length + 1) (i + 1) [])) ∨
   (e = 125 ∧ RI a W H (fun t H' => ∀ p ks ts vs, vs.length ≤ W.length + 1 → t = .dic ks ts → ks.length = vs.length → ks.Pairwise (· < ·) → H p = none → Its H' p (pairL ks vs) → RepL ts vs (fresh H H') → Q (.ref p) H') (fun H' => ∀ p (kvs : List (List Nat × V)), kvs.length ≤ W.length + 1 → Its H' p (kvs.map fun x => (V.str (S x.1), x.2)) → Q (.ref p) H') (pPairs W (lThing W n) (W.length + 1) (i + 1) [] [])))
/-- what is kept while the strip alone changes -/
theorem inv_mv {a p : Addr} {H H2 H4 : Hp} {acc : List K97.T} {vs : List V} {its : List (V × V)} {o1 : HO} {xs : List V} (ha : H a = some o1) (ha2 : H2 a = some (.lst xs)) (hap : a ≠ p) (h : But a H2 H4) (hb : But a H H2) (hI : Its H2 p its) (hrep : RepL acc vs (hol p (fresh H H2))) :
    But a H H4 ∧ Its H4 p its ∧ RepL acc vs (hol p (fresh H H4)) := by
  refine ⟨hb.trans h, hI.keep fun b o ho e => h b o (fun z => ?_) e, RepL.le (fun b u r => rd_fun (fun o z => ?_) r) _ _ hrep⟩
  · rw [z] at e ho
    rw [ha2] at e
    cases e
    rcases ho with ho | ho
    · exact ho _ rfl
    · exact hap ho
  · obtain ⟨z1, z2⟩ := hol_of z
    obtain ⟨z3, z4⟩ := fresh_of z2
    exact hol_at z1 (fresh_at z3 (h b o (fun y => by rw [y, ha] at z3; cases z3) z4) (fresh_nf z2))
/-- one item more -/
theorem inv_put {a p p1 : Addr} {H H4 H5 : Hp} {acc : List K97.T} {vs : List V} {its : List (V × V)} {t : K97.T} {v k : V} {o1 : HO} {xs ys : List V} (ha : H a = some o1) (np : H p = none) (ha4 : H4 a = some (.lst xs)) (hap : a ≠ p) (h : But a H4 H5) (hb : But a H H4) (hI : Its H4 p its) (hrep : RepL acc vs (hol p (fresh H H4)))
    (hp : H4 p = some (.lst ys)) (hv : Rep t v (fresh H4 H5)) (n1 : H5 p1 = none) {H6 : Hp} (e6 : H6 = upd (upd H5 p1 (.tup [k, v])) p (.lst (ys ++ [.ref p1]))) :
    But a H H6 ∧ Its H6 p (its ++ [(k, v)]) ∧ RepL (acc ++ [t]) (vs ++ [v]) (hol p (fresh H H6)) := by
  obtain ⟨m1, m2, m3⟩ := inv_mv ha ha4 hap h hb hI hrep
  have hp5 : H5 p = some (.lst ys) := h _ _ (Ne.symm hap) hp
  have hpp : p ≠ p1 := ne_of_none hp5 n1
  have k5 : ∀ b o, b ≠ p → H5 b = some o → H6 b = some o := fun b o hb e => by
    rw [e6, upd_ne hb, upd_ne (ne_of_none e n1)]
    exact e
  refine ⟨fun b o hba e => k5 b o (ne_of_none e np) (m1 b o hba e), ?_, RepL_put (RepL.le (fun b u r => rd_fun (fun o z => ?_) r) _ _ m3) (Rep.le (fun b u r => rd_fun (fun o z => ?_) r) _ _ hv)⟩
  · rw [e6]
    refine Its.put (q := p1) (x := (k, v)) (m2.keep fun b o _ e => by rw [upd_ne (ne_of_none e n1)]; exact e) upd_same (by rw [upd_ne hpp]; exact hp5)
  · obtain ⟨z1, z2⟩ := hol_of z
    obtain ⟨z3, z4⟩ := fresh_of z2
    exact hol_at z1 (fresh_at z3 (k5 b o z1 z4) (fresh_nf z2))
  · obtain ⟨z3, z4⟩ := fresh_of z
    have hbp : b ≠ p := fun y => by rw [y, hp] at z3; cases z3
    have hba : b ≠ a := fun y => by rw [y, ha4] at z3; cases z3
    have nH : H b = none := by
      cases e : H b with
      | none => rfl
      | some o' => rw [hb b o' hba e] at z3; cases z3
    exact hol_at hbp (fresh_at nH (k5 b o hbp z4) (fresh_nf z))
theorem or_t {A B : Prop} (h : (true = true ∧ A) ∨ (true = false ∧ B)) : A := by
  rcases h with ⟨_, h⟩ | ⟨z, _⟩
  · exact h
  · cases z
theorem pairL_zip (ks : List (List Nat)) (vs : List V) : pairL ks vs = (ks.zip vs).map fun x => (V.str (S x.1), x.2) := by
  unfold pairL
  rw [List.zip, List.map_zipWith]
theorem pairL_put {ks : List (List Nat)} {vs : List V} (h : ks.length = vs.length) (k : List Nat) (v : V) : pairL (ks ++ [k]) (vs ++ [v]) = pairL ks vs ++ [(V.str (S k), v)] := by
  unfold pairL
  rw [List.zipWith_append h]
  rfl
theorem use_tailH {P0 : Prop} (G : Hp → Prop) {R : Hp → Prop} (h : (∀ H, G H → R H) → P0) (tail : ∀ H, G H → R H) : P0 := h tail
theorem ok_law_inner (T : Tx K w mg) (n : Nat) (c_law_sign : Fn P w K mg base 2 "_law_sign" [] spLSign) (c_law_go : Fn P w K mg base 4 "_law_go" [] spLGo) (c_law_key : Fn P w K mg base 6 "_law_key" [] spLKey) (c_law_one : Fn P w K mg base (2 * n + 8) "_law_one" [] (spLOne n))
    (F : FunD K "_law_inner" "_law_inner" (defArgs s_law_inner) (defBody s_law_inner) (defScope s_law_inner) [] [] f fd) : FnOk P w K mg base (L2.CX P w) (2 * n + 9) f fd ["strip", "end"] (spLInner n) := by
  refine F.ok sc_law_inner (fun vs H Q E h => by obtain ⟨a, W, i, e, rfl, _⟩ := h; rfl) (fun cdv A outer s H vs Q E hr h => ?_)
  have nd := (sc_law_inner).nd
  refine ⟨_, (pss_cons
  (ps_set (i := 2) nd rfl (by first | exact Or.inl rfl | exact Or.inr rfl) (pe_lst pa_nil))
  (pss_cons
  (ps_set (i := 3) nd rfl (by first | exact Or.inl rfl | exact Or.inr rfl) pe_non)
  (pss_cons
  (ps_asg (pe_op op_addA (pe_ix (k_ix K w rfl rfl) (pv 0) pe_int (fun _ _ => rfl)) pe_int) (pg_sub (pv 0) pe_int (Lk.set_dictA (Lk.hu1 hr))))
  (pss_cons
  (ps_while own_def (PW.pt (pw_and (pt_val (pe_ix (k_ix K w rfl rfl) (pv 0) pe_int (fun _ _ => rfl))) (pw_and1 (pt_cmpR (k_ne K rfl (Lk.hu0 hr)) (pe_fn c_law_sign (hr.mono (by omega)) pass_def (pa_cons (pv 0) pa_nil)) (pv 1) rfl))))
   (pss_cons
    (ps_if (pt_cmpR (k_ne K rfl (Lk.hu0 hr)) (pv 2) (pe_lst pa_nil) rfl)
     (pss_one
      (ps_expr (pe_fn c_law_go (hr.mono (by omega)) pass_def (pa_cons (pv 0) (pa_cons pe_str pa_nil)))))
     pss_nil)
    (pss_cons
    (ps_if (PW.pt (pw_and (pt_val (pe_ix (k_ix K w rfl rfl) (pv 0) pe_int (fun _ _ => rfl))) (pw_and1 (pt_cmpR (k_eq K rfl (Lk.hu0 hr)) (pv 1) pe_str rfl))))
     (pss_cons
      (ps_set (i := 3) nd rfl (by first | exact Or.inl rfl | exact Or.inr rfl) (pe_fn c_law_key (hr.mono (by omega)) pass_def (pa_cons (pv 0) (pa_cons (pv 3) pa_nil))))
      (pss_one
      (ps_expr (pe_fn c_law_go (hr.mono (by omega)) pass_def (pa_cons (pv 0) (pa_cons pe_str pa_nil))))))
     pss_nil)
    (pss_one
    (ps_if (pt_val (pe_ix (k_ix K w rfl rfl) (pv 0) pe_int (fun _ _ => rfl)))
     (pss_one
      (ps_expr (pe_app K rfl (pv 2) (pa_cons (pe_tup (pa_cons (pv 3) (pa_cons (pe_fn c_law_one (hr.mono (by omega)) pass_def (pa_cons (pv 0) pa_nil)) pa_nil))) pa_nil))))
     pss_nil)))))
  (pss_cons
  (ps_expr (pe_fn c_law_go (hr.mono (by omega)) pass_def (pa_cons (pv 0) (pa_cons (pv 1) pa_nil))))
  (pss_one
  (ps_ret (pv 2)))))))), ?_⟩
  obtain ⟨a, W, i, e, rfl, he, hW, hi, q⟩ := h
  rw [show L2.start N_law_inner [V.ref a, V.str (S [e])] = [some (.ref a), some (.str (S [e])), none, none] from rfl]
  walk_at "r"
  refine ⟨Nat.zero_le _, fun p np => ?_⟩
  have hap : a ≠ p := ne_of_none he np
  refine ⟨_, .inl (.of (by rw [upd_ne hap]; exact he)), _, rfl, ?_⟩
  show rAddA (V.int (i : Int)) (V.int 1) _ _
  rw [add_ii]
  refine ⟨_, by rw [upd_ne hap]; exact he, 1, rfl, ?_⟩
  have he1 : Sl a W (i + 1) true (upd (upd H p (HO.lst [])) a (.lst ([V.str (S W), V.int (i : Int), V.bl true].set 1 (V.int ((i : Int) + 1))))) := upd_same
  have b1 : But a H (upd (upd H p (HO.lst [])) a (.lst ([V.str (S W), V.int (i : Int), V.bl true].set 1 (V.int ((i : Int) + 1))))) := fun b o h e => by
    rw [upd_ne h, upd_ne (ne_of_none e np)]
    exact e
  have hp1 : Its (upd (upd H p (HO.lst [])) a (.lst ([V.str (S W), V.int (i : Int), V.bl true].set 1 (V.int ((i : Int) + 1))))) p [] := ⟨[], by rw [upd_ne (Ne.symm hap), upd_same]; rfl, rfl, fun k r x e1 _ => by simp at e1⟩
  generalize upd (upd H p (HO.lst [])) a (.lst ([V.str (S W), V.int (i : Int), V.bl true].set 1 (V.int ((i : Int) + 1)))) = H1 at he1 b1 hp1 ⊢
  have e16 := sizeLine_eq
  rcases q with ⟨hne, q⟩ | ⟨h125, q⟩
  · obtain ⟨R0, eR⟩ : ∃ R0, R0 = pThings W (lThing W n) e (W.length + 1) (i + 1) [] := ⟨_, rfl⟩
    rw [← eR] at q
    refine ⟨fun m σ H' => ∃ (j : Nat) (ok : Bool) (x3 : Option V), σ = [some (.ref a), some (.str (S [e])), some (.ref p), x3] ∧ But a H H' ∧ Sl a W j ok H' ∧ j ≤ W.length ∧ ((ok = true ∧ x3 = some V.non ∧ ∃ (acc : List K97.T) (vs : List V), acc.length + m = W.length + 1 ∧ 0 < m ∧ pThings W (lThing W n) e m j acc = R0 ∧ Its H' p (vs.map fun v => (V.non, v)) ∧ RepL acc vs (hol p (fresh H H'))) ∨ (ok = false ∧ R0 = .err j ∧ ∃ its, its.length ≤ W.length + 1 ∧ Its H' p its)),
      ⟨W.length + 1, i + 1, true, _, rfl, b1, he1, hi, .inl ⟨rfl, rfl, [], [], by simp, Nat.succ_pos _, eR.symm, hp1, by rw [RepL]⟩⟩, ?_⟩
    rintro m σ H2 ⟨j, ok, x3, rfl, hb, he2, hj, hst⟩
    refine ⟨_, rfl, _, _, .inl (.inl (.of he2)), rfl, _, rfl, ?_⟩
    cases ok with
    | false =>
      rw [if_neg (by simp)]
      obtain ⟨hR, its, hil, hI⟩ : R0 = .err j ∧ ∃ its, its.length ≤ W.length + 1 ∧ Its H2 p its := by
        rcases hst with ⟨z, _⟩ | ⟨_, h⟩
        · cases z
        · exact h
      rw [hR] at q
      exact ⟨_, rfl, _, rfl, a, W, j, false, e, rfl, he2, hW, hj, (fun z => nomatch z), (fun z => nomatch z), fun _ => ⟨_, rfl, q H2 hj hb he2 p its hil hI⟩⟩
    | true =>
      obtain ⟨hx3, acc, vs, hlen, hm, hR, hI, hrep⟩ : x3 = some V.non ∧ ∃ (acc : List K97.T) (vs : List V), acc.length + m = W.length + 1 ∧ 0 < m ∧ pThings W (lThing W n) e m j acc = R0 ∧ Its H2 p (vs.map fun v => (V.non, v)) ∧ RepL acc vs (hol p (fresh H H2)) := by
        rcases hst with ⟨_, h⟩ | ⟨z, _⟩
        · exact h
        · cases z
      subst hx3
      obtain ⟨m, rfl⟩ : ∃ k, m = k + 1 := ⟨m - 1, by omega⟩
      unfold pThings at hR
      rw [if_pos rfl]
      refine ⟨_, rfl, a, W, j, true, rfl, he2, hW, hj, _, rfl, ?_⟩
      show rEqQ K true (V.str (S ((W.drop j).take 1))) (V.str (S [e])) _ _
      rw [eq_ss]
      rw [show decide (S ((W.drop j).take 1) = S [e]) = decide (W[j]? = some e) from by rw [← head_dec, decide_eq_decide, S_eq], Bool.true_xor]
      refine ⟨_, rfl, ?_⟩
      have hvl := hrep.len
      by_cases hje : W[j]? = some e
      · rw [if_neg (by simp [hje])]
        rw [if_pos hje] at hR
        rw [← hR] at q
        refine ⟨_, rfl, _, rfl, a, W, j, true, e, rfl, he2, hW, hj, fun _ _ H3 hb3 he3 => ⟨_, rfl, ?_⟩, fun _ z => absurd hje z, (fun z => nomatch z)⟩
        refine q H3 (List.getElem?_eq_some_iff.mp hje).1 (hb.trans hb3) he3 p vs (by omega) np (hI.keep fun b o h e => ?_) (RepL.le (fun b u r => rd_fun (fun o z => ?_) r) _ _ hrep)
        · refine hb3 b o (fun z => ?_) e
          rw [z] at e h
          have e' : H2 a = some _ := he2
          rw [e'] at e
          cases e
          rcases h with h | h
          · exact h _ rfl
          · exact hap h
        · obtain ⟨z1, z2⟩ := hol_of z
          obtain ⟨z3, z4⟩ := fresh_of z2
          exact fresh_at z3 (hb3 b o (fun z => by rw [z, he] at z3; cases z3) z4) (fresh_nf z2)
      · rw [if_pos (by simp [hje])]
        rw [if_neg hje] at hR
        refine ⟨fun σ H' => ∃ (j : Nat) (ok : Bool) (x3 : Option V), σ = [some (.ref a), some (.str (S [e])), some (.ref p), x3] ∧ But a H H' ∧ Sl a W j ok H' ∧ j ≤ W.length ∧ ((ok = true ∧ x3 = some V.non ∧ ∃ (acc : List K97.T) (vs : List V), acc.length + m = W.length + 1 ∧ 0 < m ∧ pThings W (lThing W n) e m j acc = R0 ∧ Its H' p (vs.map fun v => (V.non, v)) ∧ RepL acc vs (hol p (fresh H H'))) ∨ (ok = false ∧ R0 = .err j ∧ ∃ its, its.length ≤ W.length + 1 ∧ Its H' p its)), fun σ' H'' h => ⟨m, Nat.lt_succ_self m, h⟩, ?_⟩
        refine ⟨_, rfl, Nat.zero_le _, fun p3 np3 => ?_⟩
        have hp2 := hI.len
        obtain ⟨xs2, hp2, hxl⟩ := hp2
        rw [List.length_map] at hxl
        apply use_tailH (fun H4 => ∃ (j4 : Nat) (ok4 : Bool), But a H2 H4 ∧ Sl a W j4 ok4 H4 ∧ j4 ≤ W.length ∧ ((ok4 = true ∧ (match lThing W n j4 with
            | .ok t k => pThings W (lThing W n) e m k (acc ++ [t])
            | .err k => .err k
            | .stuck => .stuck) = R0) ∨ (ok4 = false ∧ R0 = .err j4)))
        · intro tail
          have hp3 : upd H2 p3 (HO.lst []) p = some (.lst xs2) := by rw [upd_ne (ne_of_none hp2 np3)]; exact hp2
          have b3 : But a H2 (upd H2 p3 (HO.lst [])) := fun b o _ e => by rw [upd_ne (ne_of_none e np3)]; exact e
          have he3 : Sl a W j true (upd H2 p3 (HO.lst [])) := by rw [Sl, upd_ne (ne_of_none he2 np3)]; exact he2
          rw [eq_rr]
          refine ⟨xs2, [], .inl (.of hp3), .inl (.of upd_same), fun z => by rw [List.eq_nil_of_length_eq_zero z]; rfl, _, rfl, ?_⟩
          generalize upd H2 p3 (HO.lst []) = H3 at hp3 b3 he3 ⊢
          by_cases hacc : acc = []
          · have hx : xs2 = [] := List.eq_nil_of_length_eq_zero (by rw [hxl, hvl, hacc]; rfl)
            rw [if_neg (by simp [hacc]), if_pos hacc] at hR
            rw [if_neg (by simp [hx])]
            exact tail H3 ⟨j, true, b3, he3, hj, .inl ⟨rfl, hR⟩⟩
          · have hx : xs2 ≠ [] := fun z => hacc (List.eq_nil_of_length_eq_zero (by rw [← hvl, ← hxl, z]; rfl))
            rw [if_pos (by simp [hx])]
            refine ⟨_, rfl, a, W, j, true, 32, rfl, he3, hW, hj, fun _ h32 H4 hb4 he4 => ?_, fun _ h32 H4 hb4 he4 => ?_, (fun z => nomatch z)⟩
            · rw [if_neg (fun z => z.2 h32), if_neg hacc] at hR
              exact tail H4 ⟨j + 1, true, b3.trans hb4, he4, (List.getElem?_eq_some_iff.mp h32).1, .inl ⟨rfl, hR⟩⟩
            · rw [if_pos ⟨hacc, h32⟩] at hR
              exact tail H4 ⟨j, false, b3.trans hb4, he4, hj, .inr ⟨rfl, hR.symm⟩⟩
        · rintro H4 ⟨j4, ok4, hb4, he4, hj4, hst4⟩
          obtain ⟨m1, m2, m3⟩ := inv_mv he he2 hap hb4 hb hI hrep
          have hp4 : H4 p = some (.lst xs2) := hb4 _ _ (Ne.symm hap) hp2
          refine ⟨_, rfl, _, _, .inl (.inl (.of he4)), rfl, _, rfl, ?_⟩
          cases ok4 with
          | false =>
            rw [if_neg (by simp)]
            refine ⟨_, rfl, _, _, .inl (.inl (.of he4)), rfl, _, rfl, ?_⟩
            rw [if_neg (by simp)]
            have hR4 : R0 = .err j4 := by
              rcases hst4 with ⟨z, _⟩ | ⟨_, h⟩
              · cases z
              · exact h
            exact ⟨j4, false, _, rfl, m1, he4, hj4, .inr ⟨rfl, hR4, _, by simp; omega, m2⟩⟩
          | true =>
            have hR4 : (match lThing W n j4 with
                | .ok t k => pThings W (lThing W n) e m k (acc ++ [t])
                | .err k => .err k
                | .stuck => .stuck) = R0 := by
              rcases hst4 with ⟨_, h⟩ | ⟨z, _⟩
              · exact h
              · cases z
            rw [if_pos rfl]
            refine ⟨_, rfl, ?_⟩
            show rEqQ K false (V.str (S [e])) (V.str (S [125])) _ _
            rw [eq_ss]
            refine ⟨_, rfl, ?_⟩
            rw [if_neg (by simp [hne])]
            refine ⟨_, rfl, _, _, .inl (.inl (.of he4)), rfl, _, rfl, ?_⟩
            rw [if_pos rfl]
            refine ⟨_, rfl, .inl ⟨rfl, _, .inl (.of hp4)⟩, _, rfl, _, rfl, a, W, j4, rfl, he4, hW, hj4, ?_⟩
            cases hl4 : lThing W n j4 with
            | stuck =>
              rw [hl4] at hR4
              rw [← hR4] at q
              exact (show False from q).elim
            | err k =>
              rw [hl4] at hR4
              intro v H5 hk hb5 he5
              refine ⟨by show 2 ≤ sizeLine; decide, fun p5 np5 => ?_⟩
              have hp5 : H5 p = some (.lst xs2) := hb5 _ _ (Ne.symm hap) hp4
              have hpp : p ≠ p5 := ne_of_none hp5 np5
              obtain ⟨g1, g2, _⟩ := inv_mv he he4 hap hb5 m1 m2 m3
              refine ⟨p, xs2, V.ref p5, rfl, rfl, by rw [upd_ne hpp]; exact hp5, by omega, k, false, _, rfl, fun b o hb e => ?_, ?_, hk, .inr ⟨rfl, hR4.symm, _, by simp; omega, Its.put (q := p5) (x := (V.non, v)) (g2.keep fun b o _ e => by rw [upd_ne (ne_of_none e np5)]; exact e) upd_same (by rw [upd_ne hpp]; exact hp5)⟩⟩
              · rw [upd_ne (ne_of_none e np), upd_ne (ne_of_none (g1 b o hb e) np5)]
                exact g1 b o hb e
              · rw [Sl, upd_ne hap, upd_ne (ne_of_none he5 np5)]
                exact he5
            | ok t k =>
              rw [hl4] at hR4
              intro H5 hk hb5 he5 v hv
              refine ⟨by show 2 ≤ sizeLine; decide, fun p5 np5 => ?_⟩
              have hp5 : H5 p = some (.lst xs2) := hb5 _ _ (Ne.symm hap) hp4
              have hpp : p ≠ p5 := ne_of_none hp5 np5
              refine ⟨p, xs2, V.ref p5, rfl, rfl, by rw [upd_ne hpp]; exact hp5, by omega, ?_⟩
              obtain ⟨g1, g2, g3⟩ := inv_put he np he4 hap hb5 m1 m2 m3 hp4 hv np5 (k := V.non) rfl
              have hm0 : 0 < m := by
                rcases Nat.eq_zero_or_pos m with h0 | h0
                · subst h0
                  rw [← hR4] at q
                  exact (show False from q).elim
                · exact h0
              refine ⟨k, true, _, rfl, g1, ?_, hk, .inl ⟨rfl, rfl, acc ++ [t], vs ++ [v], by simp; omega, hm0, hR4, by rw [List.map_append]; exact g2, g3⟩⟩
              rw [Sl, upd_ne hap, upd_ne (ne_of_none he5 np5)]
              exact he5
  · subst h125
    obtain ⟨R0, eR⟩ : ∃ R0, R0 = pPairs W (lThing W n) (W.length + 1) (i + 1) [] [] := ⟨_, rfl⟩
    rw [← eR] at q
    refine ⟨fun m σ H' => ∃ (j : Nat) (ok : Bool) (x3 : Option V), σ = [some (.ref a), some (.str (S [125])), some (.ref p), x3] ∧ But a H H' ∧ Sl a W j ok H' ∧ j ≤ W.length ∧ ((ok = true ∧ ∃ (ks : List (List Nat)) (ts : List K97.T) (vs : List V), x3 = some (aheadL ks.getLast?) ∧ ts.length + m = W.length + 1 ∧ ks.length = ts.length ∧ 0 < m ∧ pPairs W (lThing W n) m j ks ts = R0 ∧ ks.Pairwise (· < ·) ∧ Its H' p (pairL ks vs) ∧ RepL ts vs (hol p (fresh H H'))) ∨ (ok = false ∧ R0 = .err j ∧ ∃ kvs : List (List Nat × V), kvs.length ≤ W.length + 1 ∧ Its H' p (kvs.map fun x => (V.str (S x.1), x.2)))),
      ⟨W.length + 1, i + 1, true, _, rfl, b1, he1, hi, .inl ⟨rfl, [], [], [], rfl, by simp, rfl, Nat.succ_pos _, eR.symm, .nil, hp1, by rw [RepL]⟩⟩, ?_⟩
    rintro m σ H2 ⟨j, ok, x3, rfl, hb, he2, hj, hst⟩
    refine ⟨_, rfl, _, _, .inl (.inl (.of he2)), rfl, _, rfl, ?_⟩
    cases ok with
    | false =>
      rw [if_neg (by simp)]
      obtain ⟨hR, kvs, hil, hI⟩ : R0 = .err j ∧ ∃ kvs : List (List Nat × V), kvs.length ≤ W.length + 1 ∧ Its H2 p (kvs.map fun x => (V.str (S x.1), x.2)) := by
        rcases hst with ⟨z, _⟩ | ⟨_, h⟩
        · cases z
        · exact h
      rw [hR] at q
      exact ⟨_, rfl, _, rfl, a, W, j, false, 125, rfl, he2, hW, hj, (fun z => nomatch z), (fun z => nomatch z), fun _ => ⟨_, rfl, q H2 hj hb he2 p kvs hil hI⟩⟩
    | true =>
      obtain ⟨ks, ts, vs, hx3, hlen, hkt, hm, hR, hpw, hI, hrep⟩ : ∃ (ks : List (List Nat)) (ts : List K97.T) (vs : List V), x3 = some (aheadL ks.getLast?) ∧ ts.length + m = W.length + 1 ∧ ks.length = ts.length ∧ 0 < m ∧ pPairs W (lThing W n) m j ks ts = R0 ∧ ks.Pairwise (· < ·) ∧ Its H2 p (pairL ks vs) ∧ RepL ts vs (hol p (fresh H H2)) := by
        rcases hst with ⟨_, h⟩ | ⟨z, _⟩
        · exact h
        · cases z
      subst hx3
      obtain ⟨m, rfl⟩ : ∃ k, m = k + 1 := ⟨m - 1, by omega⟩
      unfold pPairs at hR
      rw [if_pos rfl]
      refine ⟨_, rfl, a, W, j, true, rfl, he2, hW, hj, _, rfl, ?_⟩
      show rEqQ K true (V.str (S ((W.drop j).take 1))) (V.str (S [125])) _ _
      rw [eq_ss]
      rw [show decide (S ((W.drop j).take 1) = S [125]) = decide (W[j]? = some 125) from by rw [← head_dec, decide_eq_decide, S_eq], Bool.true_xor]
      refine ⟨_, rfl, ?_⟩
      have hvl := hrep.len
      have hkv : ks.length = vs.length := by omega
      by_cases hje : W[j]? = some 125
      · rw [if_neg (by simp [hje])]
        rw [if_pos hje] at hR
        rw [← hR] at q
        refine ⟨_, rfl, _, rfl, a, W, j, true, 125, rfl, he2, hW, hj, fun _ _ H3 hb3 he3 => ⟨_, rfl, ?_⟩, fun _ z => absurd hje z, (fun z => nomatch z)⟩
        obtain ⟨m1, m2, m3⟩ := inv_mv he he2 hap hb3 hb hI hrep
        exact q H3 (List.getElem?_eq_some_iff.mp hje).1 m1 he3 p ks ts vs (by omega) rfl hkv hpw np m2 (RepL.le (fun b u r => rd_fun (fun o z => (hol_of z).2) r) _ _ m3)
      · rw [if_pos (by simp [hje])]
        rw [if_neg hje] at hR
        refine ⟨fun σ H' => ∃ (j : Nat) (ok : Bool) (x3 : Option V), σ = [some (.ref a), some (.str (S [125])), some (.ref p), x3] ∧ But a H H' ∧ Sl a W j ok H' ∧ j ≤ W.length ∧ ((ok = true ∧ ∃ (ks : List (List Nat)) (ts : List K97.T) (vs : List V), x3 = some (aheadL ks.getLast?) ∧ ts.length + m = W.length + 1 ∧ ks.length = ts.length ∧ 0 < m ∧ pPairs W (lThing W n) m j ks ts = R0 ∧ ks.Pairwise (· < ·) ∧ Its H' p (pairL ks vs) ∧ RepL ts vs (hol p (fresh H H'))) ∨ (ok = false ∧ R0 = .err j ∧ ∃ kvs : List (List Nat × V), kvs.length ≤ W.length + 1 ∧ Its H' p (kvs.map fun x => (V.str (S x.1), x.2)))), fun σ' H'' h => ⟨m, Nat.lt_succ_self m, h⟩, ?_⟩
        refine ⟨_, rfl, Nat.zero_le _, fun p3 np3 => ?_⟩
        have hp2 := hI.len
        obtain ⟨xs2, hp2, hxl⟩ := hp2
        have hxl : xs2.length = ks.length := by rw [hxl]; unfold pairL; rw [List.length_zipWith, ← hkv, Nat.min_self]
        apply use_tailH (fun H4 => ∃ (j4 : Nat) (ok4 : Bool), But a H2 H4 ∧ Sl a W j4 ok4 H4 ∧ j4 ≤ W.length ∧ ((ok4 = true ∧ (match pKey W j4 ks.getLast? with
            | .err k => .err k
            | .stuck => .stuck
            | .ok key k => if W[k]? ≠ some 32 then .err k else match lThing W n (k + 1) with
              | .ok t m' => pPairs W (lThing W n) m m' (ks ++ [key]) (ts ++ [t])
              | .err m' => .err m'
              | .stuck => .stuck) = R0) ∨ (ok4 = false ∧ R0 = .err j4)))
        · intro tail
          have hp3 : upd H2 p3 (HO.lst []) p = some (.lst xs2) := by rw [upd_ne (ne_of_none hp2 np3)]; exact hp2
          have b3 : But a H2 (upd H2 p3 (HO.lst [])) := fun b o _ e => by rw [upd_ne (ne_of_none e np3)]; exact e
          have he3 : Sl a W j true (upd H2 p3 (HO.lst [])) := by rw [Sl, upd_ne (ne_of_none he2 np3)]; exact he2
          rw [eq_rr]
          refine ⟨xs2, [], .inl (.of hp3), .inl (.of upd_same), fun z => by rw [List.eq_nil_of_length_eq_zero z]; rfl, _, rfl, ?_⟩
          generalize upd H2 p3 (HO.lst []) = H3 at hp3 b3 he3 ⊢
          by_cases hacc : ks = []
          · have hx : xs2 = [] := List.eq_nil_of_length_eq_zero (by rw [hxl, hacc]; rfl)
            rw [if_neg (by simp [hacc]), if_pos hacc] at hR
            rw [if_neg (by simp [hx])]
            exact tail H3 ⟨j, true, b3, he3, hj, .inl ⟨rfl, hR⟩⟩
          · have hx : xs2 ≠ [] := fun z => hacc (List.eq_nil_of_length_eq_zero (by rw [← hxl, z]; rfl))
            rw [if_pos (by simp [hx])]
            refine ⟨_, rfl, a, W, j, true, 32, rfl, he3, hW, hj, fun _ h32 H4 hb4 he4 => ?_, fun _ h32 H4 hb4 he4 => ?_, (fun z => nomatch z)⟩
            · rw [if_neg (fun z => z.2 h32), if_neg hacc] at hR
              exact tail H4 ⟨j + 1, true, b3.trans hb4, he4, (List.getElem?_eq_some_iff.mp h32).1, .inl ⟨rfl, hR⟩⟩
            · rw [if_pos ⟨hacc, h32⟩] at hR
              exact tail H4 ⟨j, false, b3.trans hb4, he4, hj, .inr ⟨rfl, hR.symm⟩⟩
        · rintro H4 ⟨j4, ok4, hb4, he4, hj4, hst4⟩
          obtain ⟨m1, m2, m3⟩ := inv_mv he he2 hap hb4 hb hI hrep
          have hp4 : H4 p = some (.lst xs2) := hb4 _ _ (Ne.symm hap) hp2
          refine ⟨_, rfl, _, _, .inl (.inl (.of he4)), rfl, _, rfl, ?_⟩
          have bad : ∀ {H5 : Hp} {k : Nat} {x : Option V}, But a H4 H5 → Sl a W k false H5 → k ≤ W.length → R0 = .err k → (fun σ H' => ∃ (j : Nat) (ok : Bool) (x3 : Option V), σ = [some (.ref a), some (.str (S [125])), some (.ref p), x3] ∧ But a H H' ∧ Sl a W j ok H' ∧ j ≤ W.length ∧ ((ok = true ∧ ∃ (ks : List (List Nat)) (ts : List K97.T) (vs : List V), x3 = some (aheadL ks.getLast?) ∧ ts.length + m = W.length + 1 ∧ ks.length = ts.length ∧ 0 < m ∧ pPairs W (lThing W n) m j ks ts = R0 ∧ ks.Pairwise (· < ·) ∧ Its H' p (pairL ks vs) ∧ RepL ts vs (hol p (fresh H H'))) ∨ (ok = false ∧ R0 = .err j ∧ ∃ kvs : List (List Nat × V), kvs.length ≤ W.length + 1 ∧ Its H' p (kvs.map fun x => (V.str (S x.1), x.2))))) [some (.ref a), some (.str (S [125])), some (.ref p), x] H5 := fun {H5 k x} hb5 he5 hk hR5 => by
            obtain ⟨g1, g2, _⟩ := inv_mv he he4 hap hb5 m1 m2 m3
            exact ⟨k, false, _, rfl, g1, he5, hk, .inr ⟨rfl, hR5, ks.zip vs, by simp; omega, by rw [← pairL_zip]; exact g2⟩⟩
          cases ok4 with
          | false =>
            rw [if_neg (by simp)]
            refine ⟨_, rfl, _, _, .inl (.inl (.of he4)), rfl, _, rfl, ?_⟩
            rw [if_neg (by simp)]
            have hR4 : R0 = .err j4 := by
              rcases hst4 with ⟨z, _⟩ | ⟨_, h⟩
              · cases z
              · exact h
            exact bad (fun _ _ _ h => h) he4 hj4 hR4
          | true =>
            have hR4 := or_t hst4
            rw [if_pos rfl]
            refine ⟨_, rfl, ?_⟩
            show rEqQ K false (V.str (S [125])) (V.str (S [125])) _ _
            rw [eq_ss]
            refine ⟨_, rfl, ?_⟩
            rw [if_pos (by simp)]
            refine ⟨_, rfl, _, rfl, a, W, j4, ks.getLast?, rfl, he4, hW, hj4, ?_⟩
            cases hk4 : pKey W j4 ks.getLast? with
            | stuck =>
              rw [hk4] at hR4
              rw [← hR4] at q
              exact (show False from q).elim
            | err k =>
              rw [hk4] at hR4
              intro v H5 hk hb5 he5
              refine ⟨_, rfl, a, W, k, false, 32, rfl, he5, hW, hk, (fun z => nomatch z), (fun z => nomatch z), fun _ => ?_⟩
              refine ⟨_, rfl, _, _, .inl (.inl (.of he5)), rfl, _, rfl, ?_⟩
              rw [if_neg (by simp)]
              exact bad hb5 he5 hk hR4.symm
            | ok key k =>
              rw [hk4] at hR4
              simp only at hR4
              intro H5 hk hb5 he5 hkl
              refine ⟨_, rfl, a, W, k, true, 32, rfl, he5, hW, hk, fun _ h32 H6 hb6 he6 => ?_, fun _ h32 H6 hb6 he6 => ?_, (fun z => nomatch z)⟩
              · rw [if_neg (fun z => z h32)] at hR4
                have hk1 : k + 1 ≤ W.length := (List.getElem?_eq_some_iff.mp h32).1
                obtain ⟨m1, m2, m3⟩ := inv_mv he he4 hap (hb5.trans hb6) m1 m2 m3
                have hp6 : H6 p = some (.lst xs2) := (hb5.trans hb6) _ _ (Ne.symm hap) hp4
                refine ⟨_, rfl, _, _, .inl (.inl (.of he6)), rfl, _, rfl, ?_⟩
                rw [if_pos rfl]
                refine ⟨_, rfl, .inl ⟨rfl, _, .inl (.of hp6)⟩, _, rfl, _, rfl, a, W, k + 1, rfl, he6, hW, hk1, ?_⟩
                cases hl4 : lThing W n (k + 1) with
                | stuck =>
                  rw [hl4] at hR4
                  rw [← hR4] at q
                  exact (show False from q).elim
                | err k' =>
                  rw [hl4] at hR4
                  intro v H7 hk' hb7 he7
                  refine ⟨by show 2 ≤ sizeLine; decide, fun p5 np5 => ?_⟩
                  have hp7 : H7 p = some (.lst xs2) := hb7 _ _ (Ne.symm hap) hp6
                  have hpp : p ≠ p5 := ne_of_none hp7 np5
                  obtain ⟨g1, g2, _⟩ := inv_mv he he6 hap hb7 m1 m2 m3
                  refine ⟨p, xs2, V.ref p5, rfl, rfl, by rw [upd_ne hpp]; exact hp7, by omega, k', false, _, rfl, fun b o hb e => ?_, ?_, hk', .inr ⟨rfl, hR4.symm, ks.zip vs ++ [(key, v)], by simp; omega, ?_⟩⟩
                  · rw [upd_ne (ne_of_none e np), upd_ne (ne_of_none (g1 b o hb e) np5)]
                    exact g1 b o hb e
                  · rw [Sl, upd_ne hap, upd_ne (ne_of_none he7 np5)]
                    exact he7
                  · rw [List.map_append, ← pairL_zip]
                    exact Its.put (q := p5) (x := (V.str (S key), v)) (g2.keep fun b o _ e => by rw [upd_ne (ne_of_none e np5)]; exact e) upd_same (by rw [upd_ne hpp]; exact hp7)
                | ok t k' =>
                  rw [hl4] at hR4
                  intro H7 hk' hb7 he7 v hv
                  refine ⟨by show 2 ≤ sizeLine; decide, fun p5 np5 => ?_⟩
                  have hp7 : H7 p = some (.lst xs2) := hb7 _ _ (Ne.symm hap) hp6
                  have hpp : p ≠ p5 := ne_of_none hp7 np5
                  refine ⟨p, xs2, V.ref p5, rfl, rfl, by rw [upd_ne hpp]; exact hp7, by omega, ?_⟩
                  obtain ⟨g1, g2, g3⟩ := inv_put he np he6 hap hb7 m1 m2 m3 hp6 hv np5 (k := V.str (S key)) rfl
                  have hm0 : 0 < m := by
                    rcases Nat.eq_zero_or_pos m with h0 | h0
                    · subst h0
                      rw [← hR4] at q
                      exact (show False from q).elim
                    · exact h0
                  refine ⟨k', true, _, rfl, g1, ?_, hk', .inl ⟨rfl, ks ++ [key], ts ++ [t], vs ++ [v], by simp [aheadL], by simp; omega, by simp [hkt], hm0, hR4, ?_, by rw [pairL_put hkv]; exact g2, g3⟩⟩
                  · rw [Sl, upd_ne hap, upd_ne (ne_of_none he7 np5)]
                    exact he7
                  · exact List.pairwise_append.mpr ⟨hpw, List.pairwise_singleton .., fun x hx y hy => by
                      rw [List.mem_singleton.mp hy]
                      exact last_all hpw (pKey_late hk4) x hx⟩
              · rw [if_pos h32] at hR4
                refine ⟨_, rfl, _, _, .inl (.inl (.of he6)), rfl, _, rfl, ?_⟩
                rw [if_neg (by simp)]
                exact bad (hb5.trans hb6) he6 hk hR4.symm
theorem spLInner_imp {n : Nat} {vs : List V} {H : Hp} {Q1 Q2 : VK} {E : XK} (h : ∀ v H, Q1 v H → Q2 v H) (z : spLInner n vs H Q1 E) : spLInner n vs H Q2 E := by
  obtain ⟨a, W, i, e, h1, h2, h3, h4, h5⟩ := z
  refine ⟨a, W, i, e, h1, h2, h3, h4, ?_⟩
  rcases h5 with ⟨h5, h6⟩ | ⟨h5, h6⟩
  · refine .inl ⟨h5, ?_⟩
    cases hp : pThings W (lThing W n) e (W.length + 1) (i + 1) [] with
    | stuck => rw [hp] at h6; exact h6
    | err j => rw [hp] at h6; exact fun H' a1 a2 a3 p its a4 a5 => h _ _ (h6 H' a1 a2 a3 p its a4 a5)
    | ok x j => rw [hp] at h6; exact fun H' a1 a2 a3 p vs a4 a5 a6 a7 => h _ _ (h6 H' a1 a2 a3 p vs a4 a5 a6 a7)
  · refine .inr ⟨h5, ?_⟩
    cases hp : pPairs W (lThing W n) (W.length + 1) (i + 1) [] [] with
    | stuck => rw [hp] at h6; exact h6
    | err j => rw [hp] at h6; exact fun H' a1 a2 a3 p its a4 a5 => h _ _ (h6 H' a1 a2 a3 p its a4 a5)
    | ok x j => rw [hp] at h6; exact fun H' a1 a2 a3 p ks ts vs a4 a5 a6 a7 a8 a9 a10 => h _ _ (h6 H' a1 a2 a3 p ks ts vs a4 a5 a6 a7 a8 a9 a10)
end
end K97

set_option Elab.async false
set_option linter.all false
set_option maxRecDepth 100000
set_option maxHeartbeats 4000000
/-! The law's own reader: one thing. -/
namespace K97
open PySem PySem.Spec PyProof.Rows L2 Lk SX
local macro_rules | `(tactic| walk_at "r") => `(tactic| simp only [tSeq, tNext, tRet, tRetN, tIfS, tDrop, tAsg, tAug, tFor, tWhile, tAndV, tOrV, tNotV, tAnd, tOr, tNot, tB, tTest, tIf, tIsN, tNotN, tOp, tVar, tC, tCB, tPar, tCons, tNil, tLc, tYes, tTup, tLst, tCall, tMeth, tFld, tSl, tPart, tNoPart, tM1, tBM, tVeI, tOst, sFld, sFldAug, tMkO, tMake, tTGet, gName, gNil, gCons, gTup, gUnl, gSub, iAny, iRng1, iKeys, iVals,
  List.getElem?_cons_zero, List.getElem?_cons_succ, List.set_cons_zero, List.set_cons_succ, Option.some.injEq, V.str.injEq, V.bl.injEq, V.int.injEq, V.ref.injEq, exists_and_left, exists_eq_left', exists_eq_left, exists_eq, cxK, cxW, HO.ins.injEq, and_assoc, upd_same, true_and, and_true, reduceCtorEq, false_and, and_false, exists_false, or_false, false_or, if_true, if_false, List.cons_append, List.nil_append, add_ii, add_ss, sub_ii, mul_ii, mod_ii, fdiv_ii, pow_ii, lt_ii, le_ii, gt_ii, ge_ii, lt_ss, le_ss, iadd_ii, iadd_ss, in_ss, ix_si, ix_ri, ix_rs, sl_s, sl_r, eq_ss, eq_ii, eq_bb, eq_nn, eq_rr, int1_i, int1_b, int1_s, min2_ii, set_rs, set_ri, Bool.true_xor, Bool.false_xor, Bool.not_eq_true', wipe, List.map_cons, List.map_nil, S_eq, S_cat, S_len, lit1, lit3, lit5, lit6, lit7, lit8, lit9, lit10, lit11, lit12, lit13, lit14, lit15, lit16, lit17, lit18, lit19, lit21, lit23, lit24, lit26, lit27, lit28, lit29, lit30, lit31, lit32, lit33, lit34, lit35, lit36, lit37, lit38, lit39, lit40, lit41, lit42, lit101, lit102, lit103, lit104, lit105, lit106, lit107, lit108, lit109, lit110, lit111, lit112, lit113, lit114, lit115])
section
variable {P : Program} {w : World} {K : PySem.W.Frag} {mg : Str → Option Value} {base : Heap} {f : Addr} {fd : FuncData}
theorem its_paired {H : Hp} {p : Addr} {kvs : List (Key × V)} (h : Its H p (kvs.map fun kv => (kV kv.1, kv.2))) : ∃ ps : List Addr, SqL K H p (ps.map V.ref) ∧ Paired (fun q kv => SqT K H q [kV kv.1, kv.2]) ps kvs := by
  obtain ⟨ps, h1, h2, h3⟩ := h
  refine ⟨ps, .of h1, ?_⟩
  clear h1
  rw [List.length_map] at h2
  induction kvs generalizing ps with
  | nil =>
    rw [List.length_eq_zero_iff.mp h2]
    exact .nil
  | cons kv kvs ih =>
    cases ps with
    | nil => cases h2
    | cons q ps =>
      exact .cons (.of (h3 0 q _ rfl rfl)) (ih ps (by simpa using h2) fun i r x e1 e2 => h3 (i + 1) r x (by simpa using e1) (by simpa using e2))
theorem merge_zip : ∀ (ks2 : List (List Nat)) (vs2 : List V) (ks1 : List (List Nat)) (vs1 : List V), ks1.length = vs1.length → ks2.length = vs2.length → (ks1 ++ ks2).Pairwise (· < ·) → mergeK (zipK ks1 vs1) (zipK ks2 vs2) = zipK (ks1 ++ ks2) (vs1 ++ vs2)
  | [], vs2, ks1, vs1, _, h2, _ => by
    obtain rfl : vs2 = [] := List.length_eq_zero_iff.mp h2.symm
    rw [List.append_nil, List.append_nil]
    rfl
  | k :: ks2, [], _, _, _, h2, _ => by cases h2
  | k :: ks2, v :: vs2, ks1, vs1, h1, h2, hp => by
    have hlt : ∀ x ∈ ks1, x < k := fun x hx => (List.pairwise_append.mp hp).2.2 x hx k (List.mem_cons_self ..)
    show mergeK (putK (zipK ks1 vs1) (Sum.inr (S k)) v) (zipK ks2 vs2) = _
    rw [zipK_put h1 hlt, merge_zip ks2 vs2 (ks1 ++ [k]) (vs1 ++ [v]) (by simp [h1]) (by simpa using h2) (by simpa using hp)]
    simp
theorem pairL_zipK : ∀ (ks : List (List Nat)) (vs : List V), pairL ks vs = (zipK ks vs).map fun kv => (kV kv.1, kv.2)
  | [], _ => by unfold pairL zipK; simp
  | _ :: _, [] => by unfold pairL zipK; simp
  | k :: ks, v :: vs => by
    have := pairL_zipK ks vs
    unfold pairL zipK at this ⊢
    rw [List.zipWith_cons_cons, List.zipWith_cons_cons, List.map_cons, this]
    rfl
def keptV (l : List Nat) : V := if l = wNone then .non else if l = wYes then .bl true else if l = wNo then .bl false else .str (S l)
theorem kept_rep (l : List Nat) (H : Hp) : Rep (keptT l) (keptV l) H := by
  unfold keptT keptV
  by_cases h1 : l = wNone
  · rw [if_pos h1, if_pos h1, Rep]
  rw [if_neg h1, if_neg h1]
  by_cases h2 : l = wYes
  · rw [if_pos h2, if_pos h2, Rep]
  rw [if_neg h2, if_neg h2]
  by_cases h3 : l = wNo
  · rw [if_pos h3, if_pos h3, Rep]
  rw [if_neg h3, if_neg h3, Rep]
theorem kept_dic (l : List Nat) : (valV (mergeK [] [(Sum.inr (S [110, 111, 110, 101]), V.non), (Sum.inr (S [121, 101, 115]), V.bl true), (Sum.inr (S [110, 111]), V.bl false)]) (Sum.inr (S l))).getD (.str (S l)) = keptV l := by
  have e : mergeK [] [((Sum.inr (S [110, 111, 110, 101]) : Key), V.non), (Sum.inr (S [121, 101, 115]), V.bl true), (Sum.inr (S [110, 111]), V.bl false)] = [(Sum.inr (S [110, 111, 110, 101]), V.non), (Sum.inr (S [121, 101, 115]), V.bl true), (Sum.inr (S [110, 111]), V.bl false)] := by
    have := merge_zip [[110, 111], [110, 111, 110, 101], [121, 101, 115]] [V.bl false, V.non, V.bl true] [] [] rfl rfl (by decide)
    rfl
  rw [e]
  unfold keptV
  have inj : ∀ x, (Sum.inr (S x) : Key) = Sum.inr (S l) → x = l := fun x h => S_inj (Sum.inr.inj h)
  by_cases h1 : l = wNone
  · rw [if_pos h1, valV_pos (by rw [h1]; rfl)]; rfl
  rw [if_neg h1, valV_neg (fun z => h1 (inj _ z).symm)]
  by_cases h2 : l = wYes
  · rw [if_pos h2, valV_pos (by rw [h2]; rfl)]; rfl
  rw [if_neg h2, valV_neg (fun z => h2 (inj _ z).symm)]
  by_cases h3 : l = wNo
  · rw [if_pos h3, valV_pos (by rw [h3]; rfl)]; rfl
  rw [if_neg h3, valV_neg (fun z => h3 (inj _ z).symm)]
  rfl
theorem ok_law_one (T : Tx K w mg) (n : Nat) (c_law_sign : Fn P w K mg base 2 "_law_sign" [] spLSign) (c_law_quoted : Fn P w K mg base 4 "_law_quoted" [] spLQuo) (c_law_run : Fn P w K mg base 4 "_law_run" [] spLRun) (c_law_number : Fn P w K mg base 6 "_law_number" [] spLNum) (c_law_inner : Fn P w K mg base (2 * n + 9) "_law_inner" [] (spLInner n))
    (F : FunD K "_law_one" "_law_one" (defArgs s_law_one) (defBody s_law_one) (defScope s_law_one) [] [] f fd) : FnOk P w K mg base (L2.CX P w) (2 * n + 10) f fd ["strip"] (spLOne (n + 1)) := by
  refine F.ok sc_law_one (fun vs H Q E h => by obtain ⟨a, W, i, rfl, _⟩ := h; rfl) (fun cdv A outer s H vs Q E hr h => ?_)
  have nd := (sc_law_one).nd
  refine ⟨_, (pss_cons
  (ps_set (i := 1) nd rfl (by first | exact Or.inl rfl | exact Or.inr rfl) (pe_fn c_law_sign (hr.mono (by omega)) pass_def (pa_cons (pv 0) pa_nil)))
  (pss_cons
  (ps_if (pt_cmpR (k_eq K rfl (Lk.hu0 hr)) (pv 1) pe_str rfl)
   (pss_one
    (ps_ret (pe_fn c_law_quoted (hr.mono (by omega)) pass_def (pa_cons (pv 0) pa_nil))))
   pss_nil)
  (pss_cons
  (ps_if (PW.pt (pw_and (pt_cmpR (k_ne K rfl (Lk.hu0 hr)) (pv 1) pe_str rfl) (pw_and1 (pt_cmpR (k_in K w rfl rfl) (pv 1) pe_str rfl))))
   (pss_cons
    (ps_set (i := 3) nd rfl (by first | exact Or.inl rfl | exact Or.inr rfl) (pe_fn c_law_run (hr.mono (by omega)) pass_def (pa_cons (pv 0) (pa_cons pe_str pa_nil))))
    (pss_one
    (ps_ret (pe_dget2 (Lk.hu1 hr) (pe_disp (pps_cons pe_str pe_non (pps_cons pe_str pe_bl (pps_cons pe_str pe_bl pps_nil))) rfl rfl (by simp) (by decide)) (pv 3) (pv 3) ⟨rfl, rfl, rfl, rfl⟩))))
   pss_nil)
  (pss_cons
  (ps_if (PW.pt (pw_or (pt_cmpR (k_eq K rfl (Lk.hu0 hr)) (pv 1) pe_str rfl) (pw_or1 (pt_cmpR (k_notIn K w rfl rfl) (pv 1) pe_str rfl))))
   (pss_one
    (ps_ret (pe_fn c_law_number (hr.mono (by omega)) pass_def (pa_cons (pv 0) pa_nil))))
   pss_nil)
  (pss_cons
  (ps_set (i := 2) nd rfl (by first | exact Or.inl rfl | exact Or.inr rfl) (pe_fn c_law_inner (hr.mono (by omega)) pass_def (pa_cons (pv 0) (pa_cons (pe_ix (k_ix K w rfl rfl) (pe_disp (pps_cons pe_str pe_str (pps_cons pe_str pe_str (pps_cons pe_str pe_str pps_nil))) rfl rfl (by simp) (by decide)) (pv 1) (fun _ _ => rfl)) pa_nil))))
  (pss_cons
  (ps_if (pt_cmpR (k_eq K rfl (Lk.hu0 hr)) (pv 1) pe_str rfl)
   (pss_one
    (ps_ret (pe_callTy (call_dictA K rfl rfl) (by rfl) T.b_dict Lk.boot_dict (pa_cons (pv 2) pa_nil))))
   pss_nil)
  (pss_one
  (ps_ret (pe_ix (k_ix K w rfl rfl) (pe_lst (pa_cons (pe_lcX (own := [("key", 4), ("part", 5)]) (g := gTup K 2 (gCons (gName 4) (gCons (gName 5) gNil))) (tt := tYes) tk0 rfl rfl rfl nd (blkOk_by (own := [("key", 4), ("part", 5)]) (N := N_law_one) (sc := defScope s_law_one) (by decide +kernel)) (pi_any (pv 2)) (fun _ _ _ _ _ _ => (k_ptup K 2 rfl rfl (pgs_cons (pg_name (i := 4) nd rfl (Or.inl rfl)) (pgs_cons (pg_name (i := 5) nd rfl (Or.inl rfl)) pgs_nil)))) (fun _ _ _ _ _ _ px => pts_nil) (fun _ _ _ _ _ _ px => (pv 5))) (pa_cons (pe_callTy (k_tup K rfl) (by rfl) T.b_tuple Lk.boot_tuple (pa_cons (pe_lcX (own := [("key", 4), ("part", 5)]) (g := gTup K 2 (gCons (gName 4) (gCons (gName 5) gNil))) (tt := tYes) tk0 rfl rfl rfl nd (blkOk_by (own := [("key", 4), ("part", 5)]) (N := N_law_one) (sc := defScope s_law_one) (by decide +kernel)) (pi_any (pv 2)) (fun _ _ _ _ _ _ => (k_ptup K 2 rfl rfl (pgs_cons (pg_name (i := 4) nd rfl (Or.inl rfl)) (pgs_cons (pg_name (i := 5) nd rfl (Or.inl rfl)) pgs_nil)))) (fun _ _ _ _ _ _ px => pts_nil) (fun _ _ _ _ _ _ px => (pv 5))) pa_nil)) pa_nil))) (pe_callTy call_intA (by rfl) T.b_int Lk.boot_int (pa_cons (pe_cmpR (k_eq K rfl (Lk.hu0 hr)) (pv 1) pe_str rfl) pa_nil)) (fun _ _ => rfl)))))))))), ?_⟩
  obtain ⟨a, W, i, rfl, he, hW, hi, q⟩ := h
  rw [show L2.start N_law_one [V.ref a] = [some (.ref a), none, none, none, none, none] from rfl]
  walk_at "r"
  refine ⟨a, W, i, true, rfl, he, hW, hi, ?_⟩
  rw [lThing] at q
  unfold pStep at q
  show rEqQ K false (V.str (S ((W.drop i).take 1))) (V.str (S [39])) _ _
  rw [eq_ss]
  rw [show decide (S ((W.drop i).take 1) = S [39]) = decide (W[i]? = some 39) from by rw [← head_dec, decide_eq_decide, S_eq], Bool.false_xor]
  refine ⟨_, rfl, ?_⟩
  have num : (RL a W H Q (fun t H' => ∀ (v : V), Rep t v (fresh H H') → Q v H') (R.map K97.T.int (pNum W i))) → spLNum [V.ref a] H Q E := fun z => by
    refine ⟨a, W, i, rfl, he, hW, hi, ?_⟩
    cases hp : pNum W i with
    | stuck => rw [hp] at z; exact z
    | err j => rw [hp] at z; exact z
    | ok x j => rw [hp] at z; exact fun H' h1 h2 h3 => z H' h1 h2 h3 _ (by rw [Rep])
  cases hc : W[i]? with
  | none =>
    rw [hc] at q
    have hd := drop_none hc
    rw [if_neg (by simp), hd]
    show rEqQ K true (V.str (S [])) (V.str (S [])) _ _
    rw [eq_ss]
    refine ⟨_, rfl, ?_⟩
    rw [if_neg (by simp)]
    show rEqQ K false (V.str (S [])) (V.str (S [])) _ _
    rw [eq_ss]
    refine ⟨_, rfl, ?_⟩
    rw [if_pos (by simp)]
    refine num ?_
    rw [show pNum W i = .err i from by unfold pNum pNat; simp [hc]]
    exact q
  | some c =>
    have hlt : i < W.length := (List.getElem?_eq_some_iff.mp hc).1
    rw [hc] at q
    simp only at q
    rw [head_some hc]
    by_cases h39 : c = 39
    · subst h39
      rw [if_pos rfl] at q
      rw [if_pos (by simp)]
      refine ⟨a, W, i, rfl, he, hW, hlt, ?_⟩
      cases hp : pQuo W i with
      | stuck => rw [hp] at q; exact q
      | err j => rw [hp] at q; exact q
      | ok x j => rw [hp] at q; exact fun H' h1 h2 h3 _ => q H' h1 h2 h3 _ (by rw [Rep])
    rw [if_neg h39] at q
    rw [if_neg (by simp [h39])]
    show rEqQ K true (V.str (S [c])) (V.str (S [])) _ _
    rw [eq_ss]
    refine ⟨_, rfl, ?_⟩
    rw [if_pos (by simp [S_eq])]
    show rInA K w (V.str (S [c])) (V.str (S _)) _ _ false
    rw [in_S, small_mem]
    refine ⟨_, rfl, ?_⟩
    by_cases hs : small c = true
    · rw [if_pos hs] at q
      rw [if_pos (by simp [hs])]
      refine ⟨a, W, i, true, _, rfl, he, hW, hi, fun H2 hb2 he2 => ?_⟩
      rw [small_mem'] at he2 ⊢
      have hl := tw_len (p := small) (W.drop i)
      rw [List.length_drop] at hl
      intro p np
      refine ⟨upd_same, [(Sum.inr (S [110, 111, 110, 101]), V.non), (Sum.inr (S [121, 101, 115]), V.bl true), (Sum.inr (S [110, 111]), V.bl false)], rfl, by simp, p, rfl, .inl ⟨_, .inl upd_same⟩, _, rfl, _, rfl, _, DGet.k (k := Sum.inr (S ((W.drop i).takeWhile small))) upd_same, ?_⟩
      rw [kept_dic, upd_upd]
      refine q _ (show i + ((W.drop i).takeWhile small).length ≤ _ by omega) (fun b o hb e => by rw [upd_ne (ne_of_none (hb2 b o hb e) np)]; exact hb2 b o hb e) (by rw [Sl, upd_ne (ne_of_none he2 np)]; exact he2) _ (kept_rep _ _)
    rw [if_neg hs] at q
    rw [if_neg (by simp [hs])]
    show rEqQ K false (V.str (S [c])) (V.str (S [])) _ _
    rw [eq_ss]
    refine ⟨_, rfl, ?_⟩
    rw [if_neg (by simp [S_eq])]
    show rInA K w (V.str (S [c])) (V.str (S [40, 91, 123])) _ _ true
    rw [in_S]
    refine ⟨_, rfl, ?_⟩
    have ebr : decide (c ∈ [40, 91, 123]) = decide (c = 40 ∨ c = 91 ∨ c = 123) := by simp
    rw [ebr]
    refine ite_or (fun hbr => ?_) (fun hbr => ?_)
    case refine_2 =>
      have hbr : ¬ (c = 40 ∨ c = 91 ∨ c = 123) := fun z => by
        rw [decide_eq_true z] at hbr
        cases hbr
      rw [if_neg hbr] at q
      exact num q
    have hbr : c = 40 ∨ c = 91 ∨ c = 123 := Decidable.byContradiction fun z => hbr (by rw [decide_eq_false z]; rfl)
    rw [if_pos hbr] at q
    intro p np
    obtain ⟨e, he1⟩ : ∃ e, valV (mergeK [] [(Sum.inr (S [40]), V.str (S [41])), (Sum.inr (S [91]), V.str (S [93])), (Sum.inr (S [123]), V.str (S [125]))]) (Sum.inr (S [c])) = some (V.str (S [e])) ∧ e = (if c = 123 then 125 else if c = 40 then 41 else 93) := by
      rcases hbr with rfl | rfl | rfl
      · exact ⟨41, rfl, rfl⟩
      · exact ⟨93, rfl, rfl⟩
      · exact ⟨125, rfl, rfl⟩
    obtain ⟨he1, he2⟩ := he1
    refine ⟨upd_same, [(Sum.inr (S [40]), V.str (S [41])), (Sum.inr (S [91]), V.str (S [93])), (Sum.inr (S [123]), V.str (S [125]))], rfl, by simp, ?_⟩
    rw [upd_upd]
    have sp := Same.new (o := HO.dK (mergeK [] [(Sum.inr (S [40]), V.str (S [41])), (Sum.inr (S [91]), V.str (S [93])), (Sum.inr (S [123]), V.str (S [125]))])) np
    have hap : a ≠ p := ne_of_none he np
    refine .inr ⟨_, _, .inl upd_same, he1, ?_⟩
    generalize upd H p (HO.dK (mergeK [] [(Sum.inr (S [40]), V.str (S [41])), (Sum.inr (S [91]), V.str (S [93])), (Sum.inr (S [123]), V.str (S [125]))])) = H1 at sp ⊢
    have n1 : ∀ b, H1 b = none → H b = none := fun b z => by
      cases e : H b with
      | none => rfl
      | some o => rw [sp b o e] at z; cases z
    have b1 : But a H H1 := fun b o _ h => sp b o h
    have fr : ∀ {H3 : Hp} {ts : List K97.T} {vs : List V}, RepL ts vs (fresh H1 H3) → RepL ts vs (fresh H H3) := fun {H3 ts vs} z => RepL.le (fun b u r => rd_fun (fun o z => by
      obtain ⟨z1, z2⟩ := fresh_of z
      exact fresh_at (n1 b z1) z2 (fresh_nf z)) r) _ _ z
    refine spLInner_imp (Q1 := fun v H3 => ∃ p3 its, v = .ref p3 ∧ Its H3 p3 its ∧ its.length ≤ W.length + 1 ∧ (c = 123 → ∃ kvs : List (Key × V), its = kvs.map (fun kv => (kV kv.1, kv.2)) ∧ ∀ D H9, Same H3 H9 → H3 D = none → H9 D = some (.dK (mergeK [] kvs)) → Q (.ref D) H9) ∧
      (c ≠ 123 → ∀ D T1 H9, Same H3 H9 → H3 D = none → H3 T1 = none → H9 D = some (.lst (its.map (·.2))) → H9 T1 = some (.tup (its.map (·.2))) → Q (.ref (if c = 40 then T1 else D)) H9)) ?_ ?_
    · rintro v H3 ⟨p3, its, rfl, hI, hil, h123, hne⟩
      show rEqQ K false (V.str (S [c])) (V.str (S [123])) _ _
      rw [eq_ss]
      refine ⟨_, rfl, ?_⟩
      by_cases h : c = 123
      · rw [if_pos (by simp [h])]
        obtain ⟨kvs, rfl, qd⟩ := h123 h
        obtain ⟨ps, h1, h2⟩ := its_paired hI
        exact ⟨ps, kvs, h1, h2, fun D nD => qd D _ (Same.new nD) nD upd_same⟩
      · rw [if_neg (by simp [S_eq, h])]
        have hp := hI
        obtain ⟨ps, hp1, hp2, hp3⟩ := hp
        have e16 := sizeLine_eq
        refine .inl ⟨_, .of hp1, fun D nD => ?_⟩
        have turn : ∀ {H0 H' : Hp} {D : Addr} {i : Nat} {x : V}, Same H3 H0 → H0 D = none → i < (ps.map V.ref).length → Same H0 H' → H' D = some (.lst ((its.take i).map (·.2))) → (ps.map V.ref)[i]? = some x → ∃ a, x = V.ref a ∧ ∃ x, SqT K H' a x ∧ x.length = 2 ∧ ∃ v r, x = v :: r ∧ ∃ v r_1, r = v :: r_1 ∧ r_1 = [] ∧
            ∃ acc, H' D = some (HO.lst acc) ∧ acc.length < sizeLine ∧ (fun H'' => Same H0 H'' ∧ H'' D = some (HO.lst (List.map (fun x => x.snd) (List.take (i + 1) its)))) (upd H' D (HO.lst (acc ++ [v]))) := fun {H0 H' D i x} s0 nD hi sm hD hx => by
          rw [List.length_map] at hi
          obtain ⟨r, hr⟩ : ∃ r, ps[i]? = some r := ⟨ps[i], by simp [hi]⟩
          obtain ⟨y, hy⟩ : ∃ y, its[i]? = some y := ⟨its[i]'(by omega), by simp⟩
          rw [List.getElem?_map, hr] at hx
          cases hx
          refine ⟨r, rfl, _, .of (sm _ _ (s0 _ _ (hp3 i r y hr hy))), rfl, _, _, rfl, _, _, rfl, rfl, acc_put sm nD hD ?_ (take_map hy)⟩
          rw [List.length_map, List.length_take]
          omega
        have hpl : (ps.map V.ref).length = its.length := by rw [List.length_map, hp2]
        refine lc_acc walk_list (xs := fun i => (its.take i).map (·.2)) nD rfl (fun H' s => .inl (.of (s _ _ hp1))) ?_ ?_
        · rintro i x Hi H' hi sm hD ⟨rfl, hx⟩
          exact turn (fun _ _ h => h) nD hi sm hD hx
        · intro H5 s5 hD
          rw [hpl, List.take_length] at hD
          refine .inl ⟨_, .of (s5 _ _ hp1), fun D2 nD2 => ?_⟩
          refine lc_acc walk_list (xs := fun i => (its.take i).map (·.2)) nD2 rfl (fun H' s => .inl (.of (s _ _ (s5 _ _ hp1)))) ?_ ?_
          · rintro i x Hi H' hi sm hD ⟨rfl, hx⟩
            exact turn s5 nD2 hi sm hD hx
          · intro H6 s6 hD2
            rw [hpl, List.take_length] at hD2
            refine ⟨_, .of hD2, fun T1 nT1 => ?_⟩
            have s7 := Same.new (o := HO.tup (its.map (·.2))) nT1
            refine ⟨by show 2 ≤ sizeLine; decide, fun p8 np8 => ?_⟩
            have s8 := Same.new (o := HO.lst [V.ref D, V.ref T1]) np8
            show rEqQ K false (V.str (S [c])) (V.str (S [40])) _ _
            rw [eq_ss]
            show rInt1 [V.bl _] _ _
            rw [int1_b]
            have z := hne h D T1 _ (((s5.trans s6).trans s7).trans s8) nD (by
              cases e : H3 T1 with
              | none => rfl
              | some o => rw [s6 _ _ (s5 _ _ e)] at nT1; cases nT1) (s8 _ _ (s7 _ _ (s6 _ _ hD))) (s8 _ _ upd_same)
            by_cases h40 : c = 40
            · subst h40
              exact ⟨_, _, .inl (.inl (.of upd_same)), rfl, z⟩
            · rw [if_neg h40] at z
              refine ⟨_, _, .inl (.inl (.of upd_same)), ?_, z⟩
              rw [show (false ^^ decide (S [c] = S [40])) = false from by simp [S_eq, h40]]
              rfl
    · have he1' : Sl a W i true H1 := sp _ _ he
      by_cases h : c = 123
      · rw [if_pos h] at q
        rw [if_pos h] at he2
        subst he2
        refine ⟨a, W, i, 125, rfl, he1', hW, hlt, .inr ⟨rfl, ?_⟩⟩
        cases hp : pPairs W (lThing W n) (W.length + 1) (i + 1) [] [] with
        | stuck => rw [hp] at q; exact q
        | err j =>
          rw [hp] at q
          intro H3 hj hb3 he3 p3 kvs hl hI
          refine ⟨p3, _, rfl, hI, by rw [List.length_map]; exact hl, fun _ => ⟨kvs.map fun x => (Sum.inr (S x.1), x.2), by rw [List.map_map]; rfl, fun D H9 s9 _ _ => q _ H9 hj (fun b o hb e => s9 _ _ (hb3 b o hb (sp _ _ e))) (s9 _ _ he3)⟩, fun z => absurd h z⟩
        | ok x j =>
          rw [hp] at q
          intro H3 hj hb3 he3 p3 ks ts vs hl hx hkv hpw n3 hI hrep
          subst hx
          refine ⟨p3, _, rfl, hI, by unfold pairL; rw [List.length_zipWith]; omega, fun _ => ⟨zipK ks vs, pairL_zipK ks vs, fun D H9 s9 nD hD => ?_⟩, fun z => absurd h z⟩
          have hm : mergeK [] (zipK ks vs) = zipK ks vs := merge_zip ks vs [] [] rfl hkv hpw
          rw [hm] at hD
          refine q H9 hj (fun b o hb e => s9 _ _ (hb3 b o hb (sp _ _ e))) (s9 _ _ he3) _ ?_
          have hkt : ks.length = ts.length := by rw [hkv, hrep.len]
          have nDH : H D = none := by
            cases e : H D with
            | none => rfl
            | some o =>
              by_cases hda : D = a
              · rw [hda, show H3 a = some _ from he3] at nD; cases nD
              · rw [hb3 D o hda (sp _ _ e)] at nD; cases nD
          rw [Rep]
          refine ⟨D, zipK ks vs, vs, rfl, .inl (fresh_at nDH hD), by rw [zipK_keys hkv], hkt, zipK_val hpw, ?_⟩
          exact RepL.le (fresh_le fun b o _ e => s9 b o e) _ _ (fr hrep)
      · rw [if_neg h] at q
        rw [if_neg h] at he2
        have q2 : RI a W H (fun ts H' => ∀ v, (if c = 40 then Rep (.tup ts) v (fresh H H') else Rep (.lst ts) v (fresh H H')) → Q v H') (fun H' => ∀ v, Q v H') (pThings W (lThing W n) e (W.length + 1) (i + 1) []) := by
          by_cases h40 : c = 40
          · rw [if_pos h40] at q he2
            subst he2
            cases hp : pThings W (lThing W n) 41 (W.length + 1) (i + 1) [] with
            | stuck => rw [hp] at q; exact q
            | err j => rw [hp] at q; exact fun H' a1 a2 a3 v => q v H' a1 a2 a3
            | ok x j => rw [hp] at q; exact fun H' a1 a2 a3 v hv => q H' a1 a2 a3 v (by rw [if_pos h40] at hv; exact hv)
          · rw [if_neg h40] at q he2
            subst he2
            cases hp : pThings W (lThing W n) 93 (W.length + 1) (i + 1) [] with
            | stuck => rw [hp] at q; exact q
            | err j => rw [hp] at q; exact fun H' a1 a2 a3 v => q v H' a1 a2 a3
            | ok x j => rw [hp] at q; exact fun H' a1 a2 a3 v hv => q H' a1 a2 a3 v (by rw [if_neg h40] at hv; exact hv)
        refine ⟨a, W, i, e, rfl, he1', hW, hlt, .inl ⟨by rw [he2]; split <;> decide, ?_⟩⟩
        cases hp : pThings W (lThing W n) e (W.length + 1) (i + 1) [] with
        | stuck => rw [hp] at q2; exact q2
        | err j =>
          rw [hp] at q2
          intro H3 hj hb3 he3 p3 its hl hI
          exact ⟨p3, its, rfl, hI, hl, fun z => absurd z h, fun _ D T1 H9 s9 _ _ _ _ => q2 H9 hj (fun b o hb e => s9 _ _ (hb3 b o hb (sp _ _ e))) (s9 _ _ he3) _⟩
        | ok ts j =>
          rw [hp] at q2
          intro H3 hj hb3 he3 p3 vs hl n3 hI hrep
          refine ⟨p3, _, rfl, hI, by rw [List.length_map]; exact hl, fun z => absurd z h, fun _ D T1 H9 s9 nD nT hD hT => ?_⟩
          have em : (vs.map fun v => (V.non, v)).map (·.2) = vs := by rw [List.map_map]; exact List.map_id vs
          rw [em] at hD hT
          have nH : ∀ b, H3 b = none → H b = none := fun b z => by
            cases e : H b with
            | none => rfl
            | some o =>
              by_cases hda : b = a
              · rw [hda, show H3 a = some _ from he3] at z; cases z
              · rw [hb3 b o hda (sp _ _ e)] at z; cases z
          refine q2 H9 hj (fun b o hb e => s9 _ _ (hb3 b o hb (sp _ _ e))) (s9 _ _ he3) _ ?_
          have hr9 : RepL ts vs (fresh H H9) := RepL.le (fresh_le fun b o _ e => s9 b o e) _ _ (fr hrep)
          by_cases h40 : c = 40
          · rw [if_pos h40, if_pos h40, Rep]
            exact ⟨T1, vs, rfl, .inl (fresh_at (nH _ nT) hT), hr9⟩
          · rw [if_neg h40, if_neg h40, Rep]
            exact ⟨D, vs, rfl, .inl (fresh_at (nH _ nD) hD), hr9⟩
end
end K97

set_option Elab.async false
set_option linter.all false
set_option maxRecDepth 100000
set_option maxHeartbeats 4000000
/-! A text bent. -/
namespace K97
open PySem PySem.Spec PyProof.Rows L2 Lk SX
local macro_rules | `(tactic| walk_at "r") => `(tactic| simp only [tSeq, tNext, tRet, tRetN, tIfS, tDrop, tAsg, tAug, tFor, tWhile, tAndV, tOrV, tNotV, tAnd, tOr, tNot, tB, tTest, tIf, tIsN, tNotN, tOp, tVar, tC, tCB, tPar, tCons, tNil, tLc, tYes, tTup, tLst, tCall, tMeth, tFld, tSl, tPart, tNoPart, tM1, tBM, tVeI, tOst, sFld, sFldAug, tMkO, tMake, tTGet, gName, gNil, gCons, gTup, gUnl, gSub, iAny, iRng1, iKeys, iVals,
  List.getElem?_cons_zero, List.getElem?_cons_succ, List.set_cons_zero, List.set_cons_succ, Option.some.injEq, V.str.injEq, V.bl.injEq, V.int.injEq, V.ref.injEq, exists_and_left, exists_eq_left', exists_eq_left, exists_eq, cxK, cxW, HO.ins.injEq, and_assoc, upd_same, true_and, and_true, reduceCtorEq, false_and, and_false, exists_false, or_false, false_or, if_true, if_false, List.cons_append, List.nil_append, add_ii, add_ss, sub_ii, mul_ii, mod_ii, fdiv_ii, pow_ii, lt_ii, le_ii, gt_ii, ge_ii, lt_ss, le_ss, iadd_ii, iadd_ss, in_ss, ix_si, ix_ri, ix_rs, sl_s, sl_r, eq_ss, eq_ii, eq_bb, eq_nn, eq_rr, int1_i, int1_b, int1_s, min2_ii, set_rs, set_ri, Bool.true_xor, Bool.false_xor, Bool.not_eq_true', wipe, List.map_cons, List.map_nil, S_eq, S_cat, S_len, lit1, lit3, lit5, lit6, lit7, lit8, lit9, lit10, lit11, lit12, lit13, lit14, lit15, lit16, lit17, lit18, lit19, lit21, lit23, lit24, lit26, lit27, lit28, lit29, lit30, lit31, lit32, lit33, lit34, lit35, lit36, lit37, lit38, lit39, lit40, lit41, lit42, lit101, lit102, lit103, lit104, lit105, lit106, lit107, lit108, lit109, lit110, lit111, lit112, lit113, lit114, lit115])
theorem cut_to {W : List Nat} {j : Nat} : cutS (S W) none (some (j : Int)) = S (W.take j) := by
  unfold cutS
  rw [S_len]
  by_cases h : j ≤ W.length
  · rw [sIx_nat h]
    simp [HT.sIx]
  · have e : HT.sIx W.length W.length (some (j : Int)) = W.length := by
      simp only [HT.sIx]
      rw [if_neg (by omega)]
      omega
    rw [e, List.take_of_length_le (i := j) (by omega)]
    simp [HT.sIx]
theorem cut_from {W : List Nat} {i : Nat} : cutS (S W) (some (i : Int)) none = S (W.drop i) := by
  unfold cutS
  rw [S_len]
  by_cases h : i ≤ W.length
  · rw [sIx_nat h]
    have e : HT.sIx W.length W.length none = W.length := rfl
    rw [e, List.take_of_length_le (by simp)]
  · have e : HT.sIx W.length 0 (some (i : Int)) = W.length := by
      simp only [HT.sIx]
      rw [if_neg (by omega)]
      omega
    rw [e, List.drop_of_length_le (i := i) (by omega)]
    simp
/-- W' is W bent -/
def Bent (W W' : List Nat) : Prop := (∀ u n, Wt u n W → ∃ n', n' ≤ n + 10 ∧ Wt u n' W') ∧ W'.length ≤ W.length + 2
theorem max2_ii {i j : Int} {H : Hp} {Q : VK} : rMax2 [.int i, .int j] H Q = Q (.int (if j > i then j else i)) H := rfl
theorem wt_one {u X : List Nat} (h : X.length ≤ 1) : ∃ k, k ≤ 1 ∧ Wt u k X := by
  match X, h with
  | [], _ => exact ⟨0, by omega, .nil⟩
  | [c], _ => exact ⟨1, by omega, .one .nil⟩
theorem wt_cut2 {u W : List Nat} {n i j : Nat} (h : Wt u n W) (hij : i ≤ j) : ∃ a m b, Wt u a (W.take i) ∧ Wt u m ((W.drop i).take (j - i)) ∧ Wt u b (W.drop j) ∧ a + m + b ≤ n + 8 := by
  obtain ⟨a, d, h1, h2, h3⟩ := h.cut i
  obtain ⟨m, b, h4, h5, h6⟩ := h2.cut (j - i)
  rw [List.drop_drop, show i + (j - i) = j from by omega] at h5
  exact ⟨a, m, b, h1, h4, h5, by omega⟩
theorem bent_ins (W X : List Nat) (i j : Nat) (hX : X.length ≤ 1) (hij : i ≤ j) : Bent W (W.take i ++ X ++ W.drop j) := by
  refine ⟨fun u n h => ?_, by simp only [List.length_append, List.length_take, List.length_drop]; omega⟩
  obtain ⟨a, m, b, h1, _, h3, h4⟩ := wt_cut2 h hij
  obtain ⟨k, hk, h5⟩ := wt_one (u := u) hX
  exact ⟨a + k + b, by omega, (h1.app h5).app h3⟩
theorem bent_quo (W : List Nat) (i j : Nat) (hij : i ≤ j) : Bent W (W.take i ++ [39] ++ (W.drop i).take (j - i) ++ [39] ++ W.drop j) := by
  refine ⟨fun u n h => ?_, by simp only [List.length_append, List.length_take, List.length_drop, List.length_cons, List.length_nil]; omega⟩
  obtain ⟨a, m, b, h1, h2, h3, h4⟩ := wt_cut2 h hij
  exact ⟨a + 1 + m + 1 + b, by omega, (((h1.app (.one .nil)).app h2).app (.one .nil)).app h3⟩
theorem bent_to (W : List Nat) (i : Nat) : Bent W (W.take i) := by
  refine ⟨fun u n h => ?_, by simp only [List.length_take]; omega⟩
  obtain ⟨a, b, h1, _, h3⟩ := h.cut i
  exact ⟨a, by omega, h1⟩
theorem bent_self (W : List Nat) : Bent W W := ⟨fun u n h => ⟨n, by omega, h⟩, by omega⟩
section
variable {P : Program} {w : World} {K : PySem.W.Frag} {mg : Str → Option Value} {base : Heap} {f : Addr} {fd : FuncData}
def spBent : Sp := fun vs H Q E => ∃ (p c : Addr) (m : Nat) (W : List Nat), vs = [.ref p, .str (S W)] ∧ Pu p c m H ∧ m + 4 ≤ 1000000 ∧ W.length ≤ 900000 ∧ ∀ W' H', Bent W W' → Pu p c (m + 4) H' → Off p c H H' → Q (.str (S W')) H'
theorem ok_law_bent (T : Tx K w mg) (c_law_draw : Fn P w K mg base 2 "_law_draw" [] spDraw)
    (F : FunD K "_law_bent" "_law_bent" (defArgs s_law_bent) (defBody s_law_bent) (defScope s_law_bent) [] [] f fd) : FnOk P w K mg base (L2.CX P w) 4 f fd ["purse", "line"] spBent := by
  refine F.ok sc_law_bent (fun vs H Q E h => by obtain ⟨p, c, m, W, rfl, _⟩ := h; rfl) (fun cdv A outer s H vs Q E hr h => ?_)
  have nd := (sc_law_bent).nd
  refine ⟨_, (pss_cons
  (ps_set (i := 2) nd rfl (by first | exact Or.inl rfl | exact Or.inr rfl) (pe_fn c_law_draw (hr.mono (by omega)) pass_def (pa_cons (pv 0) (pa_cons (pe_op op_addA (pe_callB (k_len K rfl) (by rfl) T.b_len Lk.boot_len (pa_cons (pv 1) pa_nil)) pe_int) pa_nil))))
  (pss_cons
  (ps_set (i := 3) nd rfl (by first | exact Or.inl rfl | exact Or.inr rfl) (pe_fn c_law_draw (hr.mono (by omega)) pass_def (pa_cons (pv 0) (pa_cons (pe_op op_addA (pe_callB (k_len K rfl) (by rfl) T.b_len Lk.boot_len (pa_cons (pv 1) pa_nil)) pe_int) pa_nil))))
  (pss_cons
  (ps_set (i := 4) nd rfl (by first | exact Or.inl rfl | exact Or.inr rfl) (pe_fn c_law_draw (hr.mono (by omega)) pass_def (pa_cons (pv 0) (pa_cons pe_int pa_nil))))
  (pss_cons
  (ps_set (i := 5) nd rfl (by first | exact Or.inl rfl | exact Or.inr rfl) (pe_ix (k_ix K w rfl rfl) pe_str (pe_fn c_law_draw (hr.mono (by omega)) pass_def (pa_cons (pv 0) (pa_cons pe_int pa_nil))) (fun _ _ => rfl)))
  (pss_cons
  (ps_par (i := 6) (j := 7) rfl nd rfl rfl (by decide) rfl rfl (pa_cons (pe_callB (call_minA rfl) (by rfl) T.b_min Lk.boot_min (pa_cons (pv 2) (pa_cons (pv 3) pa_nil))) (pa_cons (pe_callB (call_maxB rfl) (by rfl) T.b_max Lk.boot_max (pa_cons (pv 2) (pa_cons (pv 3) pa_nil))) pa_nil)) rfl)
  (pss_cons
  (ps_if (pt_cmpR (k_eq K rfl (Lk.hu0 hr)) (pv 4) pe_int rfl)
   (pss_one
    (ps_ret (pe_op op_addA (pe_op op_addA (pe_slice (k_sl K rfl) (pv 1) po_none (po_some (pv 2))) (pv 5)) (pe_slice (k_sl K rfl) (pv 1) (po_some (pv 2)) po_none))))
   pss_nil)
  (pss_cons
  (ps_if (pt_cmpR (k_eq K rfl (Lk.hu0 hr)) (pv 4) pe_int rfl)
   (pss_one
    (ps_ret (pe_op op_addA (pe_op op_addA (pe_slice (k_sl K rfl) (pv 1) po_none (po_some (pv 2))) (pv 5)) (pe_slice (k_sl K rfl) (pv 1) (po_some (pe_op op_addA (pv 2) pe_int)) po_none))))
   pss_nil)
  (pss_cons
  (ps_if (pt_cmpR (k_eq K rfl (Lk.hu0 hr)) (pv 4) pe_int rfl)
   (pss_one
    (ps_ret (pe_op op_addA (pe_slice (k_sl K rfl) (pv 1) po_none (po_some (pv 2))) (pe_slice (k_sl K rfl) (pv 1) (po_some (pe_op op_addA (pv 2) pe_int)) po_none))))
   pss_nil)
  (pss_cons
  (ps_if (pt_cmpR (k_eq K rfl (Lk.hu0 hr)) (pv 4) pe_int rfl)
   (pss_one
    (ps_ret (pe_op op_addA (pe_op op_addA (pe_slice (k_sl K rfl) (pv 1) po_none (po_some (pv 2))) (pe_slice (k_sl K rfl) (pv 1) (po_some (pv 2)) (po_some (pe_op op_addA (pv 2) pe_int)))) (pe_slice (k_sl K rfl) (pv 1) (po_some (pv 2)) po_none))))
   pss_nil)
  (pss_cons
  (ps_if (pt_cmpR (k_eq K rfl (Lk.hu0 hr)) (pv 4) pe_int rfl)
   (pss_one
    (ps_ret (pe_op op_addA (pe_slice (k_sl K rfl) (pv 1) po_none (po_some (pv 6))) (pe_slice (k_sl K rfl) (pv 1) (po_some (pv 7)) po_none))))
   pss_nil)
  (pss_cons
  (ps_if (pt_cmpR (k_eq K rfl (Lk.hu0 hr)) (pv 4) pe_int rfl)
   (pss_one
    (ps_ret (pe_slice (k_sl K rfl) (pv 1) po_none (po_some (pv 2)))))
   pss_nil)
  (pss_cons
  (ps_if (pt_cmpR (k_eq K rfl (Lk.hu0 hr)) (pv 4) pe_int rfl)
   (pss_one
    (ps_ret (pe_op op_addA (pe_op op_addA (pe_op op_addA (pe_op op_addA (pe_slice (k_sl K rfl) (pv 1) po_none (po_some (pv 6))) pe_str) (pe_slice (k_sl K rfl) (pv 1) (po_some (pv 6)) (po_some (pv 7)))) pe_str) (pe_slice (k_sl K rfl) (pv 1) (po_some (pv 7)) po_none))))
   pss_nil)
  (pss_one
  (ps_ret (pv 1))))))))))))))), ?_⟩
  obtain ⟨p, c, m, W, rfl, hp, hm, hW, q⟩ := h
  rw [show L2.start N_law_bent [V.ref p, V.str (S W)] = [some (.ref p), some (.str (S W)), none, none, none, none, none, none] from rfl]
  walk_at "r"
  have e16 := sizeLine_eq
  have hlen : (S W).length ≤ sizeLine := by rw [S_len]; omega
  refine ⟨W.length, ⟨hlen, by rw [S_len]⟩, ?_⟩
  show rAddA (V.int (W.length : Int)) (V.int 1) _ _
  rw [add_ii]
  refine ⟨p, c, m, _, rfl, hp, by omega, by omega, by omega, fun at_ H1 a0 a1 hp1 o1 => ?_⟩
  refine ⟨W.length, ⟨hlen, by rw [S_len]⟩, ?_⟩
  show rAddA (V.int (W.length : Int)) (V.int 1) _ _
  rw [add_ii]
  refine ⟨p, c, m + 1, _, rfl, hp1, by omega, by omega, by omega, fun ot H2 t0 t1 hp2 o2 => ?_⟩
  refine ⟨p, c, m + 2, _, rfl, hp2, by omega, by decide, by decide, fun way H3 w0 w1 hp3 o3 => ?_⟩
  refine ⟨p, c, m + 3, _, rfl, hp3, by omega, by decide, by decide, fun sg H4 s0 s1 hp4 o4 => ?_⟩
  have oo := ((o1.trans o2).trans o3).trans o4
  obtain ⟨j, rfl⟩ : ∃ k : Nat, at_ = (k : Int) := ⟨at_.toNat, by omega⟩
  obtain ⟨l, rfl⟩ : ∃ k : Nat, ot = (k : Int) := ⟨ot.toNat, by omega⟩
  obtain ⟨s, rfl⟩ : ∃ k : Nat, sg = (k : Int) := ⟨sg.toNat, by omega⟩
  obtain ⟨d, hd⟩ : ∃ d, [97, 122, 110, 48, 53, 57, 45, 39, 94, 32, 40, 41, 91, 93, 123, 125, 126, 88][s]? = some d := by
    have : s < [97, 122, 110, 48, 53, 57, 45, 39, 94, 32, 40, 41, 91, 93, 123, 125, 126, 88].length := by show s < 18; omega
    exact ⟨_, List.getElem?_eq_getElem this⟩
  refine ⟨by rw [S_len]; show 18 ≤ sizeLine; decide, d, atI_nat (xs := [97, 122, 110, 48, 53, 57, 45, 39, 94, 32, 40, 41, 91, 93, 123, 125, 126, 88]) hd, ?_⟩
  have hj : j ≤ W.length := by omega
  have hl : l ≤ W.length := by omega
  have fin : ∀ W', Bent W W' → Q (.str (S W')) H4 := fun W' h => q W' H4 h hp4 oo
  have ad : ∀ {a b : List Nat} {QQ : VK} {HH : Hp}, a.length + b.length ≤ 4000000 → QQ (.str (S (a ++ b))) HH → rAddA (.str (S a)) (.str (S b)) HH QQ := fun {a b QQ HH} h z => ⟨by rw [S_len, S_len]; omega, by rw [S_cat]; exact z⟩
  have len1 : ∀ k, (W.take k).length ≤ 900000 := fun k => by rw [List.length_take]; omega
  have len2 : ∀ k, (W.drop k).length ≤ 900000 := fun k => by rw [List.length_drop]; omega
  have hS : W.length ≤ sizeLine := by omega
  show rMin2 [V.int (j : Int), V.int (l : Int)] _ _
  rw [min2_ii]
  obtain ⟨lo, hi, elo, ehi, hlh, hh⟩ : ∃ lo hi : Nat, (if (l : Int) < (j : Int) then (l : Int) else (j : Int)) = (lo : Int) ∧ (if (l : Int) > (j : Int) then (l : Int) else (j : Int)) = (hi : Int) ∧ lo ≤ hi ∧ hi ≤ W.length := by
    by_cases h : l < j
    · exact ⟨l, j, by rw [if_pos (by omega)], by rw [if_neg (by omega)], by omega, hj⟩
    · by_cases h2 : l > j
      · exact ⟨j, l, by rw [if_neg (by omega)], by rw [if_pos (by omega)], by omega, hl⟩
      · exact ⟨j, j, by rw [if_neg (by omega)], by rw [if_neg (by omega)], by omega, hj⟩
  rw [elo]
  show rMax2 [V.int (j : Int), V.int (l : Int)] _ _
  rw [max2_ii, ehi]
  refine ⟨_, _, rfl, ?_⟩
  have eqi : ∀ {k : Int} {QQ : VK} {HH : Hp}, (∃ b, V.bl (decide (way = k)) = b ∧ QQ b HH) → rEqQ K false (V.int way) (V.int k) HH QQ := fun {k QQ HH} ⟨b, h1, h2⟩ => by
    rw [eq_ii, Bool.false_xor, h1]
    exact h2
  refine eqi ⟨_, rfl, _, rfl, ?_⟩
  refine ite_or (fun _ => ?_) (fun _ => ?_)
  case refine_2 =>
    refine ⟨_, rfl, hS, ?_⟩
    rw [cut_to]
    refine ad (by have := len1 j; simp; omega) ⟨_, rfl, hS, ?_⟩
    rw [cut_from]
    exact ad (by have := len1 j; have := len2 j; simp; omega) (fin _ (bent_ins W [d] j j (by simp) (Nat.le_refl _)))
  refine eqi ⟨_, rfl, _, rfl, ?_⟩
  refine ite_or (fun _ => ?_) (fun _ => ?_)
  case refine_2 =>
    refine ⟨_, rfl, hS, ?_⟩
    rw [cut_to]
    refine ad (by have := len1 j; simp; omega) ?_
    show rAddA (V.int (j : Int)) (V.int 1) _ _
    rw [add_ii]
    refine ⟨_, rfl, hS, ?_⟩
    rw [show ((j : Int) + 1) = ((j + 1 : Nat) : Int) from rfl, cut_from]
    exact ad (by have := len1 j; have := len2 (j + 1); simp; omega) (fin _ (bent_ins W [d] j (j + 1) (by simp) (Nat.le_succ _)))
  refine eqi ⟨_, rfl, _, rfl, ?_⟩
  refine ite_or (fun _ => ?_) (fun _ => ?_)
  case refine_2 =>
    refine ⟨_, rfl, hS, ?_⟩
    rw [cut_to]
    show rAddA (V.int (j : Int)) (V.int 1) _ _
    rw [add_ii]
    refine ⟨_, rfl, hS, ?_⟩
    rw [show ((j : Int) + 1) = ((j + 1 : Nat) : Int) from rfl, cut_from]
    refine ad (by have := len1 j; have := len2 (j + 1); omega) (fin _ ?_)
    have := bent_ins W [] j (j + 1) (by simp) (Nat.le_succ _)
    rw [List.append_nil] at this
    exact this
  refine eqi ⟨_, rfl, _, rfl, ?_⟩
  refine ite_or (fun _ => ?_) (fun _ => ?_)
  case refine_2 =>
    refine ⟨_, rfl, hS, ?_⟩
    rw [cut_to]
    refine ⟨_, rfl, ?_⟩
    show rAddA (V.int (j : Int)) (V.int 1) _ _
    rw [add_ii]
    refine ⟨_, rfl, hS, ?_⟩
    rw [cut_at hj]
    refine ⟨by rw [S_len, S_len]; have := len1 j; simp; omega, _, rfl, hS, ?_⟩
    rw [cut_from, S_cat]
    refine ⟨by rw [S_len, S_len]; have := len1 j; have := len2 j; simp; omega, ?_⟩
    rw [S_cat]
    exact fin _ (bent_ins W ((W.drop j).take 1) j j (by simp; omega) (Nat.le_refl _))
  refine eqi ⟨_, rfl, _, rfl, ?_⟩
  refine ite_or (fun _ => ?_) (fun _ => ?_)
  case refine_2 =>
    refine ⟨_, rfl, hS, ?_⟩
    rw [cut_to]
    refine ⟨_, rfl, hS, ?_⟩
    rw [cut_from]
    refine ad (by have := len1 lo; have := len2 hi; omega) (fin _ ?_)
    have := bent_ins W [] lo hi (by simp) hlh
    rw [List.append_nil] at this
    exact this
  refine eqi ⟨_, rfl, _, rfl, ?_⟩
  refine ite_or (fun _ => ?_) (fun _ => ?_)
  case refine_2 =>
    refine ⟨_, rfl, hS, ?_⟩
    rw [cut_to]
    exact fin _ (bent_to W j)
  refine eqi ⟨_, rfl, _, rfl, ?_⟩
  refine ite_or (fun _ => ?_) (fun _ => ?_)
  case refine_2 =>
    refine ⟨_, rfl, hS, ?_⟩
    rw [cut_to]
    refine ⟨by rw [S_len]; have := len1 lo; simp; omega, _, rfl, _, rfl, hS, ?_⟩
    rw [cut_nat (by omega) hh, S_cat]
    refine ⟨by rw [S_len, S_len]; have := len1 lo; have := len2 lo; simp; omega, ?_⟩
    rw [S_cat]
    refine ⟨by rw [S_len]; have := len1 lo; have := len2 lo; simp; omega, _, rfl, hS, ?_⟩
    rw [cut_from, S_cat]
    refine ⟨by rw [S_len, S_len]; have := len1 lo; have := len2 lo; have := len2 hi; simp; omega, ?_⟩
    rw [S_cat]
    exact fin _ (bent_quo W lo hi hlh)
  exact fin W (bent_self W)
end
end K97

set_option Elab.async false
set_option linter.all false
set_option maxRecDepth 100000
set_option maxHeartbeats 4000000
/-! What reading tells, or how it is refused. -/
namespace K97
open PySem PySem.Spec PyProof.Rows L2 Lk SX
local macro_rules | `(tactic| walk_at "r") => `(tactic| simp only [tSeq, tNext, tRet, tRetN, tIfS, tDrop, tAsg, tAug, tFor, tWhile, tAndV, tOrV, tNotV, tAnd, tOr, tNot, tB, tTest, tIf, tIsN, tNotN, tOp, tVar, tC, tCB, tPar, tCons, tNil, tLc, tYes, tTup, tLst, tCall, tMeth, tFld, tSl, tPart, tNoPart, tM1, tBM, tVeI, tOst, sFld, sFldAug, tMkO, tMake, tTGet, gName, gNil, gCons, gTup, gUnl, gSub, iAny, iRng1, iKeys, iVals,
  List.getElem?_cons_zero, List.getElem?_cons_succ, List.set_cons_zero, List.set_cons_succ, Option.some.injEq, V.str.injEq, V.bl.injEq, V.int.injEq, V.ref.injEq, exists_and_left, exists_eq_left', exists_eq_left, exists_eq, cxK, cxW, HO.ins.injEq, and_assoc, upd_same, true_and, and_true, reduceCtorEq, false_and, and_false, exists_false, or_false, false_or, if_true, if_false, List.cons_append, List.nil_append, add_ii, add_ss, sub_ii, mul_ii, mod_ii, fdiv_ii, pow_ii, lt_ii, le_ii, gt_ii, ge_ii, lt_ss, le_ss, iadd_ii, iadd_ss, in_ss, ix_si, ix_ri, ix_rs, sl_s, sl_r, eq_ss, eq_ii, eq_bb, eq_nn, eq_rr, int1_i, int1_b, int1_s, min2_ii, set_rs, set_ri, Bool.true_xor, Bool.false_xor, Bool.not_eq_true', wipe, List.map_cons, List.map_nil, S_eq, S_cat, S_len, lit1, lit3, lit5, lit6, lit7, lit8, lit9, lit10, lit11, lit12, lit13, lit14, lit15, lit16, lit17, lit18, lit19, lit21, lit23, lit24, lit26, lit27, lit28, lit29, lit30, lit31, lit32, lit33, lit34, lit35, lit36, lit37, lit38, lit39, lit40, lit41, lit42, lit101, lit102, lit103, lit104, lit105, lit106, lit107, lit108, lit109, lit110, lit111, lit112, lit113, lit114, lit115])
section
variable {P : Program} {w : World} {K : PySem.W.Frag} {mg : Str → Option Value} {base : Heap} {f : Addr} {fd : FuncData}
def spTold (K : PySem.W.Frag) : Sp := fun vs H Q E => ∃ (W : List Nat), vs = [.str (S W)] ∧ W.length ≤ 1000000 ∧ match pPaper W 40 with
  | .ok t _ => ∀ p v H', Same H H' → H p = none → H' p = some (.lst [.bl true, v]) → Rep t v H' → Q (.ref p) H'
  | .err j => ∀ p r H', Same H H' → H p = none → H' p = some (.lst [.bl false, .ref r]) → H' r = some (.lst [.int 0, .int (j : Int)]) → Q (.ref p) H'
  | .stuck => False
theorem ok_law_told (T : Tx K w mg) (c_read_paper : Fn P w K mg base 214 "read_paper" [.int 40] (spRead K))
    (F : FunD K "_law_told" "_law_told" (defArgs s_law_told) (defBody s_law_told) (defScope s_law_told) [] [] f fd) : FnOk P w K mg base (L2.CX P w) 216 f fd ["line"] (spTold K) := by
  refine F.ok sc_law_told (fun vs H Q E h => by obtain ⟨W, rfl, _⟩ := h; rfl) (fun cdv A outer s H vs Q E hr h => ?_)
  have nd := (sc_law_told).nd
  refine ⟨_, (pss_cons
  (ps_set (i := 1) nd rfl (by first | exact Or.inl rfl | exact Or.inr rfl) pe_non)
  (pss_cons
  (ps_set (i := 2) nd rfl (by first | exact Or.inl rfl | exact Or.inr rfl) pe_non)
  (pss_cons
  (ps_try_asT (i := 3) rfl rfl rfl nd rfl rfl ⟨rfl, by decide, .inl T.g_LoomError⟩ tk0
    (fun W pn xe tk ow =>
     (pss_one
     (ps_set (i := 2) nd rfl (by first | exact Or.inl rfl | exact Or.inr rfl) (pe_fnS c_read_paper (hr.mono (by omega)) (fun σ => passAt tk σ) (pa_cons (pv 0) pa_nil)))))
    (fun ae pn =>
     (pss_one
     (ps_set (i := 1) nd rfl (by first | exact Or.inl rfl | exact Or.inr rfl) (pv 3)))))
  (pss_cons
  (ps_if (pt_cmp (pc_isN (pv 1)))
   (pss_one
    (ps_ret (pe_lst (pa_cons pe_bl (pa_cons (pv 2) pa_nil)))))
   pss_nil)
  (pss_cons
  (ps_if (PW.pt (pw_or (pt_not (pt_val (pe_callB (k_isA K rfl) (by rfl) T.b_isinstance Lk.boot_isinstance (pa_cons (pv 1) (pa_cons (pe_gref T.g_NoText) pa_nil))))) (pw_or1 (pt_not (pt_val (pe_callB (k_isA K rfl) (by rfl) T.b_isinstance Lk.boot_isinstance (pa_cons (pv 1) (pa_cons (pe_bty T.b_ValueError Lk.boot_ValueError) pa_nil))))))))
   (pss_one
    (ps_ret (pe_lst (pa_cons pe_non (pa_cons pe_non pa_nil)))))
   pss_nil)
  (pss_one
  (ps_ret (pe_lst (pa_cons pe_bl (pa_cons (pe_lst (pa_cons (pe_atr (pv 1)) (pa_cons (pe_atr (pv 1)) pa_nil))) pa_nil)))))))))), ?_⟩
  obtain ⟨W, rfl, hW, q⟩ := h
  rw [show L2.start N_law_told [V.str (S W)] = [some (.str (S W)), none, none, none] from rfl]
  walk_at "r"
  refine ⟨_, rfl, W, 40, rfl, hW, ?_⟩
  rw [show min 40 100 = 40 from rfl]
  cases hp : pPaper W 40 with
  | stuck => rw [hp] at q; exact q
  | err j =>
    rw [hp] at q
    intro d H1 s1 nd1 hd1
    refine ⟨true, T.em_N, fun _ a2 na2 => ?_, fun z => nomatch z⟩
    walk_at "r"
    obtain ⟨H2, eH2⟩ : ∃ H2, H2 = upd H1 a2 (excK a2 (noText K) (some d)) := ⟨_, rfl⟩
    rw [← eH2]
    have hda : d ≠ a2 := fun z => by rw [z, na2] at hd1; cases hd1
    have ha2 : H2 a2 = some (excK a2 (noText K) (some d)) := by rw [eH2, upd_same]
    have hd2 : H2 d = some (.xd [("at", .int (j : Int)), ("row", .int 0)]) := by rw [eH2, upd_ne hda]; exact hd1
    have s2 : Same H H2 := fun b o e => by
      rw [eH2, upd_ne (ne_of_none (s1 _ _ e) na2)]
      exact s1 _ _ e
    have n2 : ∀ b, H2 b = none → H b = none := fun b z => by
      cases e : H b with
      | none => rfl
      | some o => rw [s2 b o e] at z; cases z
    have isI : ∀ {C : Addr} {dd : Option Addr} {a : Addr} {c : V} {u : Value} {b : Bool} {QQ : VK}, H2 a = some (excK a (.ref C) dd) → ExcD H2 dd → ExcC K C → ClsV c u → PySem.W.kitOne K (.ref C) u = some b → QQ (.bl b) H2 → rIsA K [V.ref a, c] H2 QQ :=
      fun {C dd a c u b QQ} h1 h2 h3 h4 h5 h6 => ⟨_, _, u, b, rfl, h4, .inr ⟨a, C, dd, rfl, h1, h2, h3, h5⟩, h6⟩
    rw [if_neg (by simp)]
    refine isI ha2 ⟨_, hd2⟩ T.e_NoText.1 (.own _) T.k_NN ⟨_, rfl, ?_⟩
    rw [if_neg (by simp)]
    refine isI ha2 ⟨_, hd2⟩ T.e_NoText.1 (.ty _) T.k_NV ⟨_, rfl, ?_⟩
    rw [if_neg (by simp)]
    refine ⟨_, rfl, a2, rfl, .inr ⟨_, d, _, V.int 0, ha2, hd2, T.e_NoText.2, T.n_row, rfl, ?_⟩⟩
    refine ⟨_, rfl, a2, rfl, .inr ⟨_, d, _, V.int (j : Int), ha2, hd2, T.e_NoText.2, T.n_at, rfl, ?_⟩⟩
    refine ⟨by show 2 ≤ sizeLine; decide, fun r nr => ⟨by show 2 ≤ sizeLine; decide, fun p np => ?_⟩⟩
    have hrp : r ≠ p := fun z => by rw [← z, upd_same] at np; cases np
    refine q p r _ ((s2.trans (Same.new nr)).trans (Same.new np)) (n2 p (by rw [upd_ne (Ne.symm hrp)] at np; exact np)) upd_same ?_
    rw [upd_ne hrp, upd_same]
  | ok t j =>
    rw [hp] at q
    intro v H1 s1 hv
    rw [if_pos (by simp)]
    refine ⟨by show 2 ≤ sizeLine; decide, fun p np => ?_⟩
    have n1 : H p = none := by
      cases e : H p with
      | none => rfl
      | some o => rw [s1 p o e] at np; cases np
    have r1 : Rep t v H1 := Rep.le (fun b u r => rd_fun (fun o z => (fresh_of z).2) r) _ _ hv
    exact q p v _ (s1.trans (Same.new np)) n1 upd_same (r1.le' (Same.new np))
def spDeepTold (K : PySem.W.Frag) : Sp := fun vs H Q E => ∃ (W : List Nat) (d : Nat), vs = [.str (S W), .int (d : Int)] ∧ W.length ≤ 1000000 ∧ match pPaper W (min d 100) with
  | .ok t _ => Ok t ∧ spelt t = W ∧ dep t ≤ min d 100 ∧ ∀ p H', Same H H' → H p = none → H' p = some (.lst [.bl true]) → Q (.ref p) H'
  | .err j => ∀ p H', Same H H' → H p = none → H' p = some (.lst [.bl false, .int (j : Int)]) → Q (.ref p) H'
  | .stuck => False
theorem ok_law_deep_told (T : Tx K w mg) (kw_read_paper1 : Kw P w K mg base 214 1 "read_paper" ["deep"] (fun a b => a ++ b) (spRead K)) (kw_paper_text1 : Kw P w K mg base 210 1 "paper_text" ["deep"] (fun a b => a ++ b) (spPaper K))
    (F : FunD K "_law_deep_told" "_law_deep_told" (defArgs s_law_deep_told) (defBody s_law_deep_told) (defScope s_law_deep_told) [] [] f fd) : FnOk P w K mg base (L2.CX P w) 216 f fd ["line", "limit"] (spDeepTold K) := by
  refine F.ok sc_law_deep_told (fun vs H Q E h => by obtain ⟨W, d, rfl, _⟩ := h; rfl) (fun cdv A outer s H vs Q E hr h => ?_)
  have nd := (sc_law_deep_told).nd
  refine ⟨_, (pss_cons
  (ps_set (i := 2) nd rfl (by first | exact Or.inl rfl | exact Or.inr rfl) pe_non)
  (pss_cons
  (ps_set (i := 3) nd rfl (by first | exact Or.inl rfl | exact Or.inr rfl) pe_non)
  (pss_cons
  (ps_try_asT (i := 4) rfl rfl rfl nd rfl rfl ⟨rfl, by decide, .inl T.g_LoomError⟩ tk0
    (fun W pn xe tk ow =>
     (pss_one
     (ps_set (i := 3) nd rfl (by first | exact Or.inl rfl | exact Or.inr rfl) (pe_kwS kw_read_paper1 (hr.mono (by omega)) (fun σ => passAt tk σ) (pa_cons (pv 0) pa_nil) (pk_cons (pv 1) pk_nil)))))
    (fun ae pn =>
     (pss_one
     (ps_set (i := 2) nd rfl (by first | exact Or.inl rfl | exact Or.inr rfl) (pv 4)))))
  (pss_cons
  (ps_if (pt_cmp (pc_isN (pv 2)))
   (pss_one
    (ps_ret (pe_lst (pa_cons (pe_cmpR (k_eq K rfl (Lk.hu0 hr)) (pe_kw kw_paper_text1 (hr.mono (by omega)) pass_def (pa_cons (pv 3) pa_nil) (pk_cons (pv 1) pk_nil)) (pv 0) rfl) pa_nil))))
   pss_nil)
  (pss_one
  (ps_ret (pe_lst (pa_cons pe_bl (pa_cons (pe_and (pe_callB (k_isA K rfl) (by rfl) T.b_isinstance Lk.boot_isinstance (pa_cons (pv 2) (pa_cons (pe_gref T.g_NoText) pa_nil))) (pe_and (pe_cmpR (k_eq K rfl (Lk.hu0 hr)) (pe_atr (pv 2)) pe_int rfl) (pe_one (pe_atr (pv 2))))) pa_nil))))))))), ?_⟩
  obtain ⟨W, d, rfl, hW, q⟩ := h
  rw [show L2.start N_law_deep_told [V.str (S W), V.int (d : Int)] = [some (.str (S W)), some (.int (d : Int)), none, none, none] from rfl]
  walk_at "r"
  refine ⟨_, rfl, .int (d : Int), rfl, rfl, rfl, W, d, rfl, hW, ?_⟩
  cases hp : pPaper W (min d 100) with
  | stuck => rw [hp] at q; exact q
  | err j =>
    rw [hp] at q
    intro dd H1 s1 nd1 hd1
    refine ⟨true, T.em_N, fun _ a2 na2 => ?_, fun z => nomatch z⟩
    walk_at "r"
    obtain ⟨H2, eH2⟩ : ∃ H2, H2 = upd H1 a2 (excK a2 (noText K) (some dd)) := ⟨_, rfl⟩
    rw [← eH2]
    have hda : dd ≠ a2 := fun z => by rw [z, na2] at hd1; cases hd1
    have ha2 : H2 a2 = some (excK a2 (noText K) (some dd)) := by rw [eH2, upd_same]
    have hd2 : H2 dd = some (.xd [("at", .int (j : Int)), ("row", .int 0)]) := by rw [eH2, upd_ne hda]; exact hd1
    have s2 : Same H H2 := fun b o e => by
      rw [eH2, upd_ne (ne_of_none (s1 _ _ e) na2)]
      exact s1 _ _ e
    have n2 : ∀ b, H2 b = none → H b = none := fun b z => by
      cases e : H b with
      | none => rfl
      | some o => rw [s2 b o e] at z; cases z
    rw [if_neg (by simp)]
    refine ⟨_, _, _, true, rfl, .own _, .inr ⟨a2, _, _, rfl, ha2, ⟨_, hd2⟩, T.e_NoText.1, T.k_NN⟩, _, rfl, ?_⟩
    rw [if_pos rfl]
    refine ⟨_, rfl, a2, rfl, .inr ⟨_, dd, _, V.int 0, ha2, hd2, T.e_NoText.2, T.n_row, rfl, ?_⟩⟩
    show rEqQ K false (V.int 0) (V.int 0) _ _
    rw [eq_ii]
    refine ⟨_, rfl, ?_⟩
    rw [if_pos (by simp)]
    refine ⟨_, rfl, a2, rfl, .inr ⟨_, dd, _, V.int (j : Int), ha2, hd2, T.e_NoText.2, T.n_at, rfl, ?_⟩⟩
    exact ⟨by show 2 ≤ sizeLine; decide, fun p np => q p _ (s2.trans (Same.new np)) (n2 p np) upd_same⟩
  | ok t j =>
    rw [hp] at q
    intro v H1 s1 hv
    obtain ⟨ho, hsp, hdep, q⟩ := q
    have r1 : Rep t v H1 := Rep.le (fun b u r => rd_fun (fun o z => (fresh_of z).2) r) _ _ hv
    rw [if_pos (by simp)]
    refine ⟨_, rfl, .int (d : Int), rfl, rfl, rfl, t, v, (d : Int), rfl, r1, ho, by rw [hsp]; exact hW, by omega, fun _ H2 s2 => ?_, fun z => absurd z (by omega)⟩
    rw [hsp]
    show rEqQ K false (V.str (S W)) (V.str (S W)) _ _
    rw [eq_ss]
    refine ⟨by show 1 ≤ sizeLine; decide, fun p np => ?_⟩
    have s12 := s1.trans s2
    refine q p _ (s12.trans (Same.new np)) ?_ ?_
    · cases e : H p with
      | none => rfl
      | some o => rw [s12 p o e] at np; cases np
    · rw [upd_same]
      simp
/-- one within another, many times -/
def nestL : Nat → K97.T
  | 0 => .tup []
  | n + 1 => .lst [nestL n]
theorem nestL_ok : ∀ n, Ok (nestL n) ∧ dep (nestL n) = n + 1 ∧ (spelt (nestL n)).length = 2 * (n + 1)
  | 0 => ⟨by rw [nestL, Ok, OkL]; exact ⟨trivial, by simp⟩, rfl, rfl⟩
  | n + 1 => by
    obtain ⟨h1, h2, h3⟩ := nestL_ok n
    refine ⟨by rw [nestL, Ok, OkL, OkL]; exact ⟨⟨h1, trivial⟩, by simp⟩, ?_, ?_⟩
    · rw [nestL, dep, depL, depL, h2]
      omega
    · show (91 :: (spelt (nestL n) ++ [93])).length = _
      rw [List.length_cons, List.length_append, h3]
      simp
      omega
def spDeepRef : Sp := fun vs H Q E => ∃ m d : Nat, vs = [.int (m : Int), .int (d : Int)] ∧ 1 ≤ m ∧ m ≤ 1000 ∧ ∀ H', Same H H' → Q (.bl (decide (min d 100 < m))) H'
theorem ok_law_deep_refused (T : Tx K w mg) (kw_paper_text1 : Kw P w K mg base 210 1 "paper_text" ["deep"] (fun a b => a ++ b) (spPaper K))
    (F : FunD K "_law_deep_refused" "_law_deep_refused" (defArgs s_law_deep_refused) (defBody s_law_deep_refused) (defScope s_law_deep_refused) [] [] f fd) : FnOk P w K mg base (L2.CX P w) 212 f fd ["many", "limit"] spDeepRef := by
  refine F.ok sc_law_deep_refused (fun vs H Q E h => by obtain ⟨W, d, rfl, _⟩ := h; rfl) (fun cdv A outer s H vs Q E hr h => ?_)
  have nd := (sc_law_deep_refused).nd
  refine ⟨_, (pss_cons
  (ps_set (i := 2) nd rfl (by first | exact Or.inl rfl | exact Or.inr rfl) (pe_tup pa_nil))
  (pss_cons
  (ps_for own_def rfl (pi_range1 rfl T.b_range (pa_cons (pe_op op_subA (pv 0) pe_int) pa_nil)) (pg_name (i := 3) nd rfl (by first | exact Or.inl rfl | exact Or.inr rfl))
   (pss_one
    (ps_set (i := 2) nd rfl (by first | exact Or.inl rfl | exact Or.inr rfl) (pe_lst (pa_cons (pv 2) pa_nil)))))
  (pss_cons
  (ps_set (i := 4) nd rfl (by first | exact Or.inl rfl | exact Or.inr rfl) pe_non)
  (pss_cons
  (ps_try_asT (i := 5) rfl rfl rfl nd rfl rfl ⟨rfl, by decide, .inl T.g_LoomError⟩ tk0
    (fun W pn xe tk ow =>
     (pss_one
     (ps_expr (pe_kwS kw_paper_text1 (hr.mono (by omega)) (fun σ => passAt tk σ) (pa_cons (pv 2) pa_nil) (pk_cons (pv 1) pk_nil)))))
    (fun ae pn =>
     (pss_one
     (ps_set (i := 4) nd rfl (by first | exact Or.inl rfl | exact Or.inr rfl) (pv 5)))))
  (pss_one
  (ps_ret (pe_callB (k_isA K rfl) (by rfl) T.b_isinstance Lk.boot_isinstance (pa_cons (pv 4) (pa_cons (pe_gref T.g_TooDeep) pa_nil))))))))), ?_⟩
  obtain ⟨m, d, rfl, hm1, hm2, q⟩ := h
  rw [show L2.start N_law_deep_refused [V.int (m : Int), V.int (d : Int)] = [some (.int (m : Int)), some (.int (d : Int)), none, none, none, none] from rfl]
  walk_at "r"
  refine ⟨Nat.zero_le _, fun p np => ⟨_, rfl, by omega, by omega, ?_⟩⟩
  have s0 := Same.new (o := HO.tup []) np
  rw [show ((m : Int) - 1).toNat = m - 1 from by omega]
  refine for_any walk_range (fun i σ H' => i ≤ m - 1 ∧ Same H H' ∧ ∃ v x3, σ = [some (V.int (m : Int)), some (V.int (d : Int)), some v, x3, none, none] ∧ Rep (nestL i) v H') ⟨Nat.zero_le _, s0, _, none, rfl, by rw [nestL, Rep]; exact ⟨p, [], rfl, .inl upd_same, by rw [RepL]⟩⟩ (fun _ _ _ _ _ => trivial) ?_ ?_
  · rintro i x σ Hi H' hi ⟨_, sm, v, x3, rfl, hr⟩ ⟨rfl, rfl⟩
    refine ⟨_, rfl, by show 1 ≤ sizeLine; decide, fun p1 np1 => ⟨by omega, sm.trans (Same.new np1), _, _, rfl, ?_⟩⟩
    rw [nestL, Rep]
    refine ⟨p1, [v], rfl, .inl upd_same, ?_⟩
    rw [RepL]
    exact ⟨v, [], rfl, hr.le' (Same.new np1), by rw [RepL]⟩
  · rintro σ H1 ⟨_, s1, v, x3, rfl, hr⟩
    obtain ⟨h1, h2, h3⟩ := nestL_ok (m - 1)
    have e1 : m - 1 + 1 = m := by omega
    rw [e1] at h2 h3
    refine ⟨v, rfl, .int (d : Int), rfl, rfl, rfl, nestL (m - 1), v, (d : Int), rfl, hr, h1, by rw [h3]; omega, by omega, fun z H2 s2 => ?_, fun z H2 s2 => ?_⟩
    · refine ⟨_, rfl, _, _, _, false, rfl, .own _, .inl ⟨_, tagV_ty (x := .non) rfl, T.k_nT⟩, ?_⟩
      rw [h2] at z
      have := q H2 (s1.trans s2)
      rw [decide_eq_false (by omega)] at this
      exact this
    · refine ⟨true, T.em_T, fun _ a1 na1 => ?_, fun z => nomatch z⟩
      walk_at "r"
      refine ⟨_, _, _, true, rfl, .own _, .inr ⟨a1, _, _, rfl, upd_same, trivial, T.e_TooDeep.1, T.k_TT⟩, ?_⟩
      rw [h2] at z
      have := q _ ((s1.trans s2).trans (Same.new (o := excK a1 (tooDeep K) none) na1))
      rw [decide_eq_true (by omega)] at this
      exact this
end
end K97

set_option Elab.async false
set_option linter.all false
set_option maxRecDepth 100000
set_option maxHeartbeats 4000000
/-! As deep as deep lets. -/
namespace K97
open PySem PySem.Spec PyProof.Rows L2 Lk SX
local macro_rules | `(tactic| walk_at "r") => `(tactic| simp only [tSeq, tNext, tRet, tRetN, tIfS, tDrop, tAsg, tAug, tFor, tWhile, tAndV, tOrV, tNotV, tAnd, tOr, tNot, tB, tTest, tIf, tIsN, tNotN, tOp, tVar, tC, tCB, tPar, tCons, tNil, tLc, tYes, tTup, tLst, tCall, tMeth, tFld, tSl, tPart, tNoPart, tM1, tBM, tVeI, tOst, sFld, sFldAug, tMkO, tMake, tTGet, gName, gNil, gCons, gTup, gUnl, gSub, iAny, iRng1, iKeys, iVals,
  List.getElem?_cons_zero, List.getElem?_cons_succ, List.set_cons_zero, List.set_cons_succ, Option.some.injEq, V.str.injEq, V.bl.injEq, V.int.injEq, V.ref.injEq, exists_and_left, exists_eq_left', exists_eq_left, exists_eq, cxK, cxW, HO.ins.injEq, and_assoc, upd_same, true_and, and_true, reduceCtorEq, false_and, and_false, exists_false, or_false, false_or, if_true, if_false, List.cons_append, List.nil_append, add_ii, add_ss, sub_ii, mul_ii, mod_ii, fdiv_ii, pow_ii, lt_ii, le_ii, gt_ii, ge_ii, lt_ss, le_ss, iadd_ii, iadd_ss, in_ss, ix_si, ix_ri, ix_rs, sl_s, sl_r, eq_ss, eq_ii, eq_bb, eq_nn, eq_rr, int1_i, int1_b, int1_s, min2_ii, set_rs, set_ri, Bool.true_xor, Bool.false_xor, Bool.not_eq_true', wipe, List.map_cons, List.map_nil, S_eq, S_cat, S_len, lit1, lit3, lit5, lit6, lit7, lit8, lit9, lit10, lit11, lit12, lit13, lit14, lit15, lit16, lit17, lit18, lit19, lit21, lit23, lit24, lit26, lit27, lit28, lit29, lit30, lit31, lit32, lit33, lit34, lit35, lit36, lit37, lit38, lit39, lit40, lit41, lit42, lit101, lit102, lit103, lit104, lit105, lit106, lit107, lit108, lit109, lit110, lit111, lit112, lit113, lit114, lit115])
/-! ### lines of many brackets, as texts of things -/
def nestB (b : Nat) : Nat → K97.T
  | 0 => .int 7
  | n + 1 => if b = 40 then (if n = 0 then .tup [] else .tup [nestB b n]) else if b = 91 then (if n = 0 then .lst [] else .lst [nestB b n]) else .dic [[97]] [nestB b n]
def begB (b : Nat) : List Nat := if b = 123 then [123, 97, 32] else [b]
def endB (b : Nat) : Nat := if b = 40 then 41 else if b = 91 then 93 else 125
def lineB (b m : Nat) : List Nat := (List.replicate m (begB b)).flatten ++ ((if b = 123 then [55] else []) ++ (List.replicate m [endB b]).flatten)
theorem flat_succ (x : List Nat) (m : Nat) : (List.replicate (m + 1) x).flatten = (List.replicate m x).flatten ++ x := by
  rw [List.replicate_succ', List.flatten_append]
  simp
theorem nestB_ok {b : Nat} (hb : b = 40 ∨ b = 91 ∨ b = 123) : ∀ m : Nat, (1 ≤ m ∨ b = 123) → Ok (nestB b m) ∧ dep (nestB b m) = m ∧ spelt (nestB b m) = lineB b m ∧ ∀ d, d < m → deepAt d (nestB b m) = some (d * (begB b).length)
  | 0, h => by
    have h : b = 123 := by omega
    subst h
    refine ⟨by rw [nestB, Ok]; decide +kernel, rfl, ?_, fun d hd => absurd hd (Nat.not_lt_zero _)⟩
    rw [nestB, spelt]
    show intT 7 = _
    decide +kernel
  | m + 1, _ => by
    have sp : ∀ (L R : Nat), (List.replicate (m + 1) (begB b)).flatten ++ ((if b = 123 then [55] else []) ++ (List.replicate (m + 1) [endB b]).flatten) = begB b ++ lineB b m ++ [endB b] := fun _ _ => by
      unfold lineB
      rw [List.replicate_succ, List.flatten_cons, flat_succ [endB b]]
      simp
    by_cases hm : 1 ≤ m ∨ b = 123
    · obtain ⟨h1, h2, h3, h4⟩ := nestB_ok hb m hm
      have z0 : b ≠ 123 → m ≠ 0 := fun h z => by omega
      rcases hb with rfl | rfl | rfl
      · have e : nestB 40 (m + 1) = .tup [nestB 40 m] := by rw [nestB, if_pos rfl, if_neg (z0 (by decide))]
        rw [e]
        refine ⟨by rw [Ok, OkL, OkL]; exact ⟨⟨h1, trivial⟩, by simp⟩, ?_, ?_, fun d hd => ?_⟩
        · rw [dep, depL, depL, h2]; omega
        · show 40 :: (spelt (nestB 40 m) ++ [41]) = _
          rw [h3]
          unfold lineB
          rw [flat_succ [endB 40], List.replicate_succ, List.flatten_cons]
          simp [begB, endB]
        · cases d with
          | zero => rfl
          | succ d =>
            rw [deepAt]
            rw [deepL, h4 d (by omega)]
            show some (d * 1 + 1) = some ((d + 1) * 1)
            congr 1
      · have e : nestB 91 (m + 1) = .lst [nestB 91 m] := by rw [nestB, if_neg (by decide), if_pos rfl, if_neg (z0 (by decide))]
        rw [e]
        refine ⟨by rw [Ok, OkL, OkL]; exact ⟨⟨h1, trivial⟩, by simp⟩, ?_, ?_, fun d hd => ?_⟩
        · rw [dep, depL, depL, h2]; omega
        · show 91 :: (spelt (nestB 91 m) ++ [93]) = _
          rw [h3]
          unfold lineB
          rw [flat_succ [endB 91], List.replicate_succ, List.flatten_cons]
          simp [begB, endB]
        · cases d with
          | zero => rfl
          | succ d =>
            rw [deepAt]
            rw [deepL, h4 d (by omega)]
            show some (d * 1 + 1) = some ((d + 1) * 1)
            congr 1
      · have e : nestB 123 (m + 1) = .dic [[97]] [nestB 123 m] := by rw [nestB, if_neg (by decide), if_neg (by decide)]
        rw [e]
        refine ⟨by rw [Ok, OkL, OkL]; exact ⟨⟨h1, trivial⟩, by simp, rfl, List.pairwise_singleton ..⟩, ?_, ?_, fun d hd => ?_⟩
        · rw [dep, depL, depL, h2]; omega
        · show 123 :: ((wordT [97] ++ 32 :: spelt (nestB 123 m)) ++ [125]) = _
          rw [h3, show wordT [97] = [97] from rfl]
          unfold lineB
          rw [flat_succ [endB 123], List.replicate_succ, List.flatten_cons]
          simp [begB, endB]
        · cases d with
          | zero => rfl
          | succ d =>
            rw [deepAt]
            rw [deepD, h4 d (by omega)]
            show some ([97].length + 1 + d * 3 + 1) = some ((d + 1) * 3)
            congr 1
            show 1 + 1 + d * 3 + 1 = _
            omega
    · obtain rfl : m = 0 := by omega
      have hb2 : b = 40 ∨ b = 91 := by omega
      rcases hb2 with rfl | rfl
      · refine ⟨by rw [nestB, if_pos rfl, if_pos rfl, Ok, OkL]; exact ⟨trivial, by simp⟩, rfl, rfl, fun d hd => ?_⟩
        obtain rfl : d = 0 := by omega
        rfl
      · refine ⟨by rw [nestB, if_neg (by decide), if_pos rfl, if_pos rfl, Ok, OkL]; exact ⟨trivial, by simp⟩, rfl, rfl, fun d hd => ?_⟩
        obtain rfl : d = 0 := by omega
        rfl
/-- what is read of such a line -/
theorem line_rd {b m d : Nat} (hb : b = 40 ∨ b = 91 ∨ b = 123) (hm : 1 ≤ m) : pPaper (lineB b m) d = if m ≤ d then .ok (nestB b m) (lineB b m).length else .err (d * (begB b).length) := by
  obtain ⟨h1, h2, h3, h4⟩ := nestB_ok hb m (.inl hm)
  rw [← h3, paper_at h1, resAt]
  by_cases h : m ≤ d
  · rw [if_pos h, deep_none _ d h1 (by omega), Nat.zero_add]
  · rw [if_neg h, h4 d (by omega)]
    show R.err (0 + _) = _
    rw [Nat.zero_add]
theorem line_len (b m : Nat) (hb : b = 40 ∨ b = 91 ∨ b = 123) : (lineB b m).length ≤ 4 * m + 1 := by
  have fl : ∀ (x : List Nat) (m : Nat), ((List.replicate m x).flatten).length = m * x.length := fun x m => by
    induction m with
    | zero => simp
    | succ m ih => rw [List.replicate_succ, List.flatten_cons, List.length_append, ih, Nat.succ_mul]; omega
  unfold lineB
  rw [List.length_append, List.length_append, fl, fl]
  rcases hb with rfl | rfl | rfl <;> simp [begB, endB] <;> omega
section
variable {P : Program} {w : World} {K : PySem.W.Frag} {mg : Str → Option Value} {base : Heap} {f : Addr} {fd : FuncData}
def spDeepRight : Sp := fun vs H Q E => vs = [] ∧ ∀ H', Same H H' → Q (.bl true) H'
/-- the three kinds of brackets -/
theorem loop_br (D : Ends) (H : Hp) (l m x2 x3 x4 : Option V) (tb : TS) (hb : ∀ (b : Nat) (D' : Ends) (y4 : Option V) (H' : Hp), (b = 40 ∨ b = 91 ∨ b = 123) → Same H H' → (∀ z4 H'', Same H' H'' → D'.nx [l, m, some (.str (S (begB b))), some (.str (S [endB b])), z4] H'') → tb D' [l, m, some (.str (S (begB b))), some (.str (S [endB b])), y4] H')
    (hd : ∀ y2 y3 y4 H', Same H H' → D.nx [l, m, y2, y3, y4] H') :
    tFor (iAny K (tLst (tCons (tTup (tCons (tC (V.str (Str.ofString "("))) (tCons (tC (V.str (Str.ofString ")"))) tNil))) (tCons (tTup (tCons (tC (V.str (Str.ofString "["))) (tCons (tC (V.str (Str.ofString "]"))) tNil))) (tCons (tTup (tCons (tC (V.str (Str.ofString "{a "))) (tCons (tC (V.str (Str.ofString "}"))) tNil))) tNil)))))
      (gTup K 2 (gCons (gName 2) (gCons (gName 3) gNil))) tb D [l, m, x2, x3, x4] H := by
  walk_at "r"
  refine ⟨by show 2 ≤ sizeLine; decide, fun p1 n1 => ⟨by show 2 ≤ sizeLine; decide, fun p2 n2 => ⟨by show 2 ≤ sizeLine; decide, fun p3 n3 => ⟨by show 3 ≤ sizeLine; decide, fun p4 n4 => ?_⟩⟩⟩⟩
  have s1 := Same.new (o := HO.tup [V.str (S [40]), V.str (S [41])]) n1
  have s2 := Same.new (o := HO.tup [V.str (S [91]), V.str (S [93])]) n2
  have s3 := Same.new (o := HO.tup [V.str (S [123, 97, 32]), V.str (S [125])]) n3
  have s4 := Same.new (o := HO.lst [V.ref p1, V.ref p2, V.ref p3]) n4
  have t1 := s4 _ _ (s3 _ _ (s2 _ _ (upd_same (H := H) (a := p1) (o := HO.tup [V.str (S [40]), V.str (S [41])]))))
  have t2 := s4 _ _ (s3 _ _ (upd_same (H := upd H p1 (HO.tup [V.str (S [40]), V.str (S [41])])) (a := p2) (o := HO.tup [V.str (S [91]), V.str (S [93])])))
  have t3 := s4 _ _ (upd_same (H := upd (upd H p1 (HO.tup [V.str (S [40]), V.str (S [41])])) p2 (HO.tup [V.str (S [91]), V.str (S [93])])) (a := p3) (o := HO.tup [V.str (S [123, 97, 32]), V.str (S [125])]))
  have t4 : upd (upd (upd (upd H p1 (HO.tup [V.str (S [40]), V.str (S [41])])) p2 (HO.tup [V.str (S [91]), V.str (S [93])])) p3 (HO.tup [V.str (S [123, 97, 32]), V.str (S [125])])) p4 (HO.lst [V.ref p1, V.ref p2, V.ref p3]) p4 = some (HO.lst [V.ref p1, V.ref p2, V.ref p3]) := upd_same
  have s14 := ((s1.trans s2).trans s3).trans s4
  generalize upd (upd (upd (upd H p1 (HO.tup [V.str (S [40]), V.str (S [41])])) p2 (HO.tup [V.str (S [91]), V.str (S [93])])) p3 (HO.tup [V.str (S [123, 97, 32]), V.str (S [125])])) p4 (HO.lst [V.ref p1, V.ref p2, V.ref p3]) = H4 at t1 t2 t3 t4 s14 ⊢
  refine .inl ⟨_, .of t4, ?_⟩
  refine for_any (walk_list (K := K) (a := p4) (xs := [V.ref p1, V.ref p2, V.ref p3])) (fun i σ H' => Same H4 H' ∧ ∃ y2 y3 y4, σ = [l, m, y2, y3, y4]) ⟨Same.rfl', x2, x3, x4, rfl⟩ (fun i σ H' _ h => .inl (.of (h.1 _ _ t4))) ?_ ?_
  · rintro i x σ Hi H' hi ⟨sm, y2, y3, y4, rfl⟩ ⟨rfl, hx⟩
    obtain ⟨r, b, rfl, hb3, hr⟩ : ∃ (r : Addr) (b : Nat), x = .ref r ∧ (b = 40 ∨ b = 91 ∨ b = 123) ∧ H' r = some (.tup [V.str (S (begB b)), V.str (S [endB b])]) := by
      have hi : i < 3 := hi
      rcases (show i = 0 ∨ i = 1 ∨ i = 2 by omega) with rfl | rfl | rfl
      · cases hx; exact ⟨p1, 40, rfl, .inl rfl, sm _ _ t1⟩
      · cases hx; exact ⟨p2, 91, rfl, .inr (.inl rfl), sm _ _ t2⟩
      · cases hx; exact ⟨p3, 123, rfl, .inr (.inr rfl), sm _ _ t3⟩
    refine ⟨r, rfl, _, .of hr, rfl, _, _, rfl, _, _, rfl, rfl, ?_⟩
    exact hb b _ y4 _ hb3 (s14.trans sm) fun z4 H'' s'' => ⟨sm.trans s'', _, _, _, rfl⟩
  · rintro σ H' ⟨sm, y2, y3, y4, rfl⟩
    exact hd y2 y3 y4 H' (s14.trans sm)
/-- one of four numbers -/
theorem loop_int (D : Ends) (H : Hp) (k : Nat) (σ : L2.St) (a1 a2 a3 a4 : Int) (tb : TS) (ta : TE) (hk : ∀ σ H Q, Q (.int a4) H → ta σ H Q) (Inv : L2.St → Prop) (hi : Inv σ)
    (hb : ∀ (i : Int) (D' : Ends) (σ : L2.St) (H' : Hp), (i = a1 ∨ i = a2 ∨ i = a3 ∨ i = a4) → Inv σ → Same H H' → (∀ σ' H'', Inv σ' → Same H' H'' → D'.nx σ' H'') → tb D' (σ.set k (some (.int i))) H')
    (hd : ∀ σ H', Inv σ → Same H H' → D.nx σ H') :
    tFor (iAny K (tLst (tCons (tC (V.int a1)) (tCons (tC (V.int a2)) (tCons (tC (V.int a3)) (tCons ta tNil)))))) (gName k) tb D σ H := by
  walk_at "r"
  refine hk _ _ _ ⟨by show 4 ≤ sizeLine; decide, fun p np => .inl ⟨_, .of upd_same, ?_⟩⟩
  have s0 := Same.new (o := HO.lst [V.int a1, V.int a2, V.int a3, V.int a4]) np
  refine for_any (walk_list (K := K) (a := p) (xs := [V.int a1, V.int a2, V.int a3, V.int a4])) (fun i σ H' => Same (upd H p (HO.lst [V.int a1, V.int a2, V.int a3, V.int a4])) H' ∧ Inv σ) ⟨Same.rfl', hi⟩ (fun i σ H' _ h => .inl (.of (h.1 _ _ upd_same))) ?_ ?_
  · rintro i x σ Hi H' hi ⟨sm, hI⟩ ⟨rfl, hx⟩
    obtain ⟨z, rfl, hz⟩ : ∃ z, x = .int z ∧ (z = a1 ∨ z = a2 ∨ z = a3 ∨ z = a4) := by
      have hi : i < 4 := hi
      rcases (show i = 0 ∨ i = 1 ∨ i = 2 ∨ i = 3 by omega) with rfl | rfl | rfl | rfl
      · cases hx; exact ⟨a1, rfl, .inl rfl⟩
      · cases hx; exact ⟨a2, rfl, .inr (.inl rfl)⟩
      · cases hx; exact ⟨a3, rfl, .inr (.inr (.inl rfl))⟩
      · cases hx; exact ⟨a4, rfl, .inr (.inr (.inr rfl))⟩
    exact hb z _ σ _ hz hI (s0.trans sm) fun σ' H'' h s'' => ⟨sm.trans s'', h⟩
  · rintro σ H' ⟨sm, hI⟩
    exact hd σ H' hI (s0.trans sm)
end
end K97

set_option Elab.async false
set_option linter.all false
set_option maxRecDepth 100000
set_option maxHeartbeats 4000000
/-! As deep as deep lets. -/
namespace K97
open PySem PySem.Spec PyProof.Rows L2 Lk SX
local macro_rules | `(tactic| walk_at "r") => `(tactic| simp only [tSeq, tNext, tRet, tRetN, tIfS, tDrop, tAsg, tAug, tFor, tWhile, tAndV, tOrV, tNotV, tAnd, tOr, tNot, tB, tTest, tIf, tIsN, tNotN, tOp, tVar, tC, tCB, tPar, tCons, tNil, tLc, tYes, tTup, tLst, tCall, tMeth, tFld, tSl, tPart, tNoPart, tM1, tBM, tVeI, tOst, sFld, sFldAug, tMkO, tMake, tTGet, gName, gNil, gCons, gTup, gUnl, gSub, iAny, iRng1, iKeys, iVals,
  List.getElem?_cons_zero, List.getElem?_cons_succ, List.set_cons_zero, List.set_cons_succ, Option.some.injEq, V.str.injEq, V.bl.injEq, V.int.injEq, V.ref.injEq, exists_and_left, exists_eq_left', exists_eq_left, exists_eq, cxK, cxW, HO.ins.injEq, and_assoc, upd_same, true_and, and_true, reduceCtorEq, false_and, and_false, exists_false, or_false, false_or, if_true, if_false, List.cons_append, List.nil_append, add_ii, add_ss, sub_ii, mul_ii, mod_ii, fdiv_ii, pow_ii, lt_ii, le_ii, gt_ii, ge_ii, lt_ss, le_ss, iadd_ii, iadd_ss, in_ss, ix_si, ix_ri, ix_rs, sl_s, sl_r, eq_ss, eq_ii, eq_bb, eq_nn, eq_rr, int1_i, int1_b, int1_s, min2_ii, set_rs, set_ri, Bool.true_xor, Bool.false_xor, Bool.not_eq_true', wipe, List.map_cons, List.map_nil, S_eq, S_cat, S_len, lit1, lit3, lit5, lit6, lit7, lit8, lit9, lit10, lit11, lit12, lit13, lit14, lit15, lit16, lit17, lit18, lit19, lit21, lit23, lit24, lit26, lit27, lit28, lit29, lit30, lit31, lit32, lit33, lit34, lit35, lit36, lit37, lit38, lit39, lit40, lit41, lit42, lit101, lit102, lit103, lit104, lit105, lit106, lit107, lit108, lit109, lit110, lit111, lit112, lit113, lit114, lit115])
section
variable {P : Program} {w : World} {K : PySem.W.Frag} {mg : Str → Option Value} {base : Heap} {f : Addr} {fd : FuncData}
/-- one line -/
theorem turn_br (E : XK) (D : Ends) (H : Hp) (b m d : Nat) (x4 : Option V) (hb : b = 40 ∨ b = 91 ∨ b = 123) (hm : 1 ≤ m) (hm2 : m ≤ 2000) (hd : 100 ≤ d) (q : ∀ z4 H'', Same H H'' → D.nx [some (.int (d : Int)), some (.int (m : Int)), some (.str (S (begB b))), some (.str (S [endB b])), z4] H'') :
    tSeq (tAsg (tOp rAddA (tOp rAddA (tOp rMulS (tVar 2) (tVar 1)) (tOp rMulS (tC (V.str (Str.ofString "7"))) (tCB rInt1 (tCons (tOp (rEqQ K false) (tVar 2) (tC (V.str (Str.ofString "{a ")))) tNil)))) (tOp rMulS (tVar 3) (tVar 1))) (gName 4))
      (tIfS (tTest (tOp (rEqQ K true) (tCall (spDeepTold K) [] E (tCons (tVar 4) (tCons (tVar 0) tNil)))
        (tOp (rIxA K w) (tLst (tCons (tLst (tCons (tC (V.bl true)) tNil)) (tCons (tLst (tCons (tC (V.bl false)) (tCons (tOp rMulS (tC (V.int 100)) (tCB (rLen1 K) (tCons (tVar 2) tNil))) tNil))) tNil))) (tCB rInt1 (tCons (tOp rGtA (tVar 1) (tC (V.int 100))) tNil)))))
        (tRet (tC (V.bl false))) tNext) D [some (.int (d : Int)), some (.int (m : Int)), some (.str (S (begB b))), some (.str (S [endB b])), x4] H := by
  walk_at "r"
  have e16 := sizeLine_eq
  have fl : ∀ (x : List Nat) (m : Nat), ((List.replicate m x).flatten).length = m * x.length := fun x m => by
    induction m with
    | zero => simp
    | succ m ih => rw [List.replicate_succ, List.flatten_cons, List.length_append, ih, Nat.succ_mul]; omega
  have mulS : ∀ (x : List Nat) (n : Nat) (QQ : VK) (HH : Hp), x.length ≤ 3 → n ≤ 2000 → QQ (.str (S (List.replicate n x).flatten)) HH → rMulS (.str (S x)) (.int (n : Int)) HH QQ := fun x n QQ HH hx hn z => by
    refine ⟨by omega, by omega, ?_, by rw [mul_S]; exact z⟩
    rw [S_len, Int.toNat_natCast, e16]
    have := Nat.mul_le_mul hx hn
    omega
  have hbl : (begB b).length ≤ 3 := by rcases hb with rfl | rfl | rfl <;> decide
  refine mulS _ _ _ _ hbl hm2 ?_
  obtain ⟨k, hk, hk2, hk3⟩ : ∃ k : Nat, (if decide (begB b = [123, 97, 32]) = true then (1 : Int) else 0) = (k : Int) ∧ k ≤ 1 ∧ (List.replicate k [55]).flatten = (if b = 123 then [55] else []) := by
    rcases hb with rfl | rfl | rfl
    · exact ⟨0, rfl, by omega, rfl⟩
    · exact ⟨0, rfl, by omega, rfl⟩
    · exact ⟨1, rfl, by omega, rfl⟩
  rw [hk]
  refine mulS _ _ _ _ (by simp) (by omega) ?_
  rw [hk3]
  have l1 := fl (begB b) m
  have l1' := Nat.mul_le_mul hm2 hbl
  have l2 : (if b = 123 then [55] else [] : List Nat).length ≤ 1 := by split <;> simp
  refine ⟨by rw [S_len, S_len]; omega, ?_⟩
  rw [S_cat]
  refine mulS _ _ _ _ (by simp) hm2 ?_
  have l3 := fl [endB b] m
  have l3' : m * [endB b].length = m := by simp
  refine ⟨by rw [S_len, S_len, List.length_append]; omega, ?_⟩
  rw [S_cat, List.append_assoc]
  have ll := line_len b m hb
  show spDeepTold K [V.str (S (lineB b m)), V.int (d : Int)] H _ E
  refine ⟨lineB b m, d, rfl, by omega, ?_⟩
  rw [show min d 100 = 100 from by omega, line_rd hb hm]
  obtain ⟨h1, h2, h3, _⟩ := nestB_ok hb m (.inl hm)
  have len1 : rLen1 K [V.str (S (begB b))] = fun HH QQ => (begB b).length ≤ sizeLine ∧ QQ (.int ((begB b).length : Nat)) HH := by
    funext HH QQ
    refine propext ⟨?_, fun z => ⟨(begB b).length, ⟨by rw [S_len]; exact z.1, by rw [S_len]⟩, z.2⟩⟩
    rintro ⟨n, ⟨a1, a2⟩, z⟩
    rw [S_len] at a1 a2
    subst a2
    exact ⟨a1, z⟩
  have fin : ∀ (H1 : Hp) (p : Addr) (xs : List V), Same H H1 → H1 p = some (.lst xs) → (xs = if m ≤ 100 then [V.bl true] else [V.bl false, V.int (100 * ((begB b).length : Int))]) → ∀ tail : (V → Hp → Prop), (∀ H2, Same H H2 → tail (.bl false) H2) →
      (1 ≤ sizeLine ∧ ∀ p1, H1 p1 = none → rLen1 K [V.str (S (begB b))] (upd H1 p1 (.lst [.bl true])) (fun v H2 => rMulS (.int 100) v H2 (fun v H3 => 2 ≤ sizeLine ∧ ∀ p2, H3 p2 = none → 2 ≤ sizeLine ∧ ∀ p3, upd H3 p2 (.lst [.bl false, v]) p3 = none → ∃ xs, (SqL K (upd (upd H3 p2 (.lst [.bl false, v])) p3 (.lst [.ref p1, .ref p2])) p3 xs ∨ SqT K (upd (upd H3 p2 (.lst [.bl false, v])) p3 (.lst [.ref p1, .ref p2])) p3 xs) ∧ ∃ v2, atI xs (if decide ((100 : Int) < (m : Int)) = true then 1 else 0) = some v2 ∧ rEqQ K true (.ref p) v2 (upd (upd H3 p2 (.lst [.bl false, v])) p3 (.lst [.ref p1, .ref p2])) tail)))  := fun H1 p xs s1 hp hx tail htail => by
    refine ⟨by show 1 ≤ sizeLine; decide, fun p1 n1 => ?_⟩
    rw [len1]
    refine ⟨by omega, ?_⟩
    refine ⟨mulA (by decide) (by omega), by show 2 ≤ sizeLine; decide, fun p2 n2 => ⟨by show 2 ≤ sizeLine; decide, fun p3 n3 => ?_⟩⟩
    have np1 := ne_of_none hp n1
    have z1 := Same.new (o := HO.lst [V.bl true]) n1
    have z2 := Same.new (o := HO.lst [V.bl false, V.int (100 * ((begB b).length : Int))]) n2
    have z3 := Same.new (o := HO.lst [V.ref p1, V.ref p2]) n3
    have y1 := z3 _ _ (z2 _ _ (upd_same (H := H1) (a := p1) (o := HO.lst [V.bl true])))
    have y2 := z3 _ _ (upd_same (H := upd H1 p1 (HO.lst [V.bl true])) (a := p2) (o := HO.lst [V.bl false, V.int (100 * ((begB b).length : Int))]))
    have y0 := (z1.trans (z2.trans z3)) _ _ hp
    have s4 := s1.trans (z1.trans (z2.trans z3))
    have y3 : upd (upd (upd H1 p1 (HO.lst [V.bl true])) p2 (HO.lst [V.bl false, V.int (100 * ((begB b).length : Int))])) p3 (HO.lst [V.ref p1, V.ref p2]) p3 = _ := upd_same
    generalize upd (upd (upd H1 p1 (HO.lst [V.bl true])) p2 (HO.lst [V.bl false, V.int (100 * ((begB b).length : Int))])) p3 (HO.lst [V.ref p1, V.ref p2]) = H4 at y0 y1 y2 y3 s4 ⊢
    by_cases h100 : m ≤ 100
    · rw [if_pos h100] at hx
      refine ⟨_, .inl (.of y3), V.ref p1, by rw [if_neg (by simp; omega)]; rfl, ?_⟩
      rw [eq_rr]
      refine ⟨_, _, .inl (.of y0), .inl (.of y1), fun _ => by rw [hx]; rfl, ?_⟩
      rw [hx]
      exact htail _ s4
    · rw [if_neg h100] at hx
      refine ⟨_, .inl (.of y3), V.ref p2, by rw [if_pos (by simp; omega)]; rfl, ?_⟩
      rw [eq_rr]
      refine ⟨_, _, .inl (.of y0), .inl (.of y2), fun _ => by rw [hx]; rfl, ?_⟩
      rw [hx, decide_eq_true rfl]
      exact htail _ s4
  by_cases h100 : m ≤ 100
  · rw [if_pos (show m ≤ 100 from h100)]
    refine ⟨h1, h3, by omega, fun p H1 s1 np hp => ?_⟩
    refine fin H1 p _ s1 hp (by rw [if_pos h100]) _ fun H2 s2 => ⟨false, rfl, ?_⟩
    rw [if_neg (by simp)]
    exact q _ H2 s2
  · rw [if_neg (show ¬ m ≤ 100 from h100)]
    intro p H1 s1 np hp
    refine fin H1 p _ s1 hp (by rw [if_neg h100]; push_cast; rfl) _ fun H2 s2 => ⟨false, rfl, ?_⟩
    rw [if_neg (by simp)]
    exact q _ H2 s2
/-- what is refused to be written -/
theorem turn_ref (E : XK) (D : Ends) (H : Hp) (d : Nat) (hd : 100 ≤ d) (x1 x2 x3 x4 : Option V) (q : ∀ z1 H'', Same H H'' → D.nx [some (.int (d : Int)), z1, x2, x3, x4] H'') :
    tIfS (tTest (tOp (rEqQ K true) (tLc (iAny K (tLst (tCons (tC (V.int 100)) (tCons (tC (V.int 101)) (tCons (tC (V.int 120)) tNil))))) (gName 1) tYes (tCall spDeepRef [] E (tCons (tVar 1) (tCons (tVar 0) tNil)))
                (List.map (fun x => x.snd) [(Str.ofString "many", 1)]))
              (tLst (tCons (tC (V.bl false)) (tCons (tC (V.bl true)) (tCons (tC (V.bl true)) tNil))))))
          (tRet (tC (V.bl false))) tNext D [some (.int (d : Int)), x1, x2, x3, x4] H := by
  walk_at "r"
  refine ⟨by show 3 ≤ sizeLine; decide, fun p np => .inl ⟨_, .of upd_same, fun D1 nD => ?_⟩⟩
  have s0 := Same.new (o := HO.lst [V.int 100, V.int 101, V.int 120]) np
  have hp : upd H p (HO.lst [V.int 100, V.int 101, V.int 120]) p = some (HO.lst [V.int 100, V.int 101, V.int 120]) := upd_same
  generalize upd H p (HO.lst [V.int 100, V.int 101, V.int 120]) = H1 at s0 hp nD ⊢
  refine lc_acc (walk_list (K := K) (a := p) (xs := [V.int 100, V.int 101, V.int 120])) (xs := fun i => [V.bl false, V.bl true, V.bl true].take i) nD rfl (fun H' s => .inl (.of (s _ _ hp))) ?_ ?_
  · rintro i x Hi H' hi sm hD ⟨rfl, hx⟩
    obtain ⟨m, rfl, hm1, hm2, hm⟩ : ∃ m : Nat, x = .int (m : Int) ∧ 1 ≤ m ∧ m ≤ 1000 ∧ [V.bl false, V.bl true, V.bl true].take (i + 1) = [V.bl false, V.bl true, V.bl true].take i ++ [V.bl (decide (100 < m))] := by
      have hi : i < 3 := hi
      rcases (show i = 0 ∨ i = 1 ∨ i = 2 by omega) with rfl | rfl | rfl
      · cases hx; exact ⟨100, rfl, by decide, by decide, rfl⟩
      · cases hx; exact ⟨101, rfl, by decide, by decide, rfl⟩
      · cases hx; exact ⟨120, rfl, by decide, by decide, rfl⟩
    refine ⟨m, d, rfl, hm1, hm2, fun H2 s2 => ?_⟩
    rw [show min d 100 = 100 from by omega]
    refine acc_put (sm.trans s2) nD (s2 _ _ hD) ?_ hm
    rw [List.length_take]
    show min i 3 < sizeLine
    rw [sizeLine_eq]
    omega
  · intro H5 s5 hD
    refine ⟨by show 3 ≤ sizeLine; decide, fun p1 n1 => ?_⟩
    have s6 := Same.new (o := HO.lst [V.bl false, V.bl true, V.bl true]) n1
    refine ⟨_, .inl (.of (s6 _ _ hD)), _, .inl (.of upd_same), fun _ => rfl, ?_⟩
    rw [if_neg (by simp)]
    exact q _ _ ((s0.trans s5).trans s6)
theorem pp7 : pPaper [40, 40, 40, 40, 40, 40, 40] 6 = .err 6 := rfl
theorem pp1 : pPaper [40] 0 = .err 0 := rfl
theorem ok_law_deep_right (T : Tx K w mg) (c_law_deep_told : Fn P w K mg base 216 "_law_deep_told" [] (spDeepTold K)) (c_law_deep_refused : Fn P w K mg base 212 "_law_deep_refused" [] spDeepRef)
    (F : FunD K "_law_deep_right" "_law_deep_right" (defArgs s_law_deep_right) (defBody s_law_deep_right) (defScope s_law_deep_right) [] [] f fd) : FnOk P w K mg base (L2.CX P w) 218 f fd [] spDeepRight := by
  refine F.ok sc_law_deep_right (fun vs H Q E h => by obtain ⟨rfl, _⟩ := h; rfl) (fun cdv A outer s H vs Q E hr h => ?_)
  have nd := (sc_law_deep_right).nd
  refine ⟨_, (pss_cons
  (ps_for own_def rfl (pi_any (pe_lst (pa_cons pe_int (pa_cons pe_int (pa_cons pe_int (pa_cons (pe_op op_powA pe_int pe_int) pa_nil)))))) (pg_name (i := 0) nd rfl (by first | exact Or.inl rfl | exact Or.inr rfl))
   (pss_cons
    (ps_for own_def rfl (pi_any (pe_lst (pa_cons pe_int (pa_cons pe_int (pa_cons pe_int (pa_cons pe_int pa_nil)))))) (pg_name (i := 1) nd rfl (by first | exact Or.inl rfl | exact Or.inr rfl))
     (pss_one
      (ps_for own_def rfl (pi_any (pe_lst (pa_cons (pe_tup (pa_cons pe_str (pa_cons pe_str pa_nil))) (pa_cons (pe_tup (pa_cons pe_str (pa_cons pe_str pa_nil))) (pa_cons (pe_tup (pa_cons pe_str (pa_cons pe_str pa_nil))) pa_nil))))) (k_ptup K 2 rfl rfl (pgs_cons (pg_name (i := 2) nd rfl (by first | exact Or.inl rfl | exact Or.inr rfl)) (pgs_cons (pg_name (i := 3) nd rfl (by first | exact Or.inl rfl | exact Or.inr rfl)) pgs_nil)))
       (pss_cons
        (ps_set (i := 4) nd rfl (by first | exact Or.inl rfl | exact Or.inr rfl) (pe_op op_addA (pe_op op_addA (pe_op op_mulS (pv 2) (pv 1)) (pe_op op_mulS pe_str (pe_callTy call_intA (by rfl) T.b_int Lk.boot_int (pa_cons (pe_cmpR (k_eq K rfl (Lk.hu0 hr)) (pv 2) pe_str rfl) pa_nil)))) (pe_op op_mulS (pv 3) (pv 1))))
        (pss_one
        (ps_if (pt_cmpR (k_ne K rfl (Lk.hu0 hr)) (pe_fn c_law_deep_told (hr.mono (by omega)) pass_def (pa_cons (pv 4) (pa_cons (pv 0) pa_nil))) (pe_ix (k_ix K w rfl rfl) (pe_lst (pa_cons (pe_lst (pa_cons pe_bl pa_nil)) (pa_cons (pe_lst (pa_cons pe_bl (pa_cons (pe_op op_mulS pe_int (pe_callB (k_len K rfl) (by rfl) T.b_len Lk.boot_len (pa_cons (pv 2) pa_nil))) pa_nil))) pa_nil))) (pe_callTy call_intA (by rfl) T.b_int Lk.boot_int (pa_cons (pe_cmpR (op_gtA) (pv 1) pe_int rfl) pa_nil)) (fun _ _ => rfl)) rfl)
         (pss_one
          (ps_ret pe_bl))
         pss_nil))))))
    (pss_one
    (ps_if (pt_cmpR (k_ne K rfl (Lk.hu0 hr)) (pe_lcX (own := [("many", 1)]) (g := gName 1) (tt := tYes) tk0 rfl rfl rfl nd (blkOk_by (own := [("many", 1)]) (N := N_law_deep_right) (sc := defScope s_law_deep_right) (by decide +kernel)) (pi_any (pe_lst (pa_cons pe_int (pa_cons pe_int (pa_cons pe_int pa_nil))))) (fun _ _ _ _ _ _ => (pg_name (i := 1) nd rfl (Or.inl rfl))) (fun _ _ _ _ _ _ px => pts_nil) (fun _ _ _ _ _ _ px => (pe_fn c_law_deep_refused (hr.mono (by omega)) px (pa_cons (pv 1) (pa_cons (pv 0) pa_nil))))) (pe_lst (pa_cons pe_bl (pa_cons pe_bl (pa_cons pe_bl pa_nil)))) rfl)
     (pss_one
      (ps_ret pe_bl))
     pss_nil))))
  (pss_one
  (ps_ret (pe_and (pe_cmpR (k_eq K rfl (Lk.hu0 hr)) (pe_fn c_law_deep_told (hr.mono (by omega)) pass_def (pa_cons (pe_op op_mulS pe_str pe_int) (pa_cons pe_int pa_nil))) (pe_lst (pa_cons pe_bl (pa_cons pe_int pa_nil))) rfl) (pe_one (pe_cmpR (k_eq K rfl (Lk.hu0 hr)) (pe_fn c_law_deep_told (hr.mono (by omega)) pass_def (pa_cons pe_str (pa_cons pe_int pa_nil))) (pe_lst (pa_cons pe_bl (pa_cons pe_int pa_nil))) rfl)))))), ?_⟩
  obtain ⟨rfl, q⟩ := h
  rw [show L2.start N_law_deep_right [] = [none, none, none, none, none] from rfl]
  have e16 := sizeLine_eq
  refine loop_int (K := K) _ H 0 _ 100 101 5000 (10 ^ 29) _ _ (fun σ H Q z => ⟨by unfold CPowA; decide +kernel, z⟩) (fun σ => ∃ y0 y1 y2 y3 y4, σ = [y0, y1, y2, y3, y4]) ⟨_, _, _, _, _, rfl⟩ ?_ ?_
  · rintro i D' σ H1 hi ⟨y0, y1, y2, y3, y4, rfl⟩ s1 qn
    obtain ⟨d, rfl, hd⟩ : ∃ d : Nat, i = (d : Int) ∧ 100 ≤ d := ⟨i.toNat, by rcases hi with rfl | rfl | rfl | rfl <;> decide, by rcases hi with rfl | rfl | rfl | rfl <;> decide⟩
    refine loop_int (K := K) _ H1 1 _ 99 100 101 1200 _ _ (fun σ H Q z => z) (fun σ => ∃ y1 y2 y3 y4, σ = [some (.int (d : Int)), y1, y2, y3, y4]) ⟨_, _, _, _, rfl⟩ ?_ ?_
    · rintro i D2 σ H2 hi ⟨y1, y2, y3, y4, rfl⟩ s2 qn2
      obtain ⟨m, rfl, hm1, hm2⟩ : ∃ m : Nat, i = (m : Int) ∧ 1 ≤ m ∧ m ≤ 2000 := ⟨i.toNat, by rcases hi with rfl | rfl | rfl | rfl <;> decide, by rcases hi with rfl | rfl | rfl | rfl <;> decide, by rcases hi with rfl | rfl | rfl | rfl <;> decide⟩
      refine loop_br (K := K) D2 H2 _ _ y2 y3 y4 _ (fun b D3 y4 H3 hb s3 qn3 => ?_) (fun y2 y3 y4 H' s => qn2 _ _ ⟨_, _, _, _, rfl⟩ s)
      exact turn_br _ D3 H3 b m d y4 hb hm1 hm2 hd qn3
    · rintro σ H2 ⟨y1, y2, y3, y4, rfl⟩ s2
      exact turn_ref _ _ H2 d hd y1 y2 y3 y4 fun z1 H'' s3 => qn _ _ ⟨_, _, _, _, _, rfl⟩ (s2.trans s3)
  · rintro σ H1 ⟨y0, y1, y2, y3, y4, rfl⟩ s1
    dsimp only
    walk_at "r"
    refine ⟨by omega, by omega, ?_, ?_⟩
    · rw [S_len, e16]
      decide
    rw [show (7 : Int) = ((7 : Nat) : Int) from rfl, mul_S]
    have tol : ∀ (W : List Nat) (d j : Nat) (H1 : Hp) (tail : V → Hp → Prop), W.length ≤ 100 → pPaper W (min d 100) = .err j → (∀ H2, Same H1 H2 → tail (.bl true) H2) → spDeepTold K [.str (S W), .int (d : Int)] H1 (fun x H1 =>
        [V.bl false, V.int (j : Int)].length ≤ sizeLine ∧ ∀ (p : Addr), H1 p = none → rEqQ K false x (V.ref p) (upd H1 p (HO.lst [V.bl false, V.int (j : Int)])) tail) E := fun W d j H1 tail hW hp ht => by
      refine ⟨W, d, rfl, by omega, ?_⟩
      rw [hp]
      intro p H2 s2 np hp2
      refine ⟨by show 2 ≤ sizeLine; decide, fun p1 n1 => ?_⟩
      have s6 := Same.new (o := HO.lst [V.bl false, V.int (j : Int)]) n1
      rw [eq_rr]
      refine ⟨_, _, .inl (.of (s6 _ _ hp2)), .inl (.of upd_same), fun _ => rfl, ?_⟩
      rw [decide_eq_true rfl]
      exact ht _ (s2.trans s6)
    refine tol [40, 40, 40, 40, 40, 40, 40] 6 6 H1 _ (by decide) pp7 fun H2 s2 => ⟨true, rfl, ?_⟩
    rw [if_pos rfl]
    exact tol [40] 0 0 H2 _ (by decide) pp1 fun H3 s3 => q _ ((s1.trans s2).trans s3)
end
end K97

set_option Elab.async false
set_option linter.all false
set_option maxRecDepth 100000
set_option maxHeartbeats 4000000
/-! The law itself. -/
namespace K97
open PySem PySem.Spec PyProof.Rows L2 Lk SX
local macro_rules | `(tactic| walk_at "r") => `(tactic| simp only [tSeq, tNext, tRet, tRetN, tIfS, tDrop, tAsg, tAug, tFor, tWhile, tAndV, tOrV, tNotV, tAnd, tOr, tNot, tB, tTest, tIf, tIsN, tNotN, tOp, tVar, tC, tCB, tPar, tCons, tNil, tLc, tYes, tTup, tLst, tCall, tMeth, tFld, tSl, tPart, tNoPart, tM1, tBM, tVeI, tOst, sFld, sFldAug, tMkO, tMake, tTGet, gName, gNil, gCons, gTup, gUnl, gSub, iAny, iRng1, iKeys, iVals,
  List.getElem?_cons_zero, List.getElem?_cons_succ, List.set_cons_zero, List.set_cons_succ, Option.some.injEq, V.str.injEq, V.bl.injEq, V.int.injEq, V.ref.injEq, exists_and_left, exists_eq_left', exists_eq_left, exists_eq, cxK, cxW, HO.ins.injEq, and_assoc, upd_same, true_and, and_true, reduceCtorEq, false_and, and_false, exists_false, or_false, false_or, if_true, if_false, List.cons_append, List.nil_append, add_ii, add_ss, sub_ii, mul_ii, mod_ii, fdiv_ii, pow_ii, lt_ii, le_ii, gt_ii, ge_ii, lt_ss, le_ss, iadd_ii, iadd_ss, in_ss, ix_si, ix_ri, ix_rs, sl_s, sl_r, eq_ss, eq_ii, eq_bb, eq_nn, eq_rr, int1_i, int1_b, int1_s, min2_ii, set_rs, set_ri, Bool.true_xor, Bool.false_xor, Bool.not_eq_true', wipe, List.map_cons, List.map_nil, S_eq, S_cat, S_len, lit1, lit3, lit5, lit6, lit7, lit8, lit9, lit10, lit11, lit12, lit13, lit14, lit15, lit16, lit17, lit18, lit19, lit21, lit23, lit24, lit26, lit27, lit28, lit29, lit30, lit31, lit32, lit33, lit34, lit35, lit36, lit37, lit38, lit39, lit40, lit41, lit42, lit101, lit102, lit103, lit104, lit105, lit106, lit107, lit108, lit109, lit110, lit111, lit112, lit113, lit114, lit115])
section
variable {P : Program} {w : World} {K : PySem.W.Frag} {mg : Str → Option Value} {base : Heap} {f : Addr} {fd : FuncData}
def spLaw (K : PySem.W.Frag) : Sp := fun vs H Q E => ∃ (a : Addr) (xs : List Int), vs = [.ref a] ∧ SqL K H a (xs.map V.int) ∧ xs.length ≤ 63 ∧ ∀ H', Q (.bl true) H'
/-- what is known of a line: short, and never led too deep -/
def LineOk (W : List Nat) : Prop := W.length ≤ 900000 ∧ Deep W 38
theorem line_due {W : List Nat} (h : LineOk W) : (∃ t j, lThing W 40 0 = .ok t j ∧ j ≤ W.length ∧ Ok t ∧ dep t ≤ 38 ∧ (j = W.length → spelt t = W ∧ pPaper W 40 = .ok t j) ∧ (j < W.length → pPaper W 40 = .err j)) ∨ ∃ j, lThing W 40 0 = .err j ∧ pPaper W 40 = .err j := by
  have hp := thing_rd h.2 40 0 0 (Nat.zero_le _) rfl (by decide)
  have hl := thing_lee W 40 40 0 (Nat.le_refl _)
  unfold pPaper
  cases e : lThing W 40 0 with
  | stuck => rw [e] at hp; exact hp.elim
  | err j =>
    rw [e] at hl
    rcases hl with hl | hl
    · cases hl
    · exact .inr ⟨j, rfl, by rw [hl]⟩
  | ok t j =>
    rw [e] at hp hl
    obtain ⟨h1, h2, h3, h4, h5⟩ := hp
    rcases hl with hl | hl
    · cases hl
    · refine .inl ⟨t, j, rfl, h1, h4, by omega, fun z => ⟨?_, ?_⟩, fun z => ?_⟩
      · rw [List.drop_zero, z, List.drop_length, List.append_nil] at h3
        exact h3.symm
      · rw [hl]
        show (if W[j]? = none then _ else _) = _
        rw [if_pos (List.getElem?_eq_none (by omega))]
      · rw [hl]
        show (if W[j]? = none then _ else _) = _
        rw [if_neg (fun y => by rw [List.getElem?_eq_none_iff] at y; omega)]
theorem line_wt {t : K97.T} (hl : LawT t) (ho : Ok t) (hd : dep t ≤ 4) {n : Nat} {W : List Nat} (h : Wt (spelt t) n W) (hn : n ≤ 38) (hW : W.length ≤ 900000) : LineOk W :=
  ⟨hW, ⟨by omega, fun i => Nat.le_trans (h.grow hl ho hd _ i (fun z => nomatch z)) (by show 0 + n ≤ 38; omega), fun j => Nat.le_trans (h.figs hl ho j) (by omega)⟩⟩
theorem wt_all (u : List Nat) : ∀ W : List Nat, Wt u W.length W
  | [] => .nil
  | _ :: W => .one (wt_all u W)
theorem line_short {W : List Nat} (h : W.length ≤ 38) : LineOk W :=
  line_wt (t := .non) trivial trivial (by decide) (wt_all _ W) h (by omega)
/-- told again -/
theorem turn_again (E : XK) (D : Ends) (H : Hp) (y0 y1 y2 y3 y5 y8 y9 y10 : Option V) (W : List Nat) (j : Nat) (ok : Bool) (s : Addr) (v : V) (hs : Sl s W j ok H) (hW : W.length ≤ 900000)
    (hr : (ok = true ∧ ∃ t jj, pPaper W 40 = .ok t jj ∧ Rep t v H ∧ Ok t ∧ dep t ≤ 38 ∧ spelt t = W) ∨ (ok = false ∧ pPaper W 40 = .err j))
    (q : ∀ z9 z10 H', Same H H' → D.nx [y0, y1, y2, y3, some (.str (S W)), y5, some (.ref s), some v, y8, z9, z10] H') :
    tSeq (tAsg (tCall (spTold K) [] E (tCons (tVar 4) tNil)) (gUnl K 2 (gCons (gName 9) (gCons (gName 10) gNil))))
      (tSeq
        (tIfS
          (tOr (tTest (tOp (rEqQ K true) (tVar 9) (tOp (rIxA K w) (tVar 6) (tC (V.int 2)))))
            (tAnd (tNot (tB (tVar 9)))
              (tTest (tOp (rEqQ K true) (tVar 10) (tLst (tCons (tC (V.int 0)) (tCons (tOp (rIxA K w) (tVar 6) (tC (V.int 1))) tNil)))))))
          (tRet (tC (V.bl false))) tNext)
        (tIfS
          (tAnd (tB (tVar 9))
            (tOr (tNot (tB (tCall (spLike 41) [] E (tCons (tVar 10) (tCons (tVar 7) tNil)))))
              (tTest (tOp (rEqQ K true) (tCall (spPaper K) [V.int 40] E (tCons (tVar 10) tNil)) (tVar 4)))))
          (tRet (tC (V.bl false))) tNext)) D [y0, y1, y2, y3, some (.str (S W)), y5, some (.ref s), some v, y8, y9, y10] H := by
  walk_at "r"
  refine ⟨W, rfl, by omega, ?_⟩
  rcases hr with ⟨rfl, t, jj, he, hrep, hok, hdep, hsp⟩ | ⟨rfl, he⟩
  · rw [he]
    intro p v2 H1 s1 np hp hrep2
    refine ⟨p, rfl, _, .of hp, rfl, _, _, rfl, _, _, rfl, rfl, _, .inl (.of (s1 _ _ hs)), V.bl true, rfl, ?_⟩
    rw [eq_bb]
    refine ⟨false, rfl, ?_⟩
    rw [if_neg (by simp)]
    refine ⟨true, rfl, ?_⟩
    rw [if_neg (by simp)]
    refine ⟨true, rfl, ?_⟩
    rw [if_pos rfl]
    refine ⟨t, v2, v, rfl, hrep2, hrep.le' s1, hok, by omega, fun H2 s2 => ⟨true, rfl, ?_⟩⟩
    rw [if_neg (by simp)]
    refine ⟨t, v2, 40, rfl, hrep2.le' s2, hok, by rw [hsp]; omega, by decide, fun _ H3 s3 => ?_, fun z => absurd z (by omega)⟩
    show rEqQ K true (V.str (S (spelt t))) (V.str (S W)) _ _
    rw [hsp, eq_ss]
    refine ⟨false, by simp, ?_⟩
    rw [if_neg (by simp)]
    exact q _ _ _ ((s1.trans s2).trans s3)
  · rw [he]
    intro p r H1 s1 np hp hr2
    refine ⟨p, rfl, _, .of hp, rfl, _, _, rfl, _, _, rfl, rfl, _, .inl (.of (s1 _ _ hs)), V.bl false, rfl, ?_⟩
    rw [eq_bb]
    refine ⟨false, rfl, ?_⟩
    rw [if_neg (by simp)]
    refine ⟨false, rfl, ?_⟩
    rw [if_pos rfl]
    refine ⟨_, .inl (.of (s1 _ _ hs)), V.int (j : Int), rfl, by show 2 ≤ sizeLine; decide, fun p2 n2 => ?_⟩
    have s2 := Same.new (o := HO.lst [V.int 0, V.int (j : Int)]) n2
    rw [eq_rr]
    refine ⟨_, _, .inl (.of (s2 _ _ hr2)), .inl (.of upd_same), fun _ => rfl, ?_⟩
    refine ⟨false, by simp, ?_⟩
    rw [if_neg (by simp)]
    refine ⟨false, rfl, ?_⟩
    rw [if_neg (by simp)]
    exact q _ _ _ (s1.trans s2)
/-- one line, read; what comes after it is any tf -/
theorem turn_read (E : XK) (D : Ends) (H : Hp) (y0 y1 y2 y3 y5 y6 y7 y8 y9 y10 : Option V) (W : List Nat) (hW : LineOk W) (tf : TS)
    (fin : ∀ (H1 : Hp) (s : Addr) (j : Nat) (ok : Bool) (v : V), Same H H1 → Sl s W j ok H1 → ((ok = true ∧ ∃ t jj, pPaper W 40 = .ok t jj ∧ Rep t v H1 ∧ Ok t ∧ dep t ≤ 38 ∧ spelt t = W) ∨ (ok = false ∧ pPaper W 40 = .err j)) →
      tf D [y0, y1, y2, y3, some (.str (S W)), y5, some (.ref s), some v, y8, y9, y10] H1) :
    tSeq (tAsg (tLst (tCons (tVar 4) (tCons (tC (V.int 0)) (tCons (tC (V.bl true)) tNil)))) (gName 6))
                  (tSeq (tAsg (tCall (spLOne 40) [] E (tCons (tVar 6) tNil)) (gName 7))
                    (tSeq
                      (tIfS
                        (tAnd (tB (tOp (rIxA K w) (tVar 6) (tC (V.int 2))))
                          (tTest
                            (tOp rLtA (tOp (rIxA K w) (tVar 6) (tC (V.int 1))) (tCB (rLen1 K) (tCons (tVar 4) tNil)))))
                        (tDrop
                          (tCall spLBroken [] E (tCons (tVar 6) (tCons (tOp (rIxA K w) (tVar 6) (tC (V.int 1))) tNil))))
                        tNext)
                      tf)) D [y0, y1, y2, y3, some (.str (S W)), y5, y6, y7, y8, y9, y10] H := by
  walk_at "r"
  have hW1 := hW.1
  refine ⟨by show 3 ≤ sizeLine; decide, fun s ns => ?_⟩
  have s0 := Same.new (o := HO.lst [V.str (S W), V.int 0, V.bl true]) ns
  have hs : Sl s W 0 true (upd H s (HO.lst [V.str (S W), V.int 0, V.bl true])) := upd_same
  have but : ∀ H2, But s (upd H s (HO.lst [V.str (S W), V.int 0, V.bl true])) H2 → Same H H2 := fun H2 b a o e => b a o (ne_of_none e ns) (s0 _ _ e)
  generalize upd H s (HO.lst [V.str (S W), V.int 0, V.bl true]) = H1 at hs but ⊢
  refine ⟨s, W, 0, rfl, hs, by omega, Nat.zero_le _, ?_⟩
  rcases line_due hW with ⟨t, j, hl, hj, hok, hdep, h1, h2⟩ | ⟨j, hl, h1⟩
  · rw [hl]
    intro H2 _ b2 hs2 v hrep
    have hrep2 : Rep t v H2 := Rep.le (fun b u r => rd_fun (fun o z => (fresh_of z).2) r) _ _ hrep
    refine ⟨_, .inl (.of hs2), V.bl true, rfl, true, rfl, ?_⟩
    rw [if_pos rfl]
    refine ⟨_, .inl (.of hs2), V.int (j : Int), rfl, W.length, ⟨by rw [S_len, sizeLine_eq]; omega, by rw [S_len]⟩, ?_⟩
    refine ⟨decide (j < W.length), ?_, ?_⟩
    · congr 1
      exact decide_eq_decide.mpr (by omega)
    by_cases hlt : j < W.length
    · rw [if_pos (decide_eq_true hlt)]
      refine ⟨_, .inl (.of hs2), V.int (j : Int), rfl, s, W, j, true, j, rfl, hs2, ?_⟩
      exact fin _ s j false v (fun a o e => by rw [upd_ne (ne_of_none e ns)]; exact but _ b2 _ _ e) upd_same (.inr ⟨rfl, h2 hlt⟩)
    · rw [if_neg (by simpa using hlt)]
      obtain ⟨h3, h4⟩ := h1 (by omega)
      exact fin _ s j true v (but _ b2) hs2 (.inl ⟨rfl, t, j, h4, hrep2, hok, hdep, h3⟩)
  · rw [hl]
    intro v H2 _ b2 hs2
    refine ⟨_, .inl (.of hs2), V.bl false, rfl, false, rfl, ?_⟩
    rw [if_neg (by simp)]
    exact fin _ s j false v (but _ b2) hs2 (.inr ⟨rfl, h1⟩)
/-- one line, read and told -/
theorem turn_line (E : XK) (D : Ends) (H : Hp) (y0 y1 y2 y3 y5 y6 y7 y8 y9 y10 : Option V) (W : List Nat) (hW : LineOk W)
    (q : ∀ z6 z7 z8 z9 z10 H', Same H H' → D.nx [y0, y1, y2, y3, some (.str (S W)), y5, z6, z7, z8, z9, z10] H') :
    tSeq (tAsg (tLst (tCons (tVar 4) (tCons (tC (V.int 0)) (tCons (tC (V.bl true)) tNil)))) (gName 6))
                  (tSeq (tAsg (tCall (spLOne 40) [] E (tCons (tVar 6) tNil)) (gName 7))
                    (tSeq
                      (tIfS
                        (tAnd (tB (tOp (rIxA K w) (tVar 6) (tC (V.int 2))))
                          (tTest
                            (tOp rLtA (tOp (rIxA K w) (tVar 6) (tC (V.int 1))) (tCB (rLen1 K) (tCons (tVar 4) tNil)))))
                        (tDrop
                          (tCall spLBroken [] E (tCons (tVar 6) (tCons (tOp (rIxA K w) (tVar 6) (tC (V.int 1))) tNil))))
                        tNext)
                      (tFor (iRng1 (tCons (tC (V.int 2)) tNil)) (gName 8) (tSeq (tAsg (tCall (spTold K) [] E (tCons (tVar 4) tNil)) (gUnl K 2 (gCons (gName 9) (gCons (gName 10) gNil))))
      (tSeq
        (tIfS
          (tOr (tTest (tOp (rEqQ K true) (tVar 9) (tOp (rIxA K w) (tVar 6) (tC (V.int 2)))))
            (tAnd (tNot (tB (tVar 9)))
              (tTest (tOp (rEqQ K true) (tVar 10) (tLst (tCons (tC (V.int 0)) (tCons (tOp (rIxA K w) (tVar 6) (tC (V.int 1))) tNil)))))))
          (tRet (tC (V.bl false))) tNext)
        (tIfS
          (tAnd (tB (tVar 9))
            (tOr (tNot (tB (tCall (spLike 41) [] E (tCons (tVar 10) (tCons (tVar 7) tNil)))))
              (tTest (tOp (rEqQ K true) (tCall (spPaper K) [V.int 40] E (tCons (tVar 10) tNil)) (tVar 4)))))
          (tRet (tC (V.bl false))) tNext)))))) D [y0, y1, y2, y3, some (.str (S W)), y5, y6, y7, y8, y9, y10] H := by
  refine turn_read E D H y0 y1 y2 y3 y5 y6 y7 y8 y9 y10 W hW _ fun H1 s j ok v s1 hs hr => ?_
  refine ⟨2, rfl, by decide, by decide, ?_⟩
  refine for_any walk_range (fun i σ H' => Same H1 H' ∧ ∃ z8 z9 z10, σ = [y0, y1, y2, y3, some (.str (S W)), y5, some (.ref s), some v, z8, z9, z10]) ⟨Same.rfl', _, _, _, rfl⟩ (fun _ _ _ _ _ => trivial) ?_ ?_
  · rintro i x σ Hi H' hi ⟨sm, z8, z9, z10, rfl⟩ ⟨rfl, rfl⟩
    refine turn_again E _ H' y0 y1 y2 y3 y5 _ z9 z10 W j ok s v (sm _ _ hs) hW.1 ?_ fun z9 z10 H'' s2 => ⟨sm.trans s2, _, _, _, rfl⟩
    rcases hr with ⟨h, t, jj, a1, a2, a3⟩ | h
    · exact .inl ⟨h, t, jj, a1, a2.le' sm, a3⟩
    · exact .inr h
  · rintro σ H' ⟨sm, z8, z9, z10, rfl⟩
    exact q _ _ _ _ _ _ (s1.trans sm)
theorem Pu.same {p c : Addr} {n : Nat} {H H' : Hp} (h : Pu p c n H) (s : Same H H') : Pu p c n H' := by
  obtain ⟨ne, cs, h1, h2, h3⟩ := h
  exact ⟨ne, cs, s _ _ h1, s _ _ h2, h3⟩
/-- one line drawn -/
theorem turn_draw (E : XK) (D : Ends) (H : Hp) (y0 y3 y4 y5 y6 y7 y8 y9 y10 : Option V) (p c q : Addr) (m : Nat) (Ls : List (List Nat)) (hpu : Pu p c m H) (hm : m + bud 4 + 100 ≤ 1000000) (hq : H q = some (.lst (Ls.map fun W => V.str (S W)))) (hqp : q ≠ p ∧ q ≠ c) (hl : Ls.length ≤ 1000)
    (fin : ∀ z4 z5 m' W H', LineOk W → Pu p c m' H' → m' ≤ m + bud 4 + 100 → H' q = some (.lst ((Ls ++ [W]).map fun W => V.str (S W))) → D.nx [y0, some (.ref p), some (.ref q), y3, z4, z5, y6, y7, y8, y9, y10] H') :
    (tSeq
                (tAsg
                  (tCall (spSpelt 41) [] E
                    (tCons (tCall (spThingL 5) [] E (tCons (tVar 1) (tCons (tC (V.int 4)) tNil))) tNil))
                  (gName 4))
                (tSeq
                  (tFor (iRng1 (tCons (tCall spDraw [] E (tCons (tVar 1) (tCons (tC (V.int 3)) tNil))) tNil)) (gName 5)
                    (tAsg (tCall spBent [] E (tCons (tVar 1) (tCons (tVar 4) tNil))) (gName 4)))
                  (tDrop (tBM K "list" rAppend (tVar 2) (tCons (tVar 4) tNil))))) D [y0, some (.ref p), some (.ref q), y3, y4, y5, y6, y7, y8, y9, y10] H := by
  walk_at "r"
  have e16 := sizeLine_eq
  have hb : bud 4 = 5706 := by decide
  have hsz : sz 4 = 6840 := by decide
  refine ⟨p, c, m, 4, rfl, by decide, by decide, hpu, by omega, fun t v k H1 hrep hok hd hlen hk hpu1 off1 => ?_⟩
  have hrep1 : Rep t v H1 := Rep.le (fun b u r => rd_fun (fun o z => (fresh_of z).2) r) _ _ hrep
  refine ⟨t, v, rfl, hrep1, hok.1, by omega, by omega, fun H2 s2 => ?_⟩
  have pu2 := hpu1.same s2
  show spDraw [V.ref p, V.int 3] H2 _ E
  refine ⟨p, c, k, 3, rfl, pu2, by omega, by decide, by decide, fun j H3 hj0 hj1 pu3 off3 => ?_⟩
  have hq3 : H3 q = some (.lst (Ls.map fun W => V.str (S W))) := off3 _ _ hqp.1 hqp.2 (s2 _ _ (off1 _ _ hqp.1 hqp.2 hq))
  refine ⟨j, rfl, by omega, by omega, ?_⟩
  refine for_any walk_range (fun i σ H' => i ≤ j.toNat ∧ ∃ z5 W n, σ = [y0, some (.ref p), some (.ref q), y3, some (.str (S W)), z5, y6, y7, y8, y9, y10] ∧ Wt (spelt t) n W ∧ n ≤ 4 + 10 * i ∧ W.length ≤ 6840 + 2 * i ∧ Pu p c (k + 1 + 4 * i) H' ∧ Off p c H3 H') ⟨Nat.zero_le _, _, _, 4, rfl, Wt.self _, by omega, by omega, pu3, Off.rfl'⟩ (fun _ _ _ _ _ => trivial) ?_ ?_
  · rintro i x σ Hi H' hi ⟨hij, z5, W, n, rfl, hw, hn, hwl, pu4, off4⟩ ⟨rfl, rfl⟩
    refine ⟨_, rfl, _, rfl, p, c, k + 1 + 4 * i, W, rfl, pu4, by omega, by omega, fun W' H5 hbent pu5 off5 => ?_⟩
    obtain ⟨n', hn', hw'⟩ := hbent.1 _ _ hw
    have hl' := hbent.2
    exact ⟨by omega, _, W', n', rfl, hw', by omega, by omega, by rw [show k + 1 + 4 * (i + 1) = k + 1 + 4 * i + 4 from by omega]; exact pu5, off4.trans off5⟩
  · rintro σ H' ⟨hij, z5, W, n, rfl, hw, hn, hwl, pu4, off4⟩
    have hq4 := off4 _ _ hqp.1 hqp.2 hq3
    refine ⟨_, rfl, .inl ⟨rfl, _, .of hq4⟩, _, rfl, q, _, _, rfl, rfl, hq4, by rw [List.length_map]; omega, ?_⟩
    refine fin _ _ _ W _ (line_wt hok.2 hok.1 hd hw (by omega) (by omega)) (pu4.upd hqp) (by omega) ?_
    rw [upd_same, List.map_append]
    rfl
theorem law_head (E : XK) (D : Ends) (H : Hp) (a : Addr) (xs : List Int) (tf : TS) (hs : SqL K H a (xs.map V.int)) (hxl : xs.length ≤ 63)
    (fin : ∀ (p c q : Addr) (H' : Hp) (Ls : List (List Nat)), (∀ W ∈ Ls, LineOk W) → Ls.length ≤ 100 → Pu p c 0 H' → H' q = some (.lst (Ls.map fun W => V.str (S W))) → q ≠ p ∧ q ≠ c → tf D [some (.ref a), some (.ref p), some (.ref q), none, none, none, none, none, none, none, none] H') :
    (tSeq (tAsg (tCall (spPurse (K := K)) [] E (tCons (tVar 0) tNil)) (gName 1))
    (tSeq (tIfS (tNot (tB (tCall spDeepRight [] E tNil))) (tRet (tC (V.bl false))) tNext)
      (tSeq
        (tAsg
          (tLst
            (tCons (tC (V.str (Str.ofString "")))
              (tCons (tC (V.str (Str.ofString "{b 1 a 2}")))
                (tCons (tC (V.str (Str.ofString "{a 1 a 2}")))
                  (tCons (tC (V.str (Str.ofString "'none'")))
                    (tCons (tC (V.str (Str.ofString "'a'")))
                      (tCons (tC (V.str (Str.ofString "-0")))
                        (tCons (tC (V.str (Str.ofString "00")))
                          (tCons (tC (V.str (Str.ofString "(1  2)")))
                            (tCons (tC (V.str (Str.ofString "{none 1}"))) tNil))))))))))
          (gName 2))
        (tSeq
          (tAsg
            (tOp rAddA (tVar 2)
              (tLst
                (tCons (tC (V.str (Str.ofString "'^x'")))
                  (tCons (tC (V.str (Str.ofString "[1 2"))) (tCons (tC (V.str (Str.ofString "()"))) tNil)))))
            (gName 2))
          tf)))) D [some (.ref a), none, none, none, none, none, none, none, none, none, none] H := by
  walk_at "r"
  refine ⟨a, xs, rfl, hs, hxl, fun p c H1 pu s1 np nc => ?_⟩
  refine ⟨rfl, fun H2 s2 => ?_⟩
  refine ⟨true, rfl, ?_⟩
  rw [if_neg (by simp)]
  refine ⟨by show 9 ≤ sizeLine; decide, fun p1 n1 => ⟨by show 3 ≤ sizeLine; decide, fun p2 n2 => ?_⟩⟩
  have pu2 := pu.same s2
  have s3 := Same.new (o := HO.lst [V.str (S []), V.str (S [123, 98, 32, 49, 32, 97, 32, 50, 125]), V.str (S [123, 97, 32, 49, 32, 97, 32, 50, 125]), V.str (S [39, 110, 111, 110, 101, 39]), V.str (S [39, 97, 39]), V.str (S [45, 48]), V.str (S [48, 48]), V.str (S [40, 49, 32, 32, 50, 41]), V.str (S [123, 110, 111, 110, 101, 32, 49, 125])]) n1
  have pu3 := pu2.same s3
  have s4 := Same.new (o := HO.lst [V.str (S [39, 94, 120, 39]), V.str (S [91, 49, 32, 50]), V.str (S [40, 41])]) n2
  have pu4 := pu3.same s4
  refine ⟨_, _, s4 _ _ upd_same, upd_same, by show 9 + 3 ≤ sizeLine; decide, fun q nq => ?_⟩
  have hq := pu4.ne_of nq
  refine fin p c q _ ([[], [123, 98, 32, 49, 32, 97, 32, 50, 125], [123, 97, 32, 49, 32, 97, 32, 50, 125], [39, 110, 111, 110, 101, 39], [39, 97, 39], [45, 48], [48, 48], [40, 49, 32, 32, 50, 41], [123, 110, 111, 110, 101, 32, 49, 125]] ++ [[39, 94, 120, 39], [91, 49, 32, 50], [40, 41]]) (fun W hW => line_short ?_) (by decide) (pu4.upd hq) upd_same hq
  have : ∀ W ∈ ([[], [123, 98, 32, 49, 32, 97, 32, 50, 125], [123, 97, 32, 49, 32, 97, 32, 50, 125], [39, 110, 111, 110, 101, 39], [39, 97, 39], [45, 48], [48, 48], [40, 49, 32, 32, 50, 41], [123, 110, 111, 110, 101, 32, 49, 125]] ++ [[39, 94, 120, 39], [91, 49, 32, 50], [40, 41]] : List (List Nat)), W.length ≤ 38 := by decide
  exact this W hW
/-- the lines, drawn and told -/
theorem law_lines (E : XK) (D : Ends) (H : Hp) (a p c q : Addr) (Ls : List (List Nat)) (td tb tr : TS)
    (hd : ∀ (D : Ends) (H : Hp) (y3 y4 y5 : Option V) (m : Nat) (Ls : List (List Nat)), Pu p c m H → m ≤ 100000 → H q = some (.lst (Ls.map fun W => V.str (S W))) → Ls.length ≤ 1000 →
      (∀ z4 z5 m' W H', LineOk W → Pu p c m' H' → m' ≤ m + bud 4 + 100 → H' q = some (.lst ((Ls ++ [W]).map fun W => V.str (S W))) → D.nx [some (.ref a), some (.ref p), some (.ref q), y3, z4, z5, none, none, none, none, none] H') →
      td D [some (.ref a), some (.ref p), some (.ref q), y3, y4, y5, none, none, none, none, none] H)
    (hb : ∀ (D : Ends) (H : Hp) (y3 y5 y6 y7 y8 y9 y10 : Option V) (W : List Nat), LineOk W → (∀ z6 z7 z8 z9 z10 H', Same H H' → D.nx [some (.ref a), some (.ref p), some (.ref q), y3, some (.str (S W)), y5, z6, z7, z8, z9, z10] H') →
      tb D [some (.ref a), some (.ref p), some (.ref q), y3, some (.str (S W)), y5, y6, y7, y8, y9, y10] H)
    (fin : ∀ σ H', tr D σ H') (hL : ∀ W ∈ Ls, LineOk W) (hl : Ls.length ≤ 100) (pu : Pu p c 0 H) (hq : H q = some (.lst (Ls.map fun W => V.str (S W)))) :
    (tSeq (tFor (iRng1 (tCons (tC (V.int 10)) tNil)) (gName 3) td) (tSeq (tFor (iAny K (tVar 2)) (gName 4) tb) tr)) D [some (.ref a), some (.ref p), some (.ref q), none, none, none, none, none, none, none, none] H := by
  have hbd : bud 4 = 5706 := by decide
  refine ⟨10, rfl, by decide, by decide, ?_⟩
  refine for_any walk_range (fun i σ H' => i ≤ 10 ∧ ∃ y3 y4 y5 m Ls, σ = [some (.ref a), some (.ref p), some (.ref q), y3, y4, y5, none, none, none, none, none] ∧ Pu p c m H' ∧ m ≤ i * 5806 ∧ H' q = some (.lst (Ls.map fun W => V.str (S W))) ∧ Ls.length ≤ 100 + i ∧ ∀ W ∈ Ls, LineOk W)
    ⟨by omega, _, _, _, 0, Ls, rfl, pu, by omega, hq, by omega, hL⟩ (fun _ _ _ _ _ => trivial) ?_ ?_
  · rintro i x σ Hi H' hi ⟨hi10, y3, y4, y5, m, Ls, rfl, pu1, hm, hq1, hl1, hL1⟩ ⟨rfl, rfl⟩
    have hi : i < 10 := hi
    refine hd _ H' _ y4 y5 m Ls pu1 (by omega) hq1 (by omega) fun z4 z5 m' W H'' hW pu2 hm' hq2 => ⟨by omega, _, _, _, m', Ls ++ [W], rfl, pu2, by omega, hq2, by rw [List.length_append]; show Ls.length + 1 ≤ _; omega, fun X hX => ?_⟩
    rcases List.mem_append.mp hX with h | h
    · exact hL1 X h
    · rw [List.mem_singleton.mp h]; exact hW
  · rintro σ H' ⟨hi10, y3, y4, y5, m, Ls, rfl, pu1, hm, hq1, hl1, hL1⟩
    refine ⟨_, rfl, .inl ⟨_, .of hq1, ?_⟩⟩
    refine for_any (walk_list (K := K) (a := q) (xs := Ls.map fun W => V.str (S W))) (fun i σ H2 => Same H' H2 ∧ ∃ z4 z6 z7 z8 z9 z10, σ = [some (.ref a), some (.ref p), some (.ref q), y3, z4, y5, z6, z7, z8, z9, z10]) ⟨Same.rfl', _, _, _, _, _, _, rfl⟩ (fun i σ H2 _ h => .inl (.of (h.1 _ _ hq1))) ?_ ?_
    · rintro i x σ Hi H2 hi ⟨sm, z4, z6, z7, z8, z9, z10, rfl⟩ ⟨rfl, hx⟩
      rw [List.length_map] at hi
      rw [List.getElem?_map, List.getElem?_eq_getElem hi] at hx
      cases hx
      exact hb _ H2 y3 y5 z6 z7 z8 z9 z10 _ (hL1 _ (List.getElem_mem hi)) fun z6 z7 z8 z9 z10 H3 s3 => ⟨sm.trans s3, _, _, _, _, _, _, rfl⟩
    · rintro σ H2 _
      exact fin σ H2
theorem ok_law (T : Tx K w mg) (c_law_purse : Fn P w K mg base 2 "_law_purse" [] (spPurse (K := K))) (c_law_deep_right : Fn P w K mg base 218 "_law_deep_right" [] spDeepRight) (c_law_thing : Fn P w K mg base 12 "_law_thing" [] (spThingL 5)) (c_law_spelt : Fn P w K mg base 46 "_law_spelt" [] (spSpelt 41))
    (c_law_draw : Fn P w K mg base 2 "_law_draw" [] spDraw) (c_law_bent : Fn P w K mg base 4 "_law_bent" [] spBent) (c_law_one : Fn P w K mg base 88 "_law_one" [] (spLOne 40)) (c_law_broken : Fn P w K mg base 2 "_law_broken" [] spLBroken) (c_law_told : Fn P w K mg base 216 "_law_told" [] (spTold K))
    (c_law_like : Fn P w K mg base 46 "_law_like" [] (spLike 41)) (c_paper_text : Fn P w K mg base 210 "paper_text" [.int 40] (spPaper K))
    (F : FunD K "law" "law" (defArgs s_law) (defBody s_law) (defScope s_law) [] [] f fd) : FnOk P w K mg base (L2.CX P w) 220 f fd ["script"] (spLaw K) := by
  refine F.ok sc_law (fun vs H Q E h => by obtain ⟨a, xs, rfl, _⟩ := h; rfl) (fun cdv A outer s H vs Q E hr h => ?_)
  have nd := (sc_law).nd
  refine ⟨_, (pss_cons
  (ps_set (i := 1) nd rfl (by first | exact Or.inl rfl | exact Or.inr rfl) (pe_fn c_law_purse (hr.mono (by omega)) pass_def (pa_cons (pv 0) pa_nil)))
  (pss_cons
  (ps_if (pt_not (pt_val (pe_fn0 c_law_deep_right (hr.mono (by omega)) pass_def)))
   (pss_one
    (ps_ret pe_bl))
   pss_nil)
  (pss_cons
  (ps_set (i := 2) nd rfl (by first | exact Or.inl rfl | exact Or.inr rfl) (pe_lst (pa_cons pe_str (pa_cons pe_str (pa_cons pe_str (pa_cons pe_str (pa_cons pe_str (pa_cons pe_str (pa_cons pe_str (pa_cons pe_str (pa_cons pe_str pa_nil)))))))))))
  (pss_cons
  (ps_set (i := 2) nd rfl (by first | exact Or.inl rfl | exact Or.inr rfl) (pe_op op_addA (pv 2) (pe_lst (pa_cons pe_str (pa_cons pe_str (pa_cons pe_str pa_nil))))))
  (pss_cons
  (ps_for own_def rfl (pi_range1 rfl T.b_range (pa_cons pe_int pa_nil)) (pg_name (i := 3) nd rfl (by first | exact Or.inl rfl | exact Or.inr rfl))
   (pss_cons
    (ps_set (i := 4) nd rfl (by first | exact Or.inl rfl | exact Or.inr rfl) (pe_fn c_law_spelt (hr.mono (by omega)) pass_def (pa_cons (pe_fn c_law_thing (hr.mono (by omega)) pass_def (pa_cons (pv 1) (pa_cons pe_int pa_nil))) pa_nil)))
    (pss_cons
    (ps_for own_def rfl (pi_range1 rfl T.b_range (pa_cons (pe_fn c_law_draw (hr.mono (by omega)) pass_def (pa_cons (pv 1) (pa_cons pe_int pa_nil))) pa_nil)) (pg_name (i := 5) nd rfl (by first | exact Or.inl rfl | exact Or.inr rfl))
     (pss_one
      (ps_set (i := 4) nd rfl (by first | exact Or.inl rfl | exact Or.inr rfl) (pe_fn c_law_bent (hr.mono (by omega)) pass_def (pa_cons (pv 1) (pa_cons (pv 4) pa_nil))))))
    (pss_one
    (ps_expr (pe_app K rfl (pv 2) (pa_cons (pv 4) pa_nil)))))))
  (pss_cons
  (ps_for own_def rfl (pi_any (pv 2)) (pg_name (i := 4) nd rfl (by first | exact Or.inl rfl | exact Or.inr rfl))
   (pss_cons
    (ps_set (i := 6) nd rfl (by first | exact Or.inl rfl | exact Or.inr rfl) (pe_lst (pa_cons (pv 4) (pa_cons pe_int (pa_cons pe_bl pa_nil)))))
    (pss_cons
    (ps_set (i := 7) nd rfl (by first | exact Or.inl rfl | exact Or.inr rfl) (pe_fn c_law_one (hr.mono (by omega)) pass_def (pa_cons (pv 6) pa_nil)))
    (pss_cons
    (ps_if (PW.pt (pw_and (pt_val (pe_ix (k_ix K w rfl rfl) (pv 6) pe_int (fun _ _ => rfl))) (pw_and1 (pt_cmpR (op_ltA) (pe_ix (k_ix K w rfl rfl) (pv 6) pe_int (fun _ _ => rfl)) (pe_callB (k_len K rfl) (by rfl) T.b_len Lk.boot_len (pa_cons (pv 4) pa_nil)) rfl))))
     (pss_one
      (ps_expr (pe_fn c_law_broken (hr.mono (by omega)) pass_def (pa_cons (pv 6) (pa_cons (pe_ix (k_ix K w rfl rfl) (pv 6) pe_int (fun _ _ => rfl)) pa_nil)))))
     pss_nil)
    (pss_one
    (ps_for own_def rfl (pi_range1 rfl T.b_range (pa_cons pe_int pa_nil)) (pg_name (i := 8) nd rfl (by first | exact Or.inl rfl | exact Or.inr rfl))
     (pss_cons
      (ps_asg (pe_fn c_law_told (hr.mono (by omega)) pass_def (pa_cons (pv 4) pa_nil)) (pg_unl (n := 2) rfl (pgs_cons (pg_name (i := 9) nd rfl (by first | exact Or.inl rfl | exact Or.inr rfl)) (pgs_cons (pg_name (i := 10) nd rfl (by first | exact Or.inl rfl | exact Or.inr rfl)) pgs_nil))))
      (pss_cons
      (ps_if (PW.pt (pw_or (pt_cmpR (k_ne K rfl (Lk.hu0 hr)) (pv 9) (pe_ix (k_ix K w rfl rfl) (pv 6) pe_int (fun _ _ => rfl)) rfl) (pw_or1 (PW.pt (pw_and (pt_not (pt_val (pv 9))) (pw_and1 (pt_cmpR (k_ne K rfl (Lk.hu0 hr)) (pv 10) (pe_lst (pa_cons pe_int (pa_cons (pe_ix (k_ix K w rfl rfl) (pv 6) pe_int (fun _ _ => rfl)) pa_nil))) rfl)))))))
       (pss_one
        (ps_ret pe_bl))
       pss_nil)
      (pss_one
      (ps_if (PW.pt (pw_and (pt_val (pv 9)) (pw_and1 (PW.pt (pw_or (pt_not (pt_val (pe_fn c_law_like (hr.mono (by omega)) pass_def (pa_cons (pv 10) (pa_cons (pv 7) pa_nil))))) (pw_or1 (pt_cmpR (k_ne K rfl (Lk.hu0 hr)) (pe_fn c_paper_text (hr.mono (by omega)) pass_def (pa_cons (pv 10) pa_nil)) (pv 4) rfl)))))))
       (pss_one
        (ps_ret pe_bl))
       pss_nil))))))))))
  (pss_one
  (ps_ret pe_bl)))))))), ?_⟩
  obtain ⟨a, xs, rfl, hs, hxl, q⟩ := h
  rw [show L2.start N_law [V.ref a] = [some (.ref a), none, none, none, none, none, none, none, none, none, none] from rfl]
  refine law_head E _ H a xs _ hs hxl fun p c q' H1 Ls hL hl pu hq hqp => ?_
  refine law_lines (K := K) E _ H1 a p c q' Ls _ _ _ ?_ ?_ (fun σ H' => q H') hL hl pu hq
  · intro D H2 y3 y4 y5 m Ls pu1 hm hq1 hl1 fin
    exact turn_draw (K := K) E D H2 _ y3 y4 y5 none none none none none p c q' m Ls pu1 (by have hbd : bud 4 = 5706 := (by decide); omega) hq1 hqp hl1 fin
  · intro D H2 y3 y5 y6 y7 y8 y9 y10 W hW fin
    exact turn_line (K := K) E D H2 _ _ _ y3 y5 y6 y7 y8 y9 y10 W hW fin
end
end K97

set_option Elab.async false
set_option linter.all false
set_option maxRecDepth 100000
set_option maxHeartbeats 4000000
/-! Every def by its name; the knots; the law's promise. -/
namespace K97
open PySem PySem.Spec PyProof.Rows L2 Lk SX
section
variable {P : Program} {w : World} {K : PySem.W.Frag} {mg : Str → Option Value} {base : Heap} {f : Addr} {fd : FuncData}
theorem Fn.mono {x : Str} {ds : List V} {j k : Nat} {sp : Sp} (c : Fn P w K mg base j x ds sp) (h : j ≤ k) : Fn P w K mg base k x ds sp := by
  obtain ⟨f, fd, ps, us, a, b, r⟩ := c.ex
  exact ⟨f, fd, ps, us, a, b.mono h, r⟩
theorem no_ok {k : Nat} {ps : List Str} {sp : Sp} (h : ∀ vs H Q E, ¬ sp vs H Q E) : FnOk P w K mg base (L2.CX P w) k f fd ps sp :=
  ⟨fun vs H Q E z => (h vs H Q E z).elim, fun _ _ _ H _ _ vs Q E _ _ _ _ z => (h vs H Q E z).elim⟩
theorem Vals.rev {vs : List V} {us : List Value} (h : Vals vs us) : Vals vs.reverse us.reverse := by
  induction h with
  | nil => exact .nil
  | cons a _ ih => rw [List.reverse_cons, List.reverse_cons]; exact ih.append (.cons a .nil)
/-- a def whose last parameter is keyword-only, with a default: called with the default -/
theorem fn_kw {x nm qual : Str} {pa : Arguments} {bd : List Stmt} {sc : Scope} {kv : V} {k : Nat} {sp : Sp} {p1 p2 : Str} (hm : mg x = some (.ref f)) (F : FunD K nm qual pa bd sc [] [(p2, kv)] f fd) (ok : FnOk P w K mg base (L2.CX P w) k f fd [p1, p2] sp)
    (hb : ∀ (D : Addr) (doc pm : Value) (an : Option Addr) (cdv ct : Value) (u v : Value), KwChain D [(p2, v)] (bindArgs (PySem.W.fnOf nm qual pa bd sc .none (.ref D) doc pm an cdv ct) ⟨[u], []⟩) [(p1, u), (p2, v)]) : Fn P w K mg base k x [kv] sp := by
  obtain ⟨ds, hv, b⟩ := F.binds0 (ps := [p1, p2]) 1 (by simp) rfl (fun D doc pm an cdv ct us ks h1 h2 => by
    match us, ks, h1, h2 with
    | [u], [v], _, _ => exact hb D doc pm an cdv ct u v)
  exact ⟨f, fd, _, ds, hm, ok, F.kp, b, hv⟩
/-- the same def, both by keywords, the keyword-only one ahead -/
theorem kw_two {x nm qual : Str} {pa : Arguments} {bd : List Stmt} {sc : Scope} {kv : V} {k : Nat} {sp : Sp} {p1 p2 : Str} (hm : mg x = some (.ref f)) (F : FunD K nm qual pa bd sc [] [(p2, kv)] f fd) (ok : FnOk P w K mg base (L2.CX P w) k f fd [p1, p2] sp)
    (hb : ∀ (D : Addr) (doc pm : Value) (an : Option Addr) (cdv ct : Value) (u v : Value), bindArgs (PySem.W.fnOf nm qual pa bd sc .none (.ref D) doc pm an cdv ct) ⟨[], [(p2, v), (p1, u)]⟩ = pure [(p1, u), (p2, v)]) : Kw P w K mg base k 0 x [p2, p1] (fun _ b => b.reverse) sp := by
  obtain ⟨mv, b⟩ := F.kbinds0 (ps := [p1, p2]) 0 [p2, p1] [] (fun _ _ ws => ws.reverse) (by simp) (fun _ h => nomatch h) (fun _ _ r => Vals.rev r) (fun D doc pm an cdv ct us mv ws h1 h2 h3 => by
    match us, mv, ws, h1, h2, h3 with
    | [], [], [v, u], _, _, _ => exact hb D doc pm an cdv ct u v)
  exact ⟨f, fd, _, _, hm, ok, F.kp, b⟩
/-- the same def, the first by its place, the keyword-only one by its name -/
theorem kw_one {x nm qual : Str} {pa : Arguments} {bd : List Stmt} {sc : Scope} {kv : V} {k : Nat} {sp : Sp} {p1 p2 : Str} (hm : mg x = some (.ref f)) (F : FunD K nm qual pa bd sc [] [(p2, kv)] f fd) (ok : FnOk P w K mg base (L2.CX P w) k f fd [p1, p2] sp)
    (hb : ∀ (D : Addr) (doc pm : Value) (an : Option Addr) (cdv ct : Value) (u v : Value), bindArgs (PySem.W.fnOf nm qual pa bd sc .none (.ref D) doc pm an cdv ct) ⟨[u], [(p2, v)]⟩ = pure [(p1, u), (p2, v)]) : Kw P w K mg base k 1 x [p2] (fun a b => a ++ b) sp := by
  obtain ⟨mv, b⟩ := F.kbinds0 (ps := [p1, p2]) 1 [p2] [] (fun us _ ws => us ++ ws) (by simp) (fun _ h => nomatch h) (fun r1 _ r => r1.append r) (fun D doc pm an cdv ct us mv ws h1 h2 h3 => by
    match us, mv, ws, h1, h2, h3 with
    | [u], [], [v], _, _, _ => exact hb D doc pm an cdv ct u v)
  exact ⟨f, fd, _, _, hm, ok, F.kp, b⟩
theorem law_ok (T : Tx K w mg) (c : He.SaysD fa fn K) : ∃ fd, (∀ (s : Shared) (u : Value), BindsTo s fd ⟨[u], []⟩ [("script", u)]) ∧ ∀ base : Heap, FnOk P w K mg base (L2.CX P w) 220 (He.ga K "law") fd ["script"] (spLaw K) := by
  have b1 : ∀ {nm qual : Str} {pa : Arguments} {bd : List Stmt} {sc : Scope} {p1 : Str}, (∀ (kV doc pm : Value) (an : Option Addr) (cdv ct u : Value), bindArgs (PySem.W.fnOf nm qual pa bd sc .none kV doc pm an cdv ct) ⟨[u], []⟩ = pure [(p1, u)]) → ∀ (kV doc pm : Value) (an : Option Addr) (cdv ct : Value) (us : List Value), us.length = [p1].length → bindArgs (PySem.W.fnOf nm qual pa bd sc .none kV doc pm an cdv ct) ⟨us, []⟩ = pure ([p1].zip us) :=
    fun h kV doc pm an cdv ct us hl => match us, hl with | [u], _ => h kV doc pm an cdv ct u
  have b0 : ∀ {nm qual : Str} {pa : Arguments} {bd : List Stmt} {sc : Scope}, (∀ (kV doc pm : Value) (an : Option Addr) (cdv ct : Value), bindArgs (PySem.W.fnOf nm qual pa bd sc .none kV doc pm an cdv ct) ⟨[], []⟩ = pure []) → ∀ (kV doc pm : Value) (an : Option Addr) (cdv ct : Value) (us : List Value), us.length = ([] : List Str).length → bindArgs (PySem.W.fnOf nm qual pa bd sc .none kV doc pm an cdv ct) ⟨us, []⟩ = pure (([] : List Str).zip us) :=
    fun h kV doc pm an cdv ct us hl => match us, hl with | [], _ => h kV doc pm an cdv ct
  have b2 : ∀ {nm qual : Str} {pa : Arguments} {bd : List Stmt} {sc : Scope} {p1 p2 : Str}, (∀ (kV doc pm : Value) (an : Option Addr) (cdv ct u v : Value), bindArgs (PySem.W.fnOf nm qual pa bd sc .none kV doc pm an cdv ct) ⟨[u, v], []⟩ = pure [(p1, u), (p2, v)]) → ∀ (kV doc pm : Value) (an : Option Addr) (cdv ct : Value) (us : List Value), us.length = [p1, p2].length → bindArgs (PySem.W.fnOf nm qual pa bd sc .none kV doc pm an cdv ct) ⟨us, []⟩ = pure ([p1, p2].zip us) :=
    fun h kV doc pm an cdv ct us hl => match us, hl with | [u, v], _ => h kV doc pm an cdv ct u v
  have b3 : ∀ {nm qual : Str} {pa : Arguments} {bd : List Stmt} {sc : Scope} {p1 p2 p3 : Str}, (∀ (kV doc pm : Value) (an : Option Addr) (cdv ct u v x : Value), bindArgs (PySem.W.fnOf nm qual pa bd sc .none kV doc pm an cdv ct) ⟨[u, v, x], []⟩ = pure [(p1, u), (p2, v), (p3, x)]) → ∀ (kV doc pm : Value) (an : Option Addr) (cdv ct : Value) (us : List Value), us.length = [p1, p2, p3].length → bindArgs (PySem.W.fnOf nm qual pa bd sc .none kV doc pm an cdv ct) ⟨us, []⟩ = pure ([p1, p2, p3].zip us) :=
    fun h kV doc pm an cdv ct us hl => match us, hl with | [u, v, x], _ => h kV doc pm an cdv ct u v x

  obtain ⟨fd_NoText_init, F_NoText_init⟩ : ∃ fd, FunD K "__init__" "NoText.__init__" (defArgs s_NoText_init) (defBody s_NoText_init) (defScope s_NoText_init) [] [] (He.ma K (He.ga K "NoText") "__init__") fd := c.def_ 0 (d := d_NoText_init) rfl
  obtain ⟨fd_is_bare, F_is_bare⟩ : ∃ fd, FunD K "is_bare" "is_bare" (defArgs s_is_bare) (defBody s_is_bare) (defScope s_is_bare) [] [] (He.ga K "is_bare") fd := c.def_ 1 (d := d_is_bare) rfl
  obtain ⟨fd_sign_text, F_sign_text⟩ : ∃ fd, FunD K "sign_text" "sign_text" (defArgs s_sign_text) (defBody s_sign_text) (defScope s_sign_text) [] [] (He.ga K "sign_text") fd := c.def_ 2 (d := d_sign_text) rfl
  obtain ⟨fd_word_text, F_word_text⟩ : ∃ fd, FunD K "word_text" "word_text" (defArgs s_word_text) (defBody s_word_text) (defScope s_word_text) [] [] (He.ga K "word_text") fd := c.def_ 3 (d := d_word_text) rfl
  obtain ⟨fd_plain_text, F_plain_text⟩ : ∃ fd, FunD K "plain_text" "plain_text" (defArgs s_plain_text) (defBody s_plain_text) (defScope s_plain_text) [] [] (He.ga K "plain_text") fd := c.def_ 4 (d := d_plain_text) rfl
  obtain ⟨fd_things_text, F_things_text⟩ : ∃ fd, FunD K "things_text" "things_text" (defArgs s_things_text) (defBody s_things_text) (defScope s_things_text) [] [] (He.ga K "things_text") fd := c.def_ 5 (d := d_things_text) rfl
  obtain ⟨fd_text_of, F_text_of⟩ : ∃ fd, FunD K "text_of" "text_of" (defArgs s_text_of) (defBody s_text_of) (defScope s_text_of) [] [] (He.ga K "text_of") fd := c.def_ 6 (d := d_text_of) rfl
  obtain ⟨fd_paper_text, F_paper_text⟩ : ∃ fd, FunD K "paper_text" "paper_text" (defArgs s_paper_text) (defBody s_paper_text) (defScope s_paper_text) [] [("deep", .int 40)] (He.ga K "paper_text") fd := c.def_ 7 (d := d_paper_text) rfl
  obtain ⟨fd_Strip_init, F_Strip_init⟩ : ∃ fd, FunD K "__init__" "Strip.__init__" (defArgs s_Strip_init) (defBody s_Strip_init) (defScope s_Strip_init) [] [] (He.ma K (He.ga K "Strip") "__init__") fd := c.def_ 8 (d := d_Strip_init) rfl
  obtain ⟨fd_Strip_sign, F_Strip_sign⟩ : ∃ fd, FunD K "sign" "Strip.sign" (defArgs s_Strip_sign) (defBody s_Strip_sign) (defScope s_Strip_sign) [] [] (He.ma K (He.ga K "Strip") "sign") fd := c.def_ 9 (d := d_Strip_sign) rfl
  obtain ⟨fd_Strip_must_be, F_Strip_must_be⟩ : ∃ fd, FunD K "must_be" "Strip.must_be" (defArgs s_Strip_must_be) (defBody s_Strip_must_be) (defScope s_Strip_must_be) [] [] (He.ma K (He.ga K "Strip") "must_be") fd := c.def_ 10 (d := d_Strip_must_be) rfl
  obtain ⟨fd_Strip_may, F_Strip_may⟩ : ∃ fd, FunD K "may" "Strip.may" (defArgs s_Strip_may) (defBody s_Strip_may) (defScope s_Strip_may) [] [] (He.ma K (He.ga K "Strip") "may") fd := c.def_ 11 (d := d_Strip_may) rfl
  obtain ⟨fd_Strip_run, F_Strip_run⟩ : ∃ fd, FunD K "run" "Strip.run" (defArgs s_Strip_run) (defBody s_Strip_run) (defScope s_Strip_run) [] [] (He.ma K (He.ga K "Strip") "run") fd := c.def_ 12 (d := d_Strip_run) rfl
  obtain ⟨fd_Strip_whole_number, F_Strip_whole_number⟩ : ∃ fd, FunD K "whole_number" "Strip.whole_number" (defArgs s_Strip_whole_number) (defBody s_Strip_whole_number) (defScope s_Strip_whole_number) [] [] (He.ma K (He.ga K "Strip") "whole_number") fd := c.def_ 13 (d := d_Strip_whole_number) rfl
  obtain ⟨fd_Strip_quoted, F_Strip_quoted⟩ : ∃ fd, FunD K "quoted" "Strip.quoted" (defArgs s_Strip_quoted) (defBody s_Strip_quoted) (defScope s_Strip_quoted) [] [] (He.ma K (He.ga K "Strip") "quoted") fd := c.def_ 14 (d := d_Strip_quoted) rfl
  obtain ⟨fd_Strip_key, F_Strip_key⟩ : ∃ fd, FunD K "key" "Strip.key" (defArgs s_Strip_key) (defBody s_Strip_key) (defScope s_Strip_key) [] [] (He.ma K (He.ga K "Strip") "key") fd := c.def_ 15 (d := d_Strip_key) rfl
  obtain ⟨fd_Strip_thing, F_Strip_thing⟩ : ∃ fd, FunD K "thing" "Strip.thing" (defArgs s_Strip_thing) (defBody s_Strip_thing) (defScope s_Strip_thing) [] [] (He.ma K (He.ga K "Strip") "thing") fd := c.def_ 16 (d := d_Strip_thing) rfl
  obtain ⟨fd_Strip_things, F_Strip_things⟩ : ∃ fd, FunD K "things" "Strip.things" (defArgs s_Strip_things) (defBody s_Strip_things) (defScope s_Strip_things) [] [] (He.ma K (He.ga K "Strip") "things") fd := c.def_ 17 (d := d_Strip_things) rfl
  obtain ⟨fd_Strip_pairs, F_Strip_pairs⟩ : ∃ fd, FunD K "pairs" "Strip.pairs" (defArgs s_Strip_pairs) (defBody s_Strip_pairs) (defScope s_Strip_pairs) [] [] (He.ma K (He.ga K "Strip") "pairs") fd := c.def_ 18 (d := d_Strip_pairs) rfl
  obtain ⟨fd_read_paper, F_read_paper⟩ : ∃ fd, FunD K "read_paper" "read_paper" (defArgs s_read_paper) (defBody s_read_paper) (defScope s_read_paper) [] [("deep", .int 40)] (He.ga K "read_paper") fd := c.def_ 19 (d := d_read_paper) rfl
  obtain ⟨fd_law_purse, F_law_purse⟩ : ∃ fd, FunD K "_law_purse" "_law_purse" (defArgs s_law_purse) (defBody s_law_purse) (defScope s_law_purse) [] [] (He.ga K "_law_purse") fd := c.def_ 20 (d := d_law_purse) rfl
  obtain ⟨fd_law_draw, F_law_draw⟩ : ∃ fd, FunD K "_law_draw" "_law_draw" (defArgs s_law_draw) (defBody s_law_draw) (defScope s_law_draw) [] [] (He.ga K "_law_draw") fd := c.def_ 21 (d := d_law_draw) rfl
  obtain ⟨fd_law_text, F_law_text⟩ : ∃ fd, FunD K "_law_text" "_law_text" (defArgs s_law_text) (defBody s_law_text) (defScope s_law_text) [] [] (He.ga K "_law_text") fd := c.def_ 22 (d := d_law_text) rfl
  obtain ⟨fd_law_plain, F_law_plain⟩ : ∃ fd, FunD K "_law_plain" "_law_plain" (defArgs s_law_plain) (defBody s_law_plain) (defScope s_law_plain) [] [] (He.ga K "_law_plain") fd := c.def_ 23 (d := d_law_plain) rfl
  obtain ⟨fd_law_thing, F_law_thing⟩ : ∃ fd, FunD K "_law_thing" "_law_thing" (defArgs s_law_thing) (defBody s_law_thing) (defScope s_law_thing) [] [] (He.ga K "_law_thing") fd := c.def_ 24 (d := d_law_thing) rfl
  obtain ⟨fd_law_is_bare, F_law_is_bare⟩ : ∃ fd, FunD K "_law_is_bare" "_law_is_bare" (defArgs s_law_is_bare) (defBody s_law_is_bare) (defScope s_law_is_bare) [] [] (He.ga K "_law_is_bare") fd := c.def_ 25 (d := d_law_is_bare) rfl
  obtain ⟨fd_law_word, F_law_word⟩ : ∃ fd, FunD K "_law_word" "_law_word" (defArgs s_law_word) (defBody s_law_word) (defScope s_law_word) [] [] (He.ga K "_law_word") fd := c.def_ 26 (d := d_law_word) rfl
  obtain ⟨fd_law_spelt, F_law_spelt⟩ : ∃ fd, FunD K "_law_spelt" "_law_spelt" (defArgs s_law_spelt) (defBody s_law_spelt) (defScope s_law_spelt) [] [] (He.ga K "_law_spelt") fd := c.def_ 27 (d := d_law_spelt) rfl
  obtain ⟨fd_law_kind, F_law_kind⟩ : ∃ fd, FunD K "_law_kind" "_law_kind" (defArgs s_law_kind) (defBody s_law_kind) (defScope s_law_kind) [] [] (He.ga K "_law_kind") fd := c.def_ 28 (d := d_law_kind) rfl
  obtain ⟨fd_law_like, F_law_like⟩ : ∃ fd, FunD K "_law_like" "_law_like" (defArgs s_law_like) (defBody s_law_like) (defScope s_law_like) [] [] (He.ga K "_law_like") fd := c.def_ 29 (d := d_law_like) rfl
  obtain ⟨fd_law_sign, F_law_sign⟩ : ∃ fd, FunD K "_law_sign" "_law_sign" (defArgs s_law_sign) (defBody s_law_sign) (defScope s_law_sign) [] [] (He.ga K "_law_sign") fd := c.def_ 30 (d := d_law_sign) rfl
  obtain ⟨fd_law_broken, F_law_broken⟩ : ∃ fd, FunD K "_law_broken" "_law_broken" (defArgs s_law_broken) (defBody s_law_broken) (defScope s_law_broken) [] [] (He.ga K "_law_broken") fd := c.def_ 31 (d := d_law_broken) rfl
  obtain ⟨fd_law_quoted, F_law_quoted⟩ : ∃ fd, FunD K "_law_quoted" "_law_quoted" (defArgs s_law_quoted) (defBody s_law_quoted) (defScope s_law_quoted) [] [] (He.ga K "_law_quoted") fd := c.def_ 32 (d := d_law_quoted) rfl
  obtain ⟨fd_law_run, F_law_run⟩ : ∃ fd, FunD K "_law_run" "_law_run" (defArgs s_law_run) (defBody s_law_run) (defScope s_law_run) [] [] (He.ga K "_law_run") fd := c.def_ 33 (d := d_law_run) rfl
  obtain ⟨fd_law_number, F_law_number⟩ : ∃ fd, FunD K "_law_number" "_law_number" (defArgs s_law_number) (defBody s_law_number) (defScope s_law_number) [] [] (He.ga K "_law_number") fd := c.def_ 34 (d := d_law_number) rfl
  obtain ⟨fd_law_go, F_law_go⟩ : ∃ fd, FunD K "_law_go" "_law_go" (defArgs s_law_go) (defBody s_law_go) (defScope s_law_go) [] [] (He.ga K "_law_go") fd := c.def_ 35 (d := d_law_go) rfl
  obtain ⟨fd_law_key, F_law_key⟩ : ∃ fd, FunD K "_law_key" "_law_key" (defArgs s_law_key) (defBody s_law_key) (defScope s_law_key) [] [] (He.ga K "_law_key") fd := c.def_ 36 (d := d_law_key) rfl
  obtain ⟨fd_law_inner, F_law_inner⟩ : ∃ fd, FunD K "_law_inner" "_law_inner" (defArgs s_law_inner) (defBody s_law_inner) (defScope s_law_inner) [] [] (He.ga K "_law_inner") fd := c.def_ 37 (d := d_law_inner) rfl
  obtain ⟨fd_law_one, F_law_one⟩ : ∃ fd, FunD K "_law_one" "_law_one" (defArgs s_law_one) (defBody s_law_one) (defScope s_law_one) [] [] (He.ga K "_law_one") fd := c.def_ 38 (d := d_law_one) rfl
  obtain ⟨fd_law_bent, F_law_bent⟩ : ∃ fd, FunD K "_law_bent" "_law_bent" (defArgs s_law_bent) (defBody s_law_bent) (defScope s_law_bent) [] [] (He.ga K "_law_bent") fd := c.def_ 39 (d := d_law_bent) rfl
  obtain ⟨fd_law_told, F_law_told⟩ : ∃ fd, FunD K "_law_told" "_law_told" (defArgs s_law_told) (defBody s_law_told) (defScope s_law_told) [] [] (He.ga K "_law_told") fd := c.def_ 40 (d := d_law_told) rfl
  obtain ⟨fd_law_deep_told, F_law_deep_told⟩ : ∃ fd, FunD K "_law_deep_told" "_law_deep_told" (defArgs s_law_deep_told) (defBody s_law_deep_told) (defScope s_law_deep_told) [] [] (He.ga K "_law_deep_told") fd := c.def_ 41 (d := d_law_deep_told) rfl
  obtain ⟨fd_law_deep_refused, F_law_deep_refused⟩ : ∃ fd, FunD K "_law_deep_refused" "_law_deep_refused" (defArgs s_law_deep_refused) (defBody s_law_deep_refused) (defScope s_law_deep_refused) [] [] (He.ga K "_law_deep_refused") fd := c.def_ 42 (d := d_law_deep_refused) rfl
  obtain ⟨fd_law_deep_right, F_law_deep_right⟩ : ∃ fd, FunD K "_law_deep_right" "_law_deep_right" (defArgs s_law_deep_right) (defBody s_law_deep_right) (defScope s_law_deep_right) [] [] (He.ga K "_law_deep_right") fd := c.def_ 43 (d := d_law_deep_right) rfl
  obtain ⟨fd_law, F_law⟩ : ∃ fd, FunD K "law" "law" (defArgs s_law) (defBody s_law) (defScope s_law) [] [] (He.ga K "law") fd := c.def_ 44 (d := d_law) rfl
  refine ⟨fd_law, fun s u => F_law.bindsA (ps := ["script"]) (b1 fun _ _ _ _ _ _ _ => rfl) s [u] rfl, fun base => ?_⟩
  have c_is_bare : Fn P w K mg base 2 "is_bare" [] spBare := fn_mk T.g_is_bare F_is_bare (ok_is_bare T  F_is_bare) (b1 fun _ _ _ _ _ _ _ => rfl)
  have c_sign_text : Fn P w K mg base 2 "sign_text" [] spSign := fn_mk T.g_sign_text F_sign_text (ok_sign_text T  F_sign_text) (b1 fun _ _ _ _ _ _ _ => rfl)
  have c_word_text : Fn P w K mg base 4 "word_text" [] spWord := fn_mk T.g_word_text F_word_text (ok_word_text T c_is_bare c_sign_text F_word_text) (b1 fun _ _ _ _ _ _ _ => rfl)
  have c_plain_text : Fn P w K mg base 5 "plain_text" [] spPlain := fn_mk T.g_plain_text F_plain_text (ok_plain_text T c_word_text F_plain_text) (b1 fun _ _ _ _ _ _ _ => rfl)
  have c_text_of : ∀ n : Nat, Fn P w K mg base (2 * n + 6) "text_of" [] (spText K n) := fun n => by
    induction n with
    | zero => exact fn_mk T.g_text_of F_text_of (no_ok (ps := ["thing", "deep"]) fun vs H Q E h => by obtain ⟨t, v, d, _, _, _, _, z, z0, _⟩ := h; exact absurd z (Int.not_lt.mpr z0)) (b2 fun _ _ _ _ _ _ _ _ => rfl)
    | succ n ih => exact fn_mk T.g_text_of F_text_of (ok_text_of T n c_plain_text c_word_text ih (fn_mk T.g_things_text F_things_text (ok_things_text T n ih F_things_text) (b2 fun _ _ _ _ _ _ _ _ => rfl)) F_text_of) (b2 fun _ _ _ _ _ _ _ _ => rfl)
  have ok_pt := ok_paper_text T (c_text_of 101) F_paper_text
  have c_paper_text : Fn P w K mg base 210 "paper_text" [.int 40] (spPaper K) := fn_kw T.g_paper_text F_paper_text ok_pt fun _ _ _ _ _ _ _ _ => ⟨_, _, _, _, _, _, rfl, rfl, rfl⟩
  have kw_paper_text0 : Kw P w K mg base 210 0 "paper_text" ["deep", "thing"] (fun _ b => b.reverse) (spPaper K) := kw_two T.g_paper_text F_paper_text ok_pt fun _ _ _ _ _ _ _ _ => rfl
  have kw_paper_text1 : Kw P w K mg base 210 1 "paper_text" ["deep"] (fun a b => a ++ b) (spPaper K) := kw_one T.g_paper_text F_paper_text ok_pt fun _ _ _ _ _ _ _ _ => rfl
  have i_NoText := ok_NoText_init T F_NoText_init (mg := mg) (base := base) (P := P) (w := w)
  have b_NoText : Binds K fd_NoText_init ["self", "row", "at"] [] := F_NoText_init.bindsN (b3 fun _ _ _ _ _ _ _ _ _ => rfl)
  have i_Strip : Ini P w K mg base 2 "Strip" (aStrip K) (spInit K) := ⟨_, _, _, T.g_Strip, T.mk_Strip, ok_Strip_init T F_Strip_init, F_Strip_init.bindsN (b2 fun _ _ _ _ _ _ _ _ => rfl)⟩
  have m_sign : Mt P w K mg base 2 (aStrip K) "sign" (spSgn K) := mt_mk T.c_Strip T.m_sign F_Strip_sign (ok_Strip_sign T  F_Strip_sign) (b1 fun _ _ _ _ _ _ _ => rfl)
  have m_must_be : Mt P w K mg base 5 (aStrip K) "must_be" (spMust K) := mt_mk T.c_Strip T.m_must_be F_Strip_must_be (ok_Strip_must_be T (fI := He.ga K "NoText") i_NoText b_NoText F_Strip_must_be) (b2 fun _ _ _ _ _ _ _ _ => rfl)
  have m_may : Mt P w K mg base 4 (aStrip K) "may" (spMay K) := mt_mk T.c_Strip T.m_may F_Strip_may (ok_Strip_may T m_sign F_Strip_may) (b2 fun _ _ _ _ _ _ _ _ => rfl)
  have m_run : Mt P w K mg base 4 (aStrip K) "run" (spRun K) := mt_mk T.c_Strip T.m_run F_Strip_run (ok_Strip_run T m_sign F_Strip_run) (b2 fun _ _ _ _ _ _ _ _ => rfl)
  have m_whole_number : Mt P w K mg base 7 (aStrip K) "whole_number" (spNum K) := mt_mk T.c_Strip T.m_whole_number F_Strip_whole_number (ok_Strip_whole_number T m_sign m_may m_must_be m_run F_Strip_whole_number) (b1 fun _ _ _ _ _ _ _ => rfl)
  have m_quoted : Mt P w K mg base 7 (aStrip K) "quoted" (spQuo K) := mt_mk T.c_Strip T.m_quoted F_Strip_quoted (ok_Strip_quoted T m_sign m_may m_must_be c_is_bare F_Strip_quoted) (b1 fun _ _ _ _ _ _ _ => rfl)
  have m_key : Mt P w K mg base 9 (aStrip K) "key" (spKey K) := mt_mk T.c_Strip T.m_key F_Strip_key (ok_Strip_key T m_sign m_must_be m_run m_quoted c_is_bare F_Strip_key) (b2 fun _ _ _ _ _ _ _ _ => rfl)
  have m_thing : ∀ n : Nat, Mt P w K mg base (2 * n + 10) (aStrip K) "thing" (spThing K n) := fun n => by
    induction n with
    | zero => exact mt_mk T.c_Strip T.m_thing F_Strip_thing (no_ok (ps := ["self", "deep"]) fun vs H Q E h => by obtain ⟨a, dx, W, i, d, _, z, _⟩ := h; exact Nat.not_lt_zero _ z) (b2 fun _ _ _ _ _ _ _ _ => rfl)
    | succ n ih =>
      exact mt_mk T.c_Strip T.m_thing F_Strip_thing (ok_Strip_thing T n m_sign m_must_be m_run m_quoted m_whole_number (mt_mk T.c_Strip T.m_things F_Strip_things (ok_Strip_things T n m_must_be m_may ih F_Strip_things) (b3 fun _ _ _ _ _ _ _ _ _ => rfl))
        (mt_mk T.c_Strip T.m_pairs F_Strip_pairs (ok_Strip_pairs T n m_must_be m_may m_key ih F_Strip_pairs) (b2 fun _ _ _ _ _ _ _ _ => rfl)) F_Strip_thing) (b2 fun _ _ _ _ _ _ _ _ => rfl)
  have ok_rp := ok_read_paper T i_Strip m_sign m_must_be (m_thing 101) F_read_paper
  have c_read_paper : Fn P w K mg base 214 "read_paper" [.int 40] (spRead K) := fn_kw T.g_read_paper F_read_paper ok_rp fun _ _ _ _ _ _ _ _ => ⟨_, _, _, _, _, _, rfl, rfl, rfl⟩
  have kw_read_paper0 : Kw P w K mg base 214 0 "read_paper" ["deep", "text"] (fun _ b => b.reverse) (spRead K) := kw_two T.g_read_paper F_read_paper ok_rp fun _ _ _ _ _ _ _ _ => rfl
  have kw_read_paper1 : Kw P w K mg base 214 1 "read_paper" ["deep"] (fun a b => a ++ b) (spRead K) := kw_one T.g_read_paper F_read_paper ok_rp fun _ _ _ _ _ _ _ _ => rfl
  have c_law_purse : Fn P w K mg base 2 "_law_purse" [] (spPurse (K := K)) := fn_mk T.g_law_purse F_law_purse (ok_law_purse T  F_law_purse) (b1 fun _ _ _ _ _ _ _ => rfl)
  have c_law_draw : Fn P w K mg base 2 "_law_draw" [] spDraw := fn_mk T.g_law_draw F_law_draw (ok_law_draw T  F_law_draw) (b2 fun _ _ _ _ _ _ _ _ => rfl)
  have c_law_text : Fn P w K mg base 4 "_law_text" [] spTextL := fn_mk T.g_law_text F_law_text (ok_law_text T c_law_draw F_law_text) (b1 fun _ _ _ _ _ _ _ => rfl)
  have c_law_plain : Fn P w K mg base 6 "_law_plain" [] spPlainL := fn_mk T.g_law_plain F_law_plain (ok_law_plain T c_law_draw c_law_text F_law_plain) (b1 fun _ _ _ _ _ _ _ => rfl)
  have c_law_is_bare : Fn P w K mg base 2 "_law_is_bare" [] spBare := fn_mk T.g_law_is_bare F_law_is_bare (ok_law_is_bare T  F_law_is_bare) (b1 fun _ _ _ _ _ _ _ => rfl)
  have c_law_word : Fn P w K mg base 4 "_law_word" [] spWord := fn_mk T.g_law_word F_law_word (ok_law_word T c_law_is_bare F_law_word) (b1 fun _ _ _ _ _ _ _ => rfl)
  have c_law_kind : Fn P w K mg base 2 "_law_kind" [] spKind := fn_mk T.g_law_kind F_law_kind (ok_law_kind T  F_law_kind) (b1 fun _ _ _ _ _ _ _ => rfl)
  have c_law_sign : Fn P w K mg base 2 "_law_sign" [] spLSign := fn_mk T.g_law_sign F_law_sign (ok_law_sign T  F_law_sign) (b1 fun _ _ _ _ _ _ _ => rfl)
  have c_law_broken : Fn P w K mg base 2 "_law_broken" [] spLBroken := fn_mk T.g_law_broken F_law_broken (ok_law_broken T  F_law_broken) (b2 fun _ _ _ _ _ _ _ _ => rfl)
  have c_law_run : Fn P w K mg base 4 "_law_run" [] spLRun := fn_mk T.g_law_run F_law_run (ok_law_run T c_law_sign F_law_run) (b2 fun _ _ _ _ _ _ _ _ => rfl)
  have c_law_go : Fn P w K mg base 4 "_law_go" [] spLGo := fn_mk T.g_law_go F_law_go (ok_law_go T c_law_sign c_law_broken F_law_go) (b2 fun _ _ _ _ _ _ _ _ => rfl)
  have c_law_number : Fn P w K mg base 6 "_law_number" [] spLNum := fn_mk T.g_law_number F_law_number (ok_law_number T c_law_sign c_law_broken c_law_run F_law_number) (b1 fun _ _ _ _ _ _ _ => rfl)
  have c_law_quoted : Fn P w K mg base 4 "_law_quoted" [] spLQuo := fn_mk T.g_law_quoted F_law_quoted (ok_law_quoted T c_law_sign c_law_broken c_law_is_bare F_law_quoted) (b1 fun _ _ _ _ _ _ _ => rfl)
  have c_law_key : Fn P w K mg base 6 "_law_key" [] spLKey := fn_mk T.g_law_key F_law_key (ok_law_key T c_law_sign c_law_broken c_law_run c_law_is_bare c_law_quoted F_law_key) (b2 fun _ _ _ _ _ _ _ _ => rfl)
  have c_law_one : ∀ n : Nat, Fn P w K mg base (2 * n + 8) "_law_one" [] (spLOne n) := fun n => by
    induction n with
    | zero => exact fn_mk T.g_law_one F_law_one (no_ok (ps := ["strip"]) fun vs H Q E h => by obtain ⟨a, W, i, _, _, _, _, z⟩ := h; exact z.elim) (b1 fun _ _ _ _ _ _ _ => rfl)
    | succ n ih => exact fn_mk T.g_law_one F_law_one (ok_law_one T n c_law_sign c_law_quoted c_law_run c_law_number (fn_mk T.g_law_inner F_law_inner (ok_law_inner T n c_law_sign c_law_go c_law_key ih F_law_inner) (b2 fun _ _ _ _ _ _ _ _ => rfl)) F_law_one) (b1 fun _ _ _ _ _ _ _ => rfl)
  have c_law_bent : Fn P w K mg base 4 "_law_bent" [] spBent := fn_mk T.g_law_bent F_law_bent (ok_law_bent T c_law_draw F_law_bent) (b2 fun _ _ _ _ _ _ _ _ => rfl)
  have c_law_told : Fn P w K mg base 216 "_law_told" [] (spTold K) := fn_mk T.g_law_told F_law_told (ok_law_told T c_read_paper F_law_told) (b1 fun _ _ _ _ _ _ _ => rfl)
  have c_law_deep_told : Fn P w K mg base 216 "_law_deep_told" [] (spDeepTold K) := fn_mk T.g_law_deep_told F_law_deep_told (ok_law_deep_told T kw_read_paper1 kw_paper_text1 F_law_deep_told) (b2 fun _ _ _ _ _ _ _ _ => rfl)
  have c_law_deep_refused : Fn P w K mg base 212 "_law_deep_refused" [] spDeepRef := fn_mk T.g_law_deep_refused F_law_deep_refused (ok_law_deep_refused T kw_paper_text1 F_law_deep_refused) (b2 fun _ _ _ _ _ _ _ _ => rfl)
  have c_law_deep_right : Fn P w K mg base 218 "_law_deep_right" [] spDeepRight := fn_mk T.g_law_deep_right F_law_deep_right (ok_law_deep_right T c_law_deep_told c_law_deep_refused F_law_deep_right) (b0 fun _ _ _ _ _ _ => rfl)
  have c_law_thing : ∀ n : Nat, Fn P w K mg base (n + 7) "_law_thing" [] (spThingL n) := fun n => by
    induction n with
    | zero => exact fn_mk T.g_law_thing F_law_thing (no_ok (ps := ["purse", "room_here"]) fun vs H Q E h => by obtain ⟨p, c, m, d, _, z, _⟩ := h; exact Nat.not_lt_zero _ z) (b2 fun _ _ _ _ _ _ _ _ => rfl)
    | succ n ih => exact fn_mk T.g_law_thing F_law_thing ((ok_law_thing T n c_law_draw c_law_text c_law_plain ih F_law_thing).mono (by omega)) (b2 fun _ _ _ _ _ _ _ _ => rfl)
  have c_law_spelt : ∀ n : Nat, Fn P w K mg base (n + 4) "_law_spelt" [] (spSpelt n) := fun n => by
    induction n with
    | zero => exact fn_mk T.g_law_spelt F_law_spelt (no_ok (ps := ["piece"]) fun vs H Q E h => by obtain ⟨t, v, _, _, _, _, z, _⟩ := h; exact Nat.not_lt_zero _ z) (b1 fun _ _ _ _ _ _ _ => rfl)
    | succ n ih => exact fn_mk T.g_law_spelt F_law_spelt ((ok_law_spelt T n c_law_word ih F_law_spelt).mono (by omega)) (b1 fun _ _ _ _ _ _ _ => rfl)
  have c_law_like : ∀ n : Nat, Fn P w K mg base (n + 2) "_law_like" [] (spLike n) := fun n => by
    induction n with
    | zero => exact fn_mk T.g_law_like F_law_like (no_ok (ps := ["one", "other"]) fun vs H Q E h => by obtain ⟨t, v, v1, _, _, _, _, z, _⟩ := h; exact Nat.not_lt_zero _ z) (b2 fun _ _ _ _ _ _ _ _ => rfl)
    | succ n ih => exact fn_mk T.g_law_like F_law_like ((ok_law_like T n c_law_kind ih F_law_like).mono (by omega)) (b2 fun _ _ _ _ _ _ _ _ => rfl)
  exact ok_law T c_law_purse c_law_deep_right (c_law_thing 5) (Fn.mono (c_law_spelt 41) (by omega)) c_law_draw c_law_bent (c_law_one 40) c_law_broken c_law_told (Fn.mono (c_law_like 41) (by omega)) c_paper_text F_law
end
theorem walk {l : PySem.W.OpenLaw} {q : Program} {loose : List Str} {XP : (Str → Option Value) → Heap → Prop} {YP : World → Heap → Prop} {d : DefRec} {K : Params → PySem.W.Frag} (hn : l.most = some 63) (hdf : d.params.defaults = []) (hnm : d.name = "law")
    (hY : ∀ (w : World) (h : Heap), YP w h → (K w.params).In h) (hS : ∀ w : World, Says w (K w.params)) :
    PySem.W.WalkO q loose XP YP l.row.toRowW d [] (fun f vs => PySem.call f vs) := by
  refine L2.walk_of (l := l) (n := 63) (k := 220) (x := "script") (CX := fun w => L2.CX l.prog w) (sp := fun w => spLaw (K w.params)) hn (by decide) hdf ⟨rfl, by decide +kernel, by decide +kernel⟩ hY ?_ (fun w H a ns hl _ hS => ⟨a, ns, rfl, hS, hl, fun _ => rfl⟩) (fun w H s e s' h => by
    obtain ⟨_, _, _, _, _, _, _, _, _, _, _, _, z⟩ := h
    exact z)
  intro w mg fa h X G hmg
  have T := tx_of X G (hS w)
  rw [hnm] at hmg
  have e := hmg.symm.trans T.g_law
  cases e
  obtain ⟨fd, hb, ok⟩ := law_ok (P := l.prog) T (hS w).t.d
  exact ⟨fd, hb, fun base _ _ => ok base⟩
end K97

set_option Elab.async false
set_option linter.all false
set_option maxRecDepth 100000
set_option maxHeartbeats 4000000
open PySem PySem.W PyProof.Rows
set_option maxRecDepth 100000 in
set_option maxHeartbeats 0 in
theorem PySem.Challenge.cw_loomkeeps_k97_texts_of_no_papers_holds : PySem.Challenge.rw_loomkeeps_k97_texts_of_no_papers.Holds := by
  w_on; o_law; k_head; (case hw => w_witness2)
  k_fill
  refine K97.walk (l := PySem.Challenge.rw_loomkeeps_k97_texts_of_no_papers) rfl rfl rfl (fun w h Y => PySem.W.kIn_of Y) ?hS
  case hS =>
    intro w
    refine ⟨?t, ?e⟩
    case t =>
      show He.obsT K97.fa K97.fn K97.ts _ = He.valT K97.fn K97.ts w
      kernel_rfl
    case e =>
      kernel_rfl
