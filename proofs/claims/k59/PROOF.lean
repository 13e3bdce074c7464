import PyProof.Rows.All
import Wide.All
import OpenK.AllK
import Wide.FinOn
import KE.KStateDown
import HandS.ForMost
import HandS.Exc
import HandS.Wide
import HandS.WideBits
import HandS.IsInst
import HandS.Style
import HandS.RaiseMore
import HandS.Defaults
import HandS.Evl
import HandS.EndBits
import HandS.Words
import HandS.WordsExc
import HandS.Head0
import HandS.Head1
import HandS.Head2
import HandS.HeadEnd
import HandS.HeadHook1
import HandS.HeadHook2
import PyProof.FString3
import HandS.FStr
import PyProof.Rows.StrIntSpec
import HandS.HeadHook3
import HandS.Star
import HandS.Text
import HandS.Walk
import KE.GoesMore
import PyProof.LongRange
import HandS.Conv
import PyProof.StrLawsRepr
import PyProof.InstSpecial
import HandS.OwnEq
import KE.KFmtOwn
import PyProof.InstNe
import HandS.SetBool
import HandS.Strs
import HandS.SortInts
import HandS.Zip
import HandS.TupAny
import HandS.ExcInit
import HandS.HotCalls
import HandS.ExcIs
import HandS.ExcField
import KE.KTryMore
import KE.KExcInit
import HandS.SetFor
import HandS.EndTab
import HandS.HeadHook4
import OpenK.KOps
import HandS.Replace
import PyProof.MeetsIn
import PyProof.ReprNest
import PyProof.ReprDict
import HandS.DeepEq
import PyProof.NeKinds
import KE.KMulAny
import KE.KCallOwn
import HandS.Dict
import HandS.Deep
import KE.IntTextLaws
import PySem.Challenge.RW_sizestacks_k59_values_of_any_kind_judged
set_option Elab.async false
set_option linter.all false
set_option maxRecDepth 100000
set_option maxHeartbeats 4000000
set_option exponentiation.threshold 20000
/-! Own base: a def by its promise, a few rules more. -/
namespace Sz
open PySem PySem.Spec PyProof.Rows L2

/-- a def of the text, by its name -/
def DefAt (K : PySem.W.Frag) (mg : Str → Option Value) (x : Str) (st : Stmt) : Prop :=
  ∃ f fd, FunD K x x (defArgs st) (defBody st) (defScope st) [] [] f fd ∧ mg x = some (.ref f)

/-- the def named x keeps the promise sp -/
structure Prom (P : Program) (w : World) (K : PySem.W.Frag) (mg : Str → Option Value) (base : Heap) (CX : CXT) (k : Nat) (x : Str) (st : Stmt) (ps : List Str) (sp : Sp) : Prop where
  ex : ∃ f fd, FnOk P w K mg base CX k f fd ps sp ∧ mg x = some (.ref f) ∧ FunD K x x (defArgs st) (defBody st) (defScope st) [] [] f fd ∧ Binds K fd ps []

section
variable {P : Program} {w : World} {K : PySem.W.Frag} {mg : Str → Option Value} {base : Heap}
theorem Prom.of {x : Str} {st : Stmt} {ps N : List Str} {sp : Sp} {k : Nat} (D : DefAt K mg x st) (S : FnScope N ps (defScope st)) (len : ∀ vs H Q E, sp vs H Q E → vs.length = ps.length)
    (hb : ∀ (kV doc pm : Value) (an : Option Addr) (cdv ct : Value) (us : List Value), us.length = ps.length → bindArgs (PySem.W.fnOf x x (defArgs st) (defBody st) (defScope st) .none kV doc pm an cdv ct) ⟨us, []⟩ = pure (ps.zip us))
    (hbody : ∀ (f : Addr) (cdv : Value) (A : Around) (outer : List Env) (s : Shared) (H : Hp) (vs : List V) (Q : VK) (E : XK), Room k (A.deeper (envOfC x (defScope st) s.heap.objs.size f cdv)) → sp vs H Q E →
      ∃ t, PSs (cxOf CX0 P w K mg base N x (defScope st) f cdv A outer s H E).nox (defBody st) t ∧ t { nx := fun _ H' => Q .non H', rt := Q } (start N vs) H) :
    Prom P w K mg base CX0 (k + 1) x st ps sp := by
  obtain ⟨f, fd, F, hm⟩ := D
  refine ⟨f, fd, F.ok S len (fun cdv A outer s H vs Q E hr hs => ?_), hm, F, F.bindsN hb⟩
  obtain ⟨t, h1, h2⟩ := hbody f cdv A outer s H vs Q E hr hs
  exact ⟨t, h1.nox, h2⟩
end

section
variable {X : Cx} {CX : CXT} {k : Nat} {x : Str} {st : Stmt} {ps : List Str} {sp : Sp} {E : XK} {e : Expr} {es : List Expr} {t tk : TA} {p pos : Pos} {kws : List Keyword} {ks : List Str}
theorem pe_callP (G : Prom X.prog X.w X.K X.mg X.base CX k x st ps sp) (hr : Room k X.A) (hg : Gl X x) (hx : Passes CX X E) (ha : PA X (e :: es) t)
    (hdb : (x == ("__debug__" : Str)) = false := by decide) (he : starEach (e :: es) X.env = (false, eval e X.env) :: starEach es X.env := by rfl) (hpl : (backTo pos (starEach es X.env)).any (·.1) = false := by rfl) :
    PE X (.Call (.Name x p) (e :: es) [] pos) (tCall sp [] E t) := by
  obtain ⟨f, fd, F, hm, D, hb⟩ := G.ex
  exact pe_call F hr hg hm D.kp hb .nil hx ha hdb he hpl
/-- f(k = v, ..), keywords alone -/
theorem pe_callKP {g : List Value → List Value → List Value} {gV : List V → List V → List V} (G : Prom X.prog X.w X.K X.mg X.base CX k x st ps sp) (hr : Room k X.A) (hg : Gl X x) 
    (hb : ∀ fd f, FunD X.K x x (defArgs st) (defBody st) (defScope st) [] [] f fd → KBinds X.K fd ps ks g gV) (hx : Passes CX X E)
    (hkw : PK X kws tk) (hall : (backToKw pos (keywordEach kws X.env)).all (·.1.isSome) = true := by rfl) (hks : (backToKw pos (keywordEach kws X.env)).filterMap (·.1) = ks := by rfl)
    (hdb : (x == ("__debug__" : Str)) = false := by decide)
    (hpl : ((backTo pos (starEach [] X.env)).any (·.1) || (backToKw pos (keywordEach kws X.env)).any (·.1.isNone)) = false := by rfl) :
    PE X (.Call (.Name x p) [] kws pos) (tCallK sp gV E tNil tk) := by
  obtain ⟨f, fd, F, hm, D, _⟩ := G.ex
  have hb := hb fd f D
  refine ⟨fun pins s σ H Q I h => ?_⟩
  refine wpAny_Call_Name_kw (ld_glob I hg hm ?_ hdb)
  refine PySem.W.callWith_KW0 (h₀ := X.base) I.ok.mod.kin D.kp hall (thn (hkw.run pos pins s σ H _ I h) fun ws s2 z => ?_) hpl
  obtain ⟨zs, H2, I2, rz, q2⟩ := z
  refine ⟨I2.kIn, ?_⟩
  rw [hks]
  exact run_fnk F hr hb hx I2 .nil rz q2
/-- the keywords' values put in the parameters' order -/
def perm {α : Type} (ix : List Nat) (us ws : List α) : List α := match us with
  | [] => if ws.length = ix.length then ix.filterMap fun i => ws[i]? else []
  | _ :: _ => []
theorem perm_vals {ix : List Nat} {vs zs : List V} {us ws : List Value} (r : Vals vs us) (z : Vals zs ws) : Vals (perm ix vs zs) (perm ix us ws) := by
  cases r with
  | cons _ _ => exact .nil
  | nil =>
    show Vals (if zs.length = ix.length then _ else _) (if ws.length = ix.length then _ else _)
    rw [z.length]
    by_cases c : ws.length = ix.length
    · rw [if_pos c, if_pos c]
      clear c
      induction ix with
      | nil => exact .nil
      | cons i ix ih =>
        rw [List.filterMap_cons, List.filterMap_cons]
        cases e : zs[i]? with
        | none =>
          rw [z.none_of e]
          exact ih
        | some v =>
          obtain ⟨u, hu, rv⟩ := z.get e
          rw [hu]
          exact .cons rv ih
    · rw [if_neg c, if_neg c]
      exact .nil
theorem kb_of {K : PySem.W.Frag} (ix : List Nat) (hne : 0 < ps.length)
    (h : ∀ (kV doc pm : Value) (an : Option Addr) (cdv ct : Value) (ws : List Value), ws.length = ix.length → bindArgs (PySem.W.fnOf x x (defArgs st) (defBody st) (defScope st) .none kV doc pm an cdv ct) ⟨[], ks.zip ws⟩ = pure (ps.zip (perm ix [] ws))) :
    ∀ fd f, FunD K x x (defArgs st) (defBody st) (defScope st) [] [] f fd → KBinds K fd ps ks (perm ix) (perm ix) := fun fd f F => by
  obtain ⟨oc, od, dV, kV, doc, pm, an, cdv, ct, osl, rfl, lk, hcd, hD, hK⟩ := F.ex
  rcases hD with ⟨_, rfl⟩ | ⟨e, _⟩
  · refine ⟨fun s us ws _ hl => ?_, fun r z => perm_vals r z⟩
    cases us with
    | cons u us =>
      have e0 : (perm ix (u :: us) ws).length = 0 := rfl
      omega
    | nil =>
      by_cases c : ws.length = ix.length
      · exact .of_eq (h kV doc pm an cdv ct ws c)
      · have e0 : perm ix [] ws = [] := if_neg c
        rw [e0] at hl
        simp at hl
        omega
  · exact absurd rfl e
/-- a constant of the module -/
theorem pe_gint {v : Int} (h : ∃ u, X.mg x = some (.int v u)) (hg : Gl X x := by rfl) (hd : (x == ("__debug__" : Str)) = false := by decide) : PE X (.Name x pos) (tC (.int v)) := by
  obtain ⟨u, hm⟩ := h
  exact pe_glob hg hm ⟨_, rfl⟩ hd
theorem op_isnotBl : OpR X (compareOp .IsNot) (fun x y H Q => ∃ b : Bool, y = .bl b ∧ Q (.bl (!decide (x = .bl b))) H) := by
  intro pins s σ H x y v u Q I rx ry h
  obtain ⟨b, rfl, q⟩ := h
  cases (show u = Value.bool b from ry)
  have key : plainIs v (Value.bool b) = true ∧ (v = Value.bool b ↔ x = .bl b) := by
    cases x with
    | non => cases (show v = Value.none from rx); exact ⟨rfl, by constructor <;> intro z <;> cases z⟩
    | bl c => cases (show v = Value.bool c from rx); exact ⟨rfl, by constructor <;> intro z <;> cases z <;> rfl⟩
    | int i => obtain ⟨t, rfl⟩ := (show ∃ t, v = Value.int i t from rx); exact ⟨rfl, by constructor <;> intro z <;> cases z⟩
    | str i => obtain ⟨t, rfl⟩ := (show ∃ t, v = Value.str i t from rx); exact ⟨rfl, by constructor <;> intro z <;> cases z⟩
    | byt i => obtain ⟨t, rfl⟩ := (show ∃ t, v = Value.bytes i t from rx); exact ⟨rfl, by constructor <;> intro z <;> cases z⟩
    | flt i => obtain ⟨t, rfl⟩ := (show ∃ t, v = Value.float i t from rx); exact ⟨rfl, by constructor <;> intro z <;> cases z⟩
    | ref a => cases (show v = Value.ref a from rx); exact ⟨rfl, by constructor <;> intro z <;> cases z⟩
    | ty n => cases (show v = Value.type n from rx); exact ⟨rfl, by constructor <;> intro z <;> cases z⟩
  by_cases e : x = .bl b
  · have ev := key.2.mpr e
    subst ev
    exact wpAny_isNot_self rfl ⟨.bl false, H, I, rfl, by simpa [e] using q⟩
  · exact wpAny_isNot_other key.1 (fun z => e (key.2.mp z)) ⟨.bl true, H, I, rfl, by simpa [e] using q⟩
/-- repr of a flat value -/
def flatShown : V → Option Str
  | .non => some "None"
  | .bl b => some (if b then "True" else "False")
  | .int i => if i.natAbs.log2 < 1920 then some (toString i) else none
  | _ => none
theorem cr_repr : CallR X (.builtin "repr") (fun xs H Q => ∃ v z, xs = [v] ∧ flatShown v = some z ∧ Q (.str z) H) := by
  intro pins s σ H xs us Q I r h
  obtain ⟨v, z, rfl, hz, q⟩ := h
  obtain ⟨u, rfl, ru⟩ := vals1 r
  cases v with
  | non =>
    cases (show u = Value.none from ru)
    obtain rfl : ("None" : Str) = z := Option.some.inj hz
    exact PySem.P.repr_of_none ⟨.str _, H, I.tok _, ⟨_, rfl⟩, q⟩
  | bl b =>
    cases (show u = Value.bool b from ru)
    obtain rfl : (if b then "True" else "False" : Str) = z := Option.some.inj hz
    exact PySem.P.repr_of_bool ⟨.str _, H, I.tok _, ⟨_, rfl⟩, q⟩
  | int i =>
    obtain ⟨t, rfl⟩ := (show ∃ t, u = Value.int i t from ru)
    have hz2 : (if i.natAbs.log2 < 1920 then some (toString i : Str) else none) = some z := hz
    by_cases c : i.natAbs.log2 < 1920
    · rw [if_pos c] at hz2
      obtain rfl := Option.some.inj hz2
      exact PySem.P.repr_of_int c ⟨.str _, H, I.tok _, ⟨_, rfl⟩, q⟩
    · rw [if_neg c] at hz2
      cases hz2
  | _ => cases hz
/-- a power of any size that the model takes -/
def CPowW (i j : Int) : Prop := 1 < i ∧ 0 < j ∧ ∃ n : Nat, i.natAbs < 2 ^ n ∧ (n : Int) * j ≤ 134217728
theorem op_powW : OpR X (binaryOp .Pow) (rI CPowW fun i j => .int (i ^ j.toNat)) := opI fun i j t u s Q E hc q => by
  obtain ⟨h1, h2, n, h3, h4⟩ := hc
  have hb : ¬ Builtin.Int.intTooBig (((Builtin.Int.intBits i : Nat) : Int) * j) = true := by
    have e : bitsLine = 134217728 := by decide
    have b := PyProof.Rows.intBits_le h3
    have m : ((Builtin.Int.intBits i : Nat) : Int) * j ≤ (n : Int) * j := Int.mul_le_mul_of_nonneg_right (by omega) (by omega)
    unfold Builtin.Int.intTooBig
    rw [decide_eq_true_eq, e]
    omega
  refine PySem.AutoIntOps.pow_4 (by omega) (by simpa using (show ¬ j = 0 by omega)) (by simpa using (show ¬ i = 0 ∧ ¬ i = 1 by omega)) (by simpa using (show ¬ i = -1 by omega)) hb ?_
  exact q
/-- divmod by a positive number of at most 30 figures -/
theorem divp_small {i j : Int} (h : 0 < j) (h2 : j ≤ 1000000000000000000000000000000) : CDivP i j := by
  refine ⟨h, PyProof.noPylong_of_log2 ?_⟩
  have h3 : j.natAbs < 2 ^ 200 := Nat.lt_of_le_of_lt (show j.natAbs ≤ 1000000000000000000000000000000 by omega) (by decide)
  exact Nat.lt_of_lt_of_le (PySem.Flt.log2_lt_of (by decide) h3) (by decide)
end
/-! ### what an if's test says -/
theorem ifd {c A B : Prop} [Decidable c] (h1 : c → A) (h2 : ¬ c → B) : if decide c = true then A else B := by
  by_cases h : c
  · rw [decide_eq_true h, if_pos rfl]; exact h1 h
  · rw [decide_eq_false h, if_neg Bool.false_ne_true]; exact h2 h
theorem ifd_pos {c A B : Prop} [Decidable c] (h : c) (hA : A) : if decide c = true then A else B := by
  rw [decide_eq_true h, if_pos rfl]; exact hA
theorem ifd_neg {c A B : Prop} [Decidable c] (h : ¬ c) (hB : B) : if decide c = true then A else B := by
  rw [decide_eq_false h, if_neg Bool.false_ne_true]; exact hB
theorem ifn {c A B : Prop} [Decidable c] (h1 : ¬ c → A) (h2 : c → B) : if (!decide c) = true then A else B := by
  by_cases h : c
  · rw [decide_eq_true h]; exact h2 h
  · rw [decide_eq_false h]; exact h1 h
/-- all but p stands as it stood -/
def Kp (p : Addr) (H H' : Hp) : Prop := ∀ b o, b ≠ p → H b = some o → H' b = some o
theorem Kp.refl (p : Addr) (H : Hp) : Kp p H H := fun _ _ _ h => h
theorem Kp.trans {p : Addr} {H H1 H2 : Hp} (a : Kp p H H1) (b : Kp p H1 H2) : Kp p H H2 := fun c o n h => b c o n (a c o n h)
theorem Kp.set {p : Addr} {H H' : Hp} {o : HO} (a : Kp p H H') : Kp p H (L2.upd H' p o) := fun b u n h => by
  rw [upd_ne n]
  exact a b u n h
theorem Kp.new {p q : Addr} {H H' : Hp} {o : HO} (a : Kp p H H') (h : H' q = none) : Kp p H (upd H' q o) := fun b u n e => by
  have e2 := a b u n e
  rw [upd_ne (ne_of_none e2 h)]
  exact e2
end Sz
/-! f"{x:>12}" of a number, " " * n -/
namespace Sz
open PySem PySem.Spec PyProof.Rows L2 PySem.Builtin PySem.Builtin.Float
def f12 : FormatSpec := { align := 62, width := some 12 }
theorem parse12 : parseFormatSpec (Str.ofString ">12").cps.toList "int" 62 = .ok f12 := by kernel_rfl
theorem gives12 (a : Int) (t u : Tok) (hd : a.natAbs.log2 < 1920) : Gives (Builtin.«int.__format__» ⟨[.int a t, .str (Str.ofString ">12") u], []⟩) (.str (intSpecText f12 a)) := by
  intro prog w A R s hq
  obtain ⟨hlen, hq⟩ := hq
  have hne : ((Str.ofString ">12").length == 0) = false := by decide
  have hasc : (((Str.ofString ">12").cps.toList.drop 1).any (· ≥ 128) || ((Str.ofString ">12").cps.getD 0 0 ≥ 128 && !([60, 62, 61, 94] : List Nat).contains ((Str.ofString ">12").cps.getD 1 0))) = false := by decide
  have hp := parse12
  have hty : f12.type.getD (if (Str.ofString ">12").cps.back? == some 0 then 0 else 100) = 100 := by decide
  generalize Str.ofString ">12" = spec at hne hasc hp hty ⊢
  unfold Builtin.«int.__format__»
  simp only [selfAndOne, noKeywords, Int.intOfSelf, asInt?, asStr?, List.isEmpty_nil, if_true, pure_bind, bind_pure, bind_assoc, hne, hasc, Bool.false_eq_true, if_false,
    show (Value.str spec u == Value.none) = false from rfl]
  refine wpAny_bind (wpAny_typeNameOf (T := "str") (typeIs_str _ _ _) (by decide) fun _ => ?_)
  refine wpAny_bind (wpAny_typeNameOfCut_int ?_)
  simp only [hp, hty]
  rw [if_pos (by decide)]
  show wpAny _ _ (do let r ← Builtin.overDigitLimit? a; _) _ _ _
  rw [PySem.overDigitLimit_small hd]
  refine wpAny_bind (wpAny_pure ?_)
  show wpAny _ _ (retStr _) _ _ _
  unfold retStr
  have e : ∀ (y : Str), intSpecText f12 a = y → y.length ≤ sizeLine ∧ R (.ok (.ret (.str y s.toks))) { s with toks := s.toks + 1 } := fun y hy => by
    subst hy
    exact ⟨hlen, hq⟩
  refine wpAny_bind (wpAny_mkStr (wpAny_pure (e _ ?_).2) (e _ ?_).1)
  · unfold intSpecText
    generalize Nat.toDigits 10 a.natAbs = ds
    generalize decide (a < 0) = ng
    rfl
  · unfold intSpecText
    generalize Nat.toDigits 10 a.natAbs = ds
    generalize decide (a < 0) = ng
    rfl
def spaces (k : Nat) : Str := ⟨(List.replicate k 32).toArray⟩
theorem spaces_len (k : Nat) : (spaces k).length = k := by
  show (List.replicate k 32).toArray.size = k
  simp
theorem fold_spaces : ∀ (k : Nat) (acc : Array Nat), (List.replicate k #[32]).foldl (· ++ ·) acc = acc ++ (List.replicate k 32).toArray
  | 0, acc => by simp
  | k + 1, acc => by
    rw [List.replicate_succ, List.foldl_cons, fold_spaces k, List.replicate_succ]
    apply Array.ext'
    simp
/-- the text of a number, at least twelve signs -/
def pad12 (i : Int) : Str := spaces (12 - (toString i : Str).length) ++ (toString i : Str)
theorem pad_eq {i : Int} (h : 0 ≤ i) : intSpecText f12 i = pad12 i := by
  obtain ⟨m, rfl⟩ : ∃ m : Nat, i = (m : Int) := ⟨i.toNat, by omega⟩
  have e : (toString (m : Int) : Str) = ⟨((Nat.toDigits 10 m).map Char.toNat).toArray⟩ := text_ofNat m
  unfold pad12
  rw [e]
  have hd : (Nat.toDigits 10 m) ≠ [] := by
    intro h
    have := Nat.length_repr_pos (n := m)
    unfold Nat.repr at this
    rw [h] at this
    simp at this
  unfold intSpecText
  have en : decide ((m : Int) < 0) = false := decide_eq_false (by omega)
  rw [en]
  have ea : (m : Int).natAbs = m := rfl
  rw [ea]
  have em : ((Nat.toDigits 10 m).map fun c => (if ((100 : Nat) == 88) = true then c.toUpper else c).toNat) = (Nat.toDigits 10 m).map Char.toNat := rfl
  rw [em]
  generalize hds : (Nat.toDigits 10 m).map Char.toNat = ds
  have hne : ds.isEmpty = false := by
    rw [← hds]
    cases h : Nat.toDigits 10 m with
    | nil => exact absurd h hd
    | cons _ _ => rfl
  have el : (Str.mk ds.toArray).length = ds.length := rfl
  unfold intField' spaces
  simp only [f12, hne, el]
  show Str.mk _ = Str.mk _ ++ Str.mk _
  rw [show ∀ a b : Array Nat, Str.mk a ++ Str.mk b = Str.mk (a ++ b) from fun _ _ => rfl]
  congr 1
  apply Array.ext'
  simp
section
variable {X : Cx}
def tFmt12 (te ts : TE) : TE := fun σ H Q => te σ H fun x H1 => ts σ H1 fun y H2 => ∃ i : Int, x = .int i ∧ y = .str (Str.ofString ">12") ∧ 0 ≤ i ∧ i.natAbs.log2 < 1920 ∧ (pad12 i).length ≤ sizeLine ∧ Q (.str (pad12 i)) H2
theorem pe_fmt12 {e spec : Expr} {te ts : TE} {pos : Pos} (he : PE X e te) (hs : PE X spec ts) : PE X (.FormattedValue e (-1) (some spec) pos) (tFmt12 te ts) := by
  refine ⟨fun pins s σ H Q I h => ?_⟩
  refine wpAny_FormattedValue_spec (thn (he.run pins s σ H _ I h) fun v s1 hv => ?_)
  obtain ⟨x, H1, I1, r1, q⟩ := hv
  refine thn (hs.run pins s1 σ H1 _ I1 q) fun u s2 hu => ?_
  obtain ⟨y, H2, I2, r2, i, rfl, rfl, i0, hd, hl, q⟩ := hu
  obtain ⟨t, rfl⟩ := r1
  obtain ⟨t2, rfl⟩ := r2
  refine ⟨_, t2, rfl, ?_⟩
  refine wpAny_formatField_spec (T := "int") (idf := "int.__format__") (x := pad12 i) (by decide) (fun s' => typeIs_int s' i t) PySem.F.slot_int_format PySem.F.entry_int_format (fun a b => PySem.F.args_int_format_2 a b) (fun u => ?_) ⟨.str (pad12 i), H2, (I2.tok _), ⟨_, rfl⟩, q⟩ (by decide) hl
  rw [← pad_eq i0]
  exact gives12 i t u hd
/-- f'..' of two parts or more, within a comprehension -/
def tJn (ts : List TE) : TE := fun σ H Q => tJs ts Str.empty σ H fun out H1 => Q (.str out) H1
theorem pe_joinedN {v1 v2 : Expr} {rest : List Expr} {ts : List TE} {pos : Pos} (h : PJ X (v1 :: v2 :: rest) ts) : PE X (.JoinedStr (v1 :: v2 :: rest) pos) (tJn ts) := pe_joined h
/-- " " * n -/
theorem op_mulS : OpR X (binaryOp .Mult) (fun x y H Q => ∃ n : Int, x = .str " " ∧ y = .int n ∧ -1000 ≤ n ∧ n ≤ 1000 ∧ Q (.str (spaces n.toNat)) H) := by
  intro pins s σ H x y v u Q I rx ry h
  obtain ⟨n, rfl, rfl, n0, n1, q⟩ := h
  obtain ⟨t, rfl⟩ := rx
  obtain ⟨t2, rfl⟩ := ry
  refine PySem.P.mul_str ?_ (fun h1 h2 => ?_) (fun h1 h2 => ?_) ?_
  · have h1 : ¬ n < -(2 ^ 63 : Int) := by omega
    have h2 : ¬ n ≥ 2 ^ 63 := by omega
    rw [decide_eq_false h1, decide_eq_false h2]
    rfl
  · have e : ((" " : Str).length : Int) = 1 := by decide
    rw [e]
    have : n * 1 ≤ 2 ^ 63 - 1 := by omega
    have := Int.le_ediv_of_mul_le (show 0 < n by omega) (a := 1) (b := 2 ^ 63 - 1) (by omega)
    omega
  · have e : (" " : Str).length = 1 := by decide
    rw [e]
    unfold PySem.Builtin.Str.tooLong
    exact decide_eq_false (by rw [sizeLine_eq]; omega)
  · by_cases c : n < 1
    · rw [if_pos c]
      have e : n.toNat = 0 := by omega
      rw [e] at q
      exact ⟨by decide, .str _, H, I.tok _, ⟨_, rfl⟩, q⟩
    · rw [if_neg c]
      by_cases d : n = 1
      · subst d
        rw [if_pos (by decide)]
        exact ⟨.str _, H, I, ⟨_, rfl⟩, q⟩
      · rw [if_neg (by simp [d]; decide)]
        have e : (⟨(List.replicate n.toNat (" " : Str).cps).foldl (· ++ ·) #[]⟩ : Str) = spaces n.toNat := by
          show Str.mk ((List.replicate n.toNat #[32]).foldl (· ++ ·) #[]) = _
          rw [fold_spaces]
          simp [spaces]
        rw [e]
        exact ⟨by rw [spaces_len, sizeLine_eq]; omega, .str _, H, I.tok _, ⟨_, rfl⟩, q⟩
end
end Sz
namespace Sz
open PySem PySem.Spec PyProof.Rows L2
/-! ### defs that show containers: nothing is being shown around their call -/
structure FnG (P : Program) (w : World) (K : PySem.W.Frag) (mg : Str → Option Value) (base : Heap) (k : Nat) (f : Addr) (fd : FuncData) (ps : List Str) (sp : Sp) : Prop where
  len : ∀ vs H Q E, sp vs H Q E → vs.length = ps.length
  run : ∀ (A : Around) (outer : List Env) (s : Shared) (H : Hp) (args : Args) (us : List Value) (vs : List V) (Q : VK) (E : XK), Room k A → A.guards = some [] → Env0 P w K mg base A outer s H →
    BindsTo s fd args (ps.zip us) → Vals vs us → sp vs H Q E → codeAny (model P w) A (.call (.ref f) args) (CR CX0 outer P w H s Q E) s
theorem FnG.of {P : Program} {w : World} {K : PySem.W.Frag} {mg : Str → Option Value} {base : Heap} {k : Nat} {f : Addr} {fd : FuncData} {ps : List Str} {sp : Sp} (F : FnOk P w K mg base CX0 k f fd ps sp) : FnG P w K mg base k f fd ps sp :=
  ⟨F.len, fun A outer s H args us vs Q E hr _ e0 hb r h => F.run A outer s H args us vs Q E hr e0 hb r h⟩
/-- from the body -/
theorem fnG_of {P : Program} {w : World} {K : PySem.W.Frag} {mg : Str → Option Value} {base : Heap} {k : Nat} {f : Addr} {x q : Str} {pr : Arguments} {bd : List Stmt} {sc : Scope} {dvs : List V} {kws : List (Str × V)} {fd : FuncData} {N ps : List Str} {sp : Sp}
    (F : FunD K x q pr bd sc dvs kws f fd) (S : FnScope N ps sc) (len : ∀ vs H Q E, sp vs H Q E → vs.length = ps.length)
    (hbody : ∀ (cdv : Value) (A : Around) (outer : List Env) (s : Shared) (H : Hp) (vs : List V) (Q : VK) (E : XK), Room k (A.deeper (envOfC q sc s.heap.objs.size f cdv)) → (A.deeper (envOfC q sc s.heap.objs.size f cdv)).guards = some [] → sp vs H Q E →
      ∃ t, PSs (cxOf CX0 P w K mg base N q sc f cdv A outer s H E).nox bd t ∧ t { nx := fun _ H' => Q .non H', rt := Q } (start N vs) H) : FnG P w K mg base (k + 1) f fd ps sp := by
  obtain ⟨c1, c2, c3, c4, c5, c6, c7, cdv, c9, c10, rfl, look, code, _, _⟩ := F.ex
  refine ⟨len, fun A outer s H args us vs Q E room gd e0 hbind rel want => ?_⟩
  have old : ∀ b o, base.get? b = some o → s.heap.get? b = some o := fun b o e => (e0.bs b o e).1
  have inK : K.In s.heap := e0.mod.kin.keeps old
  have kinds : ∀ y ∈ ps.zip us, sc.names.lookup y.1 = some .local ∨ (sc.names.lookup y.1 = some .cell ∧ ((cellsFrom (s.heap.objs.size + 1) sc.names []).lookup y.1).isSome = true) := by
    rintro ⟨n, v⟩ hy
    have hm : n ∈ ps := (List.of_mem_zip hy).1
    cases S.par n hm with
    | inl z => exact Or.inl z
    | inr z => exact Or.inr ⟨z, PySem.W.cellsFrom_some _ _ _ (.inl z)⟩
  obtain ⟨t, dt, rt⟩ := hbody cdv A outer s H vs Q E (room.deeper _) gd want
  have dt := dt.nox
  refine codeAny_call_function room.depth (inK _ _ look) rfl S.co S.gen rfl (PySem.W.codeRec_of inK code) ?_
  refine hbind _ _ _ _ (wpAny_newFunctionEnv_cells S.kind kinds ?_)
  rintro _ rfl s1 ic
  refine ⟨(e0.mod.nolimit.keeps old).keeps ic.toInCall.keep, codeAny_func ?_⟩
  refine wpAny_mono (dt.run [] s1 (start N vs) H _ (inv_start S room.hd e0 (len _ _ _ _ want) rel ic) rt) ?_ (fun _ _ z => z)
  intro fl s' hs
  cases fl with
  | ret u => exact let ⟨v, _, H', J, rv, qv⟩ := hs; ⟨v, H', J.os, J.bare, J.base, J.hok, rv, qv⟩
  | next => exact let ⟨_, H', J, qv⟩ := hs; ⟨.non, H', J.os, J.bare, J.base, J.hok, rfl, qv⟩
  | brk => exact let ⟨_, _, _, qv⟩ := hs; False.elim qv
  | cont => exact let ⟨_, _, _, qv⟩ := hs; False.elim qv
/-- the def named x keeps the promise sp where nothing is being shown -/
structure PromG (P : Program) (w : World) (K : PySem.W.Frag) (mg : Str → Option Value) (base : Heap) (k : Nat) (x : Str) (st : Stmt) (ps : List Str) (sp : Sp) : Prop where
  ex : ∃ f fd, FnG P w K mg base k f fd ps sp ∧ mg x = some (.ref f) ∧ FunD K x x (defArgs st) (defBody st) (defScope st) [] [] f fd ∧ Binds K fd ps []
section
variable {P : Program} {w : World} {K : PySem.W.Frag} {mg : Str → Option Value} {base : Heap}
theorem PromG.of {x : Str} {st : Stmt} {ps N : List Str} {sp : Sp} {k : Nat} (D : DefAt K mg x st) (S : FnScope N ps (defScope st)) (len : ∀ vs H Q E, sp vs H Q E → vs.length = ps.length)
    (hb : ∀ (kV doc pm : Value) (an : Option Addr) (cdv ct : Value) (us : List Value), us.length = ps.length → bindArgs (PySem.W.fnOf x x (defArgs st) (defBody st) (defScope st) .none kV doc pm an cdv ct) ⟨us, []⟩ = pure (ps.zip us))
    (hbody : ∀ (f : Addr) (cdv : Value) (A : Around) (outer : List Env) (s : Shared) (H : Hp) (vs : List V) (Q : VK) (E : XK), Room k (A.deeper (envOfC x (defScope st) s.heap.objs.size f cdv)) → (A.deeper (envOfC x (defScope st) s.heap.objs.size f cdv)).guards = some [] → sp vs H Q E →
      ∃ t, PSs (cxOf CX0 P w K mg base N x (defScope st) f cdv A outer s H E).nox (defBody st) t ∧ t { nx := fun _ H' => Q .non H', rt := Q } (start N vs) H) :
    PromG P w K mg base (k + 1) x st ps sp := by
  obtain ⟨f, fd, F, hm⟩ := D
  exact ⟨f, fd, fnG_of F S len (fun cdv A outer s H vs Q E hr hg hs => hbody f cdv A outer s H vs Q E hr hg hs), hm, F, F.bindsN hb⟩
theorem Prom.g {x : Str} {st : Stmt} {ps : List Str} {sp : Sp} {k : Nat} (G : Prom P w K mg base CX0 k x st ps sp) : PromG P w K mg base k x st ps sp := by
  obtain ⟨f, fd, F, r⟩ := G.ex
  exact ⟨f, fd, FnG.of F, r⟩
end
section
variable {X : Cx} {k : Nat} {x : Str} {st : Stmt} {ps : List Str} {sp : Sp} {e : Expr} {es : List Expr} {t : TA} {p pos : Pos}
/-- f(..) of such a def -/
theorem pe_callG (G : PromG X.prog X.w X.K X.mg X.base k x st ps sp) (gd : X.A.guards = some []) (hr : Room k X.A) (hg : Gl X x) (ha : PA X (e :: es) t)
    (hdb : (x == ("__debug__" : Str)) = false := by decide) (he : starEach (e :: es) X.env = (false, eval e X.env) :: starEach es X.env := by rfl) (hpl : (backTo pos (starEach es X.env)).any (·.1) = false := by rfl) :
    PE X (.Call (.Name x p) (e :: es) [] pos) (tCall sp [] E0 t) := by
  obtain ⟨f, fd, F, hm, D, hb⟩ := G.ex
  constructor
  intro pins s σ H Q I h
  refine wpAny_Call_Name_kw (ld_glob I hg hm (PySem.W.callWith_K (h₀ := X.base) I.ok.mod.kin D.kp (thn (ha.run pos pins s σ H _ I h) ?_) he hpl) hdb)
  rintro us s1 ⟨vs, H1, I1, rel, want⟩
  refine ⟨I1.kIn, wpAny_call (codeAny_mono (F.run X.A X.stack s1 H1 ⟨us, []⟩ (us ++ []) (vs ++ []) Q E0 hr gd I1.env0 (hb s1 us I1.kIn ?_) (rel.append .nil) want) ?_)⟩
  · rw [← (rel.append Paired.nil).length]
    exact F.len _ _ _ _ want
  · intro r s' hq
    cases r with
    | error z => exact False.elim hq
    | ok fl =>
      cases fl with
      | ret u => exact I1.after hq
      | next => exact False.elim hq
      | brk => exact False.elim hq
      | cont => exact False.elim hq
/-- repr of data at any depth -/
theorem cr_reprD (gd : X.A.guards = some []) (hu : X.A.units + 64 < cLine) : CallR X (.builtin "repr") (fun xs H Q => ∃ (a : Addr) (d : PyData), xs = [.ref a] ∧ Dp X.K H (.ref a) d ∧ d.showable = true ∧ d.hasDict = false ∧ d.depth ≤ 40 ∧ d.shown.length ≤ sizeLine ∧ Q (.str d.shown) H) := by
  intro pins s σ H xs us Q I r h
  obtain ⟨a, d, rfl, hd, h1, h2, h3, h4, q⟩ := h
  obtain ⟨u, rfl, ru⟩ := vals1 r
  obtain ⟨as, rd⟩ := Dp.reads I d _ u hd ru
  cases (show u = Value.ref a from ru)
  refine repr_of_reads' rd h1 (PyData.noDict_hsm h2) gd (by omega) (fun _ _ z => z) (fun h' tok tk kept => ?_) h4
  exact ⟨.str d.shown, H, I.kept (t' := tk) kept, ⟨_, rfl⟩, q⟩
end
/-! ### the law's call -/
section
variable {P : Program} {w : World} {K : PySem.W.Frag} {mg mb : Str → Option Value} {k : Nat} {fa a : Addr} {fd : FuncData} {x : Str} {sp : Sp} {st : Shared} {vs : List Value} {ns : List Int}
/-- the script as the law finds it -/
def scriptHp (K : PySem.W.Frag) (a : Addr) (vs : List Value) (ns : List Int) : Hp := fun b => if b = a ∧ K.lookup a = none then some (.frz { cls := .type "list", data := .seq vs.toArray } (.lst (ns.map V.int))) else none
theorem scriptHp_some {b : Addr} {u : HO} (h : scriptHp K a vs ns b = some u) : b = a ∧ K.lookup a = none ∧ u = .frz { cls := .type "list", data := .seq vs.toArray } (.lst (ns.map V.int)) := by
  unfold scriptHp at h
  by_cases c : b = a ∧ K.lookup a = none
  · rw [if_pos c] at h
    exact ⟨c.1, c.2, (Option.some.inj h).symm⟩
  · rw [if_neg c] at h
    cases h
theorem scriptHp_none {b : Addr} (h : b ≠ a) : scriptHp K a vs ns b = none := if_neg fun z => h z.1
theorem law_callG (KX : K.In st.heap) (gl : st.heap.Ns mainGlobals mg) (bl : st.heap.Ns builtinsNs mb) (bb : ∀ y : Str, y ≠ "__name__" → mb y = bootBuiltins y) (nl : st.heap.NoLimit) (gn : st.gens = #[])
    (ha : st.heap.get? a = some { cls := .type "list", data := .seq vs.toArray }) (hi : IntsAre vs ns) (hl : ns.length ≤ sizeLine) (room : Room k callerA)
    (F : ∀ base : Heap, K.In base → base.Ns mainGlobals mg → FnG P w K mg base k fa fd [x] sp) (bind1 : ∀ (s : Shared) (u : Value), BindsTo s fd ⟨[u], []⟩ [(x, u)])
    (want : ∀ H : Hp, SqL K H a (ns.map V.int) → sp [.ref a] H (fun v _ => v = .bl true) fun _ _ _ => False) :
    codeAny (model P w) callerA (.call (.ref fa) ⟨[.ref a], []⟩) (fun r s' => r = .ok (.ret (.bool true)) ∧ OldK st.heap s'.heap ∧ s'.os = st.os ∧ AllBare s'.gens) st := by
  have rel : Vals (ns.map V.int) vs := vals_ints hi
  have len : (ns.map V.int).length ≤ sizeLine := by rw [List.length_map]; exact hl
  generalize hH : scriptHp K a vs ns = H
  have sm : ∀ {b u}, H b = some u → b = a ∧ K.lookup a = none ∧ u = .frz { cls := .type "list", data := .seq vs.toArray } (.lst (ns.map V.int)) := fun {b u} e => by
    rw [← hH] at e
    exact scriptHp_some e
  have ok : HOk P w H st.heap := fun b u e => by
    obtain ⟨rfl, _, rfl⟩ := sm e
    exact ⟨ha, len, vs, _, rel, ha⟩
  have sq : SqL K H a (ns.map V.int) := by
    cases lk : K.lookup a with
    | none => exact Or.inl (Or.inr ⟨_, by rw [← hH]; exact if_pos ⟨rfl, lk⟩⟩)
    | some o =>
      have e := (KX a o lk).symm.trans ha
      cases e
      exact Or.inr ⟨_, vs.toArray, _, lk, rfl, rfl, rfl, by rw [List.size_toArray, ← rel.length]; exact len, by simpa using rel⟩
  have hid : ∀ {b o}, st.heap.get? b = some o → H b = none → (hidT st.heap H).get? b = some o := fun e n => hidT_get e n
  have free : ∀ {b : Addr} {m}, st.heap.Ns b m → H b = none := fun {b m} hn => by
    cases e : H b with
    | none => rfl
    | some u =>
      obtain ⟨rfl, _, _⟩ := sm e
      obtain ⟨o, es, ep, e1, e2, _⟩ := hn
      have z := ha.symm.trans e1
      cases z
      cases e2
  have ns1 : ∀ {b : Addr} {m}, st.heap.Ns b m → (hidT st.heap H).Ns b m := fun {b m} hn => by
    have fr := free hn
    obtain ⟨o, es, ep, e1, e2⟩ := hn
    exact ⟨o, es, ep, hid e1 fr, e2⟩
  have inB : K.In (hidT st.heap H) := fun b o e => hid (KX b o e) (by
    cases z : H b with
    | none => rfl
    | some u =>
      obtain ⟨rfl, z2, _⟩ := sm z
      rw [z2] at e
      cases e)
  have md : Mod K mg (hidT st.heap H) := ⟨inB, ns1 gl, ⟨mb, ns1 bl, bb⟩, let ⟨mc, c1, c2⟩ := nl; ⟨mc, ns1 c1, c2⟩⟩
  have env : Env0 P w K mg (hidT st.heap H) callerA [] st H := ⟨rfl, md, fun _ _ e => of_hidT e, Nat.le_of_eq (hidT_size _ _), trivial, fun b z => absurd (show b ∈ ([] : List Addr) from z) (by simp), ok, .of_eq gn⟩
  refine codeAny_mono ((F _ inB (ns1 gl)).run callerA [] st H ⟨[.ref a], []⟩ [.ref a] [.ref a] _ _ room rfl env (bind1 st (.ref a)) (.cons rfl .nil) (want H sq)) fun r s' h => ?_
  cases r with
  | error z => exact False.elim h
  | ok fl =>
    cases fl with
    | next => exact False.elim h
    | brk => exact False.elim h
    | cont => exact False.elim h
    | ret u =>
      obtain ⟨v, H', os, bare, un, ok', ru, qv⟩ := h
      cases (show v = .bl true from qv)
      cases (show u = Value.bool true from ru)
      refine ⟨rfl, OldK.of_keep ?_, os, bare⟩
      intro b o e
      cases z : H b with
      | none => exact un.keep b o e z (by intro y; exact absurd (show b ∈ ([] : List Addr) from y) (by simp)) (by simp)
      | some t =>
        obtain ⟨rfl, _, rfl⟩ := sm z
        have e2 := (ok' _ _ (un.frzs _ _ _ z)).1
        have e3 := ha.symm.trans e
        cases e3
        exact e2
end
/-- a law whose def is a PromG -/
theorem walk_ofG {l : PySem.W.OpenLaw} {n k : Nat} {q : Program} {loose : List Str} {XP : (Str → Option Value) → Heap → Prop} {YP : World → Heap → Prop} {d : DefRec} {x : Str}
    (hn : l.most = some n) (hn2 : n ≤ sizeLine) (hdf : d.params.defaults = []) (room : Room k callerA)
    (F : ∀ (w : World) (mg : Str → Option Value) (fa : Addr) (h : Heap), YP w h → h.Ns mainGlobals mg → mg d.name = some (.ref fa) →
      ∃ (K : PySem.W.Frag) (fd : FuncData) (sp : Sp), K.In h ∧ (∀ (s : Shared) (u : Value), BindsTo s fd ⟨[u], []⟩ [(x, u)]) ∧
        (∀ (H : Hp) (a : Addr) (ns : List Int), ns.length ≤ n → (∀ z ∈ ns, Builtin.Int.intBits z ≤ 1048576) → SqL K H a (ns.map V.int) → sp [.ref a] H (fun v _ => v = .bl true) fun _ _ _ => False) ∧
        ∀ base : Heap, K.In base → base.Ns mainGlobals mg → FnG l.prog w K mg base k fa fd [x] sp) :
    PySem.W.WalkO q loose XP YP l.row.toRowW d [] (fun f vs => PySem.call f vs) := by
  refine Att.attach_callB hn hdf fun w sA sB mg mb fa o pm cd doc a vs ns G Y ho hd hcd hmg hobj hints hlen hbits hg => ?_
  obtain ⟨K, fd, sp, KX, b1, want, hF⟩ := F w mg fa _ Y G.T.g hmg
  exact law_callG KX G.T.g G.T.b G.T.builtins G.T.nolimit hg hobj hints (Nat.le_trans hlen hn2) room hF b1 (fun H hS => want H a ns hlen hbits hS)
end Sz
namespace Sz
/-! ### powers -/
theorem pow_pos {b : Int} (hb : 1 ≤ b) : ∀ j : Nat, 1 ≤ b ^ j
  | 0 => by rw [Int.pow_zero]; exact Int.le_refl 1
  | j + 1 => by
    rw [Int.pow_succ]
    have ih := pow_pos hb j
    have h := Int.mul_le_mul ih hb (by omega) (by omega)
    omega
theorem pow_one (b : Int) : b ^ (0 + 1) = b := by rw [Int.pow_succ, Int.pow_zero, Int.one_mul]
theorem pow_step {b : Int} (hb : 1 ≤ b) (j : Nat) : b ^ j ≤ b ^ (j + 1) := by
  rw [Int.pow_succ]
  have h := Int.mul_le_mul_of_nonneg_left hb (show 0 ≤ b ^ j by have := pow_pos hb j; omega)
  omega
theorem pow_mono {b : Int} (hb : 1 ≤ b) {i : Nat} : ∀ {j : Nat}, i ≤ j → b ^ i ≤ b ^ j
  | 0, h => by
    have e : i = 0 := by omega
    rw [e]
    exact Int.le_refl _
  | j + 1, h => by
    by_cases e : i = j + 1
    · rw [e]
      exact Int.le_refl _
    · exact Int.le_trans (pow_mono hb (j := j) (by omega)) (pow_step hb j)
theorem pow_lt {b : Int} (hb : 2 ≤ b) (j : Nat) : b ^ j < b ^ (j + 1) := by
  rw [Int.pow_succ]
  have h1 := pow_pos (show 1 ≤ b by omega) j
  have h := Int.mul_le_mul_of_nonneg_left hb (show 0 ≤ b ^ j by omega)
  omega
/-- an integer is below the power with its own number -/
theorem lt_pow {b : Int} (hb : 2 ≤ b) : ∀ j : Nat, (j : Int) < b ^ j
  | 0 => by rw [Int.pow_zero]; decide
  | j + 1 => by
    have h1 := lt_pow hb j
    have h2 := pow_lt hb j
    omega
/-! ### figures -/
/-- k is the number of figures of n in the base b -/
def IsF (b n k : Int) : Prop := ∃ j : Nat, k = (j : Int) + 1 ∧ n < b ^ (j + 1) ∧ (j = 0 ∨ b ^ j ≤ n)
theorem isF_le {b n m k l : Int} (hb : 2 ≤ b) (h : n ≤ m) (hk : IsF b n k) (hl : IsF b m l) : k ≤ l := by
  obtain ⟨i, rfl, h1, h2⟩ := hk
  obtain ⟨j, rfl, h3, h4⟩ := hl
  by_cases c : i ≤ j
  · omega
  · rcases h2 with h2 | h2
    · omega
    · have h5 := pow_mono (show 1 ≤ b by omega) (show j + 1 ≤ i by omega)
      omega
theorem isF_eq {b n k l : Int} (hb : 2 ≤ b) (hk : IsF b n k) (hl : IsF b n l) : k = l :=
  Int.le_antisymm (isF_le hb (Int.le_refl n) hk hl) (isF_le hb (Int.le_refl n) hl hk)
theorem isF_pos {b n k : Int} (h : IsF b n k) : 1 ≤ k := by
  obtain ⟨j, rfl, _⟩ := h
  omega
/-- there is such a number -/
theorem isF_ex {b : Int} (hb : 2 ≤ b) (n : Int) : ∃ k, IsF b n k := by
  have key : ∀ m : Nat, ∀ n : Int, n < b ^ (m + 1) → ∃ k, IsF b n k := by
    intro m
    induction m with
    | zero => exact fun n h => ⟨1, 0, rfl, h, .inl rfl⟩
    | succ m ih =>
      intro n h
      by_cases c : n < b ^ (m + 1)
      · exact ih n c
      · exact ⟨(m + 1 : Nat) + 1, m + 1, rfl, h, .inr (by omega)⟩
  refine key n.toNat n ?_
  have h1 := lt_pow hb (n.toNat + 1)
  omega
/-- a bound for the figures -/
theorem isF_bound {b n k : Int} (hb : 2 ≤ b) (m : Nat) (hn : n < 2 ^ m) (h : IsF b n k) : k ≤ (m : Int) + 1 := by
  obtain ⟨j, rfl, h1, h2⟩ := h
  rcases h2 with h2 | h2
  · omega
  · by_cases c : j ≤ m
    · omega
    · exfalso
      have h3 : (2 : Int) ^ j ≤ b ^ j := by
        clear h1 h2 c
        induction j with
        | zero => rw [Int.pow_zero, Int.pow_zero]; exact Int.le_refl 1
        | succ j ih =>
          rw [Int.pow_succ, Int.pow_succ]
          exact Int.mul_le_mul ih hb (by decide) (by have := pow_pos (show 1 ≤ b by omega) j; omega)
      have h4 := pow_mono (show (1 : Int) ≤ 2 by decide) (show m ≤ j by omega)
      omega
end Sz
namespace Sz
/-! ### totals that count their own figures -/
theorem isF_upper {b x g : Int} (hb : 2 ≤ b) {m : Nat} (h : x < b ^ (m + 1)) (hg : IsF b x g) : g ≤ (m : Int) + 1 := by
  obtain ⟨i, rfl, h1, h2⟩ := hg
  by_cases c : i ≤ m
  · omega
  · rcases h2 with h2 | h2
    · omega
    · have := pow_mono (show 1 ≤ b by omega) (show m + 1 ≤ i by omega)
      omega
/-- adding its figures to a number makes one figure more at most -/
theorem fig_grow {b n f g : Int} (hb : 2 ≤ b) (hn : 0 ≤ n) (hf : IsF b n f) (hg : IsF b (n + f) g) : g = f ∨ g = f + 1 := by
  have h1 := isF_le hb (show n ≤ n + f by have := isF_pos hf; omega) hf hg
  obtain ⟨j, rfl, h2, h3⟩ := hf
  have h4 := lt_pow hb (j + 1)
  have h5 : b ^ (j + 1 + 1) = b ^ (j + 1) * b := Int.pow_succ b (j + 1)
  have h6 := Int.mul_le_mul_of_nonneg_left hb (show 0 ≤ b ^ (j + 1) by omega)
  have h7 := isF_upper (m := j + 1) hb (show n + ((j : Int) + 1) < b ^ (j + 1 + 1) by omega) hg
  omega
/-- and then this is the number of figures -/
theorem fig_next {b n f : Int} (hb : 2 ≤ b) (hn : 0 ≤ n) (hf : IsF b n f) (hg : IsF b (n + f) (f + 1)) : IsF b (n + f + 1) (f + 1) := by
  obtain ⟨j, rfl, h2, h3⟩ := hf
  obtain ⟨i, e, h4, h5⟩ := hg
  have e2 : i = j + 1 := by omega
  subst e2
  have h6 := lt_pow hb (j + 1)
  have h7 : b ^ (j + 1 + 1) = b ^ (j + 1) * b := Int.pow_succ b (j + 1)
  have h8 := Int.mul_le_mul_of_nonneg_left hb (show 0 ≤ b ^ (j + 1) by omega)
  refine ⟨j + 1, by omega, by omega, Or.inr ?_⟩
  rcases h5 with h5 | h5
  · omega
  · omega
/-- s is a total of N -/
def Tot (b N s : Int) : Prop := IsF b s (s - N)
structure IsTot (b N s : Int) : Prop where
  tot : Tot b N s
  least : ∀ t, Tot b N t → s ≤ t
theorem isTot_pos {b N s : Int} (h : Tot b N s) : N + 1 ≤ s := by
  have := isF_pos h
  omega
theorem isTot_first {b n f : Int} (hb : 2 ≤ b) (hf : IsF b n f) (hg : IsF b (n + f) f) : IsTot b n (n + f) := by
  refine ⟨?_, fun t ht => ?_⟩
  · have e : n + f - n = f := by omega
    show IsF b (n + f) (n + f - n)
    rw [e]
    exact hg
  · have h1 := isTot_pos ht
    have h2 := isF_le hb (show n ≤ t by omega) hf ht
    omega
theorem isTot_second {b n f : Int} (hb : 2 ≤ b) (hn : 0 ≤ n) (hf : IsF b n f) (hg : IsF b (n + f) (f + 1)) : IsTot b n (n + f + 1) := by
  refine ⟨?_, fun t ht => ?_⟩
  · have e : n + f + 1 - n = f + 1 := by omega
    show IsF b (n + f + 1) (n + f + 1 - n)
    rw [e]
    exact fig_next hb hn hf hg
  · have h1 := isTot_pos ht
    have h2 := isF_le hb (show n ≤ t by omega) hf ht
    by_cases c : t = n + f
    · subst c
      have ht2 : IsF b (n + f) (n + f - n) := ht
      have e : n + f - n = f := by omega
      rw [e] at ht2
      have := isF_eq hb ht2 hg
      omega
    · omega
theorem isTot_eq {b N s t : Int} (h : IsTot b N s) (h2 : IsTot b N t) : s = t := Int.le_antisymm (h.least t h2.tot) (h2.least s h.tot)
/-- two totals lie beside one another -/
theorem tot_near {b N s t : Int} (hb : 2 ≤ b) (hN : 0 ≤ N) (h : Tot b N s) (h2 : Tot b N t) (hst : s ≤ t) : t ≤ s + 1 := by
  obtain ⟨i, e1, h3, h4⟩ := h
  obtain ⟨j, e2, h5, h6⟩ := h2
  by_cases c : t ≤ s + 1
  · exact c
  · exfalso
    have hj : b ^ j ≤ t := by
      rcases h6 with h6 | h6
      · omega
      · exact h6
    obtain ⟨m, hm⟩ : ∃ m : Nat, j = i + 1 + (m + 1) := ⟨j - i - 2, by omega⟩
    have e3 : b ^ j = b ^ (i + 1) * b ^ (m + 1) := by rw [hm, Int.pow_add]
    have p1 := pow_pos (show 1 ≤ b by omega) (i + 1)
    have p0 : 2 ≤ b ^ (i + 1) := by
      have := pow_mono (show 1 ≤ b by omega) (show 0 + 1 ≤ i + 1 by omega)
      rw [pow_one] at this
      omega
    have l1 := lt_pow hb (m + 1)
    have l2 := Int.mul_le_mul_of_nonneg_left (show ((m + 1 : Nat) : Int) + 1 ≤ b ^ (m + 1) by omega) (show 0 ≤ b ^ (i + 1) by omega)
    have l3 : b ^ (i + 1) * (((m + 1 : Nat) : Int) + 1) = b ^ (i + 1) * ((m + 1 : Nat) : Int) + b ^ (i + 1) := by rw [Int.mul_add, Int.mul_one]
    have l4 := Int.mul_le_mul_of_nonneg_right p0 (show 0 ≤ ((m + 1 : Nat) : Int) by omega)
    omega
/-- whether the next integer is a total, too -/
theorem tot_two {b N s g h : Int} (hb : 2 ≤ b) (ht : Tot b N s) (hg : IsF b s g) (hh : IsF b (s + 1) h) : (h > g ↔ Tot b N (s + 1)) := by
  have e1 : g = s - N := isF_eq hb hg ht
  constructor
  · intro c
    have h1 : h = g + 1 := by
      obtain ⟨j, rfl, h2, h3⟩ := hg
      have h4 := isF_upper (m := j + 1) hb (show s + 1 < b ^ (j + 1 + 1) by have := pow_lt hb (j + 1); omega) hh
      omega
    show IsF b (s + 1) (s + 1 - N)
    have e2 : s + 1 - N = h := by omega
    rw [e2]
    exact hh
  · intro c
    have e2 : h = s + 1 - N := isF_eq hb hh c
    omega
theorem isTot_ex {b n : Int} (hb : 2 ≤ b) (hn : 0 ≤ n) : ∃ s, IsTot b n s := by
  obtain ⟨f, hf⟩ := isF_ex hb n
  obtain ⟨g, hg⟩ := isF_ex hb (n + f)
  rcases fig_grow hb hn hf hg with e | e
  · exact ⟨_, isTot_first hb hf (by rw [← e]; rw [e] at hg ⊢; exact hg)⟩
  · exact ⟨_, isTot_second hb hn hf (by rw [← e]; exact hg)⟩
theorem pow_add_le {b : Int} (hb : 2 ≤ b) (j d : Nat) : b ^ j + d ≤ b ^ (j + d) := by
  induction d with
  | zero => simp
  | succ d ih =>
    have := pow_lt hb (j + d)
    have e : j + (d + 1) = j + d + 1 := by omega
    rw [e]
    omega
theorem two_mul_le {b : Int} (hb : 2 ≤ b) : ∀ j : Nat, 2 * (j : Int) ≤ b ^ j + 1
  | 0 => by simp
  | 1 => by rw [show (1 : Nat) = 0 + 1 from rfl, pow_one]; omega
  | j + 2 => by
    have h1 := two_mul_le hb (j + 1)
    have h2 : b ^ (j + 2) = b ^ (j + 1) * b := Int.pow_succ b (j + 1)
    have h3 := pow_mono (show 1 ≤ b by omega) (show 0 + 1 ≤ j + 1 by omega)
    rw [pow_one] at h3
    have h4 := Int.mul_le_mul_of_nonneg_left hb (show 0 ≤ b ^ (j + 1) by omega)
    omega
/-- the totals found ahead of the number k of figures -/
def totA (N s : Int) (two : Bool) (k : Int) : List Int := if k ≤ s - N then [] else if k = s - N + 1 ∨ two = false then [s] else [s, s + 1]
theorem totA_start {b N s : Int} {two : Bool} (h : IsTot b N s) : totA N s two 1 = [] := if_pos (by have := isTot_pos h.tot; omega)
/-- the one with k figures is a total -/
theorem totA_yes {b N s k : Int} {two : Bool} (hb : 2 ≤ b) (hN : 0 ≤ N) (h : IsTot b N s) (h2 : two = true ↔ Tot b N (s + 1)) (hk : Tot b N (N + k)) : totA N s two (k + 1) = totA N s two k ++ [N + k] := by
  have a := h.least _ hk
  have c := tot_near hb hN h.tot hk a
  by_cases e : N + k = s
  · have e1 : totA N s two k = [] := if_pos (by omega)
    have e2 : totA N s two (k + 1) = [s] := by
      unfold totA
      rw [if_neg (by omega), if_pos (Or.inl (by omega))]
    rw [e1, e2, e]
    rfl
  · have e0 : N + k = s + 1 := by omega
    have ht : two = true := h2.mpr (by rw [← e0]; exact hk)
    have e1 : totA N s two k = [s] := by
      unfold totA
      rw [if_neg (by omega), if_pos (Or.inl (by omega))]
    have e2 : totA N s two (k + 1) = [s, s + 1] := by
      unfold totA
      rw [if_neg (by omega), if_neg (by rw [ht]; simp; omega)]
    rw [e1, e2, e0]
    rfl
theorem totA_no {b N s k : Int} {two : Bool} (h : IsTot b N s) (h2 : two = true ↔ Tot b N (s + 1)) (hk : ¬ Tot b N (N + k)) : totA N s two (k + 1) = totA N s two k := by
  have e : N + k ≠ s := fun z => hk (by rw [z]; exact h.tot)
  unfold totA
  by_cases c : k ≤ s - N
  · rw [if_pos c, if_pos (by omega)]
  · rw [if_neg c, if_neg (by omega)]
    by_cases d : k = s - N + 1
    · have d0 : N + k = s + 1 := by omega
      have ht : two = false := by
        cases q : two with
        | false => rfl
        | true => exact absurd (by rw [d0]; exact h2.mp q) hk
      rw [if_pos (Or.inr ht), if_pos (Or.inr ht)]
    · by_cases ht : two = false
      · rw [if_pos (Or.inr ht), if_pos (Or.inr ht)]
      · rw [if_neg (fun z => z.elim (by omega) ht), if_neg (fun z => z.elim (by omega) ht)]
theorem totA_end {b N s : Int} {j : Nat} {two : Bool} (hb : 2 ≤ b) (hN : 0 ≤ N) (h : IsTot b N s) (h2 : two = true ↔ Tot b N (s + 1)) (hj : ¬ b ^ j ≤ N + ((j : Int) + 1)) : totA N s two ((j : Int) + 1) = if two then [s, s + 1] else [s] := by
  have far : ∀ t, Tot b N t → t - N < (j : Int) + 1 := fun t ht => by
    obtain ⟨i, e, h3, h4⟩ := ht
    by_cases c : i < j
    · omega
    · exfalso
      obtain ⟨d, hd⟩ : ∃ d, i = j + d := ⟨i - j, by omega⟩
      have h5 := pow_add_le hb j d
      rw [← hd] at h5
      rcases h4 with h4 | h4
      · have e0 : j = 0 := by omega
        rw [e0] at hj h5
        have : N + 1 ≤ t := by omega
        have e1 : d = 0 := by omega
        rw [e1] at h5
        simp at hj h5
        omega
      · omega
  have f1 := far s h.tot
  unfold totA
  rw [if_neg (by omega)]
  cases ht : two with
  | false => simp
  | true =>
    have f2 := far _ (h2.mp ht)
    rw [if_neg (by simp; omega)]
    rfl
/-- figures grow no faster than numbers -/
theorem fig_lip {b x y f g : Int} (hb : 2 ≤ b) (h : x ≤ y) (hf : IsF b x f) (hg : IsF b y g) : g ≤ f + (y - x) := by
  obtain ⟨j, rfl, h1, h2⟩ := hf
  obtain ⟨d, hd⟩ : ∃ d : Nat, y = x + d := ⟨(y - x).toNat, by omega⟩
  have h3 := pow_add_le hb (j + 1) d
  have h4 := isF_upper (m := j + d) hb (show y < b ^ (j + d + 1) by rw [show j + d + 1 = j + 1 + d by omega]; omega) hg
  omega
/-- the least total of the next one stands right behind the last total -/
theorem tot_step {b N s : Int} {two : Bool} (hb : 2 ≤ b) (hN : 0 ≤ N) (h : IsTot b N s) (h2 : two = true ↔ Tot b N (s + 1)) : IsTot b (N + 1) (s + (if two then [s, s + 1] else [s]).length) := by
  have last : ∃ e : Int, s + (if two then [s, s + 1] else [s]).length = e + 1 ∧ Tot b N e ∧ ¬ Tot b N (e + 1) := by
    cases q : two with
    | false => exact ⟨s, by simp, h.tot, fun z => by rw [q] at h2; have := h2.mpr z; cases this⟩
    | true =>
      refine ⟨s + 1, by simp; omega, h2.mp q, fun z => ?_⟩
      have := tot_near hb hN h.tot z (by omega)
      omega
  obtain ⟨e, e0, e1, e2⟩ := last
  rw [e0]
  obtain ⟨f, hf⟩ := isF_ex hb (e + 1)
  have f1 := isF_le hb (show e ≤ e + 1 by omega) e1 hf
  have f2 := fig_lip hb (show e ≤ e + 1 by omega) e1 hf
  have f3 : f ≠ e + 1 - N := fun z => e2 (by show IsF b (e + 1) (e + 1 - N); rw [← z]; exact hf)
  refine ⟨?_, fun t ht => ?_⟩
  · show IsF b (e + 1) (e + 1 - (N + 1))
    have : f = e + 1 - (N + 1) := by omega
    rw [← this]
    exact hf
  · by_cases c : e + 1 ≤ t
    · exact c
    · have := fig_lip hb (show t ≤ e by omega) ht e1
      omega
/-- the integer ahead of the least total is one of the length ahead -/
theorem tot_ahead {b N s f : Int} (hb : 2 ≤ b) (h : IsTot b N s) (hf : IsF b (s - 1) f) : s - 1 - f = N - 1 := by
  have h1 := fig_lip hb (show s - 1 ≤ s by omega) hf h.tot
  have h2 := isF_le hb (show s - 1 ≤ s by omega) hf h.tot
  have h3 : f ≠ s - 1 - N := fun z => by
    have := h.least (s - 1) (by show IsF b (s - 1) (s - 1 - N); rw [← z]; exact hf)
    omega
  omega
/-- so many integers from one on -/
def irun (s : Int) (n : Nat) : List Int := (List.range n).map fun (i : Nat) => s + (i : Int)
theorem irun_len (s : Int) (n : Nat) : (irun s n).length = n := by
  unfold irun
  simp
theorem irun_app (s : Int) (n : Nat) (two : Bool) : irun s n ++ (if two then [s + n, s + n + 1] else [s + n]) = irun s (n + (if two then [s, s + 1] else [s]).length) := by
  unfold irun
  cases two with
  | false => simp [List.range_succ]
  | true =>
    simp [List.range_succ]
    omega
/-- a total by its power -/
theorem tot_iff {b N : Int} {j : Nat} (hN : 0 ≤ N) (hj : b ^ j ≤ N + ((j : Int) + 1)) : Tot b N (N + ((j : Int) + 1)) ↔ N + ((j : Int) + 1) < b ^ (j + 1) := by
  have e : N + ((j : Int) + 1) - N = (j : Int) + 1 := by omega
  constructor
  · rintro ⟨i, e1, h1, _⟩
    have : i = j := by omega
    rw [this] at h1
    exact h1
  · intro h
    exact ⟨j, e, h, Or.inr hj⟩
end Sz
namespace Sz
/-! ### what wraps make of lengths -/
open Classical in
/-- how many figures -/
noncomputable def figF (b n : Int) : Int := if h : 2 ≤ b then choose (isF_ex h n) else 0
theorem figF_is {b n : Int} (h : 2 ≤ b) : IsF b n (figF b n) := by
  unfold figF
  rw [dif_pos h]
  exact Classical.choose_spec (isF_ex h n)
theorem figF_eq {b n k : Int} (hb : 2 ≤ b) (h : IsF b n k) : k = figF b n := isF_eq hb h (figF_is hb)
theorem figF_pos {b n : Int} (hb : 2 ≤ b) : 1 ≤ figF b n := isF_pos (figF_is hb)
theorem figF_mono {b n m : Int} (hb : 2 ≤ b) (h : n ≤ m) : figF b n ≤ figF b m := isF_le hb h (figF_is hb) (figF_is hb)
theorem figF_lip {b n m : Int} (hb : 2 ≤ b) (h : n ≤ m) : figF b m ≤ figF b n + (m - n) := fig_lip hb h (figF_is hb) (figF_is hb)
open Classical in
/-- the least total -/
noncomputable def totF (b n : Int) : Int := if h : 2 ≤ b ∧ 0 ≤ n then choose (isTot_ex h.1 h.2) else 0
theorem totF_is {b n : Int} (h : 2 ≤ b) (h2 : 0 ≤ n) : IsTot b n (totF b n) := by
  unfold totF
  rw [dif_pos ⟨h, h2⟩]
  exact Classical.choose_spec (isTot_ex h h2)
theorem totF_eq {b n k : Int} (hb : 2 ≤ b) (hn : 0 ≤ n) (h : IsTot b n k) : k = totF b n := isTot_eq h (totF_is hb hn)
/-- how many parts of a size a length begins -/
def beg (n m : Int) : Int := (n + m - 1) / m
inductive Wr where
  | plus (c : Int)
  | told (c : Int)
  | whole (c : Int)
  | pieces (m c : Int)
  | cut (m c : Int)
  | coded (m c : Int)
  | filled (m : Int)
def Wr.kind : Wr → PySem.Str
  | .plus _ => "plus"
  | .told _ => "told"
  | .whole _ => "whole"
  | .pieces _ _ => "pieces"
  | .cut _ _ => "cut"
  | .coded _ _ => "coded"
  | .filled _ => "filled"
def Wr.nums : Wr → List Int
  | .plus c => [c]
  | .told c => [c]
  | .whole c => [c]
  | .pieces m c => [m, c]
  | .cut m c => [m, c]
  | .coded m c => [m, c]
  | .filled m => [m]
def Wr.rng : Wr → List (Int × Int)
  | .plus _ => [(0, 1000)]
  | .told _ => [(0, 1000)]
  | .whole _ => [(0, 1000)]
  | .pieces _ _ => [(1, 60), (0, 60)]
  | .cut _ _ => [(1, 60), (0, 60)]
  | .coded _ _ => [(1, 60), (1, 120)]
  | .filled _ => [(1, 60)]
def Wr.ok : Wr → Prop
  | .plus c => 0 ≤ c ∧ c ≤ 1000
  | .told c => 0 ≤ c ∧ c ≤ 1000
  | .whole c => 0 ≤ c ∧ c ≤ 1000
  | .pieces m c => 1 ≤ m ∧ m ≤ 60 ∧ 0 ≤ c ∧ c ≤ 60
  | .cut m c => 1 ≤ m ∧ m ≤ 60 ∧ 0 ≤ c ∧ c ≤ 60
  | .coded m c => 1 ≤ m ∧ m ≤ 60 ∧ m ≤ c ∧ c ≤ 120
  | .filled m => 1 ≤ m ∧ m ≤ 60
/-- the size that a wrap makes of a length -/
noncomputable def Wr.gr (b : Int) : Wr → Int → Int
  | .plus c, n => n + c
  | .told c, n => n + c + figF b n
  | .whole c, n => totF b (n + c)
  | .pieces m c, n => n / m * (m + c + figF b m) + (if 0 < n % m then n % m + c + figF b (n % m) else 0) + c + 1
  | .cut m c, n => n + beg n m * c
  | .coded m c, n => beg n m * c
  | .filled m, n => beg n m * m
theorem nums_len {w : Wr} : w.nums.length = w.rng.length := by cases w <;> rfl
theorem nums_small {w : Wr} (h : w.ok) : ∀ x ∈ w.nums, 0 ≤ x ∧ x ≤ 1000 := by
  cases w <;> simp only [Wr.ok] at h <;> simp [Wr.nums] <;> omega
theorem beg_le {n m : Int} (hn : 0 ≤ n) (hm : 1 ≤ m) : beg n m ≤ n ∧ 0 ≤ beg n m := by
  unfold beg
  constructor
  · refine Int.le_of_lt_add_one (Int.ediv_lt_of_lt_mul (by omega) ?_)
    have := Int.mul_le_mul_of_nonneg_left hm (show 0 ≤ n by omega)
    have e : (n + 1) * m = n * m + m := by rw [Int.add_mul, Int.one_mul]
    omega
  · exact Int.ediv_nonneg (by omega) (by omega)
theorem fig_small {b m : Int} (hb : 2 ≤ b) (hm : m ≤ 60) : figF b m ≤ 6 := by
  have h : m < b ^ (5 + 1) := by
    have h1 := pow_pos (show 1 ≤ b by omega) 5
    have h2 : (64 : Int) ≤ b ^ 6 := by
      have : ∀ j : Nat, (2 : Int) ^ j ≤ b ^ j := fun j => by
        induction j with
        | zero => simp
        | succ j ih =>
          rw [Int.pow_succ, Int.pow_succ]
          exact Int.mul_le_mul ih hb (by decide) (by have := pow_pos (show 1 ≤ b by omega) j; omega)
      have := this 6
      omega
    show m < b ^ 6
    omega
  have := isF_upper (m := 5) hb h (figF_is hb)
  omega
theorem figF_le {b n : Int} (hb : 2 ≤ b) (hn : 0 ≤ n) : figF b n ≤ n + 1 := by
  have h1 := figF_lip (b := b) hb hn
  have h2 : figF b 0 ≤ 1 := by
    have := isF_upper (m := 0) hb (show (0 : Int) < b ^ (0 + 1) by rw [pow_one]; omega) (figF_is hb)
    omega
  omega
/-- a size is no less than 0, and not too great -/
theorem gr_le {b : Int} {w : Wr} (hb : 2 ≤ b) (h : w.ok) {n : Int} (hn : 0 ≤ n) : 0 ≤ w.gr b n ∧ w.gr b n ≤ 128 * n + 4096 := by
  cases w with
  | plus c =>
    simp only [Wr.ok] at h
    simp only [Wr.gr]
    omega
  | told c =>
    simp only [Wr.ok] at h
    simp only [Wr.gr]
    have h1 := figF_le (b := b) hb hn
    have h2 := figF_pos (b := b) (n := n) hb
    omega
  | whole c =>
    simp only [Wr.ok] at h
    simp only [Wr.gr]
    have t := totF_is hb (show 0 ≤ n + c by omega)
    have h1 := isTot_pos t.tot
    have f := figF_is (b := b) (n := n + c) hb
    have g := figF_is (b := b) (n := n + c + figF b (n + c)) hb
    have fl := figF_le (b := b) (n := n + c) hb (by omega)
    rcases fig_grow hb (show 0 ≤ n + c by omega) f g with e | e
    · have := t.least _ (isTot_first hb f (by rw [e] at g; exact g)).tot
      omega
    · have := t.least _ (isTot_second hb (show 0 ≤ n + c by omega) f (by rw [← e]; exact g)).tot
      omega
  | pieces m c =>
    simp only [Wr.ok] at h
    simp only [Wr.gr]
    have f1 := fig_small (b := b) (m := m) hb h.2.1
    have f2 := figF_pos (b := b) (n := m) hb
    have q0 := Int.ediv_nonneg hn (show 0 ≤ m by omega)
    have q1 : n / m ≤ n := Int.ediv_le_self _ hn
    have r0 := Int.emod_nonneg n (show m ≠ 0 by omega)
    have r1 := Int.emod_lt_of_pos n (show 0 < m by omega)
    have f3 := fig_small (b := b) (m := n % m) hb (by omega)
    have f4 := figF_pos (b := b) (n := n % m) hb
    have p0 := Int.mul_nonneg q0 (show 0 ≤ m + c + figF b m by omega)
    have p1 := Int.mul_le_mul q1 (show m + c + figF b m ≤ 126 by omega) (by omega) hn
    split <;> omega
  | cut m c =>
    simp only [Wr.ok] at h
    simp only [Wr.gr]
    have q := beg_le hn h.1
    have p0 := Int.mul_nonneg q.2 (show 0 ≤ c by omega)
    have p1 := Int.mul_le_mul q.1 (show c ≤ 60 by omega) (by omega) hn
    omega
  | coded m c =>
    simp only [Wr.ok] at h
    simp only [Wr.gr]
    have q := beg_le hn h.1
    have p0 := Int.mul_nonneg q.2 (show 0 ≤ c by omega)
    have p1 := Int.mul_le_mul q.1 (show c ≤ 120 by omega) (by omega) hn
    omega
  | filled m =>
    simp only [Wr.ok] at h
    simp only [Wr.gr]
    have q := beg_le hn h.1
    have p0 := Int.mul_nonneg q.2 (show 0 ≤ m by omega)
    have p1 := Int.mul_le_mul q.1 (show m ≤ 60 by omega) (by omega) hn
    omega
end Sz
/-! a hook that looks at whatever one wants besides, and the table of ranges -/
namespace Sz
open PySem PySem.Spec PyProof.Rows L2
abbrev AlX : Type := Bool × He.AlT
/-- what an object names, its class's line left out: what the module names is there already -/
def refsX (o : Obj) : List Addr := match o.data with
  | .seq its _ => its.toList.flatMap He.refV
  | .dict es _ => es.toList.flatMap fun e => He.refV e.val
  | .func fd => He.refV fd.code ++ (He.refV fd.defaults ++ (He.refV fd.kwdefaults ++ fd.closure.map (·.2)))
  | .cls cd => [cd.ns]
  | .fields vs => vs.toList.flatMap He.refV
  | .cell (some v) => He.refV v
  | _ => []
def layerX (g : Addr → Option Obj) (as : List Addr) : List Addr := as.flatMap fun a => match g a with
  | some o => refsX o
  | none => []
/-- layer by layer, nothing looked at twice -/
def layersX (g : Addr → Option Obj) : Nat → List Addr → List Addr
  | 0, l => l
  | n + 1, l => l ++ layersX g n (layerX g l)
def asX (g : Addr → Option Obj) (n : Nat) : List Addr := layersX g n [mainGlobals]
def obsX (fb : PySem.W.Frag → Bool) (fa : List He.Fa) (fn : List He.DefD) (ts : List He.Tab) (K : PySem.W.Frag) : AlX := (fb K, He.obsT fa fn ts K)
def valX (fn : List He.DefD) (ts : List He.Tab) (w : World) : AlX := (true, He.valT fn ts w)
def obsXG (n : Nat) (fb : PySem.W.Frag → Bool) (fa : List He.Fa) (fn : List He.DefD) (ts : List He.Tab) (g : Addr → Option Obj) : AlX := obsX fb fa fn ts (He.frG g (asX g n))
def SaysX (fb : PySem.W.Frag → Bool) (fa : List He.Fa) (fn : List He.DefD) (ts : List He.Tab) (w : World) (K : PySem.W.Frag) : Prop := obsX fb fa fn ts K = valX fn ts w
def hookX (n : Nat) (fb : PySem.W.Frag → Bool) (fa : List He.Fa) (fn : List He.DefD) (ts : List He.Tab) : PySem.W.Hook where
  α := AlX
  obs := fun s => obsXG n fb fa fn ts s.heap.get?
  val := fun w => valX fn ts w
  says := fun w h => ∃ K : PySem.W.Frag, K.In h ∧ SaysX fb fa fn ts w K
  of := fun _ _ e => ⟨_, He.frG_in, e⟩
  keeps := fun _ _ _ ⟨K, hK, c⟩ k => ⟨K, PySem.W.Frag.In.keeps hK k, c⟩
theorem obsXG_eq {n : Nat} {fb : PySem.W.Frag → Bool} {fa : List He.Fa} {fn : List He.DefD} {ts : List He.Tab} {g : Addr → Option Obj} {s : Shared} (h : ∀ a, g a = s.heap.get? a) : obsXG n fb fa fn ts g = (hookX n fb fa fn ts).obs s := by
  rw [show g = s.heap.get? from funext h]
  rfl
section
variable {fb : PySem.W.Frag → Bool} {fa : List He.Fa} {fn : List He.DefD} {ts : List He.Tab} {w : World} {K : PySem.W.Frag}
theorem SaysX.t (c : SaysX fb fa fn ts w K) : He.SaysT fa fn ts w K := congrArg (fun z : AlX => z.2) c
theorem SaysX.b (c : SaysX fb fa fn ts w K) : fb K = true := congrArg (fun z : AlX => z.1) c
end
/-! ### the table of ranges: tuples of pairs -/
def pairB (K : PySem.W.Frag) (u : Value) (q : Int × Int) : Bool := match u with
  | .ref a => (match K.lookup a with
    | some ⟨.type c, _, .seq its _, _⟩ => decide (c = "tuple") && (decide (its.size ≤ sizeLine) && He.relAll [.int q.1, .int q.2] its.toList)
    | _ => false)
  | _ => false
def pairsB (K : PySem.W.Frag) : List Value → List (Int × Int) → Bool
  | [], [] => true
  | u :: us, q :: qs => pairB K u q && pairsB K us qs
  | _, _ => false
def rngB (K : PySem.W.Frag) (D : Addr) (kd : Str) (qs : List (Int × Int)) : Bool := match PySem.W.nsIn K D kd with
  | some (some (.ref b)) => (match K.lookup b with
    | some ⟨.type c, _, .seq its _, _⟩ => decide (c = "tuple") && (decide (its.size ≤ sizeLine) && pairsB K its.toList qs)
    | _ => false)
  | _ => false
inductive Pairs (K : PySem.W.Frag) : List V → List (Int × Int) → Prop where
  | nil : Pairs K [] []
  | cons {a : Addr} {xs : List V} {q : Int × Int} {qs : List (Int × Int)} (h : ∀ H, SqT K H a [.int q.1, .int q.2]) (r : Pairs K xs qs) : Pairs K (.ref a :: xs) (q :: qs)
theorem Pairs.len {K : PySem.W.Frag} {xs : List V} {qs : List (Int × Int)} (h : Pairs K xs qs) : xs.length = qs.length := by
  induction h with
  | nil => rfl
  | cons _ _ ih => exact congrArg (· + 1) ih
theorem Pairs.get {K : PySem.W.Frag} {xs : List V} {qs : List (Int × Int)} (h : Pairs K xs qs) : ∀ {i : Nat} {x : V}, xs[i]? = some x → ∃ (a : Addr) (q : Int × Int), x = .ref a ∧ qs[i]? = some q ∧ ∀ H, SqT K H a [.int q.1, .int q.2] := by
  induction h with
  | nil =>
    intro i x e
    simp at e
  | cons h _ ih =>
    intro i x e
    cases i with
    | zero =>
      simp at e
      exact ⟨_, _, e.symm, rfl, h⟩
    | succ i => exact ih (by simpa using e)
theorem pairB_ok {K : PySem.W.Frag} {u : Value} {q : Int × Int} (h : pairB K u q = true) : ∃ a, u = .ref a ∧ ∀ H, SqT K H a [.int q.1, .int q.2] := by
  cases u with
  | ref a =>
    refine ⟨a, rfl, fun H => ?_⟩
    have h : (match K.lookup a with
      | some ⟨.type c, _, .seq its _, _⟩ => decide (c = "tuple") && (decide (its.size ≤ sizeLine) && He.relAll [.int q.1, .int q.2] its.toList)
      | _ => false) = true := h
    cases e : K.lookup a with
    | none =>
      rw [e] at h
      cases h
    | some o =>
      obtain ⟨oc, od, dt, osl⟩ := o
      rw [e] at h
      cases oc with
      | type c =>
        cases dt with
        | seq its n =>
          obtain ⟨h1, h2⟩ := He.ba h
          obtain ⟨h3, h4⟩ := He.ba h2
          exact .inr ⟨_, its, n, e, congrArg Value.type (of_decide_eq_true h1), rfl, of_decide_eq_true h3, He.relAll_ok h4⟩
        | _ => cases h
      | _ => cases dt <;> cases h
  | _ => cases h
theorem pairsB_ok {K : PySem.W.Frag} : ∀ {us : List Value} {qs : List (Int × Int)}, pairsB K us qs = true → ∃ xs, Vals xs us ∧ Pairs K xs qs
  | [], [], _ => ⟨[], .nil, .nil⟩
  | [], _ :: _, h => by cases h
  | _ :: _, [], h => by cases h
  | u :: us, q :: qs, h => by
    obtain ⟨h1, h2⟩ := He.ba (show (pairB K u q && pairsB K us qs) = true from h)
    obtain ⟨a, rfl, ha⟩ := pairB_ok h1
    obtain ⟨xs, r, p⟩ := pairsB_ok h2
    exact ⟨.ref a :: xs, .cons rfl r, .cons ha p⟩
/-- the kind kd has these ranges -/
def Rng (K : PySem.W.Frag) (D : Addr) (kd : Str) (qs : List (Int × Int)) : Prop := ∃ b xs, PySem.W.nsIn K D kd = some (some (.ref b)) ∧ (∀ H, SqT K H b xs) ∧ Pairs K xs qs
theorem rngB_ok {K : PySem.W.Frag} {D : Addr} {kd : Str} {qs : List (Int × Int)} (h : rngB K D kd qs = true) : Rng K D kd qs := by
  unfold rngB at h
  cases e : PySem.W.nsIn K D kd with
  | none =>
    rw [e] at h
    cases h
  | some r =>
    rw [e] at h
    cases r with
    | none => cases h
    | some u =>
      cases u with
      | ref b =>
        have h : (match K.lookup b with
          | some ⟨.type c, _, .seq its _, _⟩ => decide (c = "tuple") && (decide (its.size ≤ sizeLine) && pairsB K its.toList qs)
          | _ => false) = true := h
        cases e2 : K.lookup b with
        | none =>
          rw [e2] at h
          cases h
        | some o =>
          obtain ⟨oc, od, dt, osl⟩ := o
          rw [e2] at h
          cases oc with
          | type c =>
            cases dt with
            | seq its n =>
              obtain ⟨h1, h2⟩ := He.ba h
              obtain ⟨h3, h4⟩ := He.ba h2
              obtain ⟨xs, r, p⟩ := pairsB_ok h4
              exact ⟨b, xs, e, fun H => .inr ⟨_, its, n, e2, congrArg Value.type (of_decide_eq_true h1), rfl, of_decide_eq_true h3, r⟩, p⟩
            | _ => cases h
          | _ => cases dt <;> cases h
      | _ => cases h
/-- RANGES[kind] -/
theorem ix_kd {X : Cx} {d : Addr} {es : Array DictEntry} {n : Nat} (D : KDict X.K X.w d es n) : True := trivial
end Sz
/-! own classes: methods and makers by their promises -/
namespace Sz
open PySem PySem.Spec PyProof.Rows L2
/-- a method's def by its class -/
def DefAtM (K : PySem.W.Frag) (C m q : Str) (st : Stmt) : Prop := ∃ fd, FunD K m q (defArgs st) (defBody st) (defScope st) [] [] (He.ma K (He.ga K C) m) fd
/-- the method m of C keeps the promise sp (the receiver stands first) -/
structure PromM (P : Program) (w : World) (K : PySem.W.Frag) (mg : Str → Option Value) (base : Heap) (CX : CXT) (k : Nat) (C m : Str) (ps : List Str) (sp : Sp) : Prop where
  cl : Cls K (He.ga K C)
  me : Meth K (He.ga K C) m (He.ma K (He.ga K C) m)
  ex : ∃ fd, FnOk P w K mg base CX k (He.ma K (He.ga K C) m) fd ps sp ∧ Binds K fd ps []
/-- C(..) keeps the promise sp: what is told of the values handed in -/
structure PromC (P : Program) (w : World) (K : PySem.W.Frag) (mg : Str → Option Value) (base : Heap) (CX : CXT) (k : Nat) (C : Str) (sp : Sp) : Prop where
  make : Mk K (He.ga K C) (He.ma K (He.ga K C) "__init__")
  mg_ : mg C = some (.ref (He.ga K C))
  ex : ∃ sp0, FnR P w K mg base CX k (He.ma K (He.ga K C) "__init__") sp0 ∧ ∀ vs H Q E, sp vs H Q E → ∀ x dx, H x = none → H dx = none → dx ≠ x →
    sp0 (V.ref x :: vs) (upd (upd H dx (.own x)) x (.ins (He.ga K C) dx [])) (fun v H2 => v = .non ∧ Q (.ref x) H2) E
section
variable {P : Program} {w : World} {K : PySem.W.Frag} {mg : Str → Option Value} {base : Heap}
theorem PromM.of {C m q : Str} {st : Stmt} {ps N : List Str} {sp : Sp} {k : Nat} (cl : Cls K (He.ga K C)) (me : Meth K (He.ga K C) m (He.ma K (He.ga K C) m)) (D : DefAtM K C m q st) (S : FnScope N ps (defScope st)) (len : ∀ vs H Q E, sp vs H Q E → vs.length = ps.length)
    (hb : ∀ (kV doc pm : Value) (an : Option Addr) (cdv ct : Value) (us : List Value), us.length = ps.length → bindArgs (PySem.W.fnOf m q (defArgs st) (defBody st) (defScope st) .none kV doc pm an cdv ct) ⟨us, []⟩ = pure (ps.zip us))
    (hbody : ∀ (f : Addr) (cdv : Value) (A : Around) (outer : List Env) (s : Shared) (H : Hp) (vs : List V) (Q : VK) (E : XK), Room k (A.deeper (envOfC q (defScope st) s.heap.objs.size f cdv)) → sp vs H Q E →
      ∃ t, PSs (cxOf CX0 P w K mg base N q (defScope st) f cdv A outer s H E).nox (defBody st) t ∧ t { nx := fun _ H' => Q .non H', rt := Q } (start N vs) H) :
    PromM P w K mg base CX0 (k + 1) C m ps sp := by
  obtain ⟨fd, F⟩ := D
  refine ⟨cl, me, fd, F.ok S len (fun cdv A outer s H vs Q E hr hs => ?_), F.bindsN hb⟩
  obtain ⟨t, h1, h2⟩ := hbody _ cdv A outer s H vs Q E hr hs
  exact ⟨t, h1.nox, h2⟩
/-- a class whose __init__ takes (self, one, *rest) -/
theorem PromC.star {C q p0 p1 pv : Str} {st : Stmt} {N : List Str} {sp sp0 : Sp} {k : Nat} (mk : Mk K (He.ga K C) (He.ma K (He.ga K C) "__init__")) (hm : mg C = some (.ref (He.ga K C))) (D : DefAtM K C "__init__" q st) (S : FnScope N [p0, p1, pv] (defScope st))
    (h0 : ∀ (kV doc pm : Value) (an : Option Addr) (cdv ct a b : Value), bindArgs (PySem.W.fnOf "__init__" q (defArgs st) (defBody st) (defScope st) .none kV doc pm an cdv ct) ⟨[a, b], []⟩ = (newTuple [] >>= fun t => pure [(p0, a), (p1, b), (pv, t)]))
    (h1 : ∀ (kV doc pm : Value) (an : Option Addr) (cdv ct a b r : Value) (rs : List Value), bindArgs (PySem.W.fnOf "__init__" q (defArgs st) (defBody st) (defScope st) .none kV doc pm an cdv ct) ⟨a :: b :: r :: rs, []⟩ = (newTuple (r :: rs) >>= fun t => pure [(p0, a), (p1, b), (pv, t)]))
    (hbody : ∀ (f : Addr) (cdv : Value) (A : Around) (outer : List Env) (s : Shared) (H : Hp) (vs : List V) (Q : VK) (E : XK), Room k (A.deeper (envOfC q (defScope st) s.heap.objs.size f cdv)) → sp0 vs H Q E →
      ∃ t, PSs (cxOf CX0 P w K mg base N q (defScope st) f cdv A outer s H E).nox (defBody st) t ∧ t { nx := fun _ H' => Q .non H', rt := Q } (start N vs) H)
    (hsp : ∀ vs H Q E, sp vs H Q E → ∃ v rest, vs = v :: rest ∧ rest.length ≤ sizeLine ∧ ∀ x dx p, H x = none → H dx = none → dx ≠ x → p ≠ x → p ≠ dx → H p = none →
      sp0 [.ref x, v, .ref p] (upd (upd (upd H dx (.own x)) x (.ins (He.ga K C) dx [])) p (.tup rest)) (fun u H2 => u = .non ∧ Q (.ref x) H2) E) :
    PromC P w K mg base CX0 (k + 1) C sp := by
  obtain ⟨fd, F⟩ := D
  obtain ⟨oc, od, dV, kV, doc, pm, an, cdv, ct, osl, rfl, lk, hcd, hD, hK⟩ := F.ex
  rcases hD with ⟨_, rfl⟩ | ⟨e, _⟩
  · refine ⟨mk, hm, _, StX.fn_star (ps := [p0, p1]) (pv := pv) (sp := sp0) lk hcd S StX.cxUp_none (StX.bind_star2 (B := fun us => bindArgs _ ⟨us, []⟩) (fun a b => h0 kV doc pm an cdv ct a b) fun a b r rs => h1 kV doc pm an cdv ct a b r rs) (fun A outer s H vs Q E hr hs => ?_), fun vs H Q E hs x dx hx hdx ne => ?_⟩
    · obtain ⟨t, h1, h2⟩ := hbody _ cdv A outer s H vs Q E hr hs
      exact ⟨t, h1.nox, h2⟩
    · obtain ⟨v, rest, rfl, hl, hq⟩ := hsp vs H Q E hs
      refine ⟨[.ref x, v], rest, rfl, rfl, hl, fun p hp => ?_⟩
      have nx : p ≠ x := fun z => by rw [z, upd_same] at hp; cases hp
      rw [upd_ne nx] at hp
      have nd : p ≠ dx := fun z => by rw [z, upd_same] at hp; cases hp
      rw [upd_ne nd] at hp
      exact hq x dx p hx hdx ne nx nd hp
  · exact absurd rfl e
end
section
variable {X : Cx} {CX : CXT} {k : Nat} {x C m : Str} {ps : List Str} {sp : Sp} {E : XK} {e o : Expr} {es : List Expr} {ta : TE} {t : TA} {p pos apos : Pos}
theorem pe_methP {pl : Sem Bool} (G : PromM X.prog X.w X.K X.mg X.base CX k C m ps sp) (hr : Room k X.A) (hx : Passes CX X E) (he : PE X o ta) (ha : PA X (e :: es) t)
    (hst : starEach (e :: es) X.env = (false, eval e X.env) :: starEach es X.env := by rfl) (hpl : (backTo pos (starEach es X.env)).any (·.1) = false := by rfl)
    (ht : eval (.Call (.Attribute o m apos) (e :: es) [] pos) X.env = (do
      let ov ← eval o X.env
      standAt apos.atName
      let (f, first) ← holding [ov] (getMethod ov m pl)
      callWith pos f first (backTo pos (starEach (e :: es) X.env)) (backToKw pos (keywordEach [] X.env))) := by rfl) : PE X (.Call (.Attribute o m apos) (e :: es) [] pos) (tMeth (He.ga X.K C) m sp [] E ta t) := by
  obtain ⟨fd, F, b⟩ := G.ex
  exact pe_meth he G.cl G.me F hr b .nil hx ha hst hpl ht
theorem pe_methP0 {pl : Sem Bool} (G : PromM X.prog X.w X.K X.mg X.base CX k C m ps sp) (hr : Room k X.A) (hx : Passes CX X E) (he : PE X o ta)
    (ht : eval (.Call (.Attribute o m apos) [] [] pos) X.env = (do
      let ov ← eval o X.env
      standAt apos.atName
      let (f, first) ← holding [ov] (getMethod ov m pl)
      callWith pos f first (backTo pos (starEach [] X.env)) (backToKw pos (keywordEach [] X.env))) := by rfl) : PE X (.Call (.Attribute o m apos) [] [] pos) (tMeth (He.ga X.K C) m sp [] E ta tNil) := by
  obtain ⟨fd, F, b⟩ := G.ex
  exact pe_meth0 he G.cl G.me F hr b .nil hx ht
/-- C(e, ..) by what is promised of it -/
def tNew (sp : Sp) (E : XK) (t : TA) : TE := fun σ H Q => t σ H fun vs H1 => sp vs H1 Q E
theorem pe_newP (G : PromC X.prog X.w X.K X.mg X.base CX k x sp) (hr : Room (k + 1) X.A) (hg : Gl X x) (hx : Passes CX X E) (ha : PA X (e :: es) t)
    (hdb : (x == ("__debug__" : Str)) = false := by decide) (he : starEach (e :: es) X.env = (false, eval e X.env) :: starEach es X.env := by rfl) (hpl : (backTo pos (starEach es X.env)).any (·.1) = false := by rfl) :
    PE X (.Call (.Name x p) (e :: es) [] pos) (tNew sp E t) := by
  obtain ⟨sp0, F, hs⟩ := G.ex
  refine ⟨fun pins s σ H Q I h => wpAny_Call_Name_kw (ld_glob I hg G.mg_ (PySem.W.callWith_K (h₀ := X.base) I.ok.mod.kin G.make.kp (thn (ha.run pos pins s σ H _ I h) fun us s1 ⟨vs, H1, I1, r, q⟩ => ⟨I1.kIn, ?_⟩) he hpl) hdb)⟩
  exact StX.run_makeR G.make F hr hx I1 r fun a dx h1 h2 h3 => hs vs H1 Q E q a dx h1 h2 h3
/-- C(e, .., *y) -/
theorem pe_newS (G : PromC X.prog X.w X.K X.mg X.base CX k x sp) (hr : Room (k + 1) X.A) (hg : Gl X x) (hx : Passes CX X E) (ha : PA X (e :: es) t)
    (hdb : (x == ("__debug__" : Str)) = false := by decide) (he : starEach (e :: es) X.env = (false, eval e X.env) :: starEach es X.env := by rfl) (hst : (backTo pos (starEach es X.env)).any (·.1) = true := by rfl) :
    PE X (.Call (.Name x p) (e :: es) [] pos) (tNew sp E t) := by
  obtain ⟨sp0, F, hs⟩ := G.ex
  refine ⟨fun pins s σ H Q I h => wpAny_Call_Name_kw (ld_glob I hg G.mg_ (PySem.W.callWith_S2 (h₀ := X.base) I.ok.mod.kin G.make.kp (thn (ha.run pos pins s σ H _ I h) fun us s1 ⟨vs, H1, I1, r, q⟩ => ⟨I1.kIn, ?_⟩) he hst) hdb)⟩
  exact StX.run_makeR G.make F hr hx I1 r fun a dx h1 h2 h3 => hs vs H1 Q E q a dx h1 h2 h3
end
/-- s[i], s a list or a tuple -/
theorem ix_any {X : Cx} : IxR X (fun x y H Q => rIxL X.K x y H Q ∨ rIxT X.K x y H Q) := by
  intro value slice pins s σ H x y v u Q I rx ry h hs
  rcases h with h | h
  · exact ix_list value slice pins s σ H x y v u Q I rx ry h hs
  · exact ix_tup value slice pins s σ H x y v u Q I rx ry h hs
theorem pe_gstr {X : Cx} {x : Str} {pos : Pos} {v : Str} (h : ∃ u, X.mg x = some (.str v u)) (hg : Gl X x := by rfl) (hd : (x == ("__debug__" : Str)) = false := by decide) : PE X (.Name x pos) (tC (.str v)) := by
  obtain ⟨u, hm⟩ := h
  exact pe_glob hg hm ⟨_, rfl⟩ hd
/-- what isinstance asks of an own class -/
structure IsiK (K : PySem.W.Frag) (C : Addr) : Prop where
  cl : Cls K C
  ha : PySem.W.findIn K (.ref C) "__class__" = some (some (.builtin "object.__class__"))
  hn : PySem.W.specialIn K (.builtin "object.__class__") "__get__" = some (some (.builtin "getset_descriptor.__get__"))
  htk : PySem.W.takesIn K (.builtin "object.__class__") = some true
  hm : PySem.W.mroIn K C (.type "object") = some true
def isiB (K : PySem.W.Frag) (C : Addr) : Bool := He.eqO (PySem.W.findIn K (.ref C) "__class__") (some (some (.builtin "object.__class__"))) && (He.eqO (PySem.W.specialIn K (.builtin "object.__class__") "__get__") (some (some (.builtin "getset_descriptor.__get__"))) &&
  (decide (PySem.W.takesIn K (.builtin "object.__class__") = some true) && decide (PySem.W.mroIn K C (.type "object") = some true)))
theorem isiB_ok {K : PySem.W.Frag} {C : Addr} (cl : Cls K C) (h : isiB K C = true) : IsiK K C := by
  obtain ⟨h1, h⟩ := He.ba h
  obtain ⟨h2, h⟩ := He.ba h
  obtain ⟨h3, h4⟩ := He.ba h
  exact ⟨cl, He.eqO_ok h1, He.eqO_ok h2, of_decide_eq_true h3, of_decide_eq_true h4⟩
theorem IsiK.ty {K : PySem.W.Frag} {C : Addr} (i : IsiK K C) {H : Hp} {a dx : Addr} {fs : List (Str × V)} (h : H a = some (.ins C dx fs)) : TyX K H (.ref a) (.ref C) := .base (.ins h i.cl i.ha i.hn i.htk i.hm)
theorem kit_self {K : PySem.W.Frag} {t : Value} : PySem.W.kitOne K t t = some true := by
  unfold PySem.W.kitOne
  rw [if_pos (by simp)]
end Sz
/-! enumerate over a tuple (the hand layer has it for lists): by what the tuple's iterator draws -/
namespace Sz
open PySem PySem.Spec PyProof.Rows L2
/-- enumerate(v) where iter(v) begins an object o -/
theorem meets_enum1 {v : Value} {o : Obj} {Hh : Heap → Prop} (B : Begins v o Hh) : Meets (Builtin.«enumerate.__new__» ⟨[.type "enumerate", v], []⟩) (fun _ R s => Hh s.heap ∧ R (.ok (.ret (.ref (s.heap.push o).objs.size)))
    { s with heap := (s.heap.push o).push { cls := .type "enumerate", data := .fields #[.none, .bool false, .ref s.heap.objs.size, rawInt 0, .none, .none] } }) := .of_wp fun prog w A R s h => by
  obtain ⟨hp, g, d, tk, os⟩ := s
  have hsub := sub_enumerate
  have it1 : ∀ {A' : Around} {Ex : Value → Shared → Prop} {Q : Value → Shared → Prop}, Q (.ref hp.objs.size) ⟨hp.push o, g, d, tk, os⟩ → wpAny (model prog w) A' (pyIter v) Q Ex ⟨hp, g, d, tk, os⟩ := fun q => B.iter prog w _ _ ⟨hp, g, d, tk, os⟩ _ h.1 q
  wp_walk using it1
  refine wpAny_stack_any (fun st => wpAny_pure ?_)
  split
  · rename_i c _ _ _ _ _
    cases (c == Value.type "enumerate") <;> (wp_walk using it1; exact ⟨_, rfl, h.2⟩)
  · wp_walk using it1
    exact ⟨_, rfl, h.2⟩
theorem call_enum1 {prog : Program} {w : World} {A : Around} {Ex : Value → Shared → Prop} {s : Shared} {v : Value} {o : Obj} {Hh : Heap → Prop} {Q : Value → Shared → Prop} (B : Begins v o Hh) (h1 : Hh s.heap)
    (k : ∀ h', IsEnum h' (s.heap.objs.size + 1) s.heap.objs.size 0 .none → h'.get? s.heap.objs.size = some o → (∀ b u, s.heap.get? b = some u → h'.get? b = some u) → Q (.ref (s.heap.objs.size + 1)) { s with heap := h' }) :
    wpAny (model prog w) A (call (.type "enumerate") [v]) Q Ex s := by
  refine callType_new F.called_enumerate (by decide) (F.typeCall_enumerate_1 _) (F.newCall_enumerate_1 _) (fun obj => F.args_object_init_2 obj _) F.entry_enumerate_new (meets_enum1 B) ⟨h1, ?_⟩
  have z : (s.heap.push o).objs.size = s.heap.objs.size + 1 := Heap.size_push ..
  have e := Heap.get?_push_size (s.heap.push o) (o := { cls := .type "enumerate", data := .fields #[.none, .bool false, .ref s.heap.objs.size, rawInt 0, .none, .none] }) rfl
  rw [z] at e
  show _ ∧ _
  rw [z]
  exact ⟨⟨_, e, rfl⟩, k _ e (Heap.get?_push_of_some _ (Heap.get?_push_size _ B.free)) fun b u x => Heap.get?_push_of_some _ (Heap.get?_push_of_some _ x)⟩

/-- the tuple at a, each item in a new pair -/
def IteT (K : PySem.W.Frag) (a : Addr) : It where
  go := fun i H => ∃ (xs : List V) (x : V), SqT K H a xs ∧ xs[i]? = some x
  yld := fun i H v H' => ∃ T x, v = .ref T ∧ H T = none ∧ H' = upd H T (.tup [.int (i : Nat), x]) ∧ ∀ xs, SqT K H a xs → xs[i]? = some x
  stop := fun i H => ∃ xs : List V, SqT K H a xs ∧ xs.length ≤ i
section
variable {X : Cx} {pins : List (Addr × Obj)} {σ : L2.St} {H : Hp} {s : Shared} {a e it : Addr} {i : Nat} {old : Value} {its : List Value}
theorem enumT_walks (hd : X.A.handled = none) (he : IsEnum s.heap e it ((i : Nat) : Int) old) (hit : s.heap.IsTupleIter it a i) (hne : e ≠ it) (p : s.heap.IsTuple a its.toArray) :
    WalksT X.prog X.w X.A e [e, it, a] [e, it] its.toArray.size (fun i vals => ∃ t x, its.toArray[i]? = some x ∧ vals = #[.int i t, x]) (fun i h => (∃ old, IsEnum h e it i old) ∧ h.IsTupleIter it a i ∧ h.IsTuple a its.toArray)
      (fun i T h => (∃ x, IsEnumOut h e it ((i : Int) + 1) x T) ∧ (h.IsTupleIter it a (i + 1) ∧ h.IsTuple a its.toArray) ∧ T ≠ e ∧ T ≠ it) := by
  have n1 : a ≠ it := fun z => by
    obtain ⟨o1, q1, c1, _⟩ := p
    obtain ⟨o2, q2, c2, _⟩ := hit
    rw [z, q2] at q1
    cases q1
    exact absurd (c2.symm.trans c1) (by decide)
  have n2 : e ≠ a := fun z => by
    obtain ⟨o1, q1, c1, _⟩ := p
    have he' : s.heap.get? e = _ := he
    rw [z, q1] at he'
    cases he'
    have c1 : Value.type "enumerate" = Value.type "tuple" := c1
    exact absurd c1 (by decide)
  exact WalksT.enumerateD (A := X.A) (Draws.tuple (A := X.A.in1) hd it a n1 its.toArray) e hne (by simp [hne, n2]) (by simp)
end
theorem enumT_done {prog : Program} {w : World} {A : Around} {Ex : Value → Shared → Prop} {s : Shared} {a e it : Addr} {i : Nat} {old : Value} {items : Array Value} {Q : Option Value → Shared → Prop} (hh : A.handled = none) (he : IsEnum s.heap e it ((i : Nat) : Int) old)
    (hit : s.heap.IsTupleIter it a i) (p : s.heap.IsTuple a items) (hx : items[i]? = none) (k : ∀ h', Heap.ExtBut it s.heap h' → Q none { s with heap := h' }) : wpAny (model prog w) A (pyNext (.ref e)) Q Ex s := by
  unfold pyNext
  refine wpAny_bind (wpAny_attempt (wpAny_callSpecial?_slot (name := Str.ofString "__next__") ⟨_, he, rfl⟩ F.slot_enumerate_next (wpAny_call_entry F.slot_enumerate_next ⟨_, he, rfl⟩ F.entry_enumerate_next ?_ (F.args_enumerate_next_1 _))))
  show wpAny _ _ (field (.ref e) 2 >>= _) _ _ s
  refine wpAny_bind (wpAny_field he rfl (x := .ref it) rfl (wpAny_bind (wpAny_nextOf_tuple_end hh hit p hx fun h' x ext ⟨o, ho, hc⟩ => ?_)))
  exact wpAny_bind (wpAny_isInstance (T := "StopIteration") (b := true) ⟨o, ho, hc⟩ isSubtype_stop (wpAny_pure (k _ ext)))
theorem turn_enumT {P : Program} {w : World} {K : PySem.W.Frag} {elts : List Expr} {kk : Nat} {tpos : Pos} (a e it : Addr) :
    Turn P w K (.Tuple elts kk tpos) (IteT K a) [e, it] e (fun i h => (∃ old, IsEnum h e it ((i : Nat) : Int) old) ∧ h.IsTupleIter it a i ∧ e ≠ it) where
  mem := List.mem_cons_self ..
  obj := fun i h st b hb => by
    obtain ⟨⟨old, he⟩, ⟨o, ho, _, hd⟩, _⟩ := st
    rcases List.mem_cons.mp hb with z | z
    · subst z
      exact ⟨_, he, fun v q => nomatch q⟩
    · rw [List.mem_singleton.mp z]
      exact ⟨o, ho, fun v q => by rw [hd] at q; cases q⟩
  keep := fun i h h' ⟨⟨old, he⟩, hi, hne⟩ k => ⟨⟨old, k e (List.mem_cons_self ..) _ he⟩, hi.at fun o q => k it (List.mem_cons_of_mem _ (List.mem_cons_self ..)) o q, hne⟩
  item := by
    intro X hP hw hK hc i pins s σ H E I hf ⟨⟨old, he⟩, hit, hne⟩ ⟨xs, x, hq, hx⟩
    subst hP hw hK
    obtain ⟨its, rv, p, hz⟩ := I.tuple hq
    obtain ⟨u, hu, ru⟩ := rv.get hx
    have p' : s.heap.IsTuple a its.toArray := p
    have W := enumT_walks (X := X) (I.ok.hd hc) he hit hne p'
    have hlt : i < its.toArray.size := by simpa using (List.getElem?_eq_some_iff.mp hu).1
    refine W.item i s _ E hlt ⟨⟨old, he⟩, hit, p'⟩ fun T vals h' tk hv hT isT mid k1 => ⟨_, rfl, ?_⟩
    obtain ⟨t, y, hy, rfl⟩ := hv
    have ey : u = y := by
      have e1 : its.toArray[i]? = some u := by simpa using hu
      exact Option.some.inj (e1.symm.trans hy)
    subst ey
    refine W.go elts kk tpos i T { s with heap := h', toks := tk } _ E mid fun h2 st2 k2 => ?_
    have away := W.apart i T h' mid
    obtain ⟨oT, hoT, cT, nT, dT⟩ := isT
    have hoT2 : h2.get? T = some oT := k2 T oT away hoT
    have new : ObjOk X.prog X.w (upd H T (.tup [.int (i : Nat), x])) h2 T (.tup [.int (i : Nat), x]) := ⟨by show 2 ≤ sizeLine; decide, [.int i t, u], .cons ⟨_, rfl⟩ (.cons ru .nil), ⟨oT, hoT2, cT, nT, dT⟩⟩
    have I1 : Inv X pins σ (upd H T (.tup [.int (i : Nat), x])) { s with heap := h2, toks := tk } := I.turnedNew (ch := [e, it]) (fun b ob hb q => k2 b ob hb (k1 b ob hb q)) hf hT new
    refine ⟨.ref T, _, I1, rfl, ⟨T, x, rfl, I.hok.fresh hT, rfl, fun ys hy => by rw [I.tuple_inj hy hq]; exact hx⟩, ⟨st2.1, st2.2.1, hne⟩, fun b hb => ?_⟩
    have nb : b ≠ T := fun z => away (by rw [← z]; exact hb)
    rw [upd_ne nb]
    exact (hf b hb).1
  done := by
    intro X hP hw hK hc i pins s σ H E I hf ⟨⟨old, he⟩, hit, hne⟩ ⟨xs, hq, hx⟩
    subst hP hw hK
    obtain ⟨its, rv, p, hz⟩ := I.tuple hq
    have p' : s.heap.IsTuple a its.toArray := p
    have hl := rv.length
    obtain ⟨o, ho, cT, nT, dT⟩ := id p'
    obtain ⟨f0, f1, f2, f3, f4, f5⟩ := hf it (List.mem_cons_of_mem _ (List.mem_cons_self ..))
    refine enumT_done (I.ok.hd hc) he hit p' (by simp; omega) fun h' ex => ⟨rfl, I.turned (t' := s.toks) (fun b ob hb q => ex b ob hb q) f0 f1 f3 f4 f5⟩
  self := fun A i s Q E ⟨⟨_, he⟩, _⟩ h => wpAny_pyIter_enum he h
def iEnumT (K : PySem.W.Frag) (ta : TA) : TI := fun σ H R => ta σ H fun vs H1 => ∃ a xs, vs = [.ref a] ∧ SqT K H1 a xs ∧ R (IteT K a) H1
theorem pi_enumT {X : Cx} {e : Expr} {ta : TA} {p pos tpos : Pos} {elts : List Expr} {kk : Nat} (hg : Gl X "enumerate") (hm : X.mg "enumerate" = none) (ha : PA X [e] ta) (hs : starEach [e] X.env = [(false, eval e X.env)] := by rfl) :
    PI X (.Tuple elts kk tpos) (.Call (.Name "enumerate" p) [e] [] pos) (iEnumT X.K ta) := by
  refine ⟨fun pins s σ H R I h => Call_ (ld_blt I hg hm boot_enumerate (PyProof.Rows.callWith_type1 (thn (ha.run pos pins s σ H _ I h) fun us s1 ⟨vs, H1, I1, r1, q1⟩ => ?_) hs rfl))⟩
  obtain ⟨a, xs, rfl, hq, q⟩ := q1
  cases r1 with
  | cons r rr =>
    cases rr
    cases r
    obtain ⟨its, rv, p', hz⟩ := I1.tuple hq
    refine call_enum1 (begins_tuple a its.toArray) (show s1.heap.IsTuple a its.toArray from p') fun h' he hit hk => wpAny_pyIter_enum he ?_
    refine ⟨s1.heap.objs.size + 1, [s1.heap.objs.size + 1, s1.heap.objs.size], _, _, H1, rfl, I1.kept (t' := s1.toks) hk, turn_enumT a _ _, ⟨⟨.none, he⟩, ⟨_, hit, rfl, rfl⟩, Nat.succ_ne_self _⟩, fun b hb => ?_, q⟩
    have hle : s1.heap.objs.size ≤ b := by
      rcases List.mem_cons.mp hb with z | z
      · rw [z]
        exact Nat.le_add_right _ 1
      · rw [List.mem_singleton.mp z]
        exact Nat.le_refl _
    exact I1.fpOk hle (I1.hok.fresh hle)
theorem walk_enumT {K : PySem.W.Frag} {a : Addr} {xs : List V} : Walk (IteT K a) xs.length (fun H => SqT K H a xs) (YPair (fun i => some (.int (i : Nat))) (fun i => xs[i]?)) :=
  ⟨fun i _ hi q => ⟨xs, xs[i], q, by simp [hi]⟩, fun _ q => ⟨xs, q, Nat.le_refl _⟩, fun i H v H' _ q ⟨T, x, h1, h2, h3, h4⟩ => ⟨T, .int (i : Nat), x, h1, h2, h3, rfl, h4 xs q⟩⟩
end Sz
namespace Sz
open PySem PySem.Spec PyProof.Rows L2
/-! ### ranges of integers of any size -/
theorem turn_long {P : Program} {w : World} {K : PySem.W.Frag} {tg : Expr} (it : Addr) (lo : Int) (n : Nat) :
    Turn P w K tg (Itr lo n) [it] it (fun i h => IsLongIter h it (lo + (i : Nat) * 1) ((n : Int) - (i : Nat)) 1) := by
  have fpit : ∀ {X : Cx} {pins : List (Addr × Obj)} {σ : L2.St} {H : Hp} {s : Shared} {h' : Heap} {tk : Nat}, Inv X pins σ H s → FpOk X pins H it → (∀ b o, b ≠ it → s.heap.get? b = some o → h'.get? b = some o) → Inv X pins σ H { s with heap := h', toks := tk } := fun I f k => by
    obtain ⟨g0, g1, _, g3, g4, g5⟩ := f
    exact I.turned k g0 g1 g3 g4 g5
  constructor
  · exact List.mem_singleton_self it
  · intro i h z b hb
    cases List.mem_singleton.mp hb
    refine ⟨_, z, fun v y => ?_⟩
    have y' : Data.fields _ = Data.cell v := y
    cases y'
  · exact fun i h h' z keep => keep it (List.mem_singleton_self it) _ z
  · intro X e1 e2 e3 calm i pins s σ H E I fp z go
    subst e1 e2 e3
    have wk := Walks.longrange (prog := X.prog) (w := X.w) (I.ok.hd calm) it lo 1 n
    refine wk.item i s _ _ go z ?_
    rintro v h' tk ⟨t, rfl⟩ z' kp
    have J := fpit (tk := tk) I (fp it (List.mem_singleton_self it)) fun b o hb e => kp b o (by simpa using hb) e
    refine ⟨_, rfl, go_of (s := { s with heap := h', toks := tk }) (n := "longrange_iterator") z' rfl rfl (by decide) ?_⟩
    exact ⟨.int (lo + i), H, J, ⟨t, by rw [Int.mul_one]⟩, ⟨rfl, rfl⟩, z', fun b hb => (fp b hb).1⟩
  · intro X e1 e2 e3 calm i pins s σ H E I fp z stop
    subst e1 e2 e3
    refine wpAny_pyNext_long_end (I.ok.hd calm) z (by have : n ≤ i := stop; omega) fun h' eb => ⟨rfl, ?_⟩
    exact fpit (tk := s.toks) I (fp it (List.mem_singleton_self it)) eb
  · exact fun A i s Q E z h => wpAny_pyIter_longiter z h
section
variable {X : Cx} {tg : Expr}
theorem range_any {pins : List (Addr × Obj)} {σ : L2.St} {H : Hp} {s : Shared} {R : It → Hp → Prop} {E : Value → Shared → Prop} {lo hi : Int} {t u v : Tok} {tk : Nat} (I : Inv X pins σ H s)
    (q : R (Itr lo (hi - lo).toNat) H) : wpAny (model X.prog X.w) X.A (pyIter (.ref s.heap.objs.size)) (PIE X pins σ tg R) E { s with heap := s.heap.push { cls := .type "range", data := .fields #[.int lo t, .int hi u, .int 1 v] }, toks := tk } := by
  generalize hr : s.heap.push { cls := .type "range", data := .fields #[.int lo t, .int hi u, .int 1 v] } = hp
  have J : Inv X pins σ H { s with heap := hp, toks := tk } := by
    rw [← hr]
    exact I.kept fun b o e => Heap.get?_push_of_some _ e
  have fresh : ∀ b ∈ [hp.objs.size], FpOk X pins H b := fun b hb => by
    cases List.mem_singleton.mp hb
    exact J.fpOk (Nat.le_refl _) (J.hok.fresh (Nat.le_refl _))
  have ir : IsRange hp s.heap.objs.size lo hi 1 t u v := by
    rw [← hr]
    exact IsRange.new ..
  have x0 : lo + ((0 : Nat) : Int) * 1 = lo := by simp
  have n0 : (((hi - lo).toNat : Nat) : Int) - ((0 : Nat) : Int) = Builtin.Range.rangeSize lo hi 1 := by
    rw [rangeSize_one]
    split <;> omega
  cases sm : Builtin.Range.small lo hi 1 with
  | true =>
    refine wpAny_pyIter_range ir sm ?_
    refine ⟨hp.objs.size, [hp.objs.size], _, _, H, rfl, J.kept (t' := tk) fun b o e => Heap.get?_push_of_some _ e, turn_range _ lo (hi - lo).toNat, ?_, fresh, q⟩
    show IsRangeIter _ _ (lo + ((0 : Nat) : Int) * 1) ((((hi - lo).toNat : Nat) : Int) - ((0 : Nat) : Int)) 1
    rw [x0, n0]
    exact Heap.get?_push_size hp rfl
  | false =>
    refine wpAny_pyIter_longrange ir sm ?_
    refine ⟨hp.objs.size, [hp.objs.size], _, _, H, rfl, J.kept (t' := tk) fun b o e => Heap.get?_push_of_some _ e, turn_long _ lo (hi - lo).toNat, ?_, fresh, q⟩
    show IsLongIter _ _ (lo + ((0 : Nat) : Int) * 1) ((((hi - lo).toNat : Nat) : Int) - ((0 : Nat) : Int)) 1
    rw [x0, n0]
    exact Heap.get?_push_size hp rfl
def iRngA (ta : TA) : TI := fun σ H R => ta σ H fun vs H1 => ∃ i j : Int, vs = [.int i, .int j] ∧ R (Itr i (j - i).toNat) H1
theorem pi_range2A {a b : Expr} {ta : TA} {p pos : Pos} (hg : Gl X "range") (hm : X.mg "range" = none) (ha : PA X [a, b] ta) (s1 : starEach [a, b] X.env = [(false, eval a X.env), (false, eval b X.env)] := by rfl) (s2 : starEach [b] X.env = [(false, eval b X.env)] := by rfl) :
    PI X tg (.Call (.Name "range" p) [a, b] [] pos) (iRngA ta) := by
  constructor
  intro pins s σ H R I h
  refine Call_ (ld_blt I hg hm boot_range (PyProof.Rows.callWith_type1 (thn (ha.run pos pins s σ H _ I h) ?_) (by rw [s1, s2]) (by rw [s2]; rfl)))
  rintro us sA ⟨vs, H1, I1, r1, i, j, rfl, q⟩
  obtain ⟨t, t', rfl⟩ := Vals.int2 r1
  exact call_range_2 (range_any I1 q)
end
end Sz
namespace Sz
open PySem PySem.Spec PyProof.Rows L2
/-! ### list(range(a, b)) of integers of any size -/
section
variable {prog : Program} {w : World} {A : Around} {E : Value → Shared → Prop} {s : Shared}
/-- L.extend(range(a, b)), L empty -/
theorem extend_long {R : Result → Shared → Prop} {r : Addr} {a b : Int} {t u v : Tok} {n : Nat} (calm : A.handled = none) (ir : IsRange s.heap r a b 1 t u v) (big : Builtin.Range.small a b 1 = false) (size : Builtin.Range.rangeSize a b 1 = n) (few : n ≤ 2 ^ 24)
    (L : Addr) (out : Value) (c : Nat) (hL : s.heap.get? L = some { cls := .type "list", data := .seq #[] c })
    (goal : ∀ h' tk its c', (∀ x o, x ≠ L → s.heap.get? x = some o → h'.get? x = some o) → h'.get? L = some { cls := .type "list", dict := none, data := .seq its c', slots := #[] } → ItemsOf (fun i z => ∃ y, z = .int (a + i * 1) y) its n →
      R (.ok (.ret out)) { s with heap := h', toks := tk }) :
    wpAny (model prog w) A.in1 (Builtin.List.listExtendWith (.ref L) (.ref r) out) (fun fin s' => match fin with
      | .done f => R (.ok f) s'
      | .again c' => c'.quiet = true ∧ codeAny (model prog w) A c' R s') (fun e s' => R (.error e) s') s := by
  have ne1 : L ≠ r := by
    rintro rfl
    rw [ir] at hL
    simp at hL
  have ne2 : L ≠ s.heap.objs.size := Nat.ne_of_lt (Heap.lt_size hL)
  have wk := (Walks.longrange (prog := prog) (w := w) (A := A.in1) calm s.heap.objs.size a 1 n).toS
  have loop : ∀ (h : Heap) (c1 tk : Nat), IsLongIter h s.heap.objs.size (a + ((0 : Nat) : Int) * 1) ((n : Int) - ((0 : Nat) : Int)) 1 → (∀ x o, x ≠ L → s.heap.get? x = some o → h.get? x = some o) → h.get? L = some { cls := .type "list", data := .seq #[] c1 } →
      codeAny (model prog w) A (.builtin "list.extend.loop" ⟨[.ref L, .ref s.heap.objs.size, out], []⟩) R { s with heap := h, toks := tk } := fun h c1 tk z kp hl => by
    refine codeAny_extend_loopS wk (by rw [sizeLine_eq]; omega) L (fun m => ne2 (List.mem_singleton.mp m)) out n 0 _ #[] c1 rfl (Nat.zero_le _) z hl (ItemsOf.nil _) ?_
    intro s' its c' mv hl' hi
    rw [Moved.eq_with mv]
    refine goal s'.heap s'.toks its c' (fun x o hx e => mv.heap x o (fun m => ?_) (kp x o hx e)) hl' hi
    cases List.mem_cons.mp m with
    | inl q => exact hx q
    | inr q =>
      have q1 := List.mem_singleton.mp q
      rw [q1] at e
      exact absurd (Heap.lt_size e) (Nat.lt_irrefl _)
  unfold Builtin.List.listExtendWith
  refine wpAny_bind (wpAny_typeOf (T := "range") ⟨_, ir, rfl⟩ ?_)
  have f1 : Builtin.List.listSameRef (.ref L) (.ref r) = false := by
    simp [Builtin.List.listSameRef, ne1]
  have f2 : (Value.type "range" == Value.type "list") = false := by decide
  have f3 : (Value.type "range" == Value.type "tuple") = false := by decide
  simp only [f1, f2, f3, Bool.or_false, Bool.false_eq_true, if_false]
  refine wpAny_bind (wpAny_pyIter_longrange ir big (wpAny_bind (wpAny_holding (wpAny_hint_range (n := n) (Heap.get?_push_of_some _ ir) size few ?_))))
  generalize hg : s.heap.push { cls := .type "longrange_iterator", data := .fields #[rawInt a, rawInt (Builtin.Range.rangeSize a b 1), rawInt 1] } = g
  have gi : IsLongIter g s.heap.objs.size (a + ((0 : Nat) : Int) * 1) ((n : Int) - ((0 : Nat) : Int)) 1 := by
    have x0 : a + ((0 : Nat) : Int) * 1 = a := by simp
    have x1 : (n : Int) - ((0 : Nat) : Int) = Builtin.Range.rangeSize a b 1 := by rw [size]; simp
    rw [x0, x1, ← hg]
    exact Heap.get?_push_size _ rfl
  have gk : ∀ x o, s.heap.get? x = some o → g.get? x = some o := fun x o e => by
    rw [← hg]
    exact Heap.get?_push_of_some _ e
  have gL := gk L _ hL
  refine wpAny_ite_split (fun _ => ?_) fun _ => wpAny_pure ⟨plainId_quiet F.plain_extend_loop _, loop _ c _ gi (fun x o _ e => gk x o e) gL⟩
  refine wpAny_bind (wpAny_rule (wpAny_bind ?_))
  show wpAny _ _ (updateSeq L (·.push .none) >>= fun _ => updateSeq L (·.pop)) _ _ _
  refine wpAny_bind (wpAny_updateSeq gL rfl ?_)
  have m1 := Heap.get?_update_self (Obj.mapSeq (·.push Value.none)) gL rfl
  refine wpAny_updateSeq (hz := by seq_fits) m1 rfl (wpAny_pure ⟨plainId_quiet F.plain_extend_loop _, loop _ _ _ ?_ (fun x o hx e => ?_) (Heap.get?_update_self (Obj.mapSeq (·.pop)) m1 rfl)⟩)
  · exact (Heap.get?_update_other _ _ ne2).trans ((Heap.get?_update_other _ _ ne2).trans gi)
  · exact (Heap.get?_update_other _ _ (Ne.symm hx)).trans ((Heap.get?_update_other _ _ (Ne.symm hx)).trans (gk x o e))
theorem call_list_long {Q : Value → Shared → Prop} {r : Addr} {a b : Int} {t u v : Tok} {n : Nat} (calm : A.handled = none) (ir : IsRange s.heap r a b 1 t u v) (big : Builtin.Range.small a b 1 = false) (size : Builtin.Range.rangeSize a b 1 = n) (few : n ≤ 2 ^ 24)
    (goal : ∀ h' tk its c', (∀ x o, s.heap.get? x = some o → h'.get? x = some o) → h'.get? s.heap.objs.size = some { cls := .type "list", dict := none, data := .seq its c', slots := #[] } → ItemsOf (fun i z => ∃ y, z = .int (a + i * 1) y) its n →
      Q (.ref s.heap.objs.size) { s with heap := h', toks := tk }) : wpAny (model prog w) A (call (.type "list") [.ref r]) Q E s := by
  refine callType_codes (Q₁ := fun obj s1 => obj = .ref s.heap.objs.size ∧ s1 = { s with heap := s.heap.push { cls := .type "list", data := .seq #[] } }) F.called_list (F.typeCall_list_1 _) F.entry_list_init (code_list_new _ ⟨rfl, rfl⟩) ?_
  rintro _ _ ⟨rfl, rfl⟩
  generalize hg : s.heap.push { cls := .type "list", data := .seq #[] } = g
  have gk : ∀ x o, s.heap.get? x = some o → g.get? x = some o := fun x o e => by
    rw [← hg]
    exact Heap.get?_push_of_some _ e
  have gL : g.get? s.heap.objs.size = some { cls := .type "list", data := .seq #[] } := by
    rw [← hg]
    exact Heap.get?_push_size _ rfl
  have lt : ∀ x o, s.heap.get? x = some o → x ≠ s.heap.objs.size := fun x o e => Nat.ne_of_lt (Heap.lt_size e)
  generalize hS : s.heap.objs.size = L at gL goal lt
  have nr : r ≠ L := lt r _ ir
  refine ⟨⟨_, gL, rfl⟩, F.args_list_init_2 _ _, ?_⟩
  show wpAny _ _ (do let old ← Builtin.List.listItems (.ref L); Builtin.List.listUpdate (.ref L) (fun _ => #[]); letGo old.toList.reverse; Builtin.List.listExtendWith (.ref L) (.ref r) .none) _ _ _
  unfold Builtin.List.listItems
  refine wpAny_bind (wpAny_bind (wpAny_seqItems gL rfl (wpAny_pure ?_)))
  show wpAny _ _ (updateSeq L (fun _ => #[]) >>= fun _ => letGo (#[] : Array Value).toList.reverse >>= fun _ => Builtin.List.listExtendWith (.ref L) (.ref r) .none) _ _ _
  refine wpAny_bind (wpAny_updateSeq gL rfl (wpAny_bind (wpAny_letGo ?_)))
  have ot : ∀ x o, x ≠ L → g.get? x = some o → (g.update L (Obj.mapSeq (fun _ => (#[] : Array Value)))).get? x = some o := fun x o hx e => (Heap.get?_update_other _ _ (Ne.symm hx)).trans e
  refine extend_long (A := A.in1) calm (ot r _ nr (gk r _ ir)) big size few L .none _ (Heap.get?_update_self (Obj.mapSeq (fun _ => (#[] : Array Value))) gL rfl) fun h' tk its c' kp hl' hi => ?_
  exact ⟨rfl, goal h' tk its c' (fun x o e => kp x o (lt x o e) (ot x o (lt x o e) (gk x o e))) hl' hi⟩
end
section
variable {X : Cx} {e : Expr} {te : L2.St → Hp → (Int → Int → Hp → Prop) → Prop}
def tLstA (te : L2.St → Hp → (Int → Int → Hp → Prop) → Prop) : TE := fun σ H Q => te σ H fun a b H1 => (b - a).toNat ≤ 1000000 ∧ ∀ q, H1 q = none → Q (.ref q) (upd H1 q (.lst (rgV a b)))
/-- list(range(..)) -/
theorem pe_listA {p pos : Pos} (hc : X.calm = true) (hg : Gl X "list") (hm : X.mg "list" = none) (he : PRg X e te) (na : starEach [e] X.env = (false, eval e X.env) :: starEach [] X.env := by rfl) : PE X (.Call (.Name "list" p) [e] [] pos) (tLstA te) := by
  constructor
  intro pins s σ H Q I h
  refine Call_ (ld_blt I hg hm boot_list (PyProof.Rows.callWith_type1 (args_cons (thn (he pins s σ H _ I h) ?_) na) na))
  rintro _ s1 ⟨r, a, b, t, u, v, H1, rfl, ir, J, few, q⟩
  refine args_nil ?_
  have few2 : (b - a).toNat ≤ 2 ^ 24 := Nat.le_trans few (by decide)
  have fin : ∀ h' tk its c', (∀ x o, s1.heap.get? x = some o → h'.get? x = some o) → h'.get? s1.heap.objs.size = some { cls := .type "list", dict := none, data := .seq its c', slots := #[] } → ItemsOf (fun i z => ∃ y, z = .int (a + i * 1) y) its (b - a).toNat →
      EP X pins σ Q (.ref s1.heap.objs.size) { s1 with heap := h', toks := tk } := fun h' tk its c' kp at_ hi => by
    refine ⟨.ref s1.heap.objs.size, upd H1 s1.heap.objs.size (.lst (rgV a b)), J.laid kp (Nat.le_refl _) ?_, rfl, q _ (J.hok.fresh (Nat.le_refl _))⟩
    refine (show ObjOk X.prog X.w _ _ _ (.lst (rgV a b)) from ⟨?_, its.toList, c', vals_rg hi, ?_⟩)
    · rw [rgV_length, sizeLine_eq]
      omega
    · rw [Array.toArray_toList]
      exact at_
  cases sm : Builtin.Range.small a b 1 with
  | true => exact call_list_range (J.ok.hd hc) ir sm (rangeSize_nat a b) few2 fin
  | false => exact call_list_long (J.ok.hd hc) ir sm (rangeSize_nat a b) few2 fin
end
end Sz
/-! x + y by an own __add__ -/
namespace Sz
open PySem PySem.Spec PyProof.Rows L2
/-- what the two classes must have: C its own def, D none, both stand under object alone -/
structure AddK (K : PySem.W.Frag) (C D f : Addr) : Prop where
  ne : C ≠ D
  c1 : ∃ cd, PySem.W.clsIn K C = some cd ∧ cd.mro = [.ref C, .type "object"]
  c2 : ∃ cd, PySem.W.clsIn K D = some cd ∧ cd.mro = [.ref D, .type "object"]
  at_ : PySem.W.findIn K (.ref C) "__add__" = some (some (.ref f))
  fn : PySem.W.isFn K (.ref f) = true
  n1 : PySem.W.findIn K (.ref D) "__add__" = some none
  n2 : PySem.W.findIn K (.ref D) "__radd__" = some none
def mroB (K : PySem.W.Frag) (C : Addr) : Bool := match PySem.W.clsIn K C with
  | some cd => decide (cd.mro = [.ref C, .type "object"])
  | none => false
def addB (K : PySem.W.Frag) (C D : Str) : Bool := decide (He.ga K C ≠ He.ga K D) && (mroB K (He.ga K C) && (mroB K (He.ga K D) && (He.eqO (PySem.W.findIn K (.ref (He.ga K C)) "__add__") (some (some (.ref (He.ma K (He.ga K C) "__add__")))) &&
  (PySem.W.isFn K (.ref (He.ma K (He.ga K C) "__add__")) && (He.eqO (PySem.W.findIn K (.ref (He.ga K D)) "__add__") (some none) && He.eqO (PySem.W.findIn K (.ref (He.ga K D)) "__radd__") (some none))))))
theorem mroB_ok {K : PySem.W.Frag} {C : Addr} (h : mroB K C = true) : ∃ cd, PySem.W.clsIn K C = some cd ∧ cd.mro = [.ref C, .type "object"] := by
  unfold mroB at h
  cases e : PySem.W.clsIn K C with
  | none =>
    rw [e] at h
    cases h
  | some cd =>
    rw [e] at h
    exact ⟨cd, rfl, of_decide_eq_true h⟩
theorem addB_ok {K : PySem.W.Frag} {C D : Str} (h : addB K C D = true) : AddK K (He.ga K C) (He.ga K D) (He.ma K (He.ga K C) "__add__") := by
  obtain ⟨h1, h⟩ := He.ba h
  obtain ⟨h2, h⟩ := He.ba h
  obtain ⟨h3, h⟩ := He.ba h
  obtain ⟨h4, h⟩ := He.ba h
  obtain ⟨h5, h⟩ := He.ba h
  obtain ⟨h6, h7⟩ := He.ba h
  exact ⟨of_decide_eq_true h1, mroB_ok h2, mroB_ok h3, He.eqO_ok h4, h5, He.eqO_ok h6, He.eqO_ok h7⟩
section
variable {K : PySem.W.Frag} {M : Model} {h : Heap} {C D f : Addr}
theorem fills_own (X : K.In h) (a : AddK K C D f) : PySem.W.Looks M h (fillsNumberSlot (.ref C) "add") true := by
  obtain ⟨cd, e1, e2⟩ := a.c1
  have L1 : PySem.W.Looks M h (mroOf (.ref C)) cd.mro := (PySem.W.looks_clsIn X e1).andThen .now
  have L2 : PySem.W.Looks M h (typeLookup (.ref C) "__add__") (some (.ref f)) := PySem.W.looks_findIn X a.at_
  unfold fillsNumberSlot
  refine PySem.W.Looks.andThen L1 ?_
  rw [e2]
  simp only [List.anyM]
  refine PySem.W.Looks.andThen (a := true) ?_ .now
  refine PySem.W.Looks.andThen (a := true) (PySem.W.Looks.andThen L2 ?_) .now
  exact .now
theorem fills_none (X : K.In h) (a : AddK K C D f) : PySem.W.Looks M h (fillsNumberSlot (.ref D) "add") false := by
  obtain ⟨cd, e1, e2⟩ := a.c2
  have L1 : PySem.W.Looks M h (mroOf (.ref D)) cd.mro := (PySem.W.looks_clsIn X e1).andThen .now
  have L2 : PySem.W.Looks M h (typeLookup (.ref D) "__add__") none := PySem.W.looks_findIn X a.n1
  have L3 : PySem.W.Looks M h (typeLookup (.ref D) "__radd__") none := PySem.W.looks_findIn X a.n2
  have L4 : PySem.W.Looks M h (typeLookup (.type "object") "__add__") none := .of_pure (by rw [typeLookup_type, builtinLookup_eq_fast]; kernel_rfl)
  have L5 : PySem.W.Looks M h (typeLookup (.type "object") "__radd__") none := .of_pure (by rw [typeLookup_type, builtinLookup_eq_fast]; kernel_rfl)
  unfold fillsNumberSlot
  refine PySem.W.Looks.andThen L1 ?_
  rw [e2]
  simp only [List.anyM]
  refine PySem.W.Looks.andThen (a := false) ?_ ?_
  · refine PySem.W.Looks.andThen (a := false) (PySem.W.Looks.andThen L2 .now) ?_
    exact PySem.W.Looks.andThen (a := false) (PySem.W.Looks.andThen L3 .now) .now
  · refine PySem.W.Looks.andThen (a := false) ?_ .now
    exact PySem.W.Looks.andThen L4 (PySem.W.Looks.andThen L5 .now)
end
section
variable {X : Cx} {CX : CXT} {k : Nat} {C D : Str} {ps : List Str} {sp : Sp} {E : XK}
/-- x + y: x an instance of C with its own __add__, y one of D with none -/
theorem op_addO (a : AddK X.K (He.ga X.K C) (He.ga X.K D) (He.ma X.K (He.ga X.K C) "__add__")) (G : PromM X.prog X.w X.K X.mg X.base CX k C "__add__" ps sp) (hr : Room k X.A) (hx : Passes CX X E) :
    OpR X (binaryOp .Add) (fun x y H Q => ∃ p q dx fs dy gs, x = .ref p ∧ y = .ref q ∧ H p = some (.ins (He.ga X.K C) dx fs) ∧ H q = some (.ins (He.ga X.K D) dy gs) ∧ sp [.ref p, .ref q] H Q E) := by
  intro pins s σ H x y v u Q I rx ry h
  obtain ⟨p, q, dx, fs, dy, gs, rfl, rfl, hp, hq, h⟩ := h
  obtain rfl : v = Value.ref p := rx
  obtain rfl : u = Value.ref q := ry
  obtain ⟨m1, O1, _⟩ := ins_get I.hok hp
  obtain ⟨od1, J1, _⟩ := O1.look
  obtain ⟨m2, O2, _⟩ := ins_get I.hok hq
  obtain ⟨od2, J2, _⟩ := O2.look
  obtain ⟨fd, F, b⟩ := G.ex
  have ne : (Value.ref (He.ga X.K C) == Value.ref (He.ga X.K D)) = false := by
    rw [beq_eq_false_iff_ne]
    exact fun z => a.ne (by injection z)
  unfold binaryOp
  refine wpAny_holding ?_
  show wpAny _ _ (binaryOp1 "add" (.ref p) (.ref q) >>= _) _ _ s
  refine wpAny_bind ?_
  unfold binaryOp1
  refine wpAny_bind (J1.type.here (wpAny_bind (J2.type.here (wpAny_bind ((fills_own I.kIn a).here ?_)))))
  rw [ne]
  refine wpAny_bind ((fills_none I.kIn a).here ?_)
  simp only [Bool.and_false, Bool.false_and, Bool.false_eq_true, if_false, if_true]
  refine wpAny_bind (wpAny_pure ?_)
  simp only [Bool.false_eq_true, if_false]
  unfold tryMethod callSpecial? specialOf
  refine wpAny_bind (wpAny_bind (wpAny_bind (wpAny_bind (J1.type.here ((PySem.W.looks_findIn I.kIn a.at_).here ?_)))))
  refine wpAny_holding (wpAny_bind ((PySem.W.bind_fn I.kIn (.ref p) (beq_iff_eq.mp a.fn)).here ?_))
  refine wpAny_bind (thn (run_fn (us := [.ref p, .ref q]) (vs := [.ref p, .ref q]) F hr b .nil hx I (.cons rfl (.cons rfl .nil)) h) fun v s' hv => wpAny_pure ?_)
  have fin : wpAny (model X.prog X.w) X.A (pure (some v) : Sem (Option Value)) (fun r s2 => wpAny (model X.prog X.w) X.A (match r with
      | some v => pure v
      | _ => do
        let ty ← typeOf (Value.ref p)
        let sl ← seqSlot? ty (Str.ofString "__add__")
        match sl with
          | some f => do
            rule "binop.sequence-concat"
            call f [Value.ref p, Value.ref q]
          | _ => binopTypeError "+" (Value.ref p) (Value.ref q)) (EP X pins σ Q) X.xe s2) X.xe s' := wpAny_pure (wpAny_pure hv)
  obtain ⟨x, H', I', r, q'⟩ := hv
  cases x with
  | non => cases (show v = Value.none from r); exact wpAny_pure fin
  | bl c => cases (show v = Value.bool c from r); exact wpAny_pure fin
  | int i => obtain ⟨t, rfl⟩ := (show ∃ t, v = Value.int i t from r); exact wpAny_pure fin
  | str i => obtain ⟨t, rfl⟩ := (show ∃ t, v = Value.str i t from r); exact wpAny_pure fin
  | byt i => obtain ⟨t, rfl⟩ := (show ∃ t, v = Value.bytes i t from r); exact wpAny_pure fin
  | flt i => obtain ⟨t, rfl⟩ := (show ∃ t, v = Value.float i t from r); exact wpAny_pure fin
  | ref a => cases (show v = Value.ref a from r); exact wpAny_pure fin
  | ty n => cases (show v = Value.type n from r); exact wpAny_pure fin
end
end Sz
/-! texts: what is joined, and its repr -/
namespace Sz
open PySem PySem.Spec PyProof.Rows L2
def Signs (x : Str) : Prop := ∀ c ∈ x.cps.toList, c < 16 ^ 8
theorem signs_of (s : String) : Signs (Str.ofString s) := fun c hc => by
  rw [Str.ofString_eq_toList] at hc
  have hc : c ∈ s.toList.map Char.toNat := by simpa using hc
  obtain ⟨d, _, rfl⟩ := List.mem_map.mp hc
  have h := d.valid
  have h2 : d.toNat < 1114112 := by
    rcases h with h | h
    · exact Nat.lt_trans h (by decide)
    · exact h.2
  exact Nat.lt_of_lt_of_le h2 (by decide)
theorem joinL_mem {sep : List Nat} {c : Nat} : ∀ {l : List (List Nat)}, c ∈ TL.joinL sep l → c ∈ sep ∨ ∃ y ∈ l, c ∈ y
  | [], h => by simp [TL.joinL] at h
  | [p], h => .inr ⟨p, by simp, h⟩
  | p :: q :: r, h => by
    rcases List.mem_append.mp (show c ∈ p ++ (sep ++ TL.joinL sep (q :: r)) from h) with h | h
    · exact .inr ⟨p, by simp, h⟩
    · rcases List.mem_append.mp h with h | h
      · exact .inl h
      · rcases joinL_mem h with h | ⟨y, hy, hc⟩
        · exact .inl h
        · exact .inr ⟨y, List.mem_cons_of_mem _ hy, hc⟩
theorem joinL_len {sep : List Nat} : ∀ {l : List (List Nat)}, (TL.joinL sep l).length ≤ (l.map (·.length)).sum + l.length * sep.length
  | [] => by simp [TL.joinL]
  | [p] => by simp [TL.joinL]
  | p :: q :: r => by
    have ih := joinL_len (sep := sep) (l := q :: r)
    show (p ++ (sep ++ TL.joinL sep (q :: r))).length ≤ _
    rw [List.length_append, List.length_append]
    simp only [List.map_cons, List.sum_cons, List.length_cons, Nat.add_mul, Nat.one_mul] at ih ⊢
    omega
theorem join_signs {sep : Str} {ys : List Str} (h : Signs sep) (h2 : ∀ y ∈ ys, Signs y) : Signs (Txt.join sep ys) := fun c hc => by
  rw [TL.join_eq] at hc
  have hc : c ∈ TL.tl (Str.join sep ys) := hc
  rw [TL.tl_join] at hc
  rcases joinL_mem hc with z | ⟨y, hy, z⟩
  · exact h c z
  · obtain ⟨y', hy', rfl⟩ := List.mem_map.mp hy
    exact h2 y' hy' c z
theorem join_len {sep : Str} {ys : List Str} : (Txt.join sep ys).length ≤ (ys.map (·.length)).sum + ys.length * sep.length := by
  have e : ∀ x : Str, x.length = (TL.tl x).length := fun x => by
    show x.cps.size = x.cps.toList.length
    simp
  rw [TL.join_eq, e, TL.tl_join]
  have := joinL_len (sep := TL.tl sep) (l := ys.map TL.tl)
  rw [List.map_map, List.length_map] at this
  have e2 : ys.map ((·.length) ∘ TL.tl) = ys.map (·.length) := by
    apply List.map_congr_left
    intro y _
    exact (e y).symm
  rw [e2] at this
  rw [e sep]
  exact this
theorem repr_fits {x : Str} (h : Signs x) (hl : x.length ≤ 100000) : (reprText x).length ≤ sizeLine := by
  have := PySem.StrLaws.reprText_len x h
  rw [sizeLine_eq]
  omega
/-- repr of a text -/
theorem cr_reprS {X : Cx} : CallR X (.builtin "repr") (fun xs H Q => ∃ y : Str, xs = [.str y] ∧ (reprText y).length ≤ sizeLine ∧ Q (.str (reprText y)) H) := by
  intro pins s σ H xs us Q I r h
  obtain ⟨y, rfl, hz, q⟩ := h
  obtain ⟨u, rfl, ru⟩ := vals1 r
  obtain ⟨t, rfl⟩ := (show ∃ t, u = Value.str y t from ru)
  exact PySem.P.repr_of_str ⟨.str _, H, I.tok _, ⟨_, rfl⟩, q⟩ hz
end Sz
/-! len(x) by an own __len__ -/
namespace Sz
open PySem PySem.Spec PyProof.Rows L2
section
variable {X : Cx} {CX : CXT} {k : Nat} {C : Str} {ps : List Str} {sp : Sp} {E : XK}
theorem cr_lenO (G : PromM X.prog X.w X.K X.mg X.base CX k C "__len__" ps sp) (hr : Room (k + 1) X.A) (hx : Passes CX X E) :
    CallR X (.builtin "len") (fun xs H Q => ∃ p dx fs, xs = [.ref p] ∧ H p = some (.ins (He.ga X.K C) dx fs) ∧ sp [.ref p] H (fun v H' => ∃ n : Int, v = .int n ∧ 0 ≤ n ∧ n < 2 ^ 63 ∧ Q (.int n) H') E) := by
  intro pins s σ H xs us Q I r h
  obtain ⟨p, dx, fs, rfl, hp, h⟩ := h
  obtain ⟨u, rfl, ru⟩ := vals1 r
  obtain rfl : u = Value.ref p := ru
  obtain ⟨m1, O1, _⟩ := ins_get I.hok hp
  obtain ⟨od1, J1, _⟩ := O1.look
  obtain ⟨fd, F, b⟩ := G.ex
  have hl : ([Value.ref p] ++ ([] : List Value)).length = ps.length := by
    have := F.len _ _ _ _ h
    simpa using this
  refine Calls.call_function_entry kind_len plain_len entry_len (args_len1 _) ?_
  unfold Builtin.«len»
  refine wpAny_bind (m := oneArg "len" _) (wpAny_pure ?_)
  refine wpAny_bind (m := callSpecial? (.ref p) (Str.ofString "__len__")) ?_
  unfold callSpecial? specialOf
  refine wpAny_bind (wpAny_bind (J1.type.here ((PySem.W.looks_findIn I.kIn G.me.at_).here ?_)))
  refine wpAny_holding (wpAny_bind ((PySem.W.bind_fn I.kIn (.ref p) (beq_iff_eq.mp G.me.fn)).here (wpAny_bind ?_)))
  have vv : Vals [V.ref p] [Value.ref p] := .cons rfl .nil
  have bb : BindsTo s fd ⟨[Value.ref p], []⟩ (ps.zip [Value.ref p]) := b s [Value.ref p] I.kIn hl
  refine wpAny_call (codeAny_mono (F.run X.A.in1 X.stack s H ⟨[Value.ref p], []⟩ [Value.ref p] [V.ref p] _ E hr.in1 I.env0.in1 bb vv h) fun rr s' hq => ?_)
  cases rr with
  | error e => exact hx pins σ H s e s' I hq
  | ok fl =>
    cases fl with
    | ret v =>
      obtain ⟨v', H', I', rv, n, rfl, n0, n1, q⟩ := I.after hq
      obtain ⟨t, rfl⟩ := (show ∃ t, v = Value.int n t from rv)
      refine wpAny_pure ?_
      refine wpAny_bind (wpAny_holding (wpAny_pure ?_))
      refine wpAny_bind (wpAny_letGo ?_)
      show wpAny _ _ (if n < 0 then _ else _) _ _ _
      rw [if_neg (by omega)]
      show wpAny _ _ (if n ≥ 2 ^ 63 then _ else _) _ _ _
      rw [if_neg (by omega)]
      exact wpAny_bind (wpAny_mkInt (wpAny_pure ⟨_, rfl, .int n, H', I'.tok _, ⟨_, rfl⟩, q⟩))
    | next => exact False.elim hq
    | brk => exact False.elim hq
    | cont => exact False.elim hq
end
end Sz
namespace Sz
/-! ### sizes rise with the length -/
theorem totF_lt {b n m : Int} (hb : 2 ≤ b) (hn : 0 ≤ n) (h : n < m) : totF b n < totF b m := by
  have s := (totF_is hb hn).tot
  have t := (totF_is (b := b) (n := m) hb (by omega)).tot
  by_cases c : totF b n < totF b m
  · exact c
  · have l := fig_lip hb (show totF b m ≤ totF b n by omega) t s
    omega
theorem totF_mono {b n m : Int} (hb : 2 ≤ b) (hn : 0 ≤ n) (h : n ≤ m) : totF b n ≤ totF b m := by
  by_cases c : n = m
  · rw [c]
    exact Int.le_refl _
  · exact Int.le_of_lt (totF_lt hb hn (by omega))
theorem beg_mono {n k m : Int} (hm : 1 ≤ m) (h : n ≤ k) : beg n m ≤ beg k m := Int.ediv_le_ediv (by omega) (by omega)
/-- n = m q + r -/
theorem beg_parts {n m : Int} (hm : 1 ≤ m) : beg n m = n / m + (if 0 < n % m then 1 else 0) := by
  unfold beg
  have e := Int.mul_ediv_add_emod n m
  have r0 := Int.emod_nonneg n (show m ≠ 0 by omega)
  have r1 := Int.emod_lt_of_pos n (show 0 < m by omega)
  split
  · have e2 : n + m - 1 = (n % m - 1) + m * (n / m + 1) := by rw [Int.mul_add, Int.mul_one]; omega
    rw [e2, Int.add_mul_ediv_left _ _ (by omega), Int.ediv_eq_zero_of_lt (by omega) (by omega)]
    omega
  · have e2 : n + m - 1 = (m - 1) + m * (n / m) := by omega
    rw [e2, Int.add_mul_ediv_left _ _ (by omega), Int.ediv_eq_zero_of_lt (by omega) (by omega)]
    omega
theorem pieces_step {b m c n : Int} (hb : 2 ≤ b) (h : (Wr.pieces m c).ok) (hn : 0 ≤ n) : (Wr.pieces m c).gr b n ≤ (Wr.pieces m c).gr b (n + 1) := by
  simp only [Wr.ok] at h
  simp only [Wr.gr]
  have r0 := Int.emod_nonneg n (show m ≠ 0 by omega)
  have r1 := Int.emod_lt_of_pos n (show 0 < m by omega)
  have e := Int.mul_ediv_add_emod n m
  by_cases z : n % m + 1 < m
  · have d : (n + 1) / m = n / m := by
      have e2 : n + 1 = (n % m + 1) + m * (n / m) := by omega
      rw [e2, Int.add_mul_ediv_left _ _ (by omega), Int.ediv_eq_zero_of_lt (by omega) z]
      have e3 : ((n % m + 1) + m * (n / m)) = n + 1 := by omega
      omega
    have r : (n + 1) % m = n % m + 1 := by
      have e3 := Int.mul_ediv_add_emod (n + 1) m
      rw [d] at e3
      omega
    rw [d, r, if_pos (show 0 < n % m + 1 by omega)]
    have f0 := figF_pos (b := b) (n := n % m + 1) hb
    have f1 := figF_mono (b := b) (n := n % m) (m := n % m + 1) hb (by omega)
    split <;> omega
  · have rm : n % m = m - 1 := by omega
    have e2 : n + 1 = 0 + m * (n / m + 1) := by rw [Int.mul_add, Int.mul_one]; omega
    have d : (n + 1) / m = n / m + 1 := by
      rw [e2, Int.add_mul_ediv_left _ _ (by omega), Int.zero_ediv]
      omega
    have r : (n + 1) % m = 0 := by
      have e3 := Int.mul_ediv_add_emod (n + 1) m
      rw [d, Int.mul_add, Int.mul_one] at e3
      omega
    rw [d, r, rm, if_neg (show ¬ (0 : Int) < 0 by omega), Int.add_mul, Int.one_mul]
    have f0 := figF_pos (b := b) (n := m) hb
    have f1 := figF_mono (b := b) (n := m - 1) (m := m) hb (by omega)
    split <;> omega
theorem step_le {f : Int → Int} (h : ∀ n, 0 ≤ n → f n ≤ f (n + 1)) {n : Int} (hn : 0 ≤ n) : ∀ k : Nat, f n ≤ f (n + k)
  | 0 => by simp
  | k + 1 => by
    have ih := step_le h hn k
    have := h (n + k) (by omega)
    have e : n + ((k + 1 : Nat) : Int) = n + k + 1 := by omega
    rw [e]
    omega
theorem gr_mono {b : Int} {a : Wr} (hb : 2 ≤ b) (h : a.ok) {n k : Int} (hn : 0 ≤ n) (hk : n ≤ k) : a.gr b n ≤ a.gr b k := by
  cases a with
  | plus c => simp only [Wr.gr]; omega
  | told c =>
    simp only [Wr.gr]
    have := figF_mono (b := b) hb hk
    omega
  | whole c =>
    simp only [Wr.ok] at h
    exact totF_mono hb (by omega) (by omega)
  | pieces m c =>
    have := step_le (f := (Wr.pieces m c).gr b) (fun n hn => pieces_step hb h hn) hn (k - n).toNat
    have e : n + ((k - n).toNat : Int) = k := by omega
    rw [e] at this
    exact this
  | cut m c =>
    simp only [Wr.ok] at h
    simp only [Wr.gr]
    have := Int.mul_le_mul_of_nonneg_right (beg_mono h.1 hk) (show 0 ≤ c by omega)
    omega
  | coded m c =>
    simp only [Wr.ok] at h
    exact Int.mul_le_mul_of_nonneg_right (beg_mono h.1 hk) (show 0 ≤ c by omega)
  | filled m =>
    simp only [Wr.ok] at h
    exact Int.mul_le_mul_of_nonneg_right (beg_mono h.1 hk) (show 0 ≤ m by omega)
/-- a size is no less than its length -/
theorem gr_ge {b : Int} {a : Wr} (hb : 2 ≤ b) (h : a.ok) {n : Int} (hn : 0 ≤ n) : n ≤ a.gr b n := by
  have bg : ∀ m : Int, 1 ≤ m → n ≤ beg n m * m := fun m hm => by
    have e := Int.mul_ediv_add_emod n m
    have r0 := Int.emod_nonneg n (show m ≠ 0 by omega)
    have r1 := Int.emod_lt_of_pos n (show 0 < m by omega)
    rw [beg_parts hm, Int.add_mul]
    have c := Int.mul_comm m (n / m)
    split
    · rw [Int.one_mul]
      omega
    · rw [Int.zero_mul]
      omega
  cases a with
  | plus c =>
    simp only [Wr.ok] at h
    simp only [Wr.gr]
    omega
  | told c =>
    simp only [Wr.ok] at h
    simp only [Wr.gr]
    have := figF_pos (b := b) (n := n) hb
    omega
  | whole c =>
    simp only [Wr.ok] at h
    simp only [Wr.gr]
    have := isTot_pos (totF_is (b := b) (n := n + c) hb (by omega)).tot
    omega
  | pieces m c =>
    simp only [Wr.ok] at h
    simp only [Wr.gr]
    have e := Int.mul_ediv_add_emod n m
    have r0 := Int.emod_nonneg n (show m ≠ 0 by omega)
    have q0 := Int.ediv_nonneg hn (show 0 ≤ m by omega)
    have f0 := figF_pos (b := b) (n := m) hb
    have f1 := figF_pos (b := b) (n := n % m) hb
    have p := Int.mul_le_mul_of_nonneg_left (show m ≤ m + c + figF b m by omega) q0
    have c := Int.mul_comm m (n / m)
    split <;> omega
  | cut m c =>
    simp only [Wr.ok] at h
    simp only [Wr.gr]
    have := Int.mul_nonneg (beg_le hn h.1).2 (show 0 ≤ c by omega)
    omega
  | coded m c =>
    simp only [Wr.ok] at h
    simp only [Wr.gr]
    have h1 := bg m h.1
    have := Int.mul_le_mul_of_nonneg_left (show m ≤ c by omega) (beg_le hn h.1).2
    omega
  | filled m =>
    simp only [Wr.ok] at h
    exact bg m h.1
end Sz
/-! data that can be shown and compared: how deep, how long the text -/
namespace Sz
open PySem PySem.Spec PyProof.Rows L2
/-- can be shown: at most so deep, at most so long -/
structure Sho (d : PyData) (k m : Nat) : Prop where
  able : d.showable = true
  nod : d.hasDict = false
  deep : d.depth ≤ k
  long : d.shown.length ≤ m
theorem Sho.mono {d : PyData} {k m k' m' : Nat} (h : Sho d k m) (hk : k ≤ k') (hm : m ≤ m') : Sho d k' m' := ⟨h.able, h.nod, Nat.le_trans h.deep hk, Nat.le_trans h.long hm⟩
theorem sho_int {i : Int} (k : Nat) (hk : 0 < k) (hk2 : k ≤ 500) (h : i.natAbs < 10 ^ k) : Sho (.int i) 0 (k + 1) := by
  refine ⟨?_, rfl, Nat.le_refl _, ?_⟩
  · have h2 : i.natAbs < 2 ^ 1800 := Nat.lt_of_lt_of_le h (Nat.le_trans (Nat.pow_le_pow_right (by decide) hk2) (by decide))
    show decide (i.natAbs.log2 < 1920) = true
    exact decide_eq_true (Nat.lt_of_lt_of_le (PySem.Flt.log2_lt_of (by decide) h2) (by decide))
  · have h1 := int_text_length_le10 hk h
    have e : (Str.ofString (toString i)).length = (toString i : String).length := PySem.ofString_length _
    show (Str.ofString (toString i)).length ≤ k + 1
    omega
theorem sho_bool (b : Bool) : Sho (.bool b) 0 5 := by cases b <;> exact ⟨rfl, rfl, Nat.le_refl _, by decide⟩
theorem sho_none : Sho .none 0 4 := ⟨rfl, rfl, Nat.le_refl _, by decide⟩
theorem sho_all {k m : Nat} : ∀ ds : List PyData, (∀ d ∈ ds, Sho d k m) → PyData.showableAll ds = true ∧ PyData.hasDictAll ds = false ∧ PyData.depthAll ds ≤ k ∧ ((PyData.shownAll ds).map (·.length)).sum ≤ m * ds.length ∧ (PyData.shownAll ds).length = ds.length
  | [], _ => ⟨rfl, rfl, Nat.zero_le _, by simp [PyData.shownAll], rfl⟩
  | d :: ds, h => by
    obtain ⟨h1, h2, h3, h4, h5⟩ := sho_all ds fun y hy => h y (List.mem_cons_of_mem _ hy)
    obtain ⟨g1, g2, g3, g4⟩ := h d (List.mem_cons_self ..)
    refine ⟨?_, ?_, ?_, ?_, ?_⟩
    · show (d.showable && PyData.showableAll ds) = true
      rw [g1, h1]
      rfl
    · show (d.hasDict || PyData.hasDictAll ds) = false
      rw [g2, h2]
      rfl
    · show max d.depth (PyData.depthAll ds) ≤ k
      omega
    · show ((d.shown :: PyData.shownAll ds).map (·.length)).sum ≤ m * (ds.length + 1)
      rw [List.map_cons, List.sum_cons, Nat.mul_add, Nat.mul_one]
      omega
    · show (PyData.shownAll ds).length + 1 = ds.length + 1
      rw [h5]
theorem sho_tuple {k m : Nat} {ds : List PyData} (h : ∀ d ∈ ds, Sho d k m) : Sho (.tuple ds) (k + 1) ((m + 2) * ds.length + 4) := by
  obtain ⟨h1, h2, h3, h4, h5⟩ := sho_all ds h
  refine ⟨h1, h2, ?_, ?_⟩
  · show PyData.depthAll ds + 1 ≤ k + 1
    omega
  · show (tupleText (PyData.shownAll ds)).length ≤ _
    have h6 := tupleText_len_le (PyData.shownAll ds)
    rw [h5] at h6
    rw [Nat.add_mul]
    omega
theorem sho_list {k m : Nat} {ds : List PyData} (h : ∀ d ∈ ds, Sho d k m) : Sho (.list ds) (k + 1) ((m + 2) * ds.length + 4) := by
  obtain ⟨h1, h2, h3, h4, h5⟩ := sho_all ds h
  refine ⟨h1, h2, ?_, ?_⟩
  · show PyData.depthAll ds + 1 ≤ k + 1
    omega
  · show (listText (PyData.shownAll ds)).length ≤ _
    have h6 := listText_len_le (PyData.shownAll ds)
    rw [h5] at h6
    rw [Nat.add_mul]
    omega
/-! what can be laid and compared -/
structure Shp (d : PyData) (k : Nat) : Prop where
  lay : d.canLay0 = true
  deep : d.depth ≤ k
theorem Shp.mono {d : PyData} {k k' : Nat} (h : Shp d k) (hk : k ≤ k') : Shp d k' := ⟨h.lay, Nat.le_trans h.deep hk⟩
theorem Shp.shaped {d : PyData} {k : Nat} (h : Shp d k) (hk : k ≤ 30 := by decide) : SeqAt.shaped d = true := by
  have h2 := h.deep
  simp [SeqAt.shaped, h.lay]
  omega
theorem shp_int (i : Int) : Shp (.int i) 0 := ⟨rfl, Nat.le_refl _⟩
theorem shp_str {s : Str} (h : PyData.strOk s = true) : Shp (.str s) 0 := ⟨h, Nat.le_refl _⟩
theorem shp_bool (b : Bool) : Shp (.bool b) 0 := ⟨rfl, Nat.le_refl _⟩
theorem shp_none : Shp .none 0 := ⟨rfl, Nat.le_refl _⟩
theorem shp_all {k : Nat} : ∀ ds : List PyData, (∀ d ∈ ds, Shp d k) → PyData.canLayAll0 ds = true ∧ PyData.depthAll ds ≤ k
  | [], _ => ⟨rfl, Nat.zero_le _⟩
  | d :: ds, h => by
    obtain ⟨h1, h2⟩ := shp_all ds fun y hy => h y (List.mem_cons_of_mem _ hy)
    obtain ⟨g1, g2⟩ := h d (List.mem_cons_self ..)
    refine ⟨?_, ?_⟩
    · show (d.canLay0 && PyData.canLayAll0 ds) = true
      rw [g1, h1]
      rfl
    · show max d.depth (PyData.depthAll ds) ≤ k
      omega
theorem shp_tuple {k : Nat} {ds : List PyData} (h : ∀ d ∈ ds, Shp d k) : Shp (.tuple ds) (k + 1) := by
  obtain ⟨h1, h2⟩ := shp_all ds h
  refine ⟨h1, ?_⟩
  show PyData.depthAll ds + 1 ≤ k + 1
  omega
theorem shp_list {k : Nat} {ds : List PyData} (h : ∀ d ∈ ds, Shp d k) : Shp (.list ds) (k + 1) := by
  obtain ⟨h1, h2⟩ := shp_all ds h
  refine ⟨h1, ?_⟩
  show PyData.depthAll ds + 1 ≤ k + 1
  omega
theorem shp_ints_t (xs : List Int) : Shp (.tuple (xs.map PyData.int)) 1 := shp_tuple (k := 0) fun d hd => by
  obtain ⟨i, _, rfl⟩ := List.mem_map.mp hd
  exact shp_int i
theorem shp_ints_l (xs : List Int) : Shp (.list (xs.map PyData.int)) 1 := shp_list (k := 0) fun d hd => by
  obtain ⟨i, _, rfl⟩ := List.mem_map.mp hd
  exact shp_int i
end Sz
/-! str(x), f"{x}" by an own __str__; x == y, x != y by an own __eq__ -/
namespace Sz
open PySem PySem.Spec PyProof.Rows L2
/-- what the class must have -/
structure StrK (K : PySem.W.Frag) (C : Addr) : Prop where
  fmt : PySem.W.findIn K (.ref C) "__format__" = some (some (.builtin "object.__format__"))
  mro : PySem.W.mroIn K C (.type "object") = some true
  ne : PySem.W.findIn K (.ref C) "__ne__" = some (some (.builtin "object.__ne__"))
def strB (K : PySem.W.Frag) (C : Addr) : Bool := He.eqO (PySem.W.findIn K (.ref C) "__format__") (some (some (.builtin "object.__format__"))) && (decide (PySem.W.mroIn K C (.type "object") = some true) && He.eqO (PySem.W.findIn K (.ref C) "__ne__") (some (some (.builtin "object.__ne__"))))
theorem strB_ok {K : PySem.W.Frag} {C : Addr} (h : strB K C = true) : StrK K C := by
  obtain ⟨h1, h⟩ := He.ba h
  obtain ⟨h2, h3⟩ := He.ba h
  exact ⟨He.eqO_ok h1, of_decide_eq_true h2, He.eqO_ok h3⟩
section
variable {X : Cx} {CX : CXT} {k n : Nat} {C : Str} {ps : List Str} {sp : Sp} {E : XK}
/-- the own method of an instance is called somewhere below the running body -/
theorem run_own {m : Str} (G : PromM X.prog X.w X.K X.mg X.base CX k C m ps sp) (hx : Passes CX X E) {A : Around} (sb : L2.Sub X k A) {pins : List (Addr × Obj)} {s : Shared} {σ : L2.St} {H : Hp} {vs : List V} {us : List Value} {Q : VK}
    (I : Inv X pins σ H s) (r : Vals vs us) (h : sp vs H Q E) : wpAny (model X.prog X.w) A (call (.ref (He.ma X.K (He.ga X.K C) m)) us) (EP X pins σ Q) X.xe s := by
  obtain ⟨fd, F, b⟩ := G.ex
  have hl := F.len _ _ _ _ h
  have e0 : Env0 X.prog X.w X.K X.mg X.base A X.stack s H := by
    have e := I.env0
    exact ⟨by rw [sb.fr]; exact e.frames, e.mod, e.bs, e.bsz, e.funs, e.frf, e.hok, e.bare⟩
  have hl2 : us.length = ps.length := by rw [← hl]; exact r.length.symm
  refine wpAny_call (codeAny_mono (F.run A X.stack s H ⟨us, []⟩ us vs _ E sb.room e0 (by
    have := b s us I.kIn (by simpa using hl2)
    simpa using this) r h) fun rr s' hq => ?_)
  cases rr with
  | error e => exact hx pins σ H s e s' I hq
  | ok fl =>
    cases fl with
    | ret v =>
      obtain ⟨z, H', I', rz, q⟩ := I.after hq
      exact ⟨z, H', I', rz, q⟩
    | next => exact False.elim hq
    | brk => exact False.elim hq
    | cont => exact False.elim hq
theorem strBack_of {pins : List (Addr × Obj)} {σ : L2.St} {Q : VK} {v : Value} {s' : Shared} (h : EP X pins σ (fun v H => ∃ y : Str, v = .str y ∧ Q (.str y) H) v s') : PySem.W.StrBack (EP X pins σ Q) v s' := by
  obtain ⟨z, H', I', rz, y, rfl, q⟩ := h
  obtain ⟨t, rfl⟩ := rz
  exact ⟨.str y, H', I', ⟨t, rfl⟩, q⟩
/-- f"{x}" by an own __str__ -/
def tFmtO (C : Addr) (sp : Sp) (E : XK) (te : TE) : TE := fun σ H Q => te σ H fun x H1 => ∃ p dx fs, x = .ref p ∧ H1 p = some (.ins C dx fs) ∧ sp [.ref p] H1 (fun v H2 => ∃ y : Str, v = .str y ∧ Q (.str y) H2) E
theorem pe_fmtO {e : Expr} {te : TE} {pos : Pos} (a : StrK X.K (He.ga X.K C)) (G : PromM X.prog X.w X.K X.mg X.base CX k C "__str__" ps sp) (hr : Room (k + 1) X.A) (hx : Passes CX X E) (he : PE X e te) :
    PE X (.FormattedValue e (-1) none pos) (tFmtO (He.ga X.K C) sp E te) := by
  refine ⟨fun pins s σ H Q I h => ?_⟩
  refine wpAny_FormattedValue_plain (thn (he.run pins s σ H _ I h) fun v s1 hv => ?_)
  obtain ⟨x, H1, I1, r1, p, dx, fs, rfl, hp, q⟩ := hv
  obtain rfl : v = Value.ref p := r1
  obtain ⟨m1, O1, _⟩ := ins_get I1.hok hp
  obtain ⟨od1, J1, _⟩ := O1.look
  refine PySem.W.kfo_fieldS hr.in1.units0 I1.kIn J1 a.fmt a.mro G.me.at_ G.me.fn ?_
  exact wpAny_mono (run_own G hx (A := X.A.in1) ⟨hr.in1, rfl⟩ (vs := [.ref p]) (us := [.ref p]) (I1.tok _) (.cons rfl .nil) q) (fun v s' z => strBack_of z) fun _ _ z => z
/-- str(x) by an own __str__ -/
theorem cr_strO (G : PromM X.prog X.w X.K X.mg X.base CX k C "__str__" ps sp) (hr : Room (k + 2) X.A) (hx : Passes CX X E) :
    CallR X (.type "str") (fun xs H Q => ∃ p dx fs, xs = [.ref p] ∧ H p = some (.ins (He.ga X.K C) dx fs) ∧ sp [.ref p] H (fun v H2 => ∃ y : Str, v = .str y ∧ Q (.str y) H2) E) := by
  intro pins s σ H xs us Q I r h
  obtain ⟨p, dx, fs, rfl, hp, h⟩ := h
  obtain ⟨u, rfl, ru⟩ := vals1 r
  obtain rfl : u = Value.ref p := ru
  obtain ⟨m1, O1, _⟩ := ins_get I.hok hp
  obtain ⟨od1, J1, _⟩ := O1.look
  refine callType_codes (T := "str") (Bi := Builtin.«object.__init__») (Q₁ := fun r s₁ => ∃ y u, r = .str y u ∧ EP X pins σ Q r s₁) PySem.F.called_str (PySem.F.typeCall_str_1 _) PySem.F.entry_object_init ?_ ?_
  · refine codeAny_of_tree ?_
    show wpAny _ X.A.in1.in1 (do checkBuiltinCall "str.__new__" ⟨[.type "str", .ref p], []⟩; again (.builtin "str.__new__" ⟨[.type "str", .ref p], []⟩)) _ _ s
    refine wpAny_bind (wpAny_of_eq (PySem.F.newCall_str_1 _) (wpAny_pure ⟨plainId_quiet (by decide +kernel) _, codeAny_builtin PySem.F.entry_str_new ?_⟩))
    rw [Around.under_plainId (by decide +kernel) _]
    rw [str_new_tree]
    refine wpAny_bind (wpAny_pure ?_)
    refine wpAny_bind (wpAny_of_eq isSubtype_str_str ?_)
    have key : wpAny (model X.prog X.w) X.A.in1.in1 (PySem.Builtin.Str.strOf (.ref p)) (fun r s₁ => ∃ y u, r = .str y u ∧ EP X pins σ Q r s₁) X.xe s := by
      unfold PySem.Builtin.Str.strOf
      rw [show PySem.Builtin.Str.isExactStr (.ref p) = false from rfl]
      refine wpAny_bind (m := cRoomFor _ _) (wpAny_cRoomFor hr.in1.in1.units0 ?_)
      refine wpAny_bind (m := callSpecial? (.ref p) (Str.ofString "__str__")) (PySem.W.special_fn I.kIn J1 G.me.at_ (beq_iff_eq.mp G.me.fn) (wpAny_mono (run_own G hx (A := X.A.in1.in1) ⟨hr.in1.in1, rfl⟩ (vs := [.ref p]) (us := [.ref p]) I (.cons rfl .nil) h) (fun v s' z => ?_) fun _ _ y => y))
      obtain ⟨z, H', I', rz, y, rfl, q⟩ := z
      obtain ⟨t, rfl⟩ := rz
      exact wpAny_pure ⟨_, _, rfl, .str y, H', I', ⟨t, rfl⟩, q⟩
    exact wpAny_bind (wpAny_mono key (fun r s₁ hr => wpAny_pure hr) fun _ _ y => y)
  · rintro obj s₁ ⟨y, u, rfl, hq⟩
    exact ⟨typeIs_str _ _ _, PySem.F.args_object_init_2 _ _, object_init_meets PySem.F.called_str.init.lookup PySem.F.called_str.made (by decide) X.prog X.w X.A.in1 _ s₁ ⟨typeIs_str _ _ _, rfl, hq⟩⟩
/-- x == y by an own __eq__ -/
theorem op_eqO (G : PromM X.prog X.w X.K X.mg X.base CX k C "__eq__" ps sp) (hr : Room k X.A) (hx : Passes CX X E) :
    OpR X (compareOp .Eq) (fun x y H Q => ∃ p q dx fs dy gs, x = .ref p ∧ y = .ref q ∧ H p = some (.ins (He.ga X.K C) dx fs) ∧ H q = some (.ins (He.ga X.K C) dy gs) ∧ sp [.ref p, .ref q] H (fun v H2 => ∃ b : Bool, v = .bl b ∧ Q (.bl b) H2) E) := by
  intro pins s σ H x y v u Q I rx ry h
  obtain ⟨p, q, dx, fs, dy, gs, rfl, rfl, hp, hq, h⟩ := h
  obtain rfl : v = Value.ref p := rx
  obtain rfl : u = Value.ref q := ry
  obtain ⟨m1, O1, _⟩ := ins_get I.hok hp
  obtain ⟨od1, J1, _⟩ := O1.look
  obtain ⟨m2, O2, _⟩ := ins_get I.hok hq
  obtain ⟨od2, J2, _⟩ := O2.look
  obtain ⟨m, hF⟩ := I.fr
  show wpAny (model X.prog X.w) X.A (richCompare .Eq (.ref p) (.ref q)) (EP X pins σ Q) X.xe s
  refine PySem.W.cmp_K (op := .Eq) (tb := .ref (He.ga X.K C)) hr.units0 hF I.ok.mod.kin J1 J2.type (by simp [PySem.W.notFirst]) G.me.at_ G.me.fn ?_
  refine wpAny_mono (run_own G hx (A := X.A) ⟨hr, rfl⟩ (vs := [.ref p, .ref q]) (us := [.ref p, .ref q]) I (.cons rfl (.cons rfl .nil)) h) (fun v s' z => ?_) fun _ _ y => y
  obtain ⟨z, H', I', rz, b, rfl, q⟩ := z
  cases rz
  exact ⟨.bl b, H', I', rfl, q⟩
/-- x != y by an own __eq__ -/
theorem op_neO (a : StrK X.K (He.ga X.K C)) (G : PromM X.prog X.w X.K X.mg X.base CX k C "__eq__" ps sp) (hr : Room (k + 1) X.A) (hx : Passes CX X E) :
    OpR X (compareOp .NotEq) (fun x y H Q => ∃ p q dx fs dy gs, x = .ref p ∧ y = .ref q ∧ H p = some (.ins (He.ga X.K C) dx fs) ∧ H q = some (.ins (He.ga X.K C) dy gs) ∧ sp [.ref p, .ref q] H (fun v H2 => ∃ b : Bool, v = .bl b ∧ Q (.bl !b) H2) E) := by
  intro pins s σ H x y v u Q I rx ry h
  obtain ⟨p, q, dx, fs, dy, gs, rfl, rfl, hp, hq, h⟩ := h
  obtain rfl : v = Value.ref p := rx
  obtain rfl : u = Value.ref q := ry
  obtain ⟨m1, O1, _⟩ := ins_get I.hok hp
  obtain ⟨od1, J1, _⟩ := O1.look
  obtain ⟨m2, O2, _⟩ := ins_get I.hok hq
  obtain ⟨od2, J2, _⟩ := O2.look
  show wpAny (model X.prog X.w) X.A (richCompare .NotEq (.ref p) (.ref q)) (EP X pins σ Q) X.xe s
  have one : wpAny (model X.prog X.w) X.A (tryCompare (.ref p) "__ne__" (.ref q)) (fun r s' => ∃ v, r = some v ∧ EP X pins σ Q v s') X.xe s := by
    unfold tryCompare
    refine wpAny_bind ?_
    simp only [callSpecialIfBound?, bindSpecialIfBound?]
    refine wpAny_holding (wpAny_bind (wpAny_bind (wpAny_bind (J1.type.here ((PySem.W.looks_findIn I.kIn a.ne).here ?_)))))
    refine wpAny_bind (wpAny_askSetting (wpAny_ite ?_))
    have run : wpAny (model X.prog X.w) X.A (call (.builtin "object.__ne__") [.ref p, .ref q]) (fun r s' => ∃ b : Bool, r = .bool b ∧ EP X pins σ Q (.bool b) s') X.xe s := by
      refine wpAny_call (codeAny_call_builtin PySem.F.slot_object_ne.plain PySem.F.entry_object_ne (PySem.W.check_slot (i := "object.__ne__") (owner := "object") (n := "__ne__") (by decide +kernel) (by decide +kernel) (J1.type.andThen (PySem.W.looks_mroIn I.kIn a.mro)) (PySem.F.args_object_ne_2 _ _) ?_))
      unfold Builtin.«object.__ne__»
      refine wpAny_bind (m := slotArgs "__ne__" 1 _) (wpAny_pure ?_)
      refine wpAny_bind (m := cRoomFor _ _) (wpAny_cRoomFor hr.in1.units0 ?_)
      refine wpAny_bind (m := callSpecialIfBound? (.ref p) (Str.ofString "__eq__") _) (PySem.W.ifBound_K I.kIn J1 G.me.at_ G.me.fn (wpAny_mono (run_own G hx (A := X.A.in1) ⟨hr.in1, rfl⟩ (vs := [.ref p, .ref q]) (us := [.ref p, .ref q]) I (.cons rfl (.cons rfl .nil)) h) (fun r s' z => ?_) fun _ _ y => y))
      obtain ⟨z, H', I', rz, b, rfl, q⟩ := z
      cases rz
      exact wpAny_bind (wpAny_truthy_bool (wpAny_pure ⟨!b, rfl, .bl !b, H', I', rfl, q⟩))
    have fin : wpAny (model X.prog X.w) X.A (call (.builtin "object.__ne__") ([.ref p] ++ [.ref q]) >>= fun v => pure (some v)) (fun r s2 => ∃ b : Bool, r = some (.bool b) ∧ EP X pins σ Q (.bool b) s2) X.xe s :=
      wpAny_bind (wpAny_mono run (fun v s' h' => wpAny_pure (by obtain ⟨b, rfl, h'⟩ := h'; exact ⟨b, rfl, h'⟩)) fun _ _ h' => h')
    have fin2 := wpAny_mono (Q' := fun r s2 => wpAny (model X.prog X.w) X.A (match r with
      | some .notImplemented => pure none
      | none => pure none
      | some v => pure (some v) : Sem (Option Value)) (fun r s' => ∃ v, r = some v ∧ EP X pins σ Q v s') X.xe s2) fin (fun r s2 z => by
        obtain ⟨b, e, z⟩ := z
        subst e
        exact wpAny_pure ⟨_, rfl, z⟩) fun _ _ z => z
    split
    · exact wpAny_bind (wpAny_of_eq (PySem.F.slot_object_ne.bind _) (wpAny_pure (by exact fin2)))
    · exact wpAny_tryCatch (wpAny_bind (wpAny_of_eq (PySem.F.slot_object_ne.bind _) (wpAny_pure (by exact fin2))))
  unfold richCompare
  simp only [oneThing_ref]
  refine wpAny_holding (wpAny_bind (wpAny_cRoomFor hr.units0 ?_))
  rw [cmpInfo_NotEq]
  dsimp only
  refine wpAny_bind (J1.type.here (wpAny_bind (J2.type.here ?_)))
  rw [show (Value.ref (He.ga X.K C) != Value.ref (He.ga X.K C)) = false from by simp]
  simp only [Bool.false_eq_true, if_false]
  refine wpAny_bind (wpAny_pure ?_)
  simp only [Bool.false_eq_true, if_false]
  refine wpAny_bind (wpAny_mono one (fun r s' z => ?_) fun _ _ e => e)
  obtain ⟨v, rfl, hq⟩ := z
  exact wpAny_pure hq
end
end Sz
/-! set comprehensions of ints (the walk is that of HandS.SetBool, turned to ints), sorted(set) of any number -/
namespace Sz
open PySem PySem.Spec PyProof.Rows L2 PpSet
section
variable {X : Cx}
theorem addI_ok {pins : List (Addr × Obj)} {σ : L2.St} {H : Hp} {s : Shared} {E : Value → Shared → Prop} {D : Addr} {S : Int → Bool} {n : Nat} {y : Int} {tk : Tok} {Q : Value → Shared → Prop} (I : Inv X pins σ H s) (hD : H D = some (SetO X.w D S n)) (room : n + 1 < scanBound)
    (h : ∀ s', Inv X pins σ (upd H D (SetO X.w D (fun j => S j || decide (j = y)) (if S y = true then n else n + 1))) s' → Q .none s') : wpAny (model X.prog X.w) X.A (call (.builtin "set.add") [.ref D, .int y tk]) Q E s := by
  have R := setO_get I hD
  refine setR_add R room fun h' sb new => ?_
  have he : ∃ u, h'.get? D = some u := by
    have ⟨o, _, _, _, ho, _⟩ := new
    exact ⟨o, ho⟩
  exact h _ (I.write (e := D) (t' := s.toks + 1) (by rw [hD]; trivial) (.inl rfl) (fun b u hb hu => (sb.2 b hb).trans hu) he (setO_new new))
def tScI (w : World) (wi : TI) (g : TG) (tt : TT) (te : TE) (vs : List Nat) : TE := fun σ H Q => wi σ H fun J H1 => ∀ D, H1 D = none → ∃ W : Nat → Nat → Hp → Prop, (∃ m, W 0 m (upd H1 D (SetO w D (fun _ => false) 0))) ∧ ∀ i m H, W i m H →
  (J.stop i H ∧ Q (.ref D) H) ∨ (J.go i H ∧ ∃ Nx : Hp → Prop, (∀ H', Nx H' → ∃ m', m' < m ∧ W (i + 1) m' H') ∧ ∀ x H', J.yld i H x H' → g x (wipe σ vs) H' fun σ2 H2 => wipe σ2 vs = wipe σ vs ∧ tt σ2 H2 fun b H3 =>
    if b = true then te σ2 H3 fun y H4 => ∃ (c : Int) (S : Int → Bool) (n : Nat), y = .int c ∧ H4 D = some (SetO w D S n) ∧ n + 1 < scanBound ∧ Nx (upd H4 D (SetO w D (fun j => S j || decide (j = c)) (if S c = true then n else n + 1))) else Nx H3)
theorem sc_coreI {pins : List (Addr × Obj)} {s : Shared} {σ : L2.St} {H : Hp} {Q : VK} {elt tg iter : Expr} {ifs : List Expr} {scope : Scope} {own : List (PySem.Str × Nat)} {pos pos' : Pos} {wi : TI} {g : TG} {tt : TT} {te : TE} {use : Option (Value → Sem Unit)} {Qf : Value → Shared → Prop}
    (hc : X.calm = true) (hN : X.N.Nodup) (I : Inv X pins σ H s) (hi : PI X tg iter wi) (ok : BlkOk X.N X.env.scope scope own)
    (hg : ∀ (s : Shared) (H : Hp) (C : Addr) (cl : List (PySem.Str × Addr)) (fp : List Addr), PG (X.blk s H scope (compEnvC scope cl C X.env) fp) tg g) (ht : ∀ (s : Shared) (H : Hp) (C : Addr) (cl : List (PySem.Str × Addr)) (fp : List Addr), PTs (X.blk s H scope (compEnvC scope cl C X.env) fp) ifs tt)
    (he : ∀ (s : Shared) (H : Hp) (C : Addr) (cl : List (PySem.Str × Addr)) (fp : List Addr), PE (X.blk s H scope (compEnvC scope cl C X.env) fp) elt te) (hs : ∀ x, foldedSetIterable iter X.env x = pure x)
    (h : tScI X.w wi g tt te (own.map (·.2)) σ H Q)
    (hRR : ∀ D C s' m H', Inv X pins σ H' s' → Q (.ref D) H' → s'.heap.Ns C m → FpOk X pins H' C → compPost (model X.prog X.w) X.A X.xe use Qf (.ref D) C (.ok .next) s') :
    wpAny (model X.prog X.w) X.A (comprehension (.SetComp elt [⟨tg, iter, ifs, 0⟩] scope pos) scope X.env pos' (newSet (.type "set")) false (eval iter X.env) use) Qf X.xe s := by
  have hfree : ∀ y ∈ scope.names, y.2 = .free → ∃ c, X.env.cells.lookup y.1 = some c := fun y hy e => by
    rcases ok.free y hy e with k | k
    · exact I.ok.has _ (.inl k)
    · exact I.ok.has _ (.inr k)
  refine wpAny_comprehension_free (use := use) rfl hs (closure_ok hfree) ok.kind (fun y hy e => by rw [ok.uniq y hy, e])
    (thn (hi.run pins s σ H _ I h) fun xv s1 hx => thn hx fun itv s2 h2 => ?_)
  obtain ⟨it, fp, tn, J, H2, e, I2, T, st2, f2, q⟩ := h2
  subst e
  refine newSet_ok (newEnv_comp ?_)
  generalize hD : s2.heap.objs.size = D
  have hDn : H2 D = none := I2.hok.fresh (Nat.le_of_eq hD)
  obtain ⟨W, ⟨m0, w0⟩, turn⟩ := q D hDn
  -- the new list
  generalize hs3 : ({ s2 with heap := s2.heap.push { cls := .type "set", dict := none, data := .set #[] 0 (.fresh 0 0 (!X.w.params.followText "set-order")) } } : Shared) = s3
  have I3 : Inv X pins σ (upd H2 D (SetO X.w D (fun _ => false) 0)) s3 := by
    rw [← hs3]
    refine I2.laid (t' := s2.toks) (fun b o e => Heap.get?_push_of_some _ e) (Nat.le_of_eq hD) ?_
    rw [← hD]
    exact setO_new (setR_fresh X.w)
  have h3 : s3.heap = s2.heap.push { cls := .type "set", dict := none, data := .set #[] 0 (.fresh 0 0 (!X.w.params.followText "set-order")) } := by rw [← hs3]
  have sz : ∀ b ∈ fp, b < s2.heap.objs.size := fun b hb => by
    obtain ⟨o, e, _⟩ := T.obj _ _ st2 b hb
    exact Heap.lt_size e
  have f3 : ∀ b ∈ fp, FpOk X pins (upd H2 D (SetO X.w D (fun _ => false) 0)) b ∧ b < s3.heap.objs.size := fun b hb => by
    have hlt := sz b hb
    refine ⟨⟨?_, (f2 b hb).2⟩, by rw [h3, Heap.size_push]; exact Nat.lt_succ_of_lt hlt⟩
    rw [upd_ne (by rw [← hD]; exact Nat.ne_of_lt hlt)]
    exact (f2 b hb).1
  have st3 : tn 0 s3.heap := T.keep _ _ _ st2 fun b _ o e => by rw [h3]; exact Heap.get?_push_of_some _ e
  have I4 := block_start I3 ok hN f3
  have pg := hg s3 (upd H2 D (SetO X.w D (fun _ => false) 0)) s3.heap.objs.size (cellsFrom (s3.heap.objs.size + 1) scope.names (cloFrom X.env.cells scope.names [])) fp
  have pt := ht s3 (upd H2 D (SetO X.w D (fun _ => false) 0)) s3.heap.objs.size (cellsFrom (s3.heap.objs.size + 1) scope.names (cloFrom X.env.cells scope.names [])) fp
  have pe := he s3 (upd H2 D (SetO X.w D (fun _ => false) 0)) s3.heap.objs.size (cellsFrom (s3.heap.objs.size + 1) scope.names (cloFrom X.env.cells scope.names [])) fp
  show codeAny _ _ (.compStart (.SetComp elt [⟨tg, iter, ifs, 0⟩] scope pos) 0 (.ref it) (.ref D) (compEnvC scope (cellsFrom (s3.heap.objs.size + 1) scope.names (cloFrom X.env.cells scope.names [])) s3.heap.objs.size X.env)) (compPost (model X.prog X.w) X.A X.xe use Qf (.ref D) s3.heap.objs.size) { s3 with heap := pushCells (s3.heap.push { cls := .type "dict", data := .dict #[] }) scope.names }
  have nfp : ∀ b ∈ fp, (upd H2 D (SetO X.w D (fun _ => false) 0)) b = none := fun b hb => (f3 b hb).1.1
  generalize hce : compEnvC scope (cellsFrom (s3.heap.objs.size + 1) scope.names (cloFrom X.env.cells scope.names [])) s3.heap.objs.size X.env = ce at I4 pg pt pe ⊢
  have cL : ce.locals = s3.heap.objs.size := by subst hce; rfl
  generalize hH3 : upd H2 D (SetO X.w D (fun _ => false) 0) = H3 at I3 I4 pg pt pe w0 nfp f3
  generalize hs4 : ({ s3 with heap := pushCells (s3.heap.push { cls := .type "dict", data := .dict #[] }) scope.names } : Shared) = s4 at I4 ⊢
  have st4 : tn 0 s4.heap := T.keep _ _ _ st3 fun b _ o e => by rw [← hs4]; exact pushCells_keeps _ _ _ _ (Heap.get?_push_of_some _ e)
  have stat : ∀ {σ' : L2.St} {H' : Hp} {s' : Shared}, Inv (X.blk s3 H3 scope ce fp) [] σ' H' s' → (∀ b ∈ fp, H' b = none) → ∀ b ∈ fp, FpOk (X.blk s3 H3 scope ce fp) [] H' b := fun {σ' H' s'} I' hn b hb =>
    ⟨hn b hb, (I'.ok.exf b hb).1, I'.ok.exfs b hb, .inl hb, fun x c e => (I'.ok.exf b hb).2 x c e, fun p hp => absurd (show p ∈ ([] : List (Addr × Obj)) ++ [] from hp) (by simp)⟩
  have loop : codeAny (model X.prog X.w) X.A (.compLoop (.SetComp elt [⟨tg, iter, ifs, 0⟩] scope pos) 0 (.ref it) (.ref D) ce) (compPost (model X.prog X.w) X.A X.xe use Qf (.ref D) s3.heap.objs.size) s4 := by
    refine compLoopS_any (fun n s' => ∃ i H', Inv (X.blk s3 H3 scope ce fp) [] (wipe σ (own.map (·.2))) H' s' ∧ tn i s'.heap ∧ (∀ b ∈ fp, H' b = none) ∧ W i n H') ?_ m0 ⟨0, H3, I4, st4, nfp, w0⟩
    rintro n s5 ⟨i, H5, I5, st5, n5, w5⟩
    rcases turn i n H5 w5 with ⟨stop, qq⟩ | ⟨go, Nx, hNx, step⟩
    · have td := T.done (X.blk s3 H3 scope ce fp) rfl rfl rfl hc i [] s5 _ H5 (fun _ _ => False) I5 (stat I5 n5) st5 stop
      refine thnF td fun r s6 ⟨hr, I6⟩ => ?_
      subst hr
      -- back in the def's context
      have I7 : Inv X pins σ H5 s6 := I3.call' (ch := fp) I6.os I6.base I6.hok I6.bare fun b hb => ⟨(f3 b hb).1.2.2.2.1, (f3 b hb).1.2.1, (f3 b hb).1.2.2.2.2.1, (f3 b hb).1.2.2.2.2.2⟩
      have nC : H5 s3.heap.objs.size = none := by
        have z : H5 ce.locals = none := I6.free
        rw [cL] at z
        exact z
      obtain ⟨m, hn, _⟩ := I6.loc
      have hn : s6.heap.Ns ce.locals m := hn
      rw [cL] at hn
      exact hRR D s3.heap.objs.size s6 m H5 I7 qq hn (I3.fpOk (Nat.le_refl _) nC)
    · have ti := T.item (X.blk s3 H3 scope ce fp) rfl rfl rfl hc i [] s5 _ H5 (fun _ _ => False) I5 (stat I5 n5) st5 go
      refine thnF ti fun r s6 ⟨u, hr, h6⟩ => ?_
      subst hr
      refine thnF h6 fun _ s7 ⟨x, H7, I7, r7, y7, st7, n7⟩ => ?_
      have I7' := I7.pinned (stat I7 n7) (T.obj _ _ st7)
      refine thnF (pg.run _ s7 _ H7 x u _ I7' r7 (step x H7 y7)) fun _ s8 ⟨σ8, H8, I8, hw8, q8⟩ => ?_
      refine thnF (pt.run _ s8 σ8 H8 _ I8 q8) fun b s9 ⟨H9, I9, q9⟩ => ?_
      -- the turn's end
      have fin : ∀ {s' : Shared} {H' : Hp}, Inv (X.blk s3 H3 scope ce fp) ([] ++ pinsAt fp s7.heap) σ8 H' s' → Nx H' → ∃ m, m < n ∧ ∃ i H', Inv (X.blk s3 H3 scope ce fp) [] (wipe σ (own.map (·.2))) H' s' ∧ tn i s'.heap ∧ (∀ b ∈ fp, H' b = none) ∧ W i m H' := fun {s' H'} I' nx => by
        obtain ⟨m', hm, w'⟩ := hNx H' nx
        have pin' : ∀ b ∈ fp, ∀ o, s7.heap.get? b = some o → s'.heap.get? b = some o ∧ H' b = none := fun b hb o e =>
          let z := I'.pin (b, o) (List.mem_append_right _ (List.mem_append_right _ (mem_pinsAt hb e)))
          ⟨z.1, z.2.1⟩
        have hl : (wipe σ (own.map (·.2))).length = σ8.length := by rw [← hw8, wipe_length]
        refine ⟨m', hm, i + 1, H', (I'.unpinned (pins := [])).weak hl (fun j v e => ?_), T.keep _ _ _ st7 fun b hb o e => (pin' b hb o e).1, fun b hb => ?_, w'⟩
        · rw [← hw8] at e
          exact (wipe_some e).1
        · obtain ⟨o, e, _⟩ := T.obj _ _ st7 b hb
          exact (pin' b hb o e).2
      cases b with
      | false =>
        simp only [Bool.false_eq_true, if_false] at q9 ⊢
        exact fin I9 q9
      | true =>
        simp only [if_true] at q9 ⊢
        refine thnF (pe.run _ s9 σ8 H9 _ I9 q9) fun z s10 ⟨yv, H10, I10, r10, cb, S0, n0, ey, hD10, hz10, nx⟩ => ?_
        subst ey
        obtain ⟨tk, rfl⟩ := r10
        exact addI_ok (X := X.blk s3 H3 scope ce fp) I10 hD10 hz10 fun s11 I11 => fin I11 nx
  exact codeAny_compStart_set loop (T.self X.A 0 _ _ _ st4 loop)
/-- as a value -/
theorem pe_scI {elt tg iter : Expr} {ifs : List Expr} {scope : Scope} {own : List (PySem.Str × Nat)} {pos : Pos} {wi : TI} {g : TG} {tt : TT} {te : TE} (hc : X.calm = true) (hN : X.N.Nodup) (hi : PI X tg iter wi) (ok : BlkOk X.N X.env.scope scope own)
    (hg : ∀ (s : Shared) (H : Hp) (C : Addr) (cl : List (PySem.Str × Addr)) (fp : List Addr), PG (X.blk s H scope (compEnvC scope cl C X.env) fp) tg g) (ht : ∀ (s : Shared) (H : Hp) (C : Addr) (cl : List (PySem.Str × Addr)) (fp : List Addr), PTs (X.blk s H scope (compEnvC scope cl C X.env) fp) ifs tt)
    (he : ∀ (s : Shared) (H : Hp) (C : Addr) (cl : List (PySem.Str × Addr)) (fp : List Addr), PE (X.blk s H scope (compEnvC scope cl C X.env) fp) elt te) (hs : ∀ x, foldedSetIterable iter X.env x = pure x := by intro _; rfl) :
    PE X (.SetComp elt [⟨tg, iter, ifs, 0⟩] scope pos) (tScI X.w wi g tt te (own.map (·.2))) := by
  refine ⟨fun pins s σ H Q I h => ?_⟩
  rw [eval_SetComp]
  refine sc_coreI hc hN I hi ok hg ht he hs h fun D C s' m H' I' q hn f => ⟨m, hn, fun h'' sb => ?_⟩
  obtain ⟨f0, f1, f2, f3, f4, f5⟩ := f
  exact ⟨.ref D, H', I'.turned (t' := s'.toks) (fun b o hb e => (sb.2 b hb).trans e) f0 f1 f3 f4 f5, rfl, q⟩
/-- over a list that the block leaves as it is -/
theorem sc_listI {w : World} {K : PySem.W.Frag} {a : Addr} {xs : List V} {g : TG} {tt : TT} {te : TE} {vs : List Nat} {σ : L2.St} {H1 : Hp} {D : Addr} {Qd : Hp → Prop} (Pv : Nat → Hp → Prop) (h0 : Pv 0 (upd H1 D (SetO w D (fun _ => false) 0))) (hl : ∀ i H, i ≤ xs.length → Pv i H → SqL K H a xs)
    (hs : ∀ i x H, xs[i]? = some x → Pv i H → g x (wipe σ vs) H fun σ2 H2 => wipe σ2 vs = wipe σ vs ∧ tt σ2 H2 fun b H3 =>
      if b = true then te σ2 H3 fun y H4 => ∃ (c : Int) (S : Int → Bool) (n : Nat), y = .int c ∧ H4 D = some (SetO w D S n) ∧ n + 1 < scanBound ∧ Pv (i + 1) (upd H4 D (SetO w D (fun j => S j || decide (j = c)) (if S c = true then n else n + 1))) else Pv (i + 1) H3) (hd : ∀ H, Pv xs.length H → Qd H) :
    ∃ W : Nat → Nat → Hp → Prop, (∃ m, W 0 m (upd H1 D (SetO w D (fun _ => false) 0))) ∧ ∀ i m H, W i m H →
      ((Itl K a).stop i H ∧ Qd H) ∨ ((Itl K a).go i H ∧ ∃ Nx : Hp → Prop, (∀ H', Nx H' → ∃ m', m' < m ∧ W (i + 1) m' H') ∧ ∀ x H', (Itl K a).yld i H x H' → g x (wipe σ vs) H' fun σ2 H2 => wipe σ2 vs = wipe σ vs ∧ tt σ2 H2 fun b H3 =>
        if b = true then te σ2 H3 fun y H4 => ∃ (c : Int) (S : Int → Bool) (n : Nat), y = .int c ∧ H4 D = some (SetO w D S n) ∧ n + 1 < scanBound ∧ Nx (upd H4 D (SetO w D (fun j => S j || decide (j = c)) (if S c = true then n else n + 1))) else Nx H3) := by
  refine ⟨fun i m H => m = xs.length - i ∧ i ≤ xs.length ∧ Pv i H, ⟨xs.length, by simp, Nat.zero_le _, h0⟩, ?_⟩
  rintro i m H ⟨rfl, hi, p⟩
  have q := hl i H hi p
  by_cases hlt : i < xs.length
  · refine .inr ⟨⟨xs, xs[i], q, by simp [hlt]⟩, Pv (i + 1), fun H' p' => ⟨xs.length - (i + 1), by omega, rfl, hlt, p'⟩, fun x H' y => ?_⟩
    obtain ⟨e, y⟩ := y
    subst e
    exact hs i x _ (y xs q) p
  · have e : i = xs.length := by omega
    subst e
    exact .inl ⟨⟨xs, q, Nat.le_refl _⟩, hd H p⟩
/-- over a tuple that the block leaves as it is -/
theorem sc_tupI {w : World} {K : PySem.W.Frag} {a : Addr} {xs : List V} {g : TG} {tt : TT} {te : TE} {vs : List Nat} {σ : L2.St} {H1 : Hp} {D : Addr} {Qd : Hp → Prop} (Pv : Nat → Hp → Prop) (h0 : Pv 0 (upd H1 D (SetO w D (fun _ => false) 0))) (hl : ∀ i H, i ≤ xs.length → Pv i H → SqT K H a xs)
    (hs : ∀ i x H, xs[i]? = some x → Pv i H → g x (wipe σ vs) H fun σ2 H2 => wipe σ2 vs = wipe σ vs ∧ tt σ2 H2 fun b H3 =>
      if b = true then te σ2 H3 fun y H4 => ∃ (c : Int) (S : Int → Bool) (n : Nat), y = .int c ∧ H4 D = some (SetO w D S n) ∧ n + 1 < scanBound ∧ Pv (i + 1) (upd H4 D (SetO w D (fun j => S j || decide (j = c)) (if S c = true then n else n + 1))) else Pv (i + 1) H3) (hd : ∀ H, Pv xs.length H → Qd H) :
    ∃ W : Nat → Nat → Hp → Prop, (∃ m, W 0 m (upd H1 D (SetO w D (fun _ => false) 0))) ∧ ∀ i m H, W i m H →
      ((Itt K a).stop i H ∧ Qd H) ∨ ((Itt K a).go i H ∧ ∃ Nx : Hp → Prop, (∀ H', Nx H' → ∃ m', m' < m ∧ W (i + 1) m' H') ∧ ∀ x H', (Itt K a).yld i H x H' → g x (wipe σ vs) H' fun σ2 H2 => wipe σ2 vs = wipe σ vs ∧ tt σ2 H2 fun b H3 =>
        if b = true then te σ2 H3 fun y H4 => ∃ (c : Int) (S : Int → Bool) (n : Nat), y = .int c ∧ H4 D = some (SetO w D S n) ∧ n + 1 < scanBound ∧ Nx (upd H4 D (SetO w D (fun j => S j || decide (j = c)) (if S c = true then n else n + 1))) else Nx H3) := by
  refine ⟨fun i m H => m = xs.length - i ∧ i ≤ xs.length ∧ Pv i H, ⟨xs.length, by simp, Nat.zero_le _, h0⟩, ?_⟩
  rintro i m H ⟨rfl, hi, p⟩
  have q := hl i H hi p
  by_cases hlt : i < xs.length
  · refine .inr ⟨⟨xs, xs[i], q, by simp [hlt]⟩, Pv (i + 1), fun H' p' => ⟨xs.length - (i + 1), by omega, rfl, hlt, p'⟩, fun x H' y => ?_⟩
    obtain ⟨e, y⟩ := y
    subst e
    exact hs i x _ (y xs q) p
  · have e : i = xs.length := by omega
    subst e
    exact .inl ⟨⟨xs, q, Nat.le_refl _⟩, hd H p⟩
/-- sorted(set) -/
theorem sorted_setA {P : Program} {w : World} {A : Around} {E : Value → Shared → Prop} {s : Shared} {a : Addr} {S : Int → Bool} {n : Nat} {Q : Value → Shared → Prop} (R : SetR w s.heap a S n) (hh : A.handled = none)
    (hQ : ∀ s' p (out : List Value) (c : Nat) (ns : List Int), (∀ b o, s.heap.get? b = some o → s'.heap.get? b = some o) → s'.gens = s.gens → s'.os = s.os → s.heap.objs.size ≤ p →
      s'.heap.get? p = some (seqObj "list" out.toArray c) → IntsAre out ns → ns.Pairwise (· < ·) → (∀ k, k ∈ ns ↔ S k = true) → ns.length = n → Q (.ref p) s') :
    wpAny (model P w) A (call (.builtin "sorted") [.ref a]) Q E s := by
  obtain ⟨o, es, ep, t, ho, hex, hd, g, nd, hm, hb, hf, hn, hr, hl⟩ := R
  have hb2 : n < 4096 := by rw [← hn]; exact hb
  refine Calls.call_function_entry kind_sorted plain_sorted entry_sorted (args_sorted1 _) ?_
  unfold Builtin.«sorted»
  refine wpAny_bind (m := checkCount "sorted" 1 1 _) (wpAny_pure ?_)
  refine wpAny_bind (collect_set (A := A.in1) hh ⟨o, ho, hex.1, hd⟩ hf hb hr hl fun s1 vs k1 hz g1 o1 pm => ?_)
  have hvl : vs.length = n := by rw [pm.length_eq, List.length_map, Array.length_toList]; exact hn
  have hI : IntsAre vs (vs.map Builtin.Re.reRawOf) := ints_of vs fun v hv => by
    obtain ⟨e, he, q⟩ := List.mem_map.mp (pm.mem_iff.mp hv)
    obtain ⟨k, tk, h1, _⟩ := g e he
    exact ⟨k, tk, by rw [← q]; exact h1⟩
  have pk : (vs.map Builtin.Re.reRawOf).Perm (es.toList.map keyOf) := by
    have q := pm.map Builtin.Re.reRawOf
    rw [List.map_map] at q
    exact q
  have hvz : vs.length ≤ sizeLine := by rw [hvl, sizeLine_eq]; omega
  refine wpAny_bind (wpAny_newList ?_ hvz)
  have hoL : (s1.heap.push (seqObj "list" vs.toArray 0)).get? s1.heap.objs.size = some (seqObj "list" vs.toArray 0) := Heap.get?_push_size _ rfl
  refine wpAny_bind (wpAny_holding (wpAny_call_entry slot_list_sort ⟨_, hoL, rfl⟩ entry_list_sort (SrtO.list_sort_ord SrtO.swo_int hoL hvz (fun h2 => SrtO.ints_sortable hI h2) fun out h1 h2 => ⟨_, rfl, ?_⟩) (args_list_sort _)))
  obtain ⟨a1, a2, a3⟩ := SrtO.ints_out hI h1 h2
  obtain ⟨c, hc⟩ := sortedHeap_at (vs := vs) (out := out.toArray) hoL
  have pn : (out.map SrtO.iv).Perm (es.toList.map keyOf) := a2.trans pk
  refine wpAny_pure ⟨_, rfl, hQ _ s1.heap.objs.size out c _ (fun b u e => ?_) g1 o1 hz hc a1 (lt_of_le_nodup _ a3 (pn.nodup_iff.mpr nd)) (fun k => by rw [pn.mem_iff, ← hm k]) ?_⟩
  · have q := k1 b u e
    have hlt := Heap.lt_size q
    show (sortedHeap (s1.heap.push (seqObj "list" vs.toArray 0)) s1.heap.objs.size vs out.toArray).get? b = some u
    rw [sortedHeap_old (Nat.ne_of_lt hlt) (by rw [size_push']; exact Nat.lt_succ_of_lt hlt)]
    exact Heap.get?_push_of_some _ q
  · rw [pn.length_eq, List.length_map, Array.length_toList]; exact hn
def rSortedSetA (w : World) : List V → Hp → VK → Prop := fun vs H Q => ∃ (a : Addr) (S : Int → Bool) (n : Nat), vs = [V.ref a] ∧ H a = some (SetO w a S n) ∧ n < 4096 ∧
  ∀ (ns : List Int) (p : Addr), ns.Pairwise (· < ·) → (∀ k : Int, k ∈ ns ↔ S k = true) → ns.length = n → H p = none → Q (.ref p) (upd H p (.lst (ns.map V.int)))
theorem cr_sortedSetA (hc : X.calm = true) : CallR X (.builtin "sorted") (rSortedSetA X.w) := by
  intro pins s σ H vs us Q I r h
  obtain ⟨a, S, n, rfl, ha, h4, q⟩ := h
  have R := setO_get I ha
  rw [Vals.ref1 r]
  refine sorted_setA R (I.ok.hd hc) fun s' p out c ns k g o hp hg hi hs hm hl => ?_
  have hlen : (ns.map V.int).length ≤ sizeLine := by rw [List.length_map, hl, sizeLine_eq]; omega
  have hn : H p = none := I.hok.fresh hp
  have J : Inv X pins σ (upd H p (.lst (ns.map V.int))) { s with heap := s'.heap, gens := s'.gens, drawn := s'.drawn, toks := s'.toks } :=
    I.call (ch := []) (Un.laid k hp hn) (I.hok.laid k hp ⟨hlen, out, c, vals_of_ints hi, hg⟩) (by rw [g]; exact I.bare) (fun _ z => nomatch z)
  have e : s' = { s with heap := s'.heap, gens := s'.gens, drawn := s'.drawn, toks := s'.toks } := by
    cases s'
    cases s
    cases o
    rfl
  rw [e]
  exact ⟨.ref p, _, J, rfl, q ns p hs hm hl hn⟩
end
end Sz
/-! a <= b <= c <= .. as a test, of any length -/
namespace Sz
open PySem PySem.Spec PyProof.Rows L2
/-- len within a comprehension -/
def rLenS (K : PySem.W.Frag) : List V → Hp → VK → Prop := fun xs H Q => ∃ p ys, xs = [V.ref p] ∧ (SqL K H p ys ∨ SqT K H p ys) ∧ Q (V.int (ys.length : Nat)) H
abbrev TL := V → L2.St → Hp → (Bool → Hp → Prop) → Prop
section
variable {X : Cx} {a b c : Expr} {cs : List Expr} {op op' : CmpOp} {ops : List CmpOp} {ta tb : TE} {r : R2} {t : TL} {pos : Pos}
/-- the rest of a chain, behind a value -/
def PL (X : Cx) (ops : List CmpOp) (cs : List Expr) (t : TL) : Prop :=
  ∀ (pos : Pos) (pins : List (Addr × Obj)) (s : Shared) (σ : L2.St) (H : Hp) (x : V) (v : Value) (Q : Bool → Hp → Prop), Inv X pins σ H s → RelV x v → t x σ H Q →
    wpAny (model X.prog X.w) X.A (testChain pos v ops (evalEach cs X.env)) (fun k s' => ∃ H', Inv X pins σ H' s' ∧ Q k H') X.xe s
def tlLast (r : R2) (tb : TE) : TL := fun x σ H Q => tb σ H fun y H2 => r x y H2 fun z H3 => ∃ k, z = .bl k ∧ Q k H3
def tlMore (r : R2) (tb : TE) (t : TL) : TL := fun x σ H Q => tb σ H fun y H2 => r x y H2 fun z H3 => ∃ k, z = .bl k ∧ if k = true then t y σ H3 Q else Q false H3
theorem pl_last (ho : OpR X (compareOp op) r) (hb : PE X b tb) : PL X [op] [b] (tlLast r tb) := by
  intro pos pins s σ H x v Q I rx h
  refine test_last (thn (hb.run pins s σ H _ I h) fun u s2 ⟨y, H2, I2, r2, q2⟩ => thn (ho pins s2 σ H2 x y v u _ I2 rx r2 q2) fun d s3 ⟨z, H3, I3, r3, k, e, q3⟩ => ?_)
  subst e
  cases r3
  exact wpAny_truthy_bool ⟨H3, I3, q3⟩
theorem pl_more (ho : OpR X (compareOp op) r) (hb : PE X b tb) (hr : PL X (op' :: ops) (c :: cs) t) : PL X (op :: op' :: ops) (b :: c :: cs) (tlMore r tb t) := by
  intro pos pins s σ H x v Q I rx h
  refine test_link (thn (hb.run pins s σ H _ I h) fun u s2 ⟨y, H2, I2, r2, q2⟩ => thn (ho pins s2 σ H2 x y v u _ I2 rx r2 q2) fun d s3 ⟨z, H3, I3, r3, k, e, q3⟩ => ?_)
  subst e
  cases r3
  refine wpAny_truthy_bool ?_
  cases k with
  | false => exact ite_ff ⟨H3, I3, q3⟩
  | true => exact ite_tt (hr pos pins s3 σ H3 y u Q I3 r2 q3)
def tChs (ta : TE) (t : TL) : TT := fun σ H Q => ta σ H fun x H1 => t x σ H1 Q
theorem pt_chains (ha : PE X a ta) (hr : PL X (op :: op' :: ops) (b :: c :: cs) t) (hm : lastMarks (op :: op' :: ops) (b :: c :: cs) = false := by with_unfolding_all rfl) :
    PT X (.Compare a (op :: op' :: ops) (b :: c :: cs) pos) (tChs ta t) := by
  refine ⟨fun pins s σ H Q I h => ?_⟩
  exact isTrue_chain (thn (ha.run pins s σ H _ I h) fun v s1 ⟨x, H1, I1, r1, q1⟩ => hr pos pins s1 σ H1 x v Q I1 r1 q1) hm
end
end Sz
/-! == by an own __eq__ that is promised to say True -/
namespace Sz
open PySem PySem.Spec PyProof.Rows L2
section
variable {X : Cx} {CX : CXT} {k : Nat} {C : Str} {ps : List Str} {R : Addr → Addr → Hp → Prop} {E : XK}
theorem rcG_insP (G : PromM X.prog X.w X.K X.mg X.base CX k C "__eq__" ps (spEq R)) (hx : Passes CX X E) : RcG X k (DIns (He.ga X.K C) R) := by
  obtain ⟨fd, F, b⟩ := G.ex
  exact rcG_ins F G.me.at_ G.me.fn b hx
theorem eqG_insP (G : PromM X.prog X.w X.K X.mg X.base CX k C "__eq__" ps (spEq R)) (hx : Passes CX X E) : EqG X k (DIns (He.ga X.K C) R) := by
  obtain ⟨fd, F, b⟩ := G.ex
  exact eqG_ins F G.me.at_ G.me.fn b hx
end
end Sz
/-! lists or tuples walked, a class with plain parameters, two tuples zipped -/
namespace Sz
open PySem PySem.Spec PyProof.Rows L2
section
variable {X : Cx} {tg l : Expr} {tl : TE}
/-- for x in s, s a list or a tuple -/
theorem pi_seq (hl : PE X l tl) : PI X tg l (fun σ H R => iList X.K tl σ H R ∨ iTup X.K tl σ H R) := by
  refine ⟨fun pins s σ H R I h => ?_⟩
  rcases h with h | h
  · exact (pi_list (tg := tg) hl).run pins s σ H R I h
  · exact (pi_tup (tg := tg) hl).run pins s σ H R I h
end
section
variable {K : PySem.W.Frag} {a b : Addr} {xs ys : List V} {n : Nat}
theorem walk_zipT (hn : n = min xs.length ys.length) : Walk (RZ.ItzT K a b) n (fun H => SqT K H a xs ∧ SqT K H b ys) (YPair (fun i => xs[i]?) (fun i => ys[i]?)) := by
  refine ⟨fun i H hi g => ?_, fun H g => ⟨xs, ys, g.1, g.2, by omega⟩, fun i H x H' hi g y => ?_⟩
  · have h1 : i < xs.length := by omega
    have h2 : i < ys.length := by omega
    exact ⟨xs, ys, xs[i], ys[i], g.1, g.2, List.getElem?_eq_getElem h1, List.getElem?_eq_getElem h2⟩
  · obtain ⟨T, x1, y1, e1, e2, e3, e4, e5⟩ := y
    exact ⟨T, x1, y1, e1, e2, e3, e4 xs g.1, e5 ys g.2⟩
end
section
variable {P : Program} {w : World} {K : PySem.W.Frag} {mg : Str → Option Value} {base : Heap}
/-- a class whose __init__ takes its parameters one by one -/
theorem PromC.plain {C q : Str} {st : Stmt} {N ps : List Str} {sp sp0 : Sp} {k : Nat} (mk : Mk K (He.ga K C) (He.ma K (He.ga K C) "__init__")) (hm : mg C = some (.ref (He.ga K C))) (D : DefAtM K C "__init__" q st) (S : FnScope N ps (defScope st))
    (len : ∀ vs H Q E, sp0 vs H Q E → vs.length = ps.length)
    (hb : ∀ (kV doc pm : Value) (an : Option Addr) (cdv ct : Value) (us : List Value), us.length = ps.length → bindArgs (PySem.W.fnOf "__init__" q (defArgs st) (defBody st) (defScope st) .none kV doc pm an cdv ct) ⟨us, []⟩ = pure (ps.zip us))
    (hbody : ∀ (f : Addr) (cdv : Value) (A : Around) (outer : List Env) (s : Shared) (H : Hp) (vs : List V) (Q : VK) (E : XK), Room k (A.deeper (envOfC q (defScope st) s.heap.objs.size f cdv)) → sp0 vs H Q E →
      ∃ t, PSs (cxOf CX0 P w K mg base N q (defScope st) f cdv A outer s H E).nox (defBody st) t ∧ t { nx := fun _ H' => Q .non H', rt := Q } (start N vs) H)
    (hsp : ∀ vs H Q E, sp vs H Q E → ∀ x dx, H x = none → H dx = none → dx ≠ x → sp0 (.ref x :: vs) (upd (upd H dx (.own x)) x (.ins (He.ga K C) dx [])) (fun u H2 => u = .non ∧ Q (.ref x) H2) E) :
    PromC P w K mg base CX0 (k + 1) C sp := by
  obtain ⟨fd, F⟩ := D
  have F1 : FnOk P w K mg base CX0 (k + 1) (He.ma K (He.ga K C) "__init__") fd ps sp0 := F.ok S len (fun cdv A outer s H vs Q E hr hs => by
    obtain ⟨t, h1, h2⟩ := hbody _ cdv A outer s H vs Q E hr hs
    exact ⟨t, h1.nox, h2⟩)
  refine ⟨mk, hm, _, F1.raw (F.bindsN hb) .nil, fun vs H Q E hs x dx hx hdx ne => ?_⟩
  rw [List.append_nil]
  exact hsp vs H Q E hs x dx hx hdx ne
end
end Sz
/-! errors: defs that raise, a try with a tuple of classes, a def that looks at the error that is handled -/
namespace Sz
open PySem PySem.Spec PyProof.Rows L2
section
variable {P : Program} {w : World} {K : PySem.W.Frag} {mg : Str → Option Value} {base : Heap}
/-- a def that may raise -/
theorem Prom.ofX {x : Str} {st : Stmt} {ps N : List Str} {sp : Sp} {k : Nat} (D : DefAt K mg x st) (S : FnScope N ps (defScope st)) (len : ∀ vs H Q E, sp vs H Q E → vs.length = ps.length)
    (hb : ∀ (kV doc pm : Value) (an : Option Addr) (cdv ct : Value) (us : List Value), us.length = ps.length → bindArgs (PySem.W.fnOf x x (defArgs st) (defBody st) (defScope st) .none kV doc pm an cdv ct) ⟨us, []⟩ = pure (ps.zip us))
    (hbody : ∀ (f : Addr) (cdv : Value) (A : Around) (outer : List Env) (s : Shared) (H : Hp) (vs : List V) (Q : VK) (E : XK), Room k (A.deeper (envOfC x (defScope st) s.heap.objs.size f cdv)) → sp vs H Q E →
      ∃ t, PSs (cxOf (L2.CX P w) P w K mg base N x (defScope st) f cdv A outer s H E) (defBody st) t ∧ t { nx := fun _ H' => Q .non H', rt := Q } (start N vs) H) :
    Prom P w K mg base (L2.CX P w) (k + 1) x st ps sp := by
  obtain ⟨f, fd, F, hm⟩ := D
  exact ⟨f, fd, F.ok S len (fun cdv A outer s H vs Q E hr hs => hbody f cdv A outer s H vs Q E hr hs), hm, F, F.bindsN hb⟩
end
/-! ### a def that is handed the error, called in the except suite: p, the error's address and object -/
structure FnP (P : Program) (w : World) (K : PySem.W.Frag) (mg : Str → Option Value) (base : Heap) (k : Nat) (f : Addr) (fd : FuncData) (ps : List Str) (sp : Addr × Obj → Sp) : Prop where
  len : ∀ p vs H Q E, sp p vs H Q E → vs.length = ps.length
  run : ∀ (A : Around) (outer : List Env) (s : Shared) (H : Hp) (args : Args) (us : List Value) (vs : List V) (Q : VK) (E : XK) (p : Addr × Obj), L2H.RoomH k A → A.guards = some [] → L2H.PinOk outer H s p → Env0 P w K mg base A outer s H →
    BindsTo s fd args (ps.zip us) → Vals vs us → sp p vs H Q E → codeAny (model P w) A (.call (.ref f) args) (CR CX0 outer P w H s Q E) s
theorem fnP_of {P : Program} {w : World} {K : PySem.W.Frag} {mg : Str → Option Value} {base : Heap} {k : Nat} {f : Addr} {x q : Str} {pr : Arguments} {bd : List Stmt} {sc : Scope} {dvs : List V} {kws : List (Str × V)} {fd : FuncData} {N ps : List Str} {sp : Addr × Obj → Sp}
    (F : FunD K x q pr bd sc dvs kws f fd) (S : FnScope N ps sc) (len : ∀ p vs H Q E, sp p vs H Q E → vs.length = ps.length)
    (hbody : ∀ (cdv : Value) (A : Around) (outer : List Env) (s : Shared) (H : Hp) (vs : List V) (Q : VK) (E : XK) (p : Addr × Obj), L2H.RoomH k (A.deeper (envOfC q sc s.heap.objs.size f cdv)) → (A.deeper (envOfC q sc s.heap.objs.size f cdv)).guards = some [] → sp p vs H Q E →
      ∃ t, PSs (L2H.cxH CX0 P w K mg base N q sc f cdv A outer s H E p).nox bd t ∧ t { nx := fun _ H' => Q .non H', rt := Q } (start N vs) H) : FnP P w K mg base (k + 1) f fd ps sp := by
  obtain ⟨c1, c2, c3, c4, c5, c6, c7, cdv, c9, c10, rfl, look, code, _, _⟩ := F.ex
  refine ⟨len, fun A outer s H args us vs Q E p room gd pin e0 hbind rel want => ?_⟩
  have old : ∀ b o, base.get? b = some o → s.heap.get? b = some o := fun b o e => (e0.bs b o e).1
  have inK : K.In s.heap := e0.mod.kin.keeps old
  have kinds : ∀ y ∈ ps.zip us, sc.names.lookup y.1 = some .local ∨ (sc.names.lookup y.1 = some .cell ∧ ((cellsFrom (s.heap.objs.size + 1) sc.names []).lookup y.1).isSome = true) := by
    rintro ⟨n, v⟩ hy
    have hm : n ∈ ps := (List.of_mem_zip hy).1
    cases S.par n hm with
    | inl z => exact Or.inl z
    | inr z => exact Or.inr ⟨z, PySem.W.cellsFrom_some _ _ _ (.inl z)⟩
  obtain ⟨t, dt, rt⟩ := hbody cdv A outer s H vs Q E p (room.deeper _) gd want
  have dt := dt.nox
  refine codeAny_call_function room.depth (inK _ _ look) rfl S.co S.gen rfl (PySem.W.codeRec_of inK code) ?_
  refine hbind _ _ _ _ (wpAny_newFunctionEnv_cells S.kind kinds ?_)
  rintro _ rfl s1 ic
  refine ⟨(e0.mod.nolimit.keeps old).keeps ic.toInCall.keep, codeAny_func ?_⟩
  refine wpAny_mono (dt.run [] s1 (start N vs) H _ (L2H.inv_startH S pin e0 (len _ _ _ _ _ want) rel ic) rt) ?_ (fun _ _ z => z)
  intro fl s' hs
  cases fl with
  | ret u => exact let ⟨v, _, H', J, rv, qv⟩ := hs; ⟨v, H', J.os, J.bare, J.base, J.hok, rv, qv⟩
  | next => exact let ⟨_, H', J, qv⟩ := hs; ⟨.non, H', J.os, J.bare, J.base, J.hok, rfl, qv⟩
  | brk => exact let ⟨_, _, _, qv⟩ := hs; False.elim qv
  | cont => exact let ⟨_, _, _, qv⟩ := hs; False.elim qv
/-- the def named x keeps the promise sp of the error at p -/
structure PromP (P : Program) (w : World) (K : PySem.W.Frag) (mg : Str → Option Value) (base : Heap) (k : Nat) (x : Str) (st : Stmt) (ps : List Str) (sp : Addr × Obj → Sp) : Prop where
  ex : ∃ f fd, FnP P w K mg base k f fd ps sp ∧ mg x = some (.ref f) ∧ FunD K x x (defArgs st) (defBody st) (defScope st) [] [] f fd ∧ Binds K fd ps []
theorem PromP.of {P : Program} {w : World} {K : PySem.W.Frag} {mg : Str → Option Value} {base : Heap} {x : Str} {st : Stmt} {ps N : List Str} {sp : Addr × Obj → Sp} {k : Nat} (D : DefAt K mg x st) (S : FnScope N ps (defScope st)) (len : ∀ p vs H Q E, sp p vs H Q E → vs.length = ps.length)
    (hb : ∀ (kV doc pm : Value) (an : Option Addr) (cdv ct : Value) (us : List Value), us.length = ps.length → bindArgs (PySem.W.fnOf x x (defArgs st) (defBody st) (defScope st) .none kV doc pm an cdv ct) ⟨us, []⟩ = pure (ps.zip us))
    (hbody : ∀ (f : Addr) (cdv : Value) (A : Around) (outer : List Env) (s : Shared) (H : Hp) (vs : List V) (Q : VK) (E : XK) (p : Addr × Obj), L2H.RoomH k (A.deeper (envOfC x (defScope st) s.heap.objs.size f cdv)) → (A.deeper (envOfC x (defScope st) s.heap.objs.size f cdv)).guards = some [] → sp p vs H Q E →
      ∃ t, PSs (L2H.cxH CX0 P w K mg base N x (defScope st) f cdv A outer s H E p).nox (defBody st) t ∧ t { nx := fun _ H' => Q .non H', rt := Q } (start N vs) H) :
    PromP P w K mg base (k + 1) x st ps sp := by
  obtain ⟨f, fd, F, hm⟩ := D
  exact ⟨f, fd, fnP_of F S len (fun cdv A outer s H vs Q E p hr hg hs => hbody f cdv A outer s H vs Q E p hr hg hs), hm, F, F.bindsN hb⟩
section
variable {X : Cx} {k : Nat} {x : Str} {st : Stmt} {ps : List Str} {sp : Addr × Obj → Sp} {e : Expr} {es : List Expr} {t : TA} {p pos : Pos} {a : Addr} {oe : Obj} {pn : List (Addr × Obj)}
/-- f(..) in the suite that handles the error at a -/
theorem pe_callE (G : PromP X.prog X.w X.K X.mg X.base k x st ps sp) (gd : X.A.guards = some []) (hr : L2H.RoomH k X.A) (hg : Gl X x) (hs : X.stack = X.env :: X.outer) (ha : PA (X.suite a ((a, oe) :: pn)) (e :: es) t)
    (hdb : (x == ("__debug__" : Str)) = false := by decide) (he : starEach (e :: es) X.env = (false, eval e X.env) :: starEach es X.env := by rfl) (hpl : (backTo pos (starEach es X.env)).any (·.1) = false := by rfl) :
    PE (X.suite a ((a, oe) :: pn)) (.Call (.Name x p) (e :: es) [] pos) (tCall (sp (a, oe)) [] E0 t) := by
  obtain ⟨f, fd, F, hm, D, hb⟩ := G.ex
  constructor
  intro pins s σ H Q I h
  refine wpAny_Call_Name_kw (ld_glob I hg hm (PySem.W.callWith_K (h₀ := X.base) I.ok.mod.kin D.kp (thn (ha.run pos pins s σ H _ I h) ?_) he hpl) hdb)
  rintro us s1 ⟨vs, H1, I1, rel, want⟩
  have pin : L2H.PinOk X.stack H1 s1 (a, oe) := by
    obtain ⟨p1, p2, p3, p4, p5⟩ := I1.pin (a, oe) (List.mem_append_left _ (List.mem_cons_self ..))
    refine ⟨p1, p2, fun z => ?_, p5⟩
    rw [hs] at z
    obtain ⟨en, hen, q⟩ := List.mem_filterMap.mp z
    rcases List.mem_cons.mp hen with z | z
    · subst z
      have nf := I1.ok.stk
      rcases nf with nf | ⟨_, nf⟩
      · have nf : X.stack = X.outer := nf
        rw [hs] at nf
        exact absurd (congrArg List.length nf) (by simp)
      · have nf : X.env.frame = some X.env.locals := nf
        rw [nf] at q
        exact p3 (Option.some.inj q).symm
    · exact p4 (List.mem_filterMap.mpr ⟨en, z, q⟩)
  refine ⟨I1.kIn, wpAny_call (codeAny_mono (F.run (X.A.mark (some (.ref a))) X.stack s1 H1 ⟨us, []⟩ (us ++ []) (vs ++ []) Q E0 (a, oe) ⟨hr.dp, hr.un⟩ gd pin I1.env0 (hb s1 us I1.kIn ?_) (rel.append .nil) want) ?_)⟩
  · rw [← (rel.append Paired.nil).length]
    exact F.len _ _ _ _ _ want
  · intro r s' hq
    cases r with
    | error z => exact False.elim hq
    | ok fl =>
      cases fl with
      | ret u => exact I1.after hq
      | next => exact False.elim hq
      | brk => exact False.elim hq
      | cont => exact False.elim hq
end
/-! ### except clauses with names, by a class or by three of them -/
/-- what the test of a clause does: nothing but new objects, and the word whether the error is of one of these classes -/
def TestOk (X : Cx) (t : Expr) (cs : List Value) : Prop := ∀ (a : Addr) (oe : Obj) (pn pins : List (Addr × Obj)) (s : Shared) (σ : L2.St) (H : Hp) (b : Bool) (Q : Bool → Shared → Prop) (E : Value → Shared → Prop),
  Inv (X.suite a ((a, oe) :: pn)) pins σ H s → PySem.W.exmAny X.K oe.cls cs = some b → (∀ h', (∀ c o, s.heap.get? c = some o → h'.get? c = some o) → Q b { s with heap := h' }) →
  wpAny (model X.prog X.w) (X.A.mark (some (.ref a))) (eval t X.env) (fun c s1 => wpAny (model X.prog X.w) (X.A.mark (some (.ref a))) (excMatches (.ref a) c) Q E s1) E s
theorem exmAny_one {K : PySem.W.Frag} {cls c : Value} {b : Bool} (h : PySem.W.exmAny K cls [c] = some b) : PySem.W.exmOne K cls c = some b := by
  obtain ⟨b1, d1, e1, e2, e3⟩ := PySem.W.exmAny_cons h
  have e2 : some false = some d1 := e2
  cases e2
  rw [e1, e3, Bool.or_false]
section
variable {X : Cx}
theorem looks_cls {a : Addr} {oe : Obj} {pn pins : List (Addr × Obj)} {s : Shared} {σ : L2.St} {H : Hp} (I : Inv (X.suite a ((a, oe) :: pn)) pins σ H s) : PySem.W.Looks (model X.prog X.w) s.heap (typeOf (.ref a)) oe.cls := fun A Q E s' k q =>
  wpAny_typeOf_ref (k _ _ (I.pin (a, oe) (List.mem_append_left _ (List.mem_cons_self ..))).1) q
theorem test_name {x : Str} {c : Value} {np : Pos} (hg : Gl X x) (hm : X.mg x = some c) (hd : (x == ("__debug__" : Str)) = false := by decide) : TestOk X (.Name x np) [c] := fun a oe pn pins s σ H b Q E I hx k => by
  refine ld_glob I hg hm ?_ hd
  exact (PySem.W.exm_one (M := model X.prog X.w) I.kIn (looks_cls I) (exmAny_one hx)).here (k s.heap fun _ _ z => z)
theorem test_tup {x y z : Str} {c1 c2 c3 : Value} {p1 p2 p3 tp : Pos} {e1} (g1 : Gl X x) (g2 : Gl X y) (g3 : Gl X z) (m1 : X.mg x = some c1) (m2 : X.mg y = some c2) (m3 : X.mg z = some c3)
    (d1 : (x == ("__debug__" : Str)) = false := by decide) (d2 : (y == ("__debug__" : Str)) = false := by decide) (d3 : (z == ("__debug__" : Str)) = false := by decide) :
    TestOk X (.Tuple [.Name x p1, .Name y p2, .Name z p3] e1 tp) [c1, c2, c3] := fun a oe pn pins s σ H b Q E I hx k => by
  refine wpAny_Tuple_spliced ?_
  show wpAny _ _ (spliced [(false, eval (.Name x p1) X.env), (false, eval (.Name y p2) X.env), (false, eval (.Name z p3) X.env)]) _ _ _
  refine Calls.spliced_cons (ld_glob I g1 m1 (Calls.spliced_cons (ld_glob I g2 m2 (Calls.spliced_cons (ld_glob I g3 m3 (Calls.spliced_nil ⟨(by show 3 ≤ sizeLine; decide), ?_⟩) d3)) d2)) d1)
  have kk : ∀ c o, s.heap.get? c = some o → (s.heap.push { cls := .type "tuple", data := .seq [c1, c2, c3].toArray }).get? c = some o := fun c o e => Heap.get?_push_of_some _ e
  exact (PySem.W.exm_tup3 (M := model X.prog X.w) (I.kIn.keeps kk) ((looks_cls I).keeps kk) (Heap.get?_push_size _ rfl) hx).here (k _ kk)
end
theorem fly_kept {B h h' : Heap} {l : List Env} {e : Addr} {Z : Obj → Prop} (k : ∀ b o, h.get? b = some o → h'.get? b = some o) (x : HandSPX.FlyingZ B l e Z h) : HandSPX.FlyingZ B l e Z h' := by
  obtain ⟨st, no, fr, oe, vs, T, oT, ts, a1, a2, a3, a4, a5, a6, a7, a8⟩ := x
  exact ⟨fun b o e => k b o (st b o e), no, Heap.FunFrames.of_keeps (fun b o e _ => ⟨o, k b o e, rfl⟩) fr, oe, vs, T, oT, ts, k _ _ a1, a2, a3, a4, a5, a6, k _ _ a7, a8⟩
/-- a clause: the classes, the slot of its name, the reading of its suite -/
structure Clause where
  cs : List Value
  i : Nat
  ts : Addr → Obj → Value → Option Addr → TS
/-- behind the suite the name is gone -/
def Ends.gone (D : Ends) (i : Nat) : Ends := { nx := fun σ H => D.nx (σ.set i none) H, rt := D.rt, bk := fun σ H => D.bk (σ.set i none) H, ct := fun σ H => D.ct (σ.set i none) H }
def wCl (K : PySem.W.Frag) (Wout : WX) (D : Ends) : List Clause → WX
  | [] => Wout
  | c :: r => fun cls d σ H => ∃ b, PySem.W.exmAny K cls c.cs = some b ∧ (b = true → ∀ a oe, Zc cls d oe → (∃ vs, oe.data = .fields vs) → H a = none → c.ts a oe cls d (Ends.gone D c.i) (σ.set c.i (some (.ref a))) H) ∧ (b = false → wCl K Wout D r cls d σ H)
inductive ClOk (X : Cx) : List ExceptHandler → List Clause → Prop
  | nil : ClOk X [] []
  | cons {t : Expr} {n : Str} {i : Nat} {b0 : Stmt} {suite : List Stmt} {pos : Pos} {cs : List Value} {ts : Addr → Obj → Value → Option Addr → TS} {hds : List ExceptHandler} {l : List Clause} (ht : TestOk X t cs) (hi : X.N[i]? = some n) (hl : X.env.kindOf n = some .local)
      (hs : ∀ (a : Addr) (oe : Obj) (cls : Value) (d : Option Addr) (pn : List (Addr × Obj)), Zc cls d oe → (∃ vs, oe.data = .fields vs) → PSs (X.suite a ((a, oe) :: pn)) (b0 :: suite) (ts a oe cls d)) (r : ClOk X hds l) : ClOk X (.ExceptHandler (some t) (some n) (b0 :: suite) pos :: hds) (⟨cs, i, ts⟩ :: l)
section
variable {X : Cx} {body : List Stmt} {h0 : ExceptHandler} {hds : List ExceptHandler} {l : List Clause} {pos : Pos} {tb : WX → TS} {Wout : WX}
/-- the error lies on the ground and is looked at by the clauses -/
theorem clauses_run {pins : List (Addr × Obj)} {σ : L2.St} {H : Hp} {D : Ends} {sI s' : Shared} {B : Heap} {a : Addr} {cls : Value} {d : Option Addr} (hs : X.stack = X.env :: X.outer) (hf : X.env.frame = some X.env.locals) (hN : X.N.Nodup) (tk : Takes X Wout) (J : Inv X pins σ H sI)
    (nb : ∀ b o, sI.heap.get? b = some o → b ∉ frs X.stack → B.get? b = some o) (na : H a = none) (os : s'.os = sI.os) (ag : AllBare s'.gens) {hds : List ExceptHandler} {l : List Clause} (hk : ClOk X hds l) :
    ∀ (h : Heap), HandSPX.FlyingZ B (X.env :: X.outer) a (Zc cls d) h → sI.heap.UpToSlots h → wCl X.K Wout D l cls d σ H → wpAny (model X.prog X.w) X.A (handleBy (.ref a) X.env hds) (SP X pins D) X.xe { s' with heap := h } := by
  have ok := J.ok
  have place : ∀ {h : Heap}, HandSPX.FlyingZ B (X.env :: X.outer) a (Zc cls d) h → a ≠ X.env.locals ∧ a ∉ X.fs := fun {h} fl => by
    obtain ⟨oe, vs, he, hz, hd⟩ := fl.there
    have nfr : a ∉ frs (X.env :: X.outer) := fun hm => by
      obtain ⟨_, o', e', hnf⟩ := fl.2.2.1.mem hm
      rw [he] at e'
      cases e'
      exact hnf _ hd
    exact ⟨fun z => nfr (List.mem_filterMap.mpr ⟨X.env, List.mem_cons_self, by rw [hf, z]⟩), fun hm => by
      obtain ⟨e, he, q⟩ := List.mem_filterMap.mp hm
      exact nfr (List.mem_filterMap.mpr ⟨e, List.mem_cons_of_mem _ he, q⟩)⟩
  induction hk with
  | nil =>
    intro h fl up want
    refine wpAny_handleBy_nil ?_
    obtain ⟨k1, k2, k3, oe, vs, T, oT, us, he, hz, hd, h1, hr⟩ := id fl
    unfold PySem.passOn
    refine wpAny_bind (wpAny_field he hd h1 ?_)
    rw [if_neg (show ¬ ((Value.ref T == Value.none) = true) from by simp)]
    have fin : wpAny (model X.prog X.w) X.A (setFlight (.ref a) X.env.frame) (fun _ s4 => wpAny (model X.prog X.w) X.A (throw (.ref a) : Sem Flow) (SP X pins D) X.xe s4) X.xe { s' with heap := h } := by
      rw [hf]
      exact HandSPX.setFlight_upZ fl fun h4 hh4 up4 => wpAny_throw (tk _ _ ⟨a, B, sI, pins, σ, H, cls, d, rfl, J, nb, up.trans up4, .inr (.inr (by rw [hs]; exact hh4)), na, os, ag, want⟩)
    first
      | exact wpAny_bind (wpAny_pure (wpAny_bind fin))
      | exact wpAny_bind fin
  | @cons t n i b0 suite pos cs ts hds2 l2 ht hi hln hsu r ih =>
    intro h fl up want
    obtain ⟨b, hb, yes, no⟩ := want
    obtain ⟨oe, vs, he, hz, hd⟩ := fl.there
    obtain ⟨nL, nF⟩ := place fl
    have J3 : Inv X pins σ H { s' with heap := h } := J.landed nb fl.1 up os ag
    refine wpAny_handleBy_cons (codeAny_handlers_test (ht a oe (X.pn ++ pins) [] _ σ H b _ _ (J3.suite he hd na nL nF) (by rw [hz.1]; exact hb) fun h5 k5 => ?_)) (by intro q; cases q)
    have fl5 := fly_kept k5 fl
    have up5 := up.trans (Heap.UpToSlots.of_keeps k5)
    cases b with
    | false => exact ih h5 fl5 up5 (no rfl)
    | true =>
      refine codeAny_handlers_suite_as (HandSPX.lands_againZ fl5 fun h6 fl6 up6 => ?_)
      obtain ⟨oe6, vs6, he6, hz6, hd6⟩ := fl6.there
      have J6 : Inv X pins σ H { s' with heap := h6 } := J.landed nb fl6.1 (up5.trans up6) os ag
      refine store_ok (X := X.suite a ((a, oe6) :: (X.pn ++ pins))) (v := .ref a) (J6.suite he6 hd6 na nL nF) hN hi (.inl hln) rfl (fun s7 S7 => ?_) (.inr hln)
      refine wpAny_mono ((hsu a oe6 cls d (X.pn ++ pins) hz6 ⟨_, hd6⟩).run [] s7 _ H _ S7 (yes rfl a oe6 hz6 ⟨_, hd6⟩ na)) (fun f s8 hsp => ?_) (fun _ _ z => False.elim z)
      have leave : ∀ {σ8 : L2.St} {H8 : Hp} {Q : Shared → Prop}, Inv (X.suite a ((a, oe6) :: (X.pn ++ pins))) [] σ8 H8 s8 → (∀ s9, Inv X pins (σ8.set i none) H8 s9 → Q s9) →
          wpAny (model X.prog X.w) X.A (do bindName X.env n .none; unbindBehindTheSuite X.env n pos) (fun _ s9 => Q s9) X.xe s8 := fun {σ8 H8 Q} S8 hq => gone_ok (S8.unsuite ok) hN hi hln hq
      cases f with
      | next => exact let ⟨_, _, S8, q8⟩ := hsp; leave S8 fun _ J9 => ⟨_, _, J9, q8⟩
      | brk => exact let ⟨_, _, S8, q8⟩ := hsp; leave S8 fun _ J9 => ⟨_, _, J9, q8⟩
      | cont => exact let ⟨_, _, S8, q8⟩ := hsp; leave S8 fun _ J9 => ⟨_, _, J9, q8⟩
      | ret u => exact let ⟨_, _, _, S8, r8, q8⟩ := hsp; leave S8 fun _ J9 => ⟨_, _, _, J9, r8, q8⟩
/-- try: body, except T as n: suite, .. -/
theorem ps_tryA (hs : X.stack = X.env :: X.outer) (hf : X.env.frame = some X.env.locals) (hN : X.N.Nodup) (tk : Takes X Wout)
    (hb : ∀ (W : WX) (pn : List (Addr × Obj)) (xe : Value → Shared → Prop), Takes (X.tr pn xe) W → PassesOwn (model X.prog X.w) X.A X.env xe → PSs (X.tr pn xe) body (tb W)) (hh : ClOk X (h0 :: hds) l) :
    PS X (.Try body (h0 :: hds) [] [] pos) (fun D σ H => tb (wCl X.K Wout D l) D σ H) := by
  constructor
  intro pins s σ H D I h
  have ok := I.ok
  have hfr : X.A.frames = some (X.env :: X.outer) := by rw [ok.frames, hs]
  refine wpAny_Try_except (wpAny_mono ((hb (wCl X.K Wout D l) (X.pn ++ pins) (fun e s1 => wpAny (model X.prog X.w) X.A (noteFrame e X.env) (fun _ s2 => wpAny (model X.prog X.w) X.A (setFlight e none) (fun _ s3 =>
    wpAny (model X.prog X.w) X.A (handleBy e X.env (h0 :: hds)) (SP X pins D) X.xe s3) X.xe s2) X.xe s1) (fun u s' xx => ?_) PassesOwn.looking).run [] s σ H D (I.toTry _) h) (fun f s1 hsp => ?_) (fun e s1 he => he))
  · obtain ⟨a, B, sI, pins', σ', H', cls, d, rfl, J', nb, up, sky, na, os, ag, want⟩ := xx
    have sky' : Sky B (X.env :: X.outer) a (Zc cls d) X.env.locals s'.heap := by rw [← hs]; exact sky
    show wpAny (model X.prog X.w) X.A (noteFrame (.ref a) X.env) _ _ _
    exact Sky.land Zc.steady hfr hf sky' fun h3 fl3 up3 => clauses_run hs hf hN tk (J'.ofTry ok) nb na os ag hh h3 fl3 (up.trans up3) want
  · cases f with
    | next => exact let ⟨σ', H', J', q⟩ := hsp; wpAny_execs_nil ⟨σ', H', J'.ofTry ok, q⟩
    | brk => exact let ⟨σ', H', J', q⟩ := hsp; ⟨σ', H', J'.ofTry ok, q⟩
    | cont => exact let ⟨σ', H', J', q⟩ := hsp; ⟨σ', H', J'.ofTry ok, q⟩
    | ret u => exact let ⟨v, σ', H', J', r, q⟩ := hsp; ⟨v, σ', H', J'.ofTry ok, r, q⟩
end
end Sz
/-! own errors with one field, over any built-in base -/
namespace Sz
open PySem PySem.Spec PyProof.Rows L2
/-- what is written of the error class at C: its __init__ at fI sets the field f -/
structure ErrC (K : PySem.W.Frag) (C fI : Addr) (f : Str) : Prop where
  ex : ∃ (B newId initId : String) (bmB : List Value), ExcBaseFacts B newId initId bmB ∧ StoreFacts B bmB "object.__setattr__" "object" ∧ PySem.W.excInitIn K C bmB newId = true ∧ PySem.W.excOver K C bmB = true
  sa : PySem.W.findIn K (.ref C) "__setattr__" = some (some (.builtin "object.__setattr__"))
  tk : PySem.W.takerIn K C f = some none
  hd : PySem.W.hasDictIn K C = true
  exC : PySem.W.subIn K (.ref C) (.type "BaseException") = some true
  tyC : PySem.W.typeIn K (.ref C) = some (.type "type")
  kC : PySem.W.keepIn K (.ref C) = true
  iC : PySem.W.findIn K (.ref C) "__init__" = some (some (.ref fI))
  tI : PySem.W.typeIn K (.ref fI) = some (.type "function")
section
open Builtin Builtin.ObjectAttr
variable {prog : Program} {w : World} {A : Around} {R : Result → Shared → Prop} {hp : Heap} {g : Array GenState} {d : Drawn} {t : Nat} {os : OsState}
/-- the first field of an error -/
theorem err_osa {K : PySem.W.Frag} {C fI : Addr} {f : Str} {tk : Tok} {v : Value} {x : Addr} {fv : Array Value} (T : ErrC K C fI f) (X : K.In hp) (hx : hp.get? x = some { cls := .ref C, data := .fields fv })
    (hq : ∀ h' tk' dx, (∀ b o, b ≠ x → hp.get? b = some o → h'.get? b = some o) → hp.objs.size ≤ dx → dx ≠ x → h'.get? x = some { cls := .ref C, dict := some dx, data := .fields fv } →
      h'.Ns1 dx (fun y => if y = f then some v else none) → R (.ok (.ret .none)) ⟨h', g, d, tk', os⟩) :
    codeAny (model prog w) A (.call (.builtin "object.__setattr__") ⟨[.ref x, .str f tk, v], []⟩) R ⟨hp, g, d, t, os⟩ := by
  obtain ⟨B, newId, initId, bmB, FB, SF, _, ov⟩ := T.ex
  have hxs : x ≠ hp.objs.size := Nat.ne_of_lt (Heap.lt_size hx)
  refine PySem.W.osa_openX (s := ⟨hp, g, d, t, os⟩) (od := none) SF X ⟨hx, rfl, rfl, trivial⟩ ov T.tk fun b => ?_
  show wpAny _ _ (storeInOwnDict (.ref x) (.ref C) (.str f tk) f v b) _ _ _
  obtain ⟨cd, hc, hh⟩ := PySem.W.any_some T.hd
  have hcls : PySem.W.Looks (model prog w) hp (classData C) cd := PySem.W.looks_clsIn X hc
  obtain ⟨nm, bs, mro, ns, qn, hd, sn, sb, ab, col, del⟩ := cd
  dsimp only at hh
  subst hh
  unfold storeInOwnDict ownDictForStores
  repeat (first | with_reducible refine HandSPX.store_in_new ?_ ?_ | with_reducible refine wpAny_loadPart_at hx ?_ | with_reducible refine hcls.at ?_ | wp_step)
  · exact ⟨_, #[], _, (Heap.get?_update_ne _ _ _ _ hxs.symm).trans (Heap.get?_push_at rfl rfl), rfl, fun e he => absurd he (by simp), fun _ => rfl⟩
  · intro h' tk' hn' hs
    have h1 : (hp.push { cls := .type "dict", data := .dict #[] }).get? x = some { cls := .ref C, data := .fields fv } := Heap.get?_push_of_some _ hx
    refine hq h' tk' hp.objs.size (fun b o hb ho => ?_) (Nat.le_refl _) hxs.symm ?_ hn'
    · exact (hs.2 b (Nat.ne_of_lt (Heap.lt_size ho))).trans ((Heap.get?_update_ne _ _ _ _ hb).trans (Heap.get?_push_of_some _ ho))
    · exact (hs.2 x hxs).trans (Heap.get?_update_self _ h1 rfl)
end
section
variable {X : Cx} {pins : List (Addr × Obj)} {σ : L2.St} {H : Hp} {s : Shared} {a C fI dx : Addr} {f : Str} {y : V} {u : Value}
theorem err_first {A : Around} {Q : Unit → Shared → Prop} {E : Value → Shared → Prop} (T : ErrC X.K C fI f) (I : Inv X pins σ H s) (e : H a = some (exo a C none)) (ry : RelV y u)
    (h : ∀ dx s', H dx = none → dx ≠ a → Inv X pins σ (upd (upd H dx (exd dx [(f, y)])) a (exo a C (some dx))) s' → Q () s') : wpAny (model X.prog X.w) A (setAttr (.ref a) f u) Q E s := by
  obtain ⟨t1, ho⟩ := exo_at I.hok e
  obtain ⟨hp, g, dr, t, os⟩ := s
  refine PySem.W.set_plain I.kIn (ox := { cls := .ref C, dict := none, data := .fields #[.ref t1, .none, .none, .none, .bool false, .none] }) (od := none) ⟨ho, rfl, rfl, trivial⟩ T.sa (err_osa T I.kIn ho fun h' tk' dx k dn dne hx hn => ?_)
  have free : H dx = none := I.hok.fresh dn
  have old : ∀ {b : Addr} {o : Obj}, hp.get? b = some o → b ≠ dx := fun z => Nat.ne_of_lt (Nat.lt_of_lt_of_le (Heap.lt_size z) dn)
  have off : ∀ {b : Addr}, H b = none → b ≠ a := fun n z => by
    rw [z, e] at n
    cases n
  have same : ∀ {b : Addr} {o : HO}, H b = some o → exo a C none ≠ o → (upd (upd H dx (exd dx [(f, y)])) a (exo a C (some dx))) b = some o := fun z ne => by
    rw [upd_ne (at_ne e z ne), upd_ne (ne_of_none z free)]
    exact z
  refine h dx _ free dne (I.un (t' := tk') ⟨fun b o z n _ _ => k b o (off n) z, fun b o z n _ _ => ⟨o.slots, k b o (off n) z⟩, fun b o z n _ => by rw [upd_ne (off n), upd_ne (old z)]; exact n, fun b o z _ => ?_, fun b xs z => same z exo_tup, fun b o v z => same z exo_frz, fun b ps z => ⟨#[], by rw [same z exo_tbl]; simp⟩⟩ fun b o z => ?_)
  · by_cases hb : b = a
    · exact ⟨_, by rw [hb]; exact hx⟩
    · exact ⟨o, k b o hb z⟩
  · by_cases hb : b = a
    · subst hb
      rw [upd_same] at z
      cases z
      exact exo_ok hx
    · rw [upd_ne hb] at z
      by_cases hd : b = dx
      · subst hd
        rw [upd_same] at z
        cases z
        exact exd_ok hn (relO_put (fs := []) ry fun _ => True.intro)
      · rw [upd_ne hd] at z
        refine (I.hok b o z).stay (fun c v hc q => k c v ?_ q) (fun c hc => same hc exo_own) (fun c xs hc => same hc exo_tup)
        rcases hc with hc | hc
        · rw [hc]
          exact hb
        · exact at_ne e hc exo_own
/-- self.f = e in an error's __init__ -/
theorem ps_errFld {o v : Expr} {p' pos : Pos} {to te : TE} (hop : PE X o to) (hv : PE X v te) (hs : swapsWith v (some (.Attribute o f p')) pos.line X.env = pure false := by rfl) :
    PS X (.Assign [.Attribute o f p'] v pos) (fun D σ H => te σ H fun y H1 => to σ H1 fun x H2 => ∃ a C fI : Addr, x = .ref a ∧ ErrC X.K C fI f ∧ H2 a = some (exo a C none) ∧ ∀ dx, H2 dx = none → dx ≠ a → D.nx σ (upd (upd H2 dx (exd dx [(f, y)])) a (exo a C (some dx)))) := by
  constructor
  intro pins s σ H D I h
  refine plainObj_wpAny_Assign_Attribute (thn (hv.run pins s σ H _ I h) fun w1 s1 ⟨y, H1, I1, r1, q1⟩ => thn (hop.run pins s1 σ H1 _ I1 q1) fun w2 s2 ⟨x, H2, I2, r2, a, C, fI, ex, T, ea, q⟩ => ?_) hs
  subst ex
  obtain rfl : w2 = Value.ref a := r2
  exact err_first T I2 ea r1 fun dx s' n ne J => ⟨σ, _, J, q dx n ne⟩
end
/-- what __init__ of an error class promises -/
def spErr (K : PySem.W.Frag) (C fI : Addr) (f : Str) : Sp := fun vs H Q _ => ∃ (a : Addr) (v : V), vs = [.ref a, v] ∧ ErrC K C fI f ∧ H a = some (exo a C none) ∧ ∀ dx, H dx = none → dx ≠ a → Q .non (upd (upd H dx (exd dx [(f, v)])) a (exo a C (some dx)))
/-- raise C(e) asks: the field's value, then the wish of the error with its own dict -/
def tErr (C : Addr) (f : Str) (te : TE) : L2.St → Hp → XK → Prop := fun σ H Q => te σ H fun v H1 => ∀ d, H1 d = none → Q (.ref C) (some d) (upd H1 d (.xd [(f, v)]))
section
variable {X : Cx} {x : Str} {C fI : Addr} {f : Str} {e : Expr} {te : TE} {k : Nat} {p pos : Pos} {fd : FuncData} {ps : List Str}
theorem pmk_err (T : ErrC X.K C fI f) (F1 : FnOk X.prog X.w X.K X.mg X.base CX0 k fI fd ps (spErr X.K C fI f)) (hb : Binds X.K fd ps []) (hr : Room (k + 1) X.A) (hg : Gl X x) (hm : X.mg x = some (.ref C)) (he : PE X e te)
    (hdb : (x == ("__debug__" : Str)) = false := by decide) (hst : starEach [e] X.env = (false, eval e X.env) :: starEach [] X.env := by rfl) (hpl : (backTo pos (starEach [] X.env)).any (·.1) = false := by rfl) :
    PMk X (.Call (.Name x p) [e] [] pos) (tErr C f te) := by
  intro pins s σ H Q I h
  obtain ⟨B, newId, initId, bmB, FB, SF, ini, _⟩ := T.ex
  refine wpAny_Call_Name_kw (ld_glob I hg hm ?_ hdb)
  refine PySem.W.callWith_K (h₀ := X.base) I.ok.mod.kin T.kC (thn ((pa_cons he pa_nil hst).run pos pins s σ H (fun vs H1 => match vs with | [v] => ∀ d, H1 d = none → Q (.ref C) (some d) (upd H1 d (.xd [(f, v)])) | _ => False) I h) ?_) hst hpl
  rintro us s1 ⟨vs, H1, I1, r1, q⟩
  match vs, r1, q with
  | [v], r1, q =>
    obtain ⟨uv, rfl, ru⟩ := vals1 r1
    refine ⟨I1.kIn, ?_⟩
    show wpAny _ _ (call (.ref C) [uv]) _ _ _
    obtain ⟨nm, N', qn, bs, bm, hdct, sn, sub, ab, col, dd, k0, k1, k2, k3, k5, hC, hT⟩ := PySem.W.excInit_of I1.kIn ini
    obtain ⟨hp, g, dr, tk, os⟩ := s1
    have hsz : hp.objs.size ≤ hp.objs.size + 1 := Nat.le_succ _
    have hn : H1 (hp.objs.size + 1) = none := I1.hok.fresh hsz
    have kk : ∀ b o, hp.get? b = some o → ((hp.push (PySem.W.kdv_tup [uv])).push (HandSPX.excO C hp.objs.size)).get? b = some o := fun b o z => Heap.get?_push_of_some _ (Heap.get?_push_of_some _ z)
    have hget : ((hp.push (PySem.W.kdv_tup [uv])).push (HandSPX.excO C hp.objs.size)).get? (hp.objs.size + 1) = some (HandSPX.excO C hp.objs.size) := by heap_get
    have I2 : Inv X pins σ (upd H1 (hp.objs.size + 1) (exo (hp.objs.size + 1) C none)) ⟨(hp.push (PySem.W.kdv_tup [uv])).push (HandSPX.excO C hp.objs.size), g, dr, tk, os⟩ := I1.laid (t' := tk) kk hsz (exo_ok hget)
    have r2 : Vals [V.ref (hp.objs.size + 1), v] [Value.ref (hp.objs.size + 1), uv] := .cons rfl (.cons ru .nil)
    have want : spErr X.K C fI f [V.ref (hp.objs.size + 1), v] (upd H1 (hp.objs.size + 1) (exo (hp.objs.size + 1) C none)) (fun z H2 => z = .non ∧ ∃ (d : Addr) (fs : List (Str × V)), H2 (hp.objs.size + 1) = some (exo (hp.objs.size + 1) C (some d)) ∧ H2 d = some (exd d fs) ∧ H1 d = none ∧
        Q (.ref C) (some d) (upd (del H2 (hp.objs.size + 1)) d (.xd fs))) (fun _ _ _ => False) := by
      refine ⟨_, v, rfl, T, upd_same, fun dx hdx ndx => ⟨rfl, dx, [(f, v)], upd_same, ?_, ?_, ?_⟩⟩
      · rw [upd_ne ndx, upd_same]
      · rw [upd_ne ndx] at hdx
        exact hdx
      · rw [upd_ne ndx] at hdx
        have eq : upd (del (upd (upd (upd H1 (hp.objs.size + 1) (exo (hp.objs.size + 1) C none)) dx (exd dx [(f, v)])) (hp.objs.size + 1) (exo (hp.objs.size + 1) C (some dx))) (hp.objs.size + 1)) dx (.xd [(f, v)]) = upd H1 dx (.xd [(f, v)]) := by
          funext b
          by_cases hb : b = dx
          · rw [hb, upd_same, upd_same]
          · rw [upd_ne hb, upd_ne hb]
            by_cases ha : b = hp.objs.size + 1
            · rw [ha, del_same, hn]
            · rw [del_ne ha, upd_ne ha, upd_ne hb, upd_ne ha]
        rw [eq]
        exact q dx hdx
    have hl : [Value.ref (hp.objs.size + 1), uv].length = ps.length := F1.len _ _ _ _ want
    refine wpAny_call (HandSPX.call_own FB hT hC (PySem.W.looks_findIn I1.kIn T.iC) (fun self => PySem.W.bind_fn I1.kIn self T.tI) (by show 1 ≤ sizeLine; decide)
      (codeAny_mono (F1.run _ X.stack _ _ ⟨[Value.ref (hp.objs.size + 1), uv], []⟩ ([Value.ref (hp.objs.size + 1), uv] ++ []) ([V.ref (hp.objs.size + 1), v] ++ []) _ (fun _ _ _ => False) (hr.make C [uv] []) (I2.env0.make C [uv] []) (hb _ [Value.ref (hp.objs.size + 1), uv] I2.kIn hl) (r2.append .nil) want) fun r s' hq => ?_))
    cases r with
    | error er => exact False.elim hq
    | ok fl =>
      cases fl with
      | ret u =>
        obtain ⟨z, H2, os2, bare2, un2, hok2, rv, ez, d, fs, ea, ed, hd1, q2⟩ := hq
        subst ez
        obtain ⟨h2, g2, d2, t2, os'⟩ := s'
        exact ⟨rv, mk_end (raises_own T.exC T.tyC) I1 hsz kk un2 hok2 os2 bare2 ea ed hd1 q2⟩
      | next => exact False.elim hq
      | brk => exact False.elim hq
      | cont => exact False.elim hq
end
end Sz
/-! isinstance and the fields of the error that is pinned -/
namespace Sz
open PySem PySem.Spec PyProof.Rows L2
section
open PySem.W PySem.Calls
variable {prog : Program} {w : World} {A : Around} {E : Value → Shared → Prop} {s : Shared} {K : Frag} {x D : Addr} {ox : Obj} {od : Option Obj}
/-- x.__class__ of an error, with a dict or without -/
theorem err_class {Q : Option Value → Shared → Prop} (T : ExcC K D) (X : K.In s.heap) (I : InstAt s.heap x ox D od) (h : Q (some (.ref D)) { s with toks := s.toks + 1 }) : wpAny (model prog w) A (getAttr? (.ref x) "__class__") Q E s := by
  have isC : (clsIn K D).isSome = true := by obtain ⟨cd, hc, _⟩ := any_some T.hd; rw [hc]; rfl
  have found : findObj K D od "__class__" = some (.bind (.builtin "getset_descriptor.__get__") (.builtin "object.__class__")) := by
    cases od with
    | none => exact findObj_dataN isC T.ha T.hn T.ht
    | some o => exact findObj_data isC T.ha T.hn T.ht
  obtain ⟨hp, g, dr, t, os⟩ := s
  have l0 := I.type (M := model prog w)
  have l1 := looks_findIn (M := model prog w) X T.hg
  have l2 := looks_findIn (M := model prog w) X T.hk
  have l3 := looks_find (M := model prog w) X I found
  have sub : Looks (model prog w) hp (isInstance (.ref x) (.type "BaseException")) true := l0.andThen (looks_subIn X T.hs)
  have n2 : (Value.builtin "BaseException.__getattribute__" == Value.builtin "object.__getattribute__") = false := by decide +kernel
  have n1 : (onTheHeap (Value.ref D) && Value.builtin "BaseException.__getattribute__" == Value.builtin "object.__getattribute__") = false := by rw [n2]; rfl
  unfold getAttr? getAttrBy? getAttrBy
  refine wpAny_bind (wpAny_mkText (wpAny_bind (wpAny_attempt (wpAny_holding (wpAny_bind (l0.at (wpAny_bind (l1.at ?_))))))))
  show wpAny _ _ (if (onTheHeap (Value.ref D) && Value.builtin "BaseException.__getattribute__" == Value.builtin "object.__getattribute__") = true then _ else _) _ _ _
  rw [n1, if_neg Bool.false_ne_true]
  unfold getAttrByItsOwn hookBefore
  refine wpAny_bind ?_
  rw [if_pos (show onTheHeap (Value.ref D) = true from rfl)]
  refine l2.at (wpAny_bind (wpAny_attempt (wpAny_holding ?_)))
  unfold callGetattribute
  rw [show (false && onTheHeap (Value.builtin "BaseException.__getattribute__")) = false from rfl, if_neg Bool.false_ne_true]
  unfold boundAndCalled
  rw [PySem.F.excAttr_ValueError.ga.bind (.ref x)]
  refine wpAny_bind (wpAny_pure ?_)
  show wpAny _ _ (call (.builtin "BaseException.__getattribute__") [.ref x, .str "__class__" t]) _ _ _
  refine wpAny_call (codeAny_call_builtin PySem.F.excAttr_ValueError.ga.plain PySem.F.entry_bexc_ga (@check_slot (model prog w) _ _ ⟨hp, g, dr, t + 1, os⟩ "BaseException.__getattribute__" "BaseException" "__getattribute__" (.ref x) [.str "__class__" t] [] _ (by decide +kernel) (by decide +kernel) sub (PySem.F.args_bexc_ga (.ref x) (.str "__class__" t)) ?_))
  unfold Builtin.«object.__getattribute__»
  refine wpAny_bind (wpAny_of_eq (a := ((Value.ref x : Value), [Value.str "__class__" t])) (by first | rfl | (simp only [slotArgs]; rfl)) ?_)
  refine wpAny_bind (wpAny_pure (wpAny_bind (l0.at (wpAny_bind (l3.at ?_)))))
  show wpAny _ _ (holding [Value.builtin "object.__class__"] (call (.builtin "getset_descriptor.__get__") [.builtin "object.__class__", .ref x, .ref D]) >>= ret) _ _ _
  refine wpAny_bind (wpAny_holding (wpAny_call (class_get (s := ⟨hp, g, dr, t + 1, os⟩) (ox := ox) (od := od) X I T.hm ?_)))
  refine wpAny_pure ?_
  show wpAny _ _ (handedOut (.ref D)) _ _ _
  rw [handedOut_of (v := .ref D) rfl]
  first
    | exact wpAny_pure (wpAny_pure h)
    | exact wpAny_pure h
    | exact wpAny_pure (wpAny_bind (wpAny_pure (wpAny_pure h)))
theorem cls_obj {cd : ClassData} (hc : clsIn K D = some cd) : ∃ c dd sl, K.lookup D = some ⟨c, dd, .cls cd, sl⟩ := by
  unfold clsIn at hc
  split at hc
  · rename_i c dd cd' sl ho
    cases hc
    exact ⟨_, _, _, ho⟩
  · cases hc
theorem kit_err (T : ExcC K D) : KitX K (.ref x) (.ref D) (fun h => ∃ od, InstAt h x ox D od) := by
  obtain ⟨cd, hc, _⟩ := any_some T.hd
  obtain ⟨c, dd, sl, ho⟩ := cls_obj hc
  refine ⟨fun _ _ _ ⟨od, I⟩ => I.type, fun _ _ X _ A' Q' E' s' k q => ?_, fun h tp dd' its n sl' X htp => ?_, fun X ⟨od, I⟩ k => err_class T X I k⟩
  · unfold isType loadHead
    exact wpAny_bind (wpAny_loadPart (k _ _ (X _ _ ho)) (wpAny_pure q))
  · refine Bool.eq_false_iff.mpr fun q => ?_
    have e : D = tp := Value.ref.inj (beq_iff_eq.mp q)
    subst e
    cases (X _ _ ho).symm.trans htp
end
section
variable {X : Cx} {a : Addr} {oe : Obj}
/-- isinstance(e, c), e the pinned error -/
def rIsP (K : PySem.W.Frag) (a : Addr) (oe : Obj) : List V → Hp → VK → Prop := fun xs H Q => ∃ (c : V) (cv : Value) (D : Addr) (b : Bool), xs = [.ref a, c] ∧ (∀ u, RelV c u → u = cv) ∧ oe.cls = .ref D ∧ ExcC K D ∧ (∃ vs, oe.data = .fields vs) ∧ (oe.dict = none ∨ ∃ (d : Addr) (fs : List (Str × V)), oe.dict = some d ∧ H d = some (.xd fs)) ∧ PySem.W.kitOne K (.ref D) cv = some b ∧ Q (.bl b) H
theorem inst_pin {pins : List (Addr × Obj)} {σ : L2.St} {H : Hp} {s : Shared} {D : Addr} (hp : (a, oe) ∈ X.pn) (I : Inv X pins σ H s) (hc : oe.cls = .ref D) (hv : ∃ vs, oe.data = .fields vs) (hd : oe.dict = none ∨ ∃ (d : Addr) (fs : List (Str × V)), oe.dict = some d ∧ H d = some (.xd fs)) :
    ∃ od, PySem.W.InstAt s.heap a oe D od := by
  have hg := (I.pin (a, oe) (List.mem_append_left _ hp)).1
  obtain ⟨vs, hv⟩ := hv
  have nc : PySem.W.notCls oe = true := by unfold PySem.W.notCls; rw [hv] <;> rfl
  rcases hd with hd | ⟨d, fs, hd, he⟩
  · exact ⟨none, hg, hc, nc, by rw [hd]; trivial⟩
  · have hx : ObjOk X.prog X.w H s.heap d (.xd fs) := I.hok d _ he
    obtain ⟨mA, hns, _⟩ := hx
    obtain ⟨od, ho, _⟩ := lookIn_ns hns
    exact ⟨some od, hg, hc, nc, by rw [hd]; exact ho⟩
theorem call_isP (hp : (a, oe) ∈ X.pn) : CallR X (.builtin "isinstance") (rIsP X.K a oe) := by
  intro pins s σ H xs us Q I r h
  obtain ⟨c, cv, D, b, rfl, hcv, hc, T, hv, hd, e, q⟩ := h
  cases r with
  | cons rx rr =>
    cases rr with
    | cons rt rr =>
      cases rr
      cases rx
      cases hcv _ rt
      exact PySem.W.kia_one (kit_err T) I.kIn (inst_pin hp I hc hv hd) e (fun z => nomatch z) fun tk => ⟨.bl b, H, I.kept (t' := tk) fun _ _ z => z, rfl, q⟩
/-- e.f, e the pinned error -/
def tXfP (K : PySem.W.Frag) (a : Addr) (oe : Obj) (f : Str) (te : TE) : TE := fun σ H Q => te σ H fun x H1 => x = .ref a ∧ ∃ (D d : Addr) (fs : List (Str × V)) (v : V), oe.cls = .ref D ∧ oe.dict = some d ∧ (∃ vs, oe.data = .fields vs) ∧ XfC K D ∧ PySem.W.findIn K (.ref D) f = some none ∧ H1 d = some (.xd fs) ∧ fs.lookup f = some v ∧ Q v H1
theorem pe_xfP {e : Expr} {te : TE} {pos : Pos} {n : Str} (hp : (a, oe) ∈ X.pn) (he : PE X e te) (hb : attributeBase e n X.env (eval e X.env) = eval e X.env := by rfl) : PE X (.Attribute e n pos) (tXfP X.K a oe n te) := by
  constructor
  intro pins s σ H Q I h
  refine attr_of hb (thn (he.run pins s σ H _ I h) fun u s1 hh => ?_)
  obtain ⟨x, H1, I1, rx, rfl, D, d, fs, v, hc, hd, ⟨vs, hv⟩, T, hno, ea, l, q⟩ := hh
  obtain rfl : u = Value.ref a := rx
  have hx : ObjOk X.prog X.w H1 s1.heap d (.xd fs) := I1.hok d _ ea
  obtain ⟨mA, hns, hr⟩ := hx
  obtain ⟨od, ho, hl⟩ := lookIn_ns hns
  obtain ⟨u, hu, ru⟩ := RelO.some_of (v := v) (o := mA n) (by rw [← l]; exact hr n)
  have hg := (I1.pin (a, oe) (List.mem_append_left _ hp)).1
  have J : PySem.W.InstAt s1.heap a oe D (some od) := ⟨hg, hc, by unfold PySem.W.notCls; rw [hv] <;> rfl, by rw [hd]; exact ho⟩
  exact HandSPX.exc_get I1.kIn J T.ga T.gg T.exC (PySem.W.findObj_own T.hdC hno rfl (by rw [hl, hu])) (handed_of ru) ⟨v, H1, I1.tok _, ru, q⟩
end
end Sz
/-! what repr shows of things of many kinds; counting among flat values -/
namespace Sz
open PySem PySem.Spec PyProof.Rows L2
/-- repr of v is z -/
inductive Shw (K : PySem.W.Frag) (H : Hp) : V → Str → Prop
  | flat {v : V} {z : Str} (h : flatShown v = some z) : Shw K H v z
  | str {y : Str} (h : (reprText y).length ≤ sizeLine) : Shw K H (.str y) (reprText y)
  | dat {a : Addr} {d : PyData} (h : Dp K H (.ref a) d) (h1 : d.showable = true) (h2 : d.hasDict = false) (h3 : d.depth ≤ 40) (h4 : d.shown.length ≤ sizeLine) : Shw K H (.ref a) d.shown
  | edict {a : Addr} (h : H a = some (.dK [])) : Shw K H (.ref a) "{}"
def rReprW (K : PySem.W.Frag) : List V → Hp → VK → Prop := fun xs H Q => ∃ (v : V) (z : Str), xs = [v] ∧ Shw K H v z ∧ Q (.str z) H
section
variable {X : Cx}
theorem cr_reprW (gd : X.A.guards = some []) (hu : X.A.units + 64 < cLine) : CallR X (.builtin "repr") (rReprW X.K) := by
  intro pins s σ H xs us Q I r h
  obtain ⟨v, z, rfl, hs, q⟩ := h
  cases hs with
  | flat h => exact cr_repr pins s σ H [v] us Q I r ⟨v, z, rfl, h, q⟩
  | str h => exact cr_reprS pins s σ H _ us Q I r ⟨_, rfl, h, q⟩
  | dat h h1 h2 h3 h4 => exact cr_reprD gd hu pins s σ H _ us Q I r ⟨_, _, rfl, h, h1, h2, h3, h4, q⟩
  | @edict a h =>
    obtain ⟨u, rfl, ru⟩ := vals1 r
    cases (show u = Value.ref a from ru)
    obtain ⟨_, ns, vs, kv, hd⟩ : ([] : List (Key × V)).length ≤ sizeLine ∧ (a == sysModules) = false ∧ ∃ vs, KV [] vs ∧ s.heap.DictOf (mixKind X.prog X.w) a vs := I.hok a _ h
    cases kv
    obtain ⟨o, es, ep, e1, e2, e3, _, e4, _⟩ := hd
    have e5 : es.toList = [] := by
      cases q : es.toList with
      | nil => rfl
      | cons x l =>
        rw [q] at e4
        cases e4
    have rd : Reads s.heap (.ref a) (.dict []) [a] := .dict (as := []) (bs := []) e1 e2.1 e3 (by rw [e5]; exact .nil) (by rw [e5]; exact .nil)
    refine repr_of_reads' rd (by decide) (fun _ z => ?_) gd (by show X.A.units + (1 + 1) < cLine; omega) (fun _ _ z => z) (fun h' tok tk kept => ?_) (by decide +kernel)
    · have z2 : sysModules = a := by simpa using z
      rw [z2] at ns
      simp at ns
    · exact ⟨.str "{}", H, I.kept (t' := tk) kept, ⟨_, by rw [show (PyData.dict []).shown = "{}" by decide +kernel]⟩, q⟩
/-- xs.count(y), flat values -/
def rCntF (K : PySem.W.Frag) : V → List V → Hp → VK → Prop := fun x xs H Q => ∃ (p : Addr) (ys : List V) (y : V), x = .ref p ∧ xs = [y] ∧ SqL K H p ys ∧ flatV y = true ∧ ys.all flatV = true ∧ Q (.int (ys.countP fun z => eqV z y : Nat)) H
theorem cnt_eqU {y : V} : ∀ {ys : List V} {us : List Value}, Vals ys us → ys.all flatV = true → us.countP (eqU y) = ys.countP fun z => eqV z y
  | _, _, .nil, _ => rfl
  | z :: ys, u :: us, .cons r t, f => by
    rw [List.all_cons, Bool.and_eq_true] at f
    rw [List.countP_cons, List.countP_cons, cnt_eqU t f.2, eqU_of r f.1]
theorem mt_countF : MtR X "list.count" (rCntF X.K) := by
  intro pins s σ H x xs v us Q I rx rxs h
  obtain ⟨p, ys, y, rfl, rfl, hs, fy, fys, q⟩ := h
  cases rx
  obtain ⟨u, rfl, ru⟩ := rxs.one
  obtain ⟨its, rv, ⟨⟨cls, dd, data, sl⟩, n, ho, hc, hdn, hd⟩, hlen⟩ := I.list hs
  simp only at hc hd
  subst hc hd
  refine call_meets PySem.F.slot_list_count ⟨_, ho, rfl⟩ PySem.F.entry_list_count (PySem.F.args_list_count_2 _ _)
    (SeqAt.list_countAt p its.toArray n dd sl u (eqU y)) ⟨ho, fun z hz => mem_eqAt ru fy rv fys z (by simpa using hz), ?_⟩
  refine ⟨.int (ys.countP fun z => eqV z y : Nat), H, I.tok _, ⟨s.toks, ?_⟩, q⟩
  show Value.int ((its.toArray.toList.countP (eqU y) : Nat) : Int) s.toks = _
  rw [show its.toArray.toList = its from rfl, cnt_eqU rv fys]
end
end Sz
/-! a head that tells of the tables of code objects too, and the law's call with them -/
namespace Sz
open PySem PySem.Spec PyProof.Rows L2
/-! ### the hook -/
structure SaysU (fb : PySem.W.Frag → Bool) (fa : List He.Fa) (fn : List He.DefD) (ts : List He.Tab) (tf : List He.Defn) (w : World) (h : Heap) (K : PySem.W.Frag) : Prop where
  x : SaysX fb fa fn ts w K
  hd : ∀ p ∈ tf, PySem.W.codeHdIn K (He.cT K p).1 (He.cT K p).2 = true
  out : ∀ p ∈ tf, K.lookup (He.cT K p).2 = none
  empty : ∀ p ∈ tf, h.get? (He.cT K p).2 = some { cls := .none, data := .fields #[] }
def obsUG (n : Nat) (fb : PySem.W.Frag → Bool) (fa : List He.Fa) (fn : List He.DefD) (ts : List He.Tab) (tf : List He.Defn) (g : Addr → Option Obj) : Bool × AlX := (He.tabsB g tf (He.frT g (asX g n)), obsX fb fa fn ts (He.frT g (asX g n)))
def hookU (n : Nat) (fb : PySem.W.Frag → Bool) (fa : List He.Fa) (fn : List He.DefD) (ts : List He.Tab) (tf : List He.Defn) : PySem.W.Hook where
  α := Bool × AlX
  obs := fun s => obsUG n fb fa fn ts tf s.heap.get?
  val := fun w => (true, valX fn ts w)
  says := fun w h => ∃ K : PySem.W.Frag, K.In h ∧ SaysU fb fa fn ts tf w h K
  of := fun w s e => by
    have e1 : He.tabsB s.heap.get? tf (He.frT s.heap.get? (asX s.heap.get? n)) = true := congrArg (fun z : Bool × AlX => z.1) e
    have e2 : obsX fb fa fn ts (He.frT s.heap.get? (asX s.heap.get? n)) = valX fn ts w := congrArg (fun z : Bool × AlX => z.2) e
    have key : ∀ p ∈ tf, PySem.W.codeHdIn (He.frT s.heap.get? (asX s.heap.get? n)) (He.cT (He.frT s.heap.get? (asX s.heap.get? n)) p).1 (He.cT (He.frT s.heap.get? (asX s.heap.get? n)) p).2 = true ∧ ∃ o, s.heap.get? (He.cT (He.frT s.heap.get? (asX s.heap.get? n)) p).2 = some o ∧ He.emptyTab o = true := fun p hp => by
      obtain ⟨h3, h4⟩ := He.ba (List.all_eq_true.mp e1 p hp)
      refine ⟨h3, ?_⟩
      cases q : s.heap.get? (He.cT (He.frT s.heap.get? (asX s.heap.get? n)) p).2 with
      | none =>
        rw [q] at h4
        cases h4
      | some o =>
        rw [q] at h4
        exact ⟨o, rfl, h4⟩
    refine ⟨_, He.frT_in, e2, fun p hp => (key p hp).1, fun p hp => ?_, fun p hp => ?_⟩
    · obtain ⟨_, o, q, z⟩ := key p hp
      exact He.frT_none q z
    · obtain ⟨_, o, q, z⟩ := key p hp
      rw [q, He.emptyTab_eq z]
  keeps := fun _ _ _ ⟨K, hK, c⟩ k => ⟨K, PySem.W.Frag.In.keeps hK k, c.x, c.hd, c.out, fun p hp => k _ _ (c.empty p hp)⟩
theorem obsUG_eq {n : Nat} {fb : PySem.W.Frag → Bool} {fa : List He.Fa} {fn : List He.DefD} {ts : List He.Tab} {tf : List He.Defn} {g : Addr → Option Obj} {s : Shared} (h : ∀ a, g a = s.heap.get? a) : obsUG n fb fa fn ts tf g = (hookU n fb fa fn ts tf).obs s := by
  rw [show g = s.heap.get? from funext h]
  rfl
/-! ### the law's call -/
section
variable {P : Program} {w : World} {K : PySem.W.Frag} {mg mb : Str → Option Value} {k : Nat} {fa a : Addr} {fd : FuncData} {x : Str} {sp : Sp} {st : Shared} {vs : List Value} {ns : List Int} {cs : List (Addr × Addr)}
/-- the script and the tables -/
def scriptHpT (K : PySem.W.Frag) (a : Addr) (vs : List Value) (ns : List Int) (cs : List (Addr × Addr)) : Hp := fun b => if b ∈ cs.map (·.2) then some (.tbl #[]) else scriptHp K a vs ns b
theorem law_callGT (KX : K.In st.heap) (gl : st.heap.Ns mainGlobals mg) (bl : st.heap.Ns builtinsNs mb) (bb : ∀ y : Str, y ≠ "__name__" → mb y = bootBuiltins y) (nl : st.heap.NoLimit) (gn : st.gens = #[])
    (hT : ∀ p ∈ cs, st.heap.get? p.2 = some { cls := .none, data := .fields #[] }) (nT : ∀ p ∈ cs, K.lookup p.2 = none) (C : ∀ p ∈ cs, PySem.W.CodeHd st.heap p.1 p.2)
    (hbm : ∃ (bm : Addr) (ob : Obj), mg "__builtins__" = some (.ref bm) ∧ bm ≠ builtinsNs ∧ st.heap.get? bm = some ob ∧ ob.cls = .type "module" ∧ ob.dict = some builtinsNs ∧ ob.data = .plain)
    (ha : st.heap.get? a = some { cls := .type "list", data := .seq vs.toArray }) (hi : IntsAre vs ns) (hl : ns.length ≤ sizeLine) (room : Room k callerA)
    (F : ∀ base : Heap, K.In base → base.Ns mainGlobals mg → (∀ p ∈ cs, LamX.TabB base mg p.1 p.2) → FnG P w K mg base k fa fd [x] sp) (bind1 : ∀ (s : Shared) (u : Value), BindsTo s fd ⟨[u], []⟩ [(x, u)])
    (want : ∀ H : Hp, (∀ p ∈ cs, H p.2 = some (.tbl #[])) → SqL K H a (ns.map V.int) → sp [.ref a] H (fun v _ => v = .bl true) fun _ _ _ => False) :
    codeAny (model P w) callerA (.call (.ref fa) ⟨[.ref a], []⟩) (fun r s' => r = .ok (.ret (.bool true)) ∧ OldK st.heap s'.heap ∧ s'.os = st.os ∧ AllBare s'.gens) st := by
  have rel : Vals (ns.map V.int) vs := vals_ints hi
  have len : (ns.map V.int).length ≤ sizeLine := by rw [List.length_map]; exact hl
  generalize hH : scriptHpT K a vs ns cs = H
  have isT : ∀ b ∈ cs.map (·.2), st.heap.get? b = some { cls := .none, data := .fields #[] } := fun b hb => by
    obtain ⟨p, hp, e⟩ := List.mem_map.mp hb
    rw [← e]
    exact hT p hp
  have atT : ∀ p ∈ cs, H p.2 = some (.tbl #[]) := fun p hp => by
    rw [← hH]
    exact if_pos (List.mem_map.mpr ⟨p, hp, rfl⟩)
  have aT : a ∉ cs.map (·.2) := fun z => by
    have q := (isT a z).symm.trans ha
    cases q
  have sm : ∀ {b u}, H b = some u → (b ∈ cs.map (·.2) ∧ u = .tbl #[]) ∨ (b ∉ cs.map (·.2) ∧ b = a ∧ K.lookup a = none ∧ u = .frz { cls := .type "list", data := .seq vs.toArray } (.lst (ns.map V.int))) := fun {b u} e => by
    rw [← hH] at e
    by_cases hb : b ∈ cs.map (·.2)
    · exact .inl ⟨hb, (Option.some.inj ((if_pos hb).symm.trans e)).symm⟩
    · exact .inr ⟨hb, scriptHp_some ((if_neg hb).symm.trans e)⟩
  have ok : HOk P w H st.heap := fun b u e => by
    rcases sm e with ⟨hb, rfl⟩ | ⟨_, rfl, _, rfl⟩
    · exact isT b hb
    · exact ⟨ha, len, vs, _, rel, ha⟩
  have sq : SqL K H a (ns.map V.int) := by
    cases lk : K.lookup a with
    | none => exact Or.inl (Or.inr ⟨_, by rw [← hH]; exact (if_neg aT).trans (if_pos ⟨rfl, lk⟩)⟩)
    | some o =>
      have e := (KX a o lk).symm.trans ha
      cases e
      exact Or.inr ⟨_, vs.toArray, _, lk, rfl, rfl, rfl, by rw [List.size_toArray, ← rel.length]; exact len, by simpa using rel⟩
  have hid : ∀ {b o}, st.heap.get? b = some o → H b = none → (hidT st.heap H).get? b = some o := fun e n => hidT_get e n
  -- what is neither a list nor an empty record is not tracked
  have free : ∀ {b : Addr} {o : Obj}, st.heap.get? b = some o → (∀ vs n, o.data ≠ .seq vs n) → o.data ≠ .fields #[] → H b = none := fun {b o} e h1 h2 => by
    cases q : H b with
    | none => rfl
    | some u =>
      rcases sm q with ⟨hb, _⟩ | ⟨_, rfl, _, _⟩
      · cases (isT b hb).symm.trans e
        exact absurd rfl h2
      · cases ha.symm.trans e
        exact absurd rfl (h1 _ _)
  have freeN : ∀ {b : Addr} {m}, st.heap.Ns b m → H b = none := fun {b m} hn => by
    obtain ⟨o, es, ep, e1, e2, _⟩ := hn
    exact free e1 (fun _ _ z => by rw [e2] at z; cases z) (fun z => by rw [e2] at z; cases z)
  have ns1 : ∀ {b : Addr} {m}, st.heap.Ns b m → (hidT st.heap H).Ns b m := fun {b m} hn => by
    have fr := freeN hn
    obtain ⟨o, es, ep, e1, e2⟩ := hn
    exact ⟨o, es, ep, hid e1 fr, e2⟩
  have inB : K.In (hidT st.heap H) := fun b o e => hid (KX b o e) (by
    cases z : H b with
    | none => rfl
    | some u =>
      rcases sm z with ⟨hb, _⟩ | ⟨_, rfl, z2, _⟩
      · obtain ⟨p, hp, ep⟩ := List.mem_map.mp hb
        rw [← ep, nT p hp] at e
        cases e
      · rw [z2] at e
        cases e)
  have md : Mod K mg (hidT st.heap H) := ⟨inB, ns1 gl, ⟨mb, ns1 bl, bb⟩, let ⟨mc, c1, c2⟩ := nl; ⟨mc, ns1 c1, c2⟩⟩
  have TB : ∀ p ∈ cs, LamX.TabB (hidT st.heap H) mg p.1 p.2 := fun p hp => by
    refine ⟨?_, ?_, fun z => ?_⟩
    · obtain ⟨o, us, file, tf, flags, tg, inF, text, tt, e1, r1, r2, r3, r⟩ := C p hp
      exact ⟨o, us, file, tf, flags, tg, inF, text, tt, hid e1 (free e1 (fun _ _ z => by rw [r2] at z; cases z) (fun z => by rw [r2] at z; cases z; simp at r3)), r1, r2, r3, r⟩
    · obtain ⟨bm, ob, b1, b2, b3, b4, b5, b6⟩ := hbm
      refine ⟨bm, ob, b1, b2, fun q => ?_, fun q => ?_, hid b3 (free b3 (fun _ _ z => by rw [b6] at z; cases z) (fun z => by rw [b6] at z; cases z)), b4, b5, b6⟩
      · obtain ⟨o, es, ep, e, hd, _⟩ := gl
        rw [q, e] at b3
        cases b3
        rw [hd] at b6
        cases b6
      · rw [q, hT p hp] at b3
        cases b3
        cases b6
    · obtain ⟨o, es, ep, e, hd, _⟩ := gl
      rw [z, hT p hp] at e
      cases e
      cases hd
  have env : Env0 P w K mg (hidT st.heap H) callerA [] st H := ⟨rfl, md, fun _ _ e => of_hidT e, Nat.le_of_eq (hidT_size _ _), trivial, fun b z => absurd (show b ∈ ([] : List Addr) from z) (by simp), ok, .of_eq gn⟩
  refine codeAny_mono ((F _ inB (ns1 gl) TB).run callerA [] st H ⟨[.ref a], []⟩ [.ref a] [.ref a] _ _ room rfl env (bind1 st (.ref a)) (.cons rfl .nil) (want H atT sq)) fun r s' h => ?_
  cases r with
  | error z => exact False.elim h
  | ok fl =>
    cases fl with
    | next => exact False.elim h
    | brk => exact False.elim h
    | cont => exact False.elim h
    | ret u =>
      obtain ⟨v, H', os, bare, un, ok', ru, qv⟩ := h
      cases (show v = .bl true from qv)
      cases (show u = Value.bool true from ru)
      have old : ∀ b o, b ∉ cs.map (·.2) → st.heap.get? b = some o → s'.heap.get? b = some o := fun b o nb e => by
        cases z : H b with
        | none => exact un.keep b o e z (by intro y; exact absurd (show b ∈ ([] : List Addr) from y) (by simp)) (by simp)
        | some t =>
          rcases sm z with ⟨hb, _⟩ | ⟨_, rfl, _, rfl⟩
          · exact absurd hb nb
          · have e2 := (ok' _ _ (un.frzs _ _ _ z)).1
            cases ha.symm.trans e
            exact e2
      have grown : ∀ p ∈ cs, ∃ more : Array Value, s'.heap.get? p.2 = some { cls := .none, data := .fields more } := fun p hp => by
        obtain ⟨more, z⟩ := un.tbls p.2 #[] (atT p hp)
        exact ⟨_, ok' p.2 _ z⟩
      refine ⟨rfl, ⟨fun b o e => ?_, fun b o e => ?_⟩, os, bare⟩
      · by_cases hb : b ∈ cs.map (·.2)
        · obtain ⟨p, hp, rfl⟩ := List.mem_map.mp hb
          obtain ⟨more, hm⟩ := grown p hp
          cases (hT p hp).symm.trans e
          exact .inr (.inl ⟨((C p hp).tab (hT p hp)).isCodeTable, rfl, #[], more, rfl, by rw [Array.empty_append]; exact hm⟩)
        · exact .inl (old b o hb e)
      · by_cases hb : b ∈ cs.map (·.2)
        · obtain ⟨p, hp, rfl⟩ := List.mem_map.mp hb
          obtain ⟨more, hm⟩ := grown p hp
          exact ⟨_, hm⟩
        · exact ⟨o, old b o hb e⟩
end
/-- a law whose def is a PromG, with tables -/
theorem walk_ofGT {l : PySem.W.OpenLaw} {n k : Nat} {q : Program} {loose : List Str} {XP : (Str → Option Value) → Heap → Prop} {YP : World → Heap → Prop} {d : DefRec} {x : Str}
    (hn : l.most = some n) (hn2 : n ≤ sizeLine) (hdf : d.params.defaults = []) (room : Room k callerA)
    (F : ∀ (w : World) (mg : Str → Option Value) (fa : Addr) (h : Heap), YP w h → h.Ns mainGlobals mg → mg d.name = some (.ref fa) →
      ∃ (K : PySem.W.Frag) (fd : FuncData) (sp : Sp) (cs : List (Addr × Addr)), K.In h ∧ (∀ p ∈ cs, h.get? p.2 = some { cls := .none, data := .fields #[] }) ∧ (∀ p ∈ cs, K.lookup p.2 = none) ∧ (∀ p ∈ cs, PySem.W.CodeHd h p.1 p.2) ∧ (∀ (s : Shared) (u : Value), BindsTo s fd ⟨[u], []⟩ [(x, u)]) ∧
        (∀ (H : Hp) (a : Addr) (ns : List Int), ns.length ≤ n → (∀ z ∈ ns, Builtin.Int.intBits z ≤ 1048576) → (∀ p ∈ cs, H p.2 = some (.tbl #[])) → SqL K H a (ns.map V.int) → sp [.ref a] H (fun v _ => v = .bl true) fun _ _ _ => False) ∧
        ∀ base : Heap, K.In base → base.Ns mainGlobals mg → (∀ p ∈ cs, LamX.TabB base mg p.1 p.2) → FnG l.prog w K mg base k fa fd [x] sp) :
    PySem.W.WalkO q loose XP YP l.row.toRowW d [] (fun f vs => PySem.call f vs) := by
  refine Att.attach_callB hn hdf fun w sA sB mg mb fa o pm cd doc a vs ns G Y ho hd hcd hmg hobj hints hlen hbits hg => ?_
  obtain ⟨K, fd, sp, cs, KX, hT, nT, C, b1, want, hF⟩ := F w mg fa _ Y G.T.g hmg
  exact law_callGT KX G.T.g G.T.b G.T.builtins G.T.nolimit hg hT nT C G.T.bmain hobj hints (Nat.le_trans hlen hn2) room hF b1 (fun H hH hS => want H a ns hlen hbits hH hS)
end Sz
/-! a lambda handed to a def that catches what it raises -/
namespace Sz
open PySem PySem.Spec PyProof.Rows L2
theorem takes_len {X : Cx} {W : WX} (t : Takes X W) : Takes X (fun c d σ H => σ.length = X.N.length → W c d σ H) := fun u s' ⟨a, B, sI, pins, σ, H, cls, d, e, I, nb, up, sky, na, os, ag, w⟩ =>
  t u s' ⟨a, B, sI, pins, σ, H, cls, d, e, I, nb, up, sky, na, os, ag, w I.len⟩
/-- what is wished for may be had by something stronger -/
def tWeak (t : TE) : TE := fun σ H Q => ∃ K : VK, (∀ v H', K v H' → Q v H') ∧ t σ H K
theorem pe_weak {X : Cx} {e : Expr} {t : TE} (h : PE X e t) : PE X e (tWeak t) := ⟨fun pins s σ H Q I ⟨K, hK, ht⟩ => wpAny_mono (h.run pins s σ H K I ht) (fun _ _ ⟨v, H', J, r, q⟩ => ⟨v, H', J, r, hK v H' q⟩) (fun _ _ z => z)⟩
/-- the def that calls what it got, whatever its address -/
def Gives (X : Cx) (Ng : List Str) (x : Str) (st : Stmt) (a : Str) (TT : (XK → Hp → VK → Prop) → Hp → VK → Prop) : Prop := ∀ (g : Addr) (cdg : Value), LamX.GivesTo X Ng x (defScope st) g cdg (defBody st) a (X.env.qual ++ "<lambda>") TT
section
variable {X : Cx}
/-- x(lambda: body) -/
theorem pe_lamP {T : List (Addr × Str)} {TT : (XK → Hp → VK → Prop) → Hp → VK → Prop} {x a : Str} {st : Stmt} {c P : Addr} {k : Nat} {Ng : List Str} {params : Arguments} {body : Expr} {scope : Scope} {t : XK → TE} {p lpos pos : Pos} (D : DefAt X.K X.mg x st) (hg : Gl X x) (Sg : FnScope Ng [a] (defScope st))
    (hb : ∀ (kV doc pm : Value) (an : Option Addr) (cdv ct : Value) (us : List Value), us.length = 1 → bindArgs (PySem.W.fnOf x x (defArgs st) (defBody st) (defScope st) .none kV doc pm an cdv ct) ⟨us, []⟩ = pure ([a].zip us))
    (hNg : Ng[0]? = some a) (hva : Vis (defScope st) a) (hG : Gives X Ng x st a TT) (TB : LamX.TabB X.base X.mg c P) (hcode : X.env.code = .ref c) (hmT : (P, X.env.qual ++ "<lambda>") ∈ T) (hu : ∀ p ∈ T, p.1 = P → p.2 = X.env.qual ++ "<lambda>") (hr : Room (k + 2) X.A)
    (L : LamX.LamS X.env.scope scope)
    (hbody : ∀ (A : Around) (outer : List Env) (s : Shared) (H : Hp) (E : XK) (f c' : Addr), Room k (A.deeper (LamX.lamEnv X scope s.heap.objs.size f c')) → PE (LamX.lamCx X A outer s H E scope f c') body (t E))
    (hdef : defaultsOf params X.env = ([], []) := by rfl)
    (hbind : ∀ (q : Str) (cl : List (Str × Addr)) (pm cv ctv : Value), bindArgs (PySem.W.kla_fn "<lambda>" q params body scope cl pm cv ctv) ⟨[], []⟩ = pure [] := by intros; rfl)
    (hdb : (x == ("__debug__" : Str)) = false := by decide) (hd : (a == ("__debug__" : Str)) = false := by decide) (hcd : (a == ("__classdict__" : Str)) = false := by decide) :
    PE X (.Call (.Name x p) [.Lambda params body scope lpos] [] pos) (LamX.tLam T TT t) := by
  obtain ⟨g, fd, F, hm⟩ := D
  have kp := F.kp
  have bs := F.bindsN (ps := [a]) hb
  obtain ⟨oc, od, dV, kV, doc, pm, an, cdv, ct, osl, rfl, lk, hcd', _, _⟩ := F.ex
  exact LamX.pe_lamcall hg hm kp lk hcd' bs Sg hNg hva (hG g cdv) TB hcode hmT hu hr L hdef hbind hbody hdb hd hcd
end
/-- try: t = a() / except (A, B, C) as e: return h(e) / return ("told", t) -/
def TCaught (K : PySem.W.Frag) (cs : List Value) (sp : Addr × Obj → Sp) : (XK → Hp → VK → Prop) → Hp → VK → Prop := fun tl H Q =>
  tl (fun cls d H' => PySem.W.exmAny K cls cs = some true ∧ ∀ a oe, Zc cls d oe → (∃ vs, oe.data = .fields vs) → H' a = none → sp (a, oe) [.ref a] H' Q E0) H (fun v H' => ∀ t, H' t = none → Q (.ref t) (upd H' t (.tup [.str "told", v])))
theorem caught_gives {X : Cx} {x a t e h : Str} {st sth : Stmt} {A1 A2 A3 : Str} {c1 c2 c3 : Value} {k : Nat} {ps : List Str} {sp : Addr × Obj → Sp} {j : Nat} {p1 p2 p3 p4 p5 p6 p7 p8 p9 p10 p11 p12 p13 p14 p15 p16 p17 p18 : Pos} {x1 x2}
    (hN : [a, t, e].Nodup) (hbd : defBody st = [.Try [.Assign [.Name t p1] (.Call (.Name a p2) [] [] p3) p4] [.ExceptHandler (some (.Tuple [.Name A1 p5, .Name A2 p6, .Name A3 p7] x1 p8)) (some e) [.Return (some (.Call (.Name h p9) [.Name e p10] [] p11)) p12] p13] [] [] p14,
      .Return (some (.Tuple [.Constant (.str "told") j p15, .Name t p16] x2 p17)) p18])
    (ka : (defScope st).names.lookup a = some .local) (kt : (defScope st).names.lookup t = some .local) (ke : (defScope st).names.lookup e = some .local) (g1 : (defScope st).names.lookup A1 = some .globalImplicit) (g2 : (defScope st).names.lookup A2 = some .globalImplicit) (g3 : (defScope st).names.lookup A3 = some .globalImplicit)
    (gh : (defScope st).names.lookup h = some .globalImplicit) (m1 : X.mg A1 = some c1) (m2 : X.mg A2 = some c2) (m3 : X.mg A3 = some c3) (G : PromP X.prog X.w X.K X.mg X.base k h sth ps sp) (gd : X.A.guards = some []) (hr : Room (k + 1) X.A)
    (d1 : (A1 == ("__debug__" : Str)) = false := by decide) (d2 : (A2 == ("__debug__" : Str)) = false := by decide) (d3 : (A3 == ("__debug__" : Str)) = false := by decide) (d4 : (h == ("__debug__" : Str)) = false := by decide)
    (d5 : (e == ("__debug__" : Str)) = false := by decide) (d6 : (e == ("__classdict__" : Str)) = false := by decide) (d7 : (t == ("__debug__" : Str)) = false := by decide) (d8 : (t == ("__classdict__" : Str)) = false := by decide) :
    Gives X [a, t, e] x st a (TCaught X.K [c1, c2, c3] sp) := by
  intro g cdg f c' s H Q tl act hc hq
  rw [hbd]
  refine ⟨_, pss_cons (ps_tryA (X := (cxOf C8.CX0 X.prog X.w X.K X.mg X.base [a, t, e] x (defScope st) g cdg X.A X.stack s H C8.E0).nox) (Wout := fun _ _ _ _ => False)
    (tb := fun W D σ H => ∃ Ech : XK, (∀ cls d σ' H', Ech cls d H' → σ'.length = 3 → W cls d σ' H') ∧ σ[0]? = some (some (.ref f)) ∧ H c' = some (LamX.CodeO c' (X.env.qual ++ "<lambda>")) ∧ ∃ K : VK, (∀ v H', K v H' → D.nx (σ.set 1 (some v)) H') ∧ tl Ech H K)
    rfl rfl hN L2.takes0 (fun W pn xe tk _ => ?_)
    (ClOk.cons (i := 2) (test_tup g1 g2 g3 m1 m2 m3 d1 d2 d3) rfl ke (fun a' oe cls d pn _ _ => pss_one (ps_ret (pe_callE G gd ⟨?_, ?_⟩ gh rfl (pa_cons (pe_var (i := 2) rfl (.inl ke) d5 d6) pa_nil) d4))) .nil))
    (pss_one (ps_ret (pe_tup (pa_cons pe_str (pa_cons (pe_var (i := 1) rfl (.inl kt) d7 d8) pa_nil))))), ?_⟩
  · constructor
    intro pins s' σ H' D I ⟨Ech, hW, h1, h2, K, hK, h3⟩
    have hp := act _ pn xe Ech p2 p3 (takes_len tk) (fun cls d σ' H' z hl => hW cls d σ' H' z hl)
    exact (pss_one (ps_set (i := 1) (pos := p4) hN rfl (.inl kt) (pe_weak hp))).run pins s' σ H' D I ⟨K, hK, h1, h2, h3⟩
  · exact (hr.deeper _).dp
  · exact (hr.deeper _).un
  · refine ⟨_, fun cls d σ' H' z hl => ?_, rfl, hc, _, fun v H' z => ?_, hq⟩
    rotate_left
    · exact ⟨v, rfl, by show 2 ≤ sizeLine; decide, z⟩
    obtain ⟨z1, z2⟩ := z
    refine ⟨true, z1, fun _ a' oe hz hv na => ?_, fun z => Bool.noConfusion z⟩
    refine ⟨.ref a', ?_, z2 a' oe hz hv na⟩
    show (σ'.set 2 (some (.ref a')))[2]? = _
    rw [List.getElem?_set_self (by omega)]
/-- what a callee lets out of the lambda's body -/
theorem LamX_pass {X : Cx} {A : Around} {outer : List Env} {s : Shared} {H : Hp} {E : XK} {scope : Scope} {f c' : Addr} : Passes (L2.CX (LamX.lamCx X A outer s H E scope f c').prog (LamX.lamCx X A outer s H E scope f c').w) (LamX.lamCx X A outer s H E scope f c') E := passes_call (takes_of rfl rfl rfl rfl) (fun _ _ _ _ h => h)
theorem gl_lam {X : Cx} {A : Around} {outer : List Env} {s : Shared} {H : Hp} {E : XK} {scope : Scope} {f c' : Addr} {x : Str} (h : scope.names.lookup x = some .globalImplicit) : Gl (LamX.lamCx X A outer s H E scope f c') x := h
/-- a def of the text whose code object is known by its name -/
def DefC (K : PySem.W.Frag) (mg : Str → Option Value) (x : Str) (st : Stmt) : Prop := ∃ fd, FunD K x x (defArgs st) (defBody st) (defScope st) [] [] (He.fAd K (x, none)) fd ∧ mg x = some (.ref (He.fAd K (x, none)))
theorem PromG.ofT {P : Program} {w : World} {K : PySem.W.Frag} {mg : Str → Option Value} {base : Heap} {x : Str} {st : Stmt} {ps N : List Str} {sp : Sp} {k : Nat} (D : DefC K mg x st) (S : FnScope N ps (defScope st)) (len : ∀ vs H Q E, sp vs H Q E → vs.length = ps.length)
    (hb : ∀ (kV doc pm : Value) (an : Option Addr) (cdv ct : Value) (us : List Value), us.length = ps.length → bindArgs (PySem.W.fnOf x x (defArgs st) (defBody st) (defScope st) .none kV doc pm an cdv ct) ⟨us, []⟩ = pure (ps.zip us))
    (hbody : ∀ (f : Addr) (A : Around) (outer : List Env) (s : Shared) (H : Hp) (vs : List V) (Q : VK) (E : XK), Room k (A.deeper (envOfC x (defScope st) s.heap.objs.size f (.ref (He.codeOf K (x, none))))) → (A.deeper (envOfC x (defScope st) s.heap.objs.size f (.ref (He.codeOf K (x, none))))).guards = some [] → sp vs H Q E →
      ∃ t, PSs (cxOf CX0 P w K mg base N x (defScope st) f (.ref (He.codeOf K (x, none))) A outer s H E).nox (defBody st) t ∧ t { nx := fun _ H' => Q .non H', rt := Q } (start N vs) H) :
    PromG P w K mg base (k + 1) x st ps sp := by
  obtain ⟨fd, F, hm⟩ := D
  have key : ∀ cdv, (∃ (oc : Value) (od : Option Addr) (dV kV doc pm : Value) (an : Option Addr) (ct : Value) (osl : Array (Option Value)), K.lookup (He.fAd K (x, none)) = some ⟨oc, od, .func (PySem.W.fnOf x x (defArgs st) (defBody st) (defScope st) dV kV doc pm an cdv ct), osl⟩ ∧ PySem.W.codeIn K cdv x = true) → cdv = .ref (He.codeOf K (x, none)) := by
    rintro cdv ⟨oc, od, dV, kV, doc, pm, an, ct, osl, lk, hc⟩
    obtain ⟨c, rfl⟩ := He.codeIn_ref hc
    rw [He.codeOf_eq lk rfl]
  obtain ⟨c1, c2, c3, c4, c5, c6, c7, cdv, c9, c10, rfl, look, code, d1, d2⟩ := F.ex
  have e := key cdv ⟨_, _, _, _, _, _, _, _, _, look, code⟩
  subst e
  refine ⟨_, _, ⟨len, fun A outer s H args us vs Q E room gd e0 hbind rel want => ?_⟩, hm, F, F.bindsN hb⟩
  have old : ∀ b o, base.get? b = some o → s.heap.get? b = some o := fun b o e => (e0.bs b o e).1
  have inK : K.In s.heap := e0.mod.kin.keeps old
  have kinds : ∀ y ∈ ps.zip us, (defScope st).names.lookup y.1 = some .local ∨ ((defScope st).names.lookup y.1 = some .cell ∧ ((cellsFrom (s.heap.objs.size + 1) (defScope st).names []).lookup y.1).isSome = true) := by
    rintro ⟨n, v⟩ hy
    have hm : n ∈ ps := (List.of_mem_zip hy).1
    cases S.par n hm with
    | inl z => exact Or.inl z
    | inr z => exact Or.inr ⟨z, PySem.W.cellsFrom_some _ _ _ (.inl z)⟩
  obtain ⟨t, dt, rt⟩ := hbody _ A outer s H vs Q E (room.deeper _) gd want
  have dt := dt.nox
  refine codeAny_call_function room.depth (inK _ _ look) rfl S.co S.gen rfl (PySem.W.codeRec_of inK code) ?_
  refine hbind _ _ _ _ (wpAny_newFunctionEnv_cells S.kind kinds ?_)
  rintro _ rfl s1 ic
  refine ⟨(e0.mod.nolimit.keeps old).keeps ic.toInCall.keep, codeAny_func ?_⟩
  refine wpAny_mono (dt.run [] s1 (start N vs) H _ (inv_start S room.hd e0 (len _ _ _ _ want) rel ic) rt) ?_ (fun _ _ z => z)
  intro fl s' hs
  cases fl with
  | ret u => exact let ⟨v, _, H', J, rv, qv⟩ := hs; ⟨v, H', J.os, J.bare, J.base, J.hok, rv, qv⟩
  | next => exact let ⟨_, H', J, qv⟩ := hs; ⟨.non, H', J.os, J.bare, J.base, J.hok, rfl, qv⟩
  | brk => exact let ⟨_, _, _, qv⟩ := hs; False.elim qv
  | cont => exact let ⟨_, _, _, qv⟩ := hs; False.elim qv
end Sz
/-! error classes of the program by their promises; the table of all error classes -/
namespace Sz
open PySem PySem.Spec PyProof.Rows L2
/-- C(v) makes an error with the field f -/
structure PromE (P : Program) (w : World) (K : PySem.W.Frag) (mg : Str → Option Value) (base : Heap) (k : Nat) (C f : Str) : Prop where
  T : ErrC K (He.ga K C) (He.ma K (He.ga K C) "__init__") f
  mg_ : mg C = some (.ref (He.ga K C))
  ex : ∃ fd ps, FnOk P w K mg base CX0 k (He.ma K (He.ga K C) "__init__") fd ps (spErr K (He.ga K C) (He.ma K (He.ga K C) "__init__") f) ∧ Binds K fd ps []
theorem PromE.of {P : Program} {w : World} {K : PySem.W.Frag} {mg : Str → Option Value} {base : Heap} {C f q p0 p1 : Str} {st : Stmt} {a1 a2 a3 a4 : Pos} (T : ErrC K (He.ga K C) (He.ma K (He.ga K C) "__init__") f) (hm : mg C = some (.ref (He.ga K C))) (D : DefAtM K C "__init__" q st) (S : FnScope [p0, p1] [p0, p1] (defScope st))
    (hbd : defBody st = [.Assign [.Attribute (.Name p0 a1) f a2] (.Name p1 a3) a4]) (l0 : (defScope st).names.lookup p0 = some .local) (l1 : (defScope st).names.lookup p1 = some .local)
    (hb : ∀ (kV doc pm : Value) (an : Option Addr) (cdv ct : Value) (us : List Value), us.length = 2 → bindArgs (PySem.W.fnOf "__init__" q (defArgs st) (defBody st) (defScope st) .none kV doc pm an cdv ct) ⟨us, []⟩ = pure ([p0, p1].zip us))
    (d0 : (p0 == ("__debug__" : Str)) = false := by decide) (d1 : (p1 == ("__debug__" : Str)) = false := by decide) (e0 : (p0 == ("__classdict__" : Str)) = false := by decide) (e1 : (p1 == ("__classdict__" : Str)) = false := by decide) : PromE P w K mg base 1 C f := by
  obtain ⟨fd, F⟩ := D
  refine ⟨T, hm, fd, [p0, p1], F.ok (k := 0) S (fun vs H Q E h => ?_) (fun cdv A outer s H vs Q E hr h => ?_), F.bindsN (ps := [p0, p1]) hb⟩
  · obtain ⟨a, v, rfl, _⟩ := h
    rfl
  · obtain ⟨a, v, rfl, T', ha, k⟩ := h
    rw [hbd]
    exact ⟨_, pss_one (ps_errFld (pe_var (i := 0) rfl (.inl l0) d0 e0) (pe_var (i := 1) rfl (.inl l1) d1 e1)), v, rfl, .ref a, rfl, a, _, _, rfl, T', ha, fun dx h1 h2 => k dx h1 h2⟩
section
variable {X : Cx} {x f : Str} {e : Expr} {te : TE} {k : Nat} {p pos rpos : Pos} {W : WX}
/-- raise C(e) -/
theorem ps_raiseE (G : PromE X.prog X.w X.K X.mg X.base k x f) (hr : Room (k + 1) X.A) (hg : Gl X x) (tk : Takes X W) (he : PE X e te) (hc : X.calm = true := by rfl)
    (hdb : (x == ("__debug__" : Str)) = false := by decide) (hst : starEach [e] X.env = (false, eval e X.env) :: starEach [] X.env := by rfl) (hpl : (backTo pos (starEach [] X.env)).any (·.1) = false := by rfl) :
    PS X (.Raise (some (.Call (.Name x p) [e] [] pos)) none rpos) (fun _ σ H => te σ H fun v H1 => ∀ d, H1 d = none → W (.ref (He.ga X.K x)) (some d) σ (upd H1 d (.xd [(f, v)]))) := by
  obtain ⟨fd, ps, F, b⟩ := G.ex
  exact ps_raise hc tk (pmk_err G.T F b hr hg G.mg_ he hdb hst hpl)
end
/-- what a callee lets out, this def lets out -/
theorem passX {P : Program} {w : World} {K : PySem.W.Frag} {mg : Str → Option Value} {base : Heap} {N : List Str} {q : Str} {sc : Scope} {f : Addr} {cdv : Value} {A : Around} {outer : List Env} {s : Shared} {H : Hp} {E : XK} :
    Passes (L2.CX P w) (cxOf (L2.CX P w) P w K mg base N q sc f cdv A outer s H E) E := passes_call (takes_of rfl rfl rfl rfl) (fun _ _ _ _ h => h)
/-! ### facts by looking -/
/-- the built-in base: 0 ValueError, 1 LookupError, 2 ArithmeticError -/
def ebase : Nat → String
  | 0 => "ValueError"
  | 1 => "LookupError"
  | _ => "ArithmeticError"
def etail (b : Nat) : List Value := [.type (ebase b), .type "Exception", .type "BaseException", .type "object"]
def errCB (K : PySem.W.Frag) (b : Nat) (C : Addr) (f : Str) : Bool :=
  PySem.W.excInitIn K C (etail b) (ebase b ++ ".__new__") && (PySem.W.excOver K C (etail b) && (He.eqO (PySem.W.findIn K (.ref C) "__setattr__") (some (some (.builtin "object.__setattr__"))) && (He.eqO (PySem.W.takerIn K C f) (some none) &&
  (PySem.W.hasDictIn K C && (decide (PySem.W.subIn K (.ref C) (.type "BaseException") = some true) && (decide (PySem.W.typeIn K (.ref C) = some (.type "type")) && (PySem.W.keepIn K (.ref C) && (He.eqO (PySem.W.findIn K (.ref C) "__init__") (some (some (.ref (He.ma K C "__init__")))) &&
  decide (PySem.W.typeIn K (.ref (He.ma K C "__init__")) = some (.type "function"))))))))))
theorem errCB_ok {K : PySem.W.Frag} {b : Nat} {C : Addr} {f : Str} (h : errCB K b C f = true) : ErrC K C (He.ma K C "__init__") f := by
  obtain ⟨h1, h⟩ := He.ba h
  obtain ⟨h2, h⟩ := He.ba h
  obtain ⟨h3, h⟩ := He.ba h
  obtain ⟨h4, h⟩ := He.ba h
  obtain ⟨h5, h⟩ := He.ba h
  obtain ⟨h6, h⟩ := He.ba h
  obtain ⟨h7, h⟩ := He.ba h
  obtain ⟨h8, h⟩ := He.ba h
  obtain ⟨h9, h10⟩ := He.ba h
  refine ⟨?_, He.eqO_ok h3, He.eqO_ok h4, h5, of_decide_eq_true h6, of_decide_eq_true h7, h8, He.eqO_ok h9, of_decide_eq_true h10⟩
  match b, h1, h2 with
  | 0, h1, h2 => exact ⟨_, _, _, _, PySem.F.excBase_ValueError, PySem.F.store_ValueError, h1, h2⟩
  | 1, h1, h2 => exact ⟨_, _, _, _, PySem.F.excBase_LookupError, PySem.F.store_LookupError, h1, h2⟩
  | n + 2, h1, h2 => exact ⟨_, _, _, _, PySem.F.excBase_ArithmeticError, PySem.F.store_ArithmeticError, h1, h2⟩
/-- the words of all error classes -/
def ewords : List Str := ["NotAWrap", "NotAStack", "NotARoad", "InvalidKind", "InvalidBase", "InvalidLength", "InvalidNumber", "InvalidText", "InvalidRow", "InvalidNumbers", "InvalidWraps", "InvalidSeen", "InvalidDeeds", "NothingToPop", "NothingToUndo", "Busy", "TooFine", "TooManyWraps", "TooLong"]
def ew (i : Nat) : Str := ewords.getD i Str.empty
/-- of which base, by its place -/
def eb (i : Nat) : Nat := if i < 13 then 0 else if i < 16 then 1 else 2
def excCB (K : PySem.W.Frag) (D : Addr) : Bool := He.eqO (PySem.W.findIn K (.ref D) "__getattribute__") (some (some (.builtin "BaseException.__getattribute__"))) && (He.eqO (PySem.W.findIn K (.ref D) "__getattr__") (some none) && (decide (PySem.W.subIn K (.ref D) (.type "BaseException") = some true) && (PySem.W.hasDictIn K D &&
  (He.eqO (PySem.W.findIn K (.ref D) "__class__") (some (some (.builtin "object.__class__"))) && (He.eqO (PySem.W.specialIn K (.builtin "object.__class__") "__get__") (some (some (.builtin "getset_descriptor.__get__"))) && (decide (PySem.W.takesIn K (.builtin "object.__class__") = some true) && decide (PySem.W.mroIn K D (.type "object") = some true)))))))
theorem excCB_ok {K : PySem.W.Frag} {D : Addr} (h : excCB K D = true) : ExcC K D ∧ XfC K D := by
  obtain ⟨h1, h⟩ := He.ba h
  obtain ⟨h2, h⟩ := He.ba h
  obtain ⟨h3, h⟩ := He.ba h
  obtain ⟨h4, h⟩ := He.ba h
  obtain ⟨h5, h⟩ := He.ba h
  obtain ⟨h6, h⟩ := He.ba h
  obtain ⟨h7, h8⟩ := He.ba h
  exact ⟨⟨He.eqO_ok h1, He.eqO_ok h2, of_decide_eq_true h3, h4, He.eqO_ok h5, He.eqO_ok h6, of_decide_eq_true h7, of_decide_eq_true h8⟩, He.eqO_ok h1, He.eqO_ok h2, of_decide_eq_true h3, h4⟩
def ebs : List Str := ["Misfit", "Untimely", "Excess"]
/-- all that is asked of the error class at place i -/
def etabB (K : PySem.W.Frag) (i : Nat) : Bool := excCB K (He.ga K (ew i)) && ((List.range 19).all (fun j => decide (PySem.W.kitOne K (.ref (He.ga K (ew i))) (.ref (He.ga K (ew j))) = some (decide (i = j)))) &&
  ((List.range 3).all (fun j => decide (PySem.W.kitOne K (.ref (He.ga K (ew i))) (.ref (He.ga K (ebs.getD j Str.empty))) = some (decide (eb i = j))) && decide (PySem.W.kitOne K (.ref (He.ga K (ew i))) (.type (ebase j)) = some (decide (eb i = j)))) &&
  (([("value" : Str), "index", "limit"]).all (fun f => He.eqO (PySem.W.findIn K (.ref (He.ga K (ew i))) f) (some none)) && decide (PySem.W.exmAny K (.ref (He.ga K (ew i))) [.ref (He.ga K "Misfit"), .ref (He.ga K "Untimely"), .ref (He.ga K "Excess")] = some true))))
structure ErrTab (K : PySem.W.Frag) : Prop where
  exc : ∀ i < 19, ExcC K (He.ga K (ew i))
  xf : ∀ i < 19, XfC K (He.ga K (ew i))
  kit : ∀ i < 19, ∀ j < 19, PySem.W.kitOne K (.ref (He.ga K (ew i))) (.ref (He.ga K (ew j))) = some (decide (i = j))
  kb : ∀ i < 19, ∀ j < 3, PySem.W.kitOne K (.ref (He.ga K (ew i))) (.ref (He.ga K (ebs.getD j Str.empty))) = some (decide (eb i = j))
  ko : ∀ i < 19, ∀ j < 3, PySem.W.kitOne K (.ref (He.ga K (ew i))) (.type (ebase j)) = some (decide (eb i = j))
  no : ∀ i < 19, ∀ f ∈ [("value" : Str), "index", "limit"], PySem.W.findIn K (.ref (He.ga K (ew i))) f = some none
  any : ∀ i < 19, PySem.W.exmAny K (.ref (He.ga K (ew i))) [.ref (He.ga K "Misfit"), .ref (He.ga K "Untimely"), .ref (He.ga K "Excess")] = some true
theorem etab_ok {K : PySem.W.Frag} (h : (List.range 19).all (etabB K) = true) : ErrTab K := by
  have g : ∀ i < 19, etabB K i = true := fun i hi => List.all_eq_true.mp h i (List.mem_range.mpr hi)
  have k : ∀ i < 19, _ := fun i hi => He.ba (g i hi)
  refine ⟨fun i hi => (excCB_ok (He.ba (g i hi)).1).1, fun i hi => (excCB_ok (He.ba (g i hi)).1).2, fun i hi j hj => ?_, fun i hi j hj => ?_, fun i hi j hj => ?_, fun i hi f hf => ?_, fun i hi => ?_⟩
  · exact of_decide_eq_true (List.all_eq_true.mp (He.ba (He.ba (g i hi)).2).1 j (List.mem_range.mpr hj))
  · exact of_decide_eq_true (He.ba (List.all_eq_true.mp (He.ba (He.ba (He.ba (g i hi)).2).2).1 j (List.mem_range.mpr hj))).1
  · exact of_decide_eq_true (He.ba (List.all_eq_true.mp (He.ba (He.ba (He.ba (g i hi)).2).2).1 j (List.mem_range.mpr hj))).2
  · exact He.eqO_ok (List.all_eq_true.mp (He.ba (He.ba (He.ba (He.ba (g i hi)).2).2).2).1 f hf)
  · exact of_decide_eq_true (He.ba (He.ba (He.ba (He.ba (g i hi)).2).2).2).2
end Sz
/-! repr(x) by an own __repr__ -/
namespace Sz
open PySem PySem.Spec PyProof.Rows L2
section
variable {X : Cx} {CX : CXT} {k n : Nat} {C : Str} {ps : List Str} {sp : Sp} {E : XK}
theorem cr_reprO (G : PromM X.prog X.w X.K X.mg X.base CX k C "__repr__" ps sp) (hr : Room (k + 1) X.A) (hx : Passes CX X E) :
    CallR X (.builtin "repr") (fun xs H Q => ∃ p dx fs, xs = [.ref p] ∧ H p = some (.ins (He.ga X.K C) dx fs) ∧ sp [.ref p] H (fun v H2 => ∃ y : Str, v = .str y ∧ Q (.str y) H2) E) := by
  intro pins s σ H xs us Q I r h
  obtain ⟨p, dx, fs, rfl, hp, h⟩ := h
  obtain ⟨u, rfl, ru⟩ := vals1 r
  obtain rfl : u = Value.ref p := ru
  obtain ⟨m1, O1, _⟩ := ins_get I.hok hp
  obtain ⟨od1, J1, _⟩ := O1.look
  obtain ⟨m, hF⟩ := I.fr
  refine PySem.W.repr_K hr.in1.units0 hF I.ok.mod.kin J1 G.me.at_ G.me.fn ?_
  exact wpAny_mono (run_own G hx (A := X.A.in1) ⟨hr.in1, rfl⟩ (vs := [.ref p]) (us := [.ref p]) I (.cons rfl .nil) h) (fun v s' z => strBack_of z) fun _ _ z => z
end
end Sz
/-! what isinstance says of things of many kinds, own classes among them; methods that raise, methods in the suite that handles an error -/
namespace Sz
open PySem PySem.Spec PyProof.Rows L2
def btys : List String := ["int", "bool", "NoneType", "str", "list", "tuple", "dict", "float"]
structure KitTab (K : PySem.W.Frag) (Cs : List Str) : Prop where
  bt : ∀ T ∈ btys, ∀ C ∈ Cs, PySem.W.kitOne K (.type T) (.ref (He.ga K C)) = some false
  tb : ∀ C ∈ Cs, ∀ T ∈ btys, PySem.W.kitOne K (.ref (He.ga K C)) (.type T) = some false
  tt : ∀ C ∈ Cs, ∀ D ∈ Cs, PySem.W.kitOne K (.ref (He.ga K C)) (.ref (He.ga K D)) = some (decide (C = D))
def kitTabB (K : PySem.W.Frag) (Cs : List Str) : Bool :=
  (btys.all fun T => Cs.all fun C => decide (PySem.W.kitOne K (.type T) (.ref (He.ga K C)) = some false)) &&
  ((Cs.all fun C => btys.all fun T => decide (PySem.W.kitOne K (.ref (He.ga K C)) (.type T) = some false)) &&
  (Cs.all fun C => Cs.all fun D => decide (PySem.W.kitOne K (.ref (He.ga K C)) (.ref (He.ga K D)) = some (decide (C = D)))))
theorem kitTab_ok {K : PySem.W.Frag} {Cs : List Str} (h : kitTabB K Cs = true) : KitTab K Cs := by
  obtain ⟨h1, h⟩ := He.ba h
  obtain ⟨h2, h3⟩ := He.ba h
  exact ⟨fun T hT C hC => of_decide_eq_true (List.all_eq_true.mp (List.all_eq_true.mp h1 T hT) C hC), fun C hC T hT => of_decide_eq_true (List.all_eq_true.mp (List.all_eq_true.mp h2 C hC) T hT), fun C hC D hD => of_decide_eq_true (List.all_eq_true.mp (List.all_eq_true.mp h3 C hC) D hD)⟩
theorem tyX_same {K : PySem.W.Frag} {H H' : Hp} {v : V} {t : Value} (s : Same H H') (h : TyX K H v t) : TyX K H' v t := by
  cases h with
  | base h =>
    cases h with
    | non => exact .base .non
    | bl x => exact .base (.bl x)
    | int i => exact .base (.int i)
    | str x => exact .base (.str x)
    | flt x => exact .base (.flt x)
    | lst e => exact .base (.lst (s _ _ e))
    | frz e => exact .base (.frz (s _ _ e))
    | tup e => exact .base (.tup (s _ _ e))
    | dK e => exact .base (.dK (s _ _ e))
    | dT e => exact .base (.dT (s _ _ e))
    | ins e a b c d f => exact .base (.ins (s _ _ e) a b c d f)
  | byt b => exact .byt b
  | set e => exact .set (s _ _ e)
  | kList e c => exact .kList e c
  | kTuple e c => exact .kTuple e c
  | kDict e c => exact .kDict e c
  | fTuple e => exact .fTuple (s _ _ e)
  | fDict e => exact .fDict (s _ _ e)
section
variable {P : Program} {w : World} {K : PySem.W.Frag} {mg : Str → Option Value} {base : Heap}
/-- a method that may raise -/
theorem PromM.ofX {C m q : Str} {st : Stmt} {ps N : List Str} {sp : Sp} {k : Nat} (cl : Cls K (He.ga K C)) (me : Meth K (He.ga K C) m (He.ma K (He.ga K C) m)) (D : DefAtM K C m q st) (S : FnScope N ps (defScope st)) (len : ∀ vs H Q E, sp vs H Q E → vs.length = ps.length)
    (hb : ∀ (kV doc pm : Value) (an : Option Addr) (cdv ct : Value) (us : List Value), us.length = ps.length → bindArgs (PySem.W.fnOf m q (defArgs st) (defBody st) (defScope st) .none kV doc pm an cdv ct) ⟨us, []⟩ = pure (ps.zip us))
    (hbody : ∀ (f : Addr) (cdv : Value) (A : Around) (outer : List Env) (s : Shared) (H : Hp) (vs : List V) (Q : VK) (E : XK), Room k (A.deeper (envOfC q (defScope st) s.heap.objs.size f cdv)) → sp vs H Q E →
      ∃ t, PSs (cxOf (L2.CX P w) P w K mg base N q (defScope st) f cdv A outer s H E) (defBody st) t ∧ t { nx := fun _ H' => Q .non H', rt := Q } (start N vs) H) :
    PromM P w K mg base (L2.CX P w) (k + 1) C m ps sp := by
  obtain ⟨fd, F⟩ := D
  exact ⟨cl, me, fd, F.ok S len (fun cdv A outer s H vs Q E hr hs => hbody _ cdv A outer s H vs Q E hr hs), F.bindsN hb⟩
end
/-! ### a method called in the suite that handles an error -/
structure PromMP (P : Program) (w : World) (K : PySem.W.Frag) (mg : Str → Option Value) (base : Heap) (k : Nat) (C m : Str) (ps : List Str) (sp : Sp) : Prop where
  cl : Cls K (He.ga K C)
  me : Meth K (He.ga K C) m (He.ma K (He.ga K C) m)
  ex : ∃ fd, FnP P w K mg base k (He.ma K (He.ga K C) m) fd ps (fun _ => sp) ∧ Binds K fd ps []
theorem PromMP.of {P : Program} {w : World} {K : PySem.W.Frag} {mg : Str → Option Value} {base : Heap} {C m q : Str} {st : Stmt} {ps N : List Str} {sp : Sp} {k : Nat} (cl : Cls K (He.ga K C)) (me : Meth K (He.ga K C) m (He.ma K (He.ga K C) m)) (D : DefAtM K C m q st) (S : FnScope N ps (defScope st)) (len : ∀ vs H Q E, sp vs H Q E → vs.length = ps.length)
    (hb : ∀ (kV doc pm : Value) (an : Option Addr) (cdv ct : Value) (us : List Value), us.length = ps.length → bindArgs (PySem.W.fnOf m q (defArgs st) (defBody st) (defScope st) .none kV doc pm an cdv ct) ⟨us, []⟩ = pure (ps.zip us))
    (hbody : ∀ (f : Addr) (cdv : Value) (A : Around) (outer : List Env) (s : Shared) (H : Hp) (vs : List V) (Q : VK) (E : XK) (p : Addr × Obj), L2H.RoomH k (A.deeper (envOfC q (defScope st) s.heap.objs.size f cdv)) → (A.deeper (envOfC q (defScope st) s.heap.objs.size f cdv)).guards = some [] → sp vs H Q E →
      ∃ t, PSs (L2H.cxH CX0 P w K mg base N q (defScope st) f cdv A outer s H E p).nox (defBody st) t ∧ t { nx := fun _ H' => Q .non H', rt := Q } (start N vs) H) :
    PromMP P w K mg base (k + 1) C m ps sp := by
  obtain ⟨fd, F⟩ := D
  exact ⟨cl, me, fd, fnP_of F S (fun p vs H Q E h => len vs H Q E h) (fun cdv A outer s H vs Q E p hr hg hs => hbody _ cdv A outer s H vs Q E p hr hg hs), F.bindsN hb⟩
section
variable {X : Cx} {k : Nat} {C : Str} {ps : List Str} {sp : Sp} {a : Addr} {oe : Obj}
/-- repr(x) by an own __repr__, while an error is handled -/
theorem cr_reprOP (G : PromMP X.prog X.w X.K X.mg X.base k C "__repr__" ps sp) (gd : X.A.guards = some []) (hr : L2H.RoomH (k + 1) X.A) (hp : (a, oe) ∈ X.pn) (hs : X.stack = X.env :: X.outer) :
    CallR X (.builtin "repr") (fun xs H Q => ∃ p dx fs, xs = [.ref p] ∧ H p = some (.ins (He.ga X.K C) dx fs) ∧ sp [.ref p] H (fun v H2 => ∃ y : Str, v = .str y ∧ Q (.str y) H2) E0) := by
  intro pins s σ H xs us Q I r h
  obtain ⟨p, dx, fs, rfl, hpp, h⟩ := h
  obtain ⟨u, rfl, ru⟩ := vals1 r
  obtain rfl : u = Value.ref p := ru
  obtain ⟨m1, O1, _⟩ := ins_get I.hok hpp
  obtain ⟨od1, J1, _⟩ := O1.look
  obtain ⟨m, hF⟩ := I.fr
  obtain ⟨fd, F, b⟩ := G.ex
  have pin : L2H.PinOk X.stack H s (a, oe) := by
    obtain ⟨p1, p2, p3, p4, p5⟩ := I.pin (a, oe) (List.mem_append_left _ hp)
    refine ⟨p1, p2, fun z => ?_, p5⟩
    rw [hs] at z
    obtain ⟨en, hen, q⟩ := List.mem_filterMap.mp z
    rcases List.mem_cons.mp hen with z | z
    · subst z
      have nf := I.ok.stk
      rcases nf with nf | ⟨_, nf⟩
      · have nf : X.stack = X.outer := nf
        rw [hs] at nf
        exact absurd (congrArg List.length nf) (by simp)
      · have nf : X.env.frame = some X.env.locals := nf
        rw [nf] at q
        exact p3 (Option.some.inj q).symm
    · exact p4 (List.mem_filterMap.mpr ⟨en, z, q⟩)
  have e0 : Env0 X.prog X.w X.K X.mg X.base X.A.in1 X.stack s H := by
    have e := I.env0
    exact ⟨e.frames, e.mod, e.bs, e.bsz, e.funs, e.frf, e.hok, e.bare⟩
  have hl := F.len (a, oe) _ _ _ _ h
  refine PySem.W.repr_K (by have := hr.un; show X.A.units + 1 < cLine; omega) hF I.ok.mod.kin J1 G.me.at_ G.me.fn ?_
  have run : wpAny (model X.prog X.w) X.A.in1 (call (.ref (He.ma X.K (He.ga X.K C) "__repr__")) [.ref p]) (EP X pins σ (fun v H2 => ∃ y : Str, v = .str y ∧ Q (.str y) H2)) X.xe s := by
    refine wpAny_call (codeAny_mono (F.run X.A.in1 X.stack s H ⟨[.ref p], []⟩ [.ref p] [.ref p] _ E0 (a, oe) ⟨by have := hr.dp; show X.A.depth + 3 * k + 5 < _; omega, by have := hr.un; show X.A.units + 1 + 16 * k + 200 < _; omega⟩ gd pin e0 (by
      have := b s [.ref p] I.kIn (by simpa using hl)
      simpa using this) (.cons rfl .nil) h) fun rr s' hq => ?_)
    cases rr with
    | error e => exact False.elim hq
    | ok fl =>
      cases fl with
      | ret v =>
        obtain ⟨z, H', I', rz, q⟩ := I.after hq
        exact ⟨z, H', I', rz, q⟩
      | next => exact False.elim hq
      | brk => exact False.elim hq
      | cont => exact False.elim hq
  exact wpAny_mono run (fun v s' z => strBack_of z) fun _ _ z => z
end
/-! ### what follows a statement, said once -/
def tMid (t : TS) : TS := fun D σ H => ∃ P : L2.St → Hp → Prop, (∀ σ' H', P σ' H' → D.nx σ' H') ∧ t { D with nx := P } σ H
theorem ps_mid {X : Cx} {s : Stmt} {t : TS} (h : PS X s t) : PS X s (tMid t) := by
  refine ⟨fun pins s0 σ H D I ⟨P, hP, ht⟩ => wpAny_mono (h.run pins s0 σ H { D with nx := P } I ht) (fun fl s' z => ?_) fun _ _ z => z⟩
  cases fl with
  | next => exact let ⟨σ', H', J, q⟩ := z; ⟨σ', H', J, hP σ' H' q⟩
  | ret u => exact z
  | brk => exact z
  | cont => exact z
end Sz
/-! reading texts: the kinds among the keys, words of figures -/
namespace Sz
open PySem PySem.Spec PyProof.Rows L2
def kinds7 : List Str := ["plus", "told", "whole", "pieces", "cut", "coded", "filled"]
def keysB (K : PySem.W.Frag) (D : Addr) : Bool := match K.lookup D with
  | some ⟨_, _, .dict es _, _⟩ => es.toList.all fun e => (kinds7.any fun k => e.key.isStr k) && !e.refKey
  | _ => false
theorem isStr_uniq {v : Value} {a b : Str} (h : v.isStr a = true) (g : v.isStr b = true) : a = b := by
  cases v with
  | str x t =>
    have h : (x == a) = true := h
    have g : (x == b) = true := g
    rw [← beq_iff_eq.mp h, ← beq_iff_eq.mp g]
  | _ => cases h
theorem keysB_ok {K : PySem.W.Frag} {D : Addr} (h : keysB K D = true) {z : Str} (hz : z ∉ kinds7) : PySem.W.nsIn K D z = some none := by
  unfold keysB at h
  unfold PySem.W.nsIn
  split at h
  · rename_i c dd es n sl e
    rw [e]
    have key : ∀ x ∈ es.toList, (kinds7.any fun k => x.key.isStr k) = true ∧ x.refKey = false := fun x hx => by
      have := List.all_eq_true.mp h x hx
      rw [Bool.and_eq_true, Bool.not_eq_true'] at this
      exact this
    have h1 : es.toList.find? (·.key.isStr z) = none := by
      rw [List.find?_eq_none]
      intro x hx hs
      obtain ⟨k, hk, ks⟩ := List.any_eq_true.mp (key x hx).1
      exact hz (isStr_uniq hs ks ▸ hk)
    have h2 : es.toList.any (·.refKey) = false := by
      rw [List.any_eq_false]
      intro x hx
      rw [(key x hx).2]
      exact Bool.false_ne_true
    simp only [h1, h2]
    rfl
  · cases h
/-! ### words of figures -/
def dig (c : Nat) : Bool := decide (48 ≤ c ∧ c ≤ 57)
def digV (cs : List Nat) : Int := cs.foldl (fun (a : Int) (c : Nat) => 10 * a + ((c : Int) - 48)) 0
/-- the integer that a word tells, -1 if it tells none -/
def numV (s : Str) : Int := if s = "" then -1 else if s.cps.toList[0]? = some 48 ∧ s ≠ "0" then -1 else if s.cps.toList.all dig = true then digV s.cps.toList else -1
theorem digV_snoc (cs : List Nat) (c : Nat) : digV (cs ++ [c]) = 10 * digV cs + ((c : Int) - 48) := by
  unfold digV
  rw [List.foldl_append]
  rfl
def tens : Str := "0123456789"
theorem tens_dig : ∀ c : Fin 128, decide (c.val ∈ tens.cps.toList) = dig c.val := by decide +kernel
theorem tens_mem (c : Nat) : decide (c ∈ tens.cps.toList) = dig c := by
  by_cases h : c < 128
  · exact tens_dig ⟨c, h⟩
  · have h1 : c ∉ tens.cps.toList := fun hc => by
      have key : ∀ x ∈ tens.cps.toList, x < 128 := by decide +kernel
      exact h (key c hc)
    rw [decide_eq_false h1]
    unfold dig
    rw [decide_eq_false (by omega)]
theorem tens_at : ∀ c : Fin 10, Builtin.Str.occurrences tens ⟨#[48 + c.val]⟩ 0 tens.length 1 = [c.val] := by decide +kernel
/-! ### for and comprehensions over the signs of a text -/
theorem for_str {z : Str} {g : TG} {tb : TS} {D : Ends} {σ : L2.St} {H : Hp} (Pv : Nat → L2.St → Hp → Prop) (h0 : Pv 0 σ H)
    (hs : ∀ i c σ H, z.cps.toList[i]? = some c → Pv i σ H → g (.str ⟨#[c]⟩) σ H fun σ2 H2 => tb { D with nx := Pv (i + 1), ct := Pv (i + 1), bk := D.nx } σ2 H2) (hd : ∀ σ H, Pv z.length σ H → D.nx σ H) :
    ∃ W : Nat → Nat → L2.St → Hp → Prop, (∃ m, W 0 m σ H) ∧ ∀ i m σ H, W i m σ H →
      ((Its z).stop i H ∧ D.nx σ H) ∨ ((Its z).go i H ∧ ∃ N : L2.St → Hp → Prop, (∀ σ' H', N σ' H' → ∃ m', m' < m ∧ W (i + 1) m' σ' H') ∧ ∀ x H', (Its z).yld i H x H' → g x σ H' fun σ2 H2 => tb { D with nx := N, ct := N, bk := D.nx } σ2 H2) := by
  refine ⟨fun i m σ H => m = z.cps.size - i ∧ i ≤ z.cps.size ∧ Pv i σ H, ⟨z.cps.size, by simp, Nat.zero_le _, h0⟩, ?_⟩
  rintro i m σ H ⟨rfl, hi, p⟩
  by_cases hlt : i < z.cps.size
  · refine .inr ⟨hlt, Pv (i + 1), fun σ' H' p' => ⟨z.cps.size - (i + 1), by omega, rfl, hlt, p'⟩, fun x H' y => ?_⟩
    obtain ⟨e, c, hc, y⟩ := y
    subst e
    subst y
    exact hs i c σ _ (by simpa using hc) p
  · have e : i = z.cps.size := by omega
    subst e
    exact .inl ⟨Nat.le_refl _, hd σ H p⟩
theorem lc_str {z : Str} {g : TG} {tt : TT} {te : TE} {vs : List Nat} {σ : L2.St} {H1 : Hp} {D : Addr} {Qd : Hp → Prop} (Pv : Nat → Hp → Prop) (h0 : Pv 0 (upd H1 D (.lst [])))
    (hs : ∀ i c H, z.cps.toList[i]? = some c → Pv i H → g (.str ⟨#[c]⟩) (wipe σ vs) H fun σ2 H2 => wipe σ2 vs = wipe σ vs ∧ tt σ2 H2 fun b H3 =>
      if b = true then te σ2 H3 fun y H4 => ∃ acc, H4 D = some (.lst acc) ∧ acc.length < sizeLine ∧ Pv (i + 1) (upd H4 D (.lst (acc ++ [y]))) else Pv (i + 1) H3) (hd : ∀ H, Pv z.length H → Qd H) :
    ∃ W : Nat → Nat → Hp → Prop, (∃ m, W 0 m (upd H1 D (.lst []))) ∧ ∀ i m H, W i m H →
      ((Its z).stop i H ∧ Qd H) ∨ ((Its z).go i H ∧ ∃ Nx : Hp → Prop, (∀ H', Nx H' → ∃ m', m' < m ∧ W (i + 1) m' H') ∧ ∀ x H', (Its z).yld i H x H' → g x (wipe σ vs) H' fun σ2 H2 => wipe σ2 vs = wipe σ vs ∧ tt σ2 H2 fun b H3 =>
        if b = true then te σ2 H3 fun y H4 => ∃ acc, H4 D = some (.lst acc) ∧ acc.length < sizeLine ∧ Nx (upd H4 D (.lst (acc ++ [y]))) else Nx H3) := by
  refine ⟨fun i m H => m = z.cps.size - i ∧ i ≤ z.cps.size ∧ Pv i H, ⟨z.cps.size, by simp, Nat.zero_le _, h0⟩, ?_⟩
  rintro i m H ⟨rfl, hi, p⟩
  by_cases hlt : i < z.cps.size
  · refine .inr ⟨hlt, Pv (i + 1), fun H' p' => ⟨z.cps.size - (i + 1), by omega, rfl, hlt, p'⟩, fun x H' y => ?_⟩
    obtain ⟨e, c, hc, y⟩ := y
    subst e
    subst y
    exact hs i c _ (by simpa using hc) p
  · have e : i = z.cps.size := by omega
    subst e
    exact .inl ⟨Nat.le_refl _, hd H p⟩
section
variable {X : Cx}
def rIndexS : V → List V → Hp → VK → Prop := fun x xs H Q => ∃ a b i rest, x = .str a ∧ xs = [.str b] ∧ Builtin.Str.occurrences a b 0 a.length 1 = i :: rest ∧ Q (.int (i : Nat)) H
theorem pe_sindex {o e : Expr} {to te : TE} {apos pos : Pos} (ho : PE X o to) (he : PE X e te) (hs : starEach [e] X.env = [(false, eval e X.env)] := by rfl) (hbase : attributeBase o "index" X.env (eval o X.env) = eval o X.env := by rfl) (hline : (apos.endLine == pos.line) = true := by rfl) :
    PE X (.Call (.Attribute o "index" apos) [e] [] pos) (tM1 rIndexS to te) :=
  pe_m1 F.slot_str_index F.type_str_index mt_sindex ho he hs hbase hline
end
/-! ### what a word of figures is, sign by sign -/
theorem one_eq {c d : Nat} : (⟨#[c]⟩ : Str) = ⟨#[d]⟩ ↔ c = d := ⟨fun h => by cases h; rfl, fun h => by rw [h]⟩
theorem numV_empty : numV "" = -1 := rfl
theorem numV_zero {s : Str} (h : s ≠ "") (h0 : s.cps.toList[0]? = some 48) (h1 : s ≠ "0") : numV s = -1 := by
  unfold numV
  rw [if_neg h, if_pos ⟨h0, h1⟩]
theorem numV_all {s : Str} (h : s ≠ "") (h0 : ¬ (s.cps.toList[0]? = some 48 ∧ s ≠ "0")) (ha : ∀ c ∈ s.cps.toList, dig c = true) : numV s = digV s.cps.toList := by
  unfold numV
  rw [if_neg h, if_neg h0, if_pos (List.all_eq_true.mpr ha)]
theorem numV_not {s : Str} {c : Nat} (h : c ∈ s.cps.toList) (hc : dig c = false) : numV s = -1 := by
  unfold numV
  split
  · rfl
  split
  · rfl
  split
  · rename_i z
    rw [List.all_eq_true.mp z c h] at hc
    cases hc
  · rfl
end Sz
/-! x in a list whose items have own ==: every turn may make objects -/
namespace PySem.SeqAt
open PySem PySem.Spec PySem.Calls PyProof.Rows
open MeetsSeq MeetsSeq2 MeetsSeq3 SeqRoads2
theorem contains_loopG {prog : Program} {w : World} {E : Value → Shared → Prop} {A : Around} {R : Result → Shared → Prop} {l : Addr} {N : Nat} {x : Value} (e : Nat → Bool) (J : Shared → Prop)
    (hJ : ∀ s, J s → ∃ (items : Array Value) (n : Nat) (dd : Option Addr) (sl : Array (Option Value)), s.heap.get? l = some { cls := .type "list", dict := dd, data := .seq items n, slots := sl } ∧ items.size = N ∧
      ∀ i y, items[i]? = some y → wpAny (model prog w) A.in1 (eqBool y x) (fun b s' => b = e i ∧ J s') E s) (hE : ∀ er s, E er s → R (.error er) s) (k : Nat) :
    ∀ (i : Nat) (s : Shared), N - i = k → J s → (∀ s, J s → R (.ok (.ret (.bool ((List.range' i k).any e)))) s) →
      wpAny (model prog w) A.in1 (Builtin.«list.__contains__.loop» ⟨[.ref l, x, rawInt i], []⟩) (fun fin s' => match fin with | .done f => R (.ok f) s' | .again c' => c'.quiet = true ∧ codeAny (model prog w) A c' R s') (fun e s' => R (.error e) s') s := by
  induction k with
  | zero =>
    intro i s hk j h
    obtain ⟨items, n, dd, sl, hl, hN, _⟩ := hJ s j
    have h := h s j
    obtain ⟨hp, g, d, tk, os⟩ := s
    wp_walk using PySem.AutoSeq1.wpAny_loadPart' hl
    have hi : items[((i : Nat) : Int).toNat]? = none := by simp; omega
    rw [hi]
    wp_walk
    exact h
  | succ k ih =>
    intro i s hk j h
    obtain ⟨items, n, dd, sl, hl, hN, turn⟩ := hJ s j
    have hlt : i < items.size := by omega
    have t := turn i items[i] (by simp [hlt])
    obtain ⟨hp, g, d, tk, os⟩ := s
    wp_walk using PySem.AutoSeq1.wpAny_loadPart' hl
    have hi : items[((i : Nat) : Int).toNat]? = some items[i] := by simp [hlt]
    rw [List.range'_succ, List.any_cons] at h
    rw [hi]
    refine wpAny_bind (wpAny_mono t (fun b s' hb => ?_) hE)
    obtain ⟨rfl, j'⟩ := hb
    cases hb : e i with
    | true =>
      rw [hb] at h
      have h := h s' j'
      obtain ⟨hp, g, d, tk, os⟩ := s'
      wp_walk
      exact h
    | false =>
      rw [hb] at h
      have hc : ((i : Int) + 1) = ((i + 1 : Nat) : Int) := by push_cast; rfl
      have h2 := ih (i + 1) s' (by omega) j' (fun s js => by simpa using h s js)
      obtain ⟨hp, g, d, tk, os⟩ := s'
      wp_walk
      rw [hc]
      exact ⟨plainId_quiet plain_contains_loop _, codeAny_builtin entry_contains_loop (by
        rw [Around.under_plainId plain_contains_loop _]
        exact h2)⟩
theorem in_listG {prog : Program} {w : World} {E : Value → Shared → Prop} {A : Around} {s : Shared} {l : Addr} {N : Nat} {x : Value} {Q : Value → Shared → Prop} (e : Nat → Bool) (J : Shared → Prop)
    (hJ : ∀ s, J s → ∃ (items : Array Value) (n : Nat) (dd : Option Addr) (sl : Array (Option Value)), s.heap.get? l = some { cls := .type "list", dict := dd, data := .seq items n, slots := sl } ∧ items.size = N ∧
      ∀ i y, items[i]? = some y → wpAny (model prog w) A.in1 (eqBool y x) (fun b s' => b = e i ∧ J s') E s)
    (j : J s) (h : ∀ s, J s → Q (.bool ((List.range' 0 N).any e)) s) : wpAny (model prog w) A (compareOp .In x (.ref l)) Q E s := by
  show wpAny _ A (do return .bool (← contains (.ref l) x)) Q E s
  have hT : s.TypeIs (.ref l) "list" := by
    obtain ⟨items, n, dd, sl, hl, _⟩ := hJ s j
    exact ⟨_, hl, rfl⟩
  refine wpAny_bind (PySem.wpAny_contains_slot hT F.slot_list_contains (wpAny_mono (call_meetsIn (S := fun A' R s' => A' = A ∧ R = wants (fun v s' => ∃ b, v = .bool b ∧ Q (.bool b) s') E ∧ J s') F.slot_list_contains hT F.entry_list_contains (F.args_list_contains_2 _ _) ?_ ⟨rfl, rfl, j⟩) (fun v s' hv => ?_) fun _ _ e => e))
  · rintro A' R s' ⟨rfl, rfl, j'⟩
    obtain ⟨items, n, dd, sl, hl, hN, _⟩ := hJ s' j'
    have go := contains_loopG (R := wants (fun v s' => ∃ b, v = .bool b ∧ Q (.bool b) s') E) e J hJ (fun _ _ h => h) N 0 s' (by simp) j' (fun s js => ⟨_, rfl, h s js⟩)
    obtain ⟨hp, g, d, tk, os⟩ := s'
    wp_walk using PySem.AutoSeq1.wpAny_loadPart' hl
    exact ⟨plainId_quiet plain_contains_loop _, codeAny_builtin entry_contains_loop (by
      rw [Around.under_plainId plain_contains_loop _]
      exact go)⟩
  · obtain ⟨b, rfl, hq⟩ := hv
    exact wpAny_truthy_bool (wpAny_pure hq)
end PySem.SeqAt
namespace Sz
open PySem PySem.Spec PySem.Calls PyProof.Rows L2
theorem notFirst_none {K : PySem.W.Frag} {C : Addr} : PySem.W.notFirst K C (.type "NoneType") = true := by
  have h : PySem.W.subIn K (.type "NoneType") (.ref C) = some false := by
    unfold PySem.W.subIn
    rfl
  unfold PySem.W.notFirst
  rw [h]
  rfl
/-- an own == says no of None -/
def spEqN (N : Addr → Hp → Prop) : Sp := fun vs H Q _ => ∃ a, vs = [.ref a, .non] ∧ N a H ∧ ∀ H', Ext H H' → Q (.bl false) H'
section
variable {X : Cx} {n : Nat}
theorem eqN_run {CX : CXT} {C f : Addr} {fd : FuncData} {ps : List Str} {N : Addr → Hp → Prop} {E : XK} (F : FnOk X.prog X.w X.K X.mg X.base CX n f fd ps (spEqN N))
    (hs : PySem.W.findIn X.K (.ref C) "__eq__" = some (some (.ref f))) (hf : PySem.W.isFn X.K (.ref f) = true) (hb : Binds X.K fd ps []) (hx : Passes CX X E)
    {A : Around} {pins : List (Addr × Obj)} {s : Shared} {σ : L2.St} {H : Hp} {a dx : Addr} {fs : List (Str × V)} (sb : Sub X n A) (I : Inv X pins σ H s) (ha : H a = some (.ins C dx fs)) (hr : N a H) :
    wpAny (model X.prog X.w) A (eqBool (.ref a) .none) (fun r s' => r = false ∧ ∃ H', Inv X pins σ H' s' ∧ Ext H H') X.xe s := by
  obtain ⟨mA, J, _⟩ := ins_get I.hok ha
  obtain ⟨od, J, _⟩ := J.look
  obtain ⟨m, hF⟩ := I.fr
  unfold eqBool
  refine wpAny_holding ?_
  refine wpAny_ite_split (fun hab => by cases eq_of_beq hab) (fun _ => ?_)
  refine wpAny_bind ?_
  refine PySem.W.cmp_K (op := .Eq) (tb := .type "NoneType") sb.room.units0 hF I.ok.mod.kin J (PySem.W.Looks.of_pure rfl) notFirst_none hs hf ?_
  have hsp : spEqN N [.ref a, .non] H (fun v H' => v = .bl false ∧ Ext H H') E := ⟨a, rfl, hr, fun H' e => ⟨rfl, e⟩⟩
  have e0 : Env0 X.prog X.w X.K X.mg X.base A X.stack s H := by
    have e := I.env0
    exact ⟨by rw [sb.fr]; exact e.frames, e.mod, e.bs, e.bsz, e.funs, e.frf, e.hok, e.bare⟩
  have hl := F.len _ _ _ _ hsp
  have r2 : Vals [V.ref a, V.non] [Value.ref a, Value.none] := .cons rfl (.cons rfl .nil)
  refine wpAny_call (codeAny_mono (F.run A X.stack s H ⟨[.ref a, .none], []⟩ [.ref a, .none] [.ref a, .non] _ E sb.room e0 (by
    have := hb s [.ref a, .none] I.kIn (by simpa using hl)
    simpa using this) r2 hsp) fun r s' hq => ?_)
  cases r with
  | error e => exact hx pins σ H s e s' I hq
  | ok fl =>
    cases fl with
    | ret w =>
      obtain ⟨z, H', I', rz, ez, ex⟩ := I.after hq
      subst ez
      cases rz
      exact wpAny_truthy_bool ⟨rfl, H', I', ex⟩
    | next => exact False.elim hq
    | brk => exact False.elim hq
    | cont => exact False.elim hq
end
end Sz
namespace Sz
open PySem PySem.Spec PySem.Calls PyProof.Rows L2
def isNon : V → Bool
  | .non => true
  | _ => false
/-- None in a list of things of one class and None -/
def rInN (K : PySem.W.Frag) (C : Addr) (N : Addr → Hp → Prop) : R2 := fun x y H Q => ∃ p ys, x = .non ∧ y = .ref p ∧ SqL K H p ys ∧ (∀ z ∈ ys, z = .non ∨ ∃ a dx fs, z = .ref a ∧ H a = some (.ins C dx fs) ∧ N a H) ∧ ∀ H', Ext H H' → Q (.bl (ys.any isNon)) H'
theorem any_range {ys : List V} : ∀ {zs ds : List V}, ys = ds ++ zs → (List.range' ds.length zs.length).any (fun i => (ys[i]?.map isNon).getD false) = zs.any isNon
  | [], _, _ => rfl
  | z :: zs, ds, e => by
    have ih := any_range (ys := ys) (zs := zs) (ds := ds ++ [z]) (by rw [e]; simp)
    rw [List.length_append] at ih
    rw [List.length_cons, List.range'_succ, List.any_cons, List.any_cons, ← ih]
    have e2 : ys[ds.length]? = some z := by rw [e]; simp
    rw [e2]
    rfl
section
variable {X : Cx} {CX : CXT} {k : Nat} {C : Str} {ps : List Str} {N : Addr → Hp → Prop} {E : XK}
theorem op_inN (G : PromM X.prog X.w X.K X.mg X.base CX k C "__eq__" ps (spEqN N)) (hm : ∀ a H H', Ext H H' → N a H → N a H') (hr : Room (k + 1) X.A) (hx : Passes CX X E) : OpR X (compareOp .In) (rInN X.K (He.ga X.K C) N) := by
  intro pins s σ H x y v u Q I rx ry h
  obtain ⟨p, ys, rfl, rfl, hq, hy, q⟩ := h
  cases rx
  cases ry
  obtain ⟨fd, F, b⟩ := G.ex
  refine SeqAt.in_listG (N := ys.length) (fun i => (ys[i]?.map isNon).getD false) (fun s' => ∃ H', Inv X pins σ H' s' ∧ Ext H H') ?_ ⟨H, I, Ext.rfl'⟩ ?_
  · rintro s' ⟨H', I', e'⟩
    obtain ⟨its, r, ⟨o, n, ho, hc, hd, hdat⟩, hz⟩ := I'.list (Same.seq e' hq)
    refine ⟨its.toArray, n, o.dict, o.slots, ?_, ?_, ?_⟩
    · rw [ho]
      cases o
      cases hc
      cases hdat
      rfl
    · simpa using r.length.symm
    · intro i y hi
      have hi : its[i]? = some y := by simpa using hi
      obtain ⟨z, hz, rz⟩ : ∃ z, ys[i]? = some z ∧ RelV z y := by
        have hlt : i < its.length := by
          rcases List.getElem?_eq_some_iff.mp hi with ⟨h, _⟩
          exact h
        have hy2 : i < ys.length := by
          have := r.length
          omega
        obtain ⟨u, hu, ru⟩ := r.get (List.getElem?_eq_getElem hy2)
        rw [hi] at hu
        cases hu
        exact ⟨_, List.getElem?_eq_getElem hy2, ru⟩
      rcases hy z (List.mem_of_getElem? hz) with rfl | ⟨a, dx, fs, rfl, ha, hN⟩
      · cases rz
        rw [hz]
        exact SeqAt.EqAt.same (A := X.A.in1) (s := s') .none X.prog X.w X.xe _ ⟨rfl, H', I', e'⟩
      · cases rz
        rw [hz]
        refine wpAny_mono (eqN_run F G.me.at_ G.me.fn b hx ⟨hr.in1, rfl⟩ I' (e' _ _ ha) (hm _ _ _ e' hN)) (fun r s2 z => ?_) fun _ _ x => x
        obtain ⟨hr, H2, I2, e2⟩ := z
        exact ⟨hr, H2, I2, e'.trans e2⟩
  · rintro s' ⟨H', I', e'⟩
    have ea := any_range (ys := ys) (zs := ys) (ds := []) rfl
    rw [show (List.range' 0 ys.length).any _ = ys.any isNon from ea]
    exact ⟨.bl _, H', I', rfl, q _ e'⟩
end
end Sz
/-! repr(t) of a tuple in which instances with an own __repr__ stand, at any depth -/
namespace Sz
open PySem PySem.Spec PyProof.Rows L2
/-- repr at a place within a container, in each state that grew out of H0: the text t -/
def RpI (X : Cx) (n : Nat) (Z : List Addr) (H0 : Hp) (v : V) (t : Str) : Prop :=
  ∀ (A : Around) (g : List Code) (b : Nat) (pins : List (Addr × Obj)) (s : Shared) (σ : L2.St) (H : Hp) (u : Value), Sub X n A → A.guards = some g → (∀ z ∈ Z, Clear g z) → b + t.length ≤ sizeLine → Ext H0 H → Inv X pins σ H s → RelV v u →
    wpAny (model X.prog X.w) A (pyReprUnder b u) (fun r s' => r = t ∧ ∃ H', Inv X pins σ H' s' ∧ Ext H H') X.xe s
section
variable {X : Cx} {CX : CXT} {k n : Nat} {C : Str} {ps : List Str} {sp : Sp} {E : XK} {Z : List Addr} {H0 : Hp} {v : V} {t : Str}
theorem RpI.is (h : ∀ u, RelV v u → ReprIs X.prog X.w u t) : RpI X n Z H0 v t := fun A _ b _ s _ H u _ _ _ hb _ I r => h u r b hb A X.xe s _ fun tk => ⟨rfl, H, I.tok _, Ext.rfl'⟩
theorem RpI.str {y : Str} (h : (reprText y).length ≤ sizeLine) : RpI X n Z H0 (.str y) (reprText y) := .is fun u r => by
  obtain ⟨tk, rfl⟩ := (show ∃ tk, u = Value.str y tk from r)
  exact ReprIs.str y tk h
theorem RpI.int {i : Int} (h : i.natAbs.log2 < 1920) : RpI X n Z H0 (.int i) (toString i) := .is fun u r => by
  obtain ⟨tk, rfl⟩ := (show ∃ tk, u = Value.int i tk from r)
  exact ReprIs.int tk h
theorem RpI.more {Z' : List Addr} (h : RpI X n Z H0 v t) (s : ∀ z ∈ Z, z ∈ Z') : RpI X n Z' H0 v t := fun A g b pins s0 σ H u sb hg hc => h A g b pins s0 σ H u sb hg fun z hz => hc z (s z hz)
theorem RpI.lev {m : Nat} (h : RpI X n Z H0 v t) (l : n ≤ m) : RpI X m Z H0 v t := fun A g b pins s0 σ H u sb => h A g b pins s0 σ H u (sb.mono l)
theorem RpI.ins (G : PromM X.prog X.w X.K X.mg X.base CX n C "__repr__" ps sp) (hx : Passes CX X E) {a dx : Addr} {fs : List (Str × V)} (hp : H0 a = some (.ins (He.ga X.K C) dx fs))
    (h : ∀ H, Ext H0 H → sp [.ref a] H (fun z H2 => z = .str t ∧ Ext H H2) E) : RpI X n Z H0 (.ref a) t := by
  intro A g b pins s σ H u sb hg hc hb e I r
  obtain rfl : u = Value.ref a := r
  obtain ⟨m1, O1, _⟩ := ins_get I.hok (e _ _ hp)
  obtain ⟨od1, J1, _⟩ := O1.look
  have KI := I.kIn
  refine wpAny_pyReprUnder_ref (by omega) ?_
  unfold pyReprObjUnder pyReprObjBy
  refine wpAny_bind (wpAny_cRoomFor sb.room.units0 ?_)
  refine wpAny_bind (wpAny_bind (J1.type.here ((PySem.W.looks_findIn KI G.me.at_).here ?_)))
  show wpAny _ _ (if (some (Value.ref (He.ma X.K (He.ga X.K C) "__repr__"))).isNone = true then _ else _) _ _ _
  rw [if_neg (by simp)]
  have fin : wpAny (model X.prog X.w) A (call (.ref (He.ma X.K (He.ga X.K C) "__repr__")) [.ref a]) (fun z s' => ∃ tk, z = .str t tk ∧ ∃ H', Inv X pins σ H' s' ∧ Ext H H') X.xe s := by
    refine wpAny_mono (run_own G hx (A := A) ⟨sb.room, sb.fr⟩ (vs := [.ref a]) (us := [.ref a]) I (.cons rfl .nil) (h H e)) (fun z s' q => ?_) fun _ _ y => y
    obtain ⟨z0, H', I', rz, rfl, ex⟩ := q
    obtain ⟨tk, rfl⟩ := (show ∃ tk, z = Value.str t tk from rz)
    exact ⟨tk, rfl, H', I', ex⟩
  refine wpAny_bind (wpAny_mono (Q := fun o s' => ∃ tk, o = some (.str t tk) ∧ ∃ H', Inv X pins σ H' s' ∧ Ext H H') (E := X.xe) ?_ (fun o s' q => ?_) fun _ _ y => y)
  · have fin2 : wpAny (model X.prog X.w) A (call (.ref (He.ma X.K (He.ga X.K C) "__repr__")) ([.ref a] ++ []) >>= fun z => pure (some z)) (fun o s' => ∃ tk, o = some (.str t tk) ∧ ∃ H', Inv X pins σ H' s' ∧ Ext H H') X.xe s :=
      wpAny_bind (wpAny_mono fin (fun z s' q => wpAny_pure (by obtain ⟨tk, rfl, q⟩ := q; exact ⟨tk, rfl, q⟩)) fun _ _ y => y)
    simp only [callSpecialIfBoundBy?, bindSpecialIfBound?]
    refine wpAny_holding (wpAny_bind (wpAny_bind (wpAny_bind (J1.type.here ((PySem.W.looks_findIn KI G.me.at_).here ?_)))))
    refine wpAny_bind (wpAny_askSetting (wpAny_ite ?_))
    split
    · exact wpAny_bind ((PySem.W.bind_fn KI _ (beq_iff_eq.mp G.me.fn)).here (wpAny_pure (by exact fin2)))
    · exact wpAny_tryCatch (wpAny_bind ((PySem.W.bind_fn KI _ (beq_iff_eq.mp G.me.fn)).here (wpAny_pure (by exact fin2))))
  · obtain ⟨tk, rfl, q⟩ := q
    exact wpAny_bind (wpAny_isInstance (T := "str") (b := true) rfl isSubtype_str_str (wpAny_pure ⟨t, tk, rfl, rfl, q⟩))
/-- item by item -/
def RpAll (X : Cx) (n : Nat) (Z : List Addr) (H0 : Hp) (xs : List V) (ts : List Str) : Prop := xs.length = ts.length ∧ ∀ (i : Nat) x y, xs[i]? = some x → ts[i]? = some y → RpI X n Z H0 x y
theorem RpAll.nil : RpAll X n Z H0 [] [] := ⟨rfl, fun i x y h _ => by simp at h⟩
theorem RpAll.cons {x : V} {y : Str} {xs : List V} {ts : List Str} (h : RpI X n Z H0 x y) (r : RpAll X n Z H0 xs ts) : RpAll X n Z H0 (x :: xs) (y :: ts) := by
  refine ⟨by rw [List.length_cons, List.length_cons, r.1], fun i a b h1 h2 => ?_⟩
  cases i with
  | zero =>
    obtain rfl : x = a := by simpa using h1
    obtain rfl : y = b := by simpa using h2
    exact h
  | succ i => exact r.2 i a b (by simpa using h1) (by simpa using h2)
theorem rp_fold {A : Around} {g : List Code} {pins : List (Addr × Obj)} {σ : L2.St} (sb : Sub X n A) (hg : A.guards = some g) (hc : ∀ z ∈ Z, Clear g z) : ∀ (its : List Value) (xs : List V) (ts : List Str) (acc : Array Str) (m : Nat) (s : Shared) (H : Hp), Vals xs its → RpAll X n Z H0 xs ts → m + piled ts ≤ sizeLine → Ext H0 H → Inv X pins σ H s →
    wpAny (model X.prog X.w) A (forIn its (⟨acc, m⟩ : Array Str × Nat) tupBody) (fun r s' => r = ⟨acc ++ ts.toArray, m + piled ts⟩ ∧ ∃ H', Inv X pins σ H' s' ∧ Ext H H') X.xe s := by
  intro its
  induction its with
  | nil =>
    intro xs ts acc m s H r p _ _ I
    cases r
    have e : ts = [] := List.eq_nil_of_length_eq_zero (by rw [← p.1]; rfl)
    subst e
    simp only [List.forIn_nil]
    exact wpAny_pure ⟨by simp [piled], H, I, Ext.rfl'⟩
  | cons u its ih =>
    intro xs ts acc m s H r p hm ex I
    cases r with
    | @cons x _ xs _ rx rr =>
    cases ts with
    | nil => exact absurd p.1 (by simp)
    | cons y ts =>
    rw [piled_cons] at hm
    have hx := p.2 0 x y rfl rfl
    have hr : RpAll X n Z H0 xs ts := ⟨by have := p.1; simpa using this, fun i a b h1 h2 => p.2 (i + 1) a b (by simpa using h1) (by simpa using h2)⟩
    rw [List.forIn_cons]
    refine wpAny_bind (wpAny_bind (wpAny_mono (hx A g (m + 1) pins s σ H u sb hg hc (by omega) ex I rx) (fun q s1 z => ?_) fun _ _ y => y))
    obtain ⟨rfl, H1, I1, e1⟩ := z
    refine wpAny_pure ?_
    refine wpAny_mono (ih xs ts (acc.push q) (m + (q.length + 2)) s1 H1 rr hr (by omega) (ex.trans e1) I1) (fun q2 s2 z => ?_) fun _ _ y => y
    obtain ⟨rfl, H2, I2, e2⟩ := z
    refine ⟨?_, H2, I2, e1.trans e2⟩
    rw [piled_cons, show m + (q.length + 2) + piled ts = m + (q.length + 2 + piled ts) by omega]
    simp
theorem rp_body {A : Around} {g : List Code} {b : Nat} {a : Addr} {rest : List Value} {id : String} {pins : List (Addr × Obj)} {s : Shared} {σ : L2.St} {H : Hp} {xs : List V} {ts : List Str} {R : Result → Shared → Prop}
    (hcg : (Code.builtin id ⟨.ref a :: rest, []⟩).isGuard = true) (sb : Sub X n (A.under (.builtin id ⟨.ref a :: rest, []⟩))) (hg : A.guards = some g) (hc : ∀ z ∈ a :: Z, Clear g z) (hna : a ∉ Z) (ha : SqT X.K H0 a xs) (p : RpAll X n Z H0 xs ts)
    (hb : b + (tupleText ts).length ≤ sizeLine) (ex : Ext H0 H) (I : Inv X pins σ H s) (fin : ∀ u s', (∃ H', Inv X pins σ H' s' ∧ Ext H H') → R (.ok (.ret (.str (tupleText ts) u))) s') (fe : ∀ e s', X.xe e s' → R (.error e) s') :
    wpOwn (model X.prog X.w) A (.builtin id ⟨.ref a :: rest, []⟩) (Builtin.tupleReprAt b ⟨[.ref a], []⟩) (fun f s' => match f with | .done f => R (.ok f) s' | .again c => c.quiet = true ∧ codeAny (model X.prog X.w) A c R s') (fun e s' => R (.error e) s') s := by
  obtain ⟨its, r, ⟨o, ho, hcl, na, hd⟩, _⟩ := I.tuple (ha.ext ex)
  have pl := piled_le_tupleText ts
  have lts : ts.length = its.length := by rw [← p.1, r.length]
  rw [tuple_repr_tree] ; rw [tupleReprUnderWay_eq]
  refine wpOwn_bind (wpOwn_stackTailAny hg (tupGuardF_off _) (tupGuardF_pos _) ?_)
  have no : (g.any fun c => tupGuardF (.ref a) (c, default)) = false := List.any_eq_false.mpr fun c hm => by
    rw [tupGuardF_of_clear (hc a (.head _)) c hm] ; decide
  rw [no]
  refine wpOwn_of_wpAny ?_
  show wpAny _ _ (tupleReprRest b (.ref a)) _ _ s
  unfold tupleReprRest ; unfold Builtin.Tuple.tupleItemsOf
  refine wpAny_bind (wpAny_bind (wpAny_seqItems ho hd (wpAny_pure ?_)))
  rw [← Array.forIn_toList]
  refine wpAny_bind (wpAny_mono (rp_fold (H0 := H0) (Z := Z) sb (guards_under_guard hcg hg) (fun z hz => (hc z (.tail _ hz)).cons (a := a) fun e => hna (e ▸ hz)) its.toArray.toList xs ts #[] b s H (by simpa using r) p (by omega) ex I) (fun q s' z => ?_) fun e s' h => fe e s' h)
  obtain ⟨rfl, H', I', e'⟩ := z
  refine wpAny_bind (wpAny_mkStr (wpAny_pure ?_) (by simpa [tupleText, lts] using (show (tupleText ts).length ≤ sizeLine by omega)))
  have z := fin s'.toks { s' with toks := s'.toks + 1 } ⟨H', I'.tok _, e'⟩
  simpa [tupleText, lts] using z
theorem sub_rp {A : Around} (sb : Sub X (n + 1) A) (a : Addr) (rest : List Value) (id : String) (hd : (A.under (.builtin id ⟨.ref a :: rest, []⟩)).handled = A.handled) (hf : (A.under (.builtin id ⟨.ref a :: rest, []⟩)).frames = A.frames)
    (hp : (A.under (.builtin id ⟨.ref a :: rest, []⟩)).depth ≤ A.depth + 1) (hu : (A.under (.builtin id ⟨.ref a :: rest, []⟩)).units = A.units + 1) : Sub X n (A.under (.builtin id ⟨.ref a :: rest, []⟩)) :=
  ⟨⟨by rw [hd]; exact sb.room.hd, by have := sb.room.dp; omega, by have := sb.room.un; omega⟩, by rw [hf]; exact sb.fr⟩
theorem RpI.tup {a : Addr} {xs : List V} {ts : List Str} (ha : SqT X.K H0 a xs) (hna : a ∉ Z) (p : RpAll X n Z H0 xs ts) : RpI X (n + 1) (a :: Z) H0 (.ref a) (tupleText ts) := by
  intro A g b pins s σ H u sb hg hc hb e I r
  obtain rfl : u = Value.ref a := r
  obtain ⟨its, rv, ⟨o, ho, hcl, na, hd⟩, _⟩ := I.tuple (ha.ext e)
  refine wpAny_pyReprUnder_ref (by omega) ?_
  refine wpAny_pyReprObjUnder_twin (twin := "tuple.__repr__.under") ⟨o, ho, hcl⟩ F.slot_tuple_repr rfl sb.room.units0 ?_
  refine call_twin_own (F.quiet_tuple_repr_under _) F.entry_tuple_repr_under F.check_tuple_repr_under ⟨o, ho, hcl⟩ F.slot_tuple_repr (F.args_tuple_repr_1 _) ?_
  refine rp_body (R := callEnd _ _) (isGuard_tuple_repr_under _) (sub_rp sb a _ _ ?_ ?_ ?_ (units_under_tuple_repr_under _ _)) hg hc hna ha p hb e I (fun u s' q => ?_) (fun e s' q => q)
  · rfl
  · rfl
  · first | exact Nat.le_refl _ | exact Nat.le_succ _ | simp [Around.under, Code.weight, Code.isCreation, Code.isGuard, Code.isCaller, Code.frames, Code.isFrame, guardIds]
  · exact ⟨⟨_, _, rfl⟩, _, _, rfl, rfl, q⟩
theorem cr_reprT (gd : X.A.guards = some []) (hr : Room (n + 2) X.A) : CallR X (.builtin "repr") (fun xs H Q => ∃ (a : Addr) (ys : List V) (ts : List Str) (Z : List Addr), xs = [.ref a] ∧ SqT X.K H a ys ∧ a ∉ Z ∧ RpAll X n Z H ys ts ∧ (tupleText ts).length ≤ sizeLine ∧ ∀ H', Ext H H' → Q (.str (tupleText ts)) H') := by
  intro pins s σ H xs us Q I r h
  obtain ⟨a, ys, ts, Z, rfl, ha, hna, p, hl, q⟩ := h
  obtain ⟨u, rfl, ru⟩ := vals1 r
  obtain rfl : u = Value.ref a := ru
  obtain ⟨its, rv, ⟨o, ho, hcl, na, hd⟩, _⟩ := I.tuple ha
  have sb : Sub X (n + 1) X.A.in1 := ⟨hr.in1, rfl⟩
  refine call_repr_slot (by have := hr.un; omega) ⟨o, ho, hcl⟩ F.slot_tuple_repr ?_
  refine wpAny_call (codeAny_call_builtin_own (Code.quiet_builtin _ (by decide +kernel)) F.entry_tuple_repr (F.slot_tuple_repr.check _ _ _ _ _ _ _ _ ⟨o, ho, hcl⟩ (F.args_tuple_repr_1 _) ?_))
  refine rp_body (R := callEnd _ _) (b := 0) (isGuard_tuple_repr _) (sub_rp sb a _ _ ?_ ?_ ?_ (units_under_tuple_repr _ _)) (show X.A.in1.guards = _ from gd) (fun z hz => Clear.nil z) hna ha p (by omega) Ext.rfl' I (fun u s' z => ?_) (fun e s' q => q)
  · rfl
  · rfl
  · first | exact Nat.le_refl _ | exact Nat.le_succ _ | simp [Around.under, Code.weight, Code.isCreation, Code.isGuard, Code.isCaller, Code.frames, Code.isFrame, guardIds]
  · obtain ⟨H', I', e⟩ := z
    exact ⟨_, _, rfl, .str _, H', I', ⟨_, rfl⟩, q H' e⟩
end
end Sz
/-! repr(xs) of a list of things of any kind: plain values, texts, dicts of one text, instances with an own __repr__, tuples and lists of them, at any depth -/
namespace Sz
open PySem PySem.Spec PyProof.Rows L2
mutual
/-- what repr shows, and how deep it lies -/
inductive TxtAt (K : PySem.W.Frag) (Own : Hp → Addr → Str → Prop) (H : Hp) : V → Str → Nat → Prop
  | flat {v : V} {z : Str} (h : flatShown v = some z) : TxtAt K Own H v z 0
  | str {y : Str} (h : (reprText y).length ≤ sizeLine) : TxtAt K Own H (.str y) (reprText y) 0
  | own {a : Addr} {t : Str} (h : Own H a t) : TxtAt K Own H (.ref a) t 0
  | edict {a : Addr} (h : H a = some (.dK [])) : TxtAt K Own H (.ref a) (dictText []) 0
  | sdict {a : Addr} {x : Str} {i : Int} (h : H a = some (.dK [(.inr x, .int i)])) (hx : (reprText x).length ≤ sizeLine) (hi : i.natAbs.log2 < 1920) : TxtAt K Own H (.ref a) (dictText [reprText x ++ ": " ++ toString i]) 0
  | lst {a : Addr} {xs : List V} {ts : List Str} {n : Nat} (h : SqL K H a xs) (p : TxtAll K Own H xs ts n) : TxtAt K Own H (.ref a) (listText ts) (n + 1)
  | tup {a : Addr} {xs : List V} {ts : List Str} {n : Nat} (h : SqT K H a xs) (p : TxtAll K Own H xs ts n) : TxtAt K Own H (.ref a) (tupleText ts) (n + 1)
inductive TxtAll (K : PySem.W.Frag) (Own : Hp → Addr → Str → Prop) (H : Hp) : List V → List Str → Nat → Prop
  | nil : TxtAll K Own H [] [] 0
  | cons {v : V} {t : Str} {n : Nat} {vs : List V} {ts : List Str} {m : Nat} (h : TxtAt K Own H v t n) (r : TxtAll K Own H vs ts m) : TxtAll K Own H (v :: vs) (t :: ts) (max n m)
end
mutual
theorem TxtAt.ext {K : PySem.W.Frag} {Own : Hp → Addr → Str → Prop} {H H' : Hp} (e : Ext H H') (oe : ∀ a t, Own H a t → Own H' a t) : ∀ {v : V} {t : Str} {n : Nat}, TxtAt K Own H v t n → TxtAt K Own H' v t n
  | _, _, _, .flat h => .flat h
  | _, _, _, .str h => .str h
  | _, _, _, .own h => .own (oe _ _ h)
  | _, _, _, .edict h => .edict (e _ _ h)
  | _, _, _, .sdict h hx hi => .sdict (e _ _ h) hx hi
  | _, _, _, .lst h p => .lst (h.ext e) (TxtAll.ext e oe p)
  | _, _, _, .tup h p => .tup (h.ext e) (TxtAll.ext e oe p)
theorem TxtAll.ext {K : PySem.W.Frag} {Own : Hp → Addr → Str → Prop} {H H' : Hp} (e : Ext H H') (oe : ∀ a t, Own H a t → Own H' a t) : ∀ {vs : List V} {ts : List Str} {n : Nat}, TxtAll K Own H vs ts n → TxtAll K Own H' vs ts n
  | _, _, _, .nil => .nil
  | _, _, _, .cons h r => .cons (TxtAt.ext e oe h) (TxtAll.ext e oe r)
end
theorem TxtAll.len {K : PySem.W.Frag} {Own : Hp → Addr → Str → Prop} {H : Hp} : ∀ {vs : List V} {ts : List Str} {n : Nat}, TxtAll K Own H vs ts n → vs.length = ts.length
  | _, _, _, .nil => rfl
  | _, _, _, .cons _ r => congrArg (· + 1) (TxtAll.len r)
mutual
/-- how deep a value lies in the model's own heap -/
inductive RW (h : Heap) : Value → Nat → Prop
  | leaf {u : Value} (l : ∀ a o its n, u = .ref a → h.get? a = some o → o.data ≠ .seq its n) : RW h u 0
  | seq {a : Addr} {o : Obj} {its : Array Value} {k n : Nat} (ho : h.get? a = some o) (hd : o.data = .seq its k) (p : RWs h its.toList n) : RW h (.ref a) (n + 1)
inductive RWs (h : Heap) : List Value → Nat → Prop
  | nil : RWs h [] 0
  | cons {u : Value} {n : Nat} {us : List Value} {m : Nat} (p : RW h u n) (r : RWs h us m) : RWs h (u :: us) (max n m)
end
mutual
theorem RW.uniq {h : Heap} : ∀ {u : Value} {n m : Nat}, RW h u n → RW h u m → n = m
  | _, _, _, .leaf l, y => by
    cases y with
    | leaf _ => rfl
    | seq ho hd _ => exact absurd hd (l _ _ _ _ rfl ho)
  | _, _, _, .seq ho hd p, y => by
    cases y with
    | leaf l => exact absurd hd (l _ _ _ _ rfl ho)
    | seq ho' hd' p' =>
      rw [ho] at ho'
      cases ho'
      rw [hd] at hd'
      cases hd'
      exact congrArg (· + 1) (RWs.uniq p p')
theorem RWs.uniq {h : Heap} : ∀ {us : List Value} {n m : Nat}, RWs h us n → RWs h us m → n = m
  | _, _, _, .nil, y => by
    cases y
    rfl
  | _, _, _, .cons p r, y => by
    cases y with
    | cons p' r' => rw [RW.uniq p p', RWs.uniq r r']
end
section
variable {X : Cx} {n : Nat} {Own : Hp → Addr → Str → Prop} {H0 : Hp}
/-- what an own repr stands at -/
def OwnIns (Own : Hp → Addr → Str → Prop) : Prop := ∀ H a t, Own H a t → ∃ C dx fs, H a = some (.ins C dx fs)
mutual
theorem rw_of {pins : List (Addr × Obj)} {σ : L2.St} {H : Hp} {s : Shared} (I : Inv X pins σ H s) (oi : OwnIns Own) : ∀ {v : V} {t : Str} {m : Nat} {u : Value}, TxtAt X.K Own H v t m → RelV v u → RW s.heap u m
  | v, _, _, u, .flat h, r => by
    refine .leaf fun a o its n e _ => ?_
    subst e
    cases v with
    | non => cases (show Value.ref a = Value.none from r)
    | bl b => cases (show Value.ref a = Value.bool b from r)
    | int i =>
      obtain ⟨t, e⟩ := (show ∃ t, Value.ref a = Value.int i t from r)
      cases e
    | _ => cases h
  | _, _, _, u, .str h, r => by
    refine .leaf fun a o its n e _ => ?_
    subst e
    obtain ⟨t, e⟩ := (show ∃ t, Value.ref a = Value.str _ t from r)
    cases e
  | .ref a, _, _, u, .own h, r => by
    obtain rfl : u = Value.ref a := r
    obtain ⟨C, dx, fs, e⟩ := oi _ _ _ h
    obtain ⟨_, _, _, g, _⟩ := I.hok a _ e
    refine .leaf fun a' o its n e' ho => ?_
    cases e'
    rw [g] at ho
    cases ho
    exact fun z => by cases z
  | .ref a, _, _, u, .edict h, r => by
    obtain rfl : u = Value.ref a := r
    obtain ⟨_, _, vs, _, o, es, ep, g, _, d, _⟩ := I.hok a _ h
    refine .leaf fun a' o' its n e' ho => ?_
    cases e'
    rw [g] at ho
    cases ho
    rw [d]
    exact fun z => by cases z
  | .ref a, _, _, u, .sdict h _ _, r => by
    obtain rfl : u = Value.ref a := r
    obtain ⟨_, _, vs, _, o, es, ep, g, _, d, _⟩ := I.hok a _ h
    refine .leaf fun a' o' its n e' ho => ?_
    cases e'
    rw [g] at ho
    cases ho
    rw [d]
    exact fun z => by cases z
  | .ref a, _, _, u, .lst h p, r => by
    obtain rfl : u = Value.ref a := r
    obtain ⟨its, rv, ⟨o, k, ho, hc, hdn, hd⟩, _⟩ := I.list h
    exact .seq ho hd (by simpa using rws_of I oi p rv)
  | .ref a, _, _, u, .tup h p, r => by
    obtain rfl : u = Value.ref a := r
    obtain ⟨its, rv, ⟨o, ho, hcl, na, hd⟩, _⟩ := I.tuple h
    exact .seq ho hd (by simpa using rws_of I oi p rv)
theorem rws_of {pins : List (Addr × Obj)} {σ : L2.St} {H : Hp} {s : Shared} (I : Inv X pins σ H s) (oi : OwnIns Own) : ∀ {vs : List V} {ts : List Str} {m : Nat} {us : List Value}, TxtAll X.K Own H vs ts m → Vals vs us → RWs s.heap us m
  | _, _, _, _, .nil, .nil => .nil
  | _, _, _, _, .cons h p, .cons r q => .cons (rw_of I oi h r) (rws_of I oi p q)
end
/-- what is being shown further out lies deeper -/
def GOk (X : Cx) (Own : Hp → Addr → Str → Prop) (H0 : Hp) (g : List Code) (m : Nat) : Prop := ∀ id b rest kw, Code.builtin id ⟨.ref b :: rest, kw⟩ ∈ g → ∃ t w, TxtAt X.K Own H0 (.ref b) t w ∧ m < w
theorem GOk.mono {g : List Code} {m k : Nat} (h : GOk X Own H0 g m) (l : k ≤ m) : GOk X Own H0 g k := fun id b rest kw e => by
  obtain ⟨t, w, p, q⟩ := h id b rest kw e
  exact ⟨t, w, p, by omega⟩
theorem GOk.cons {g : List Code} {m : Nat} {a : Addr} {t : Str} {w : Nat} {id : String} {rest : List Value} {kw : List (Str × Value)} (h : GOk X Own H0 g m) (p : TxtAt X.K Own H0 (.ref a) t w) (l : m < w) : GOk X Own H0 (.builtin id ⟨.ref a :: rest, kw⟩ :: g) m := fun id' b rest' kw' e => by
  rcases List.mem_cons.mp e with e | e
  · cases e
    exact ⟨t, w, p, l⟩
  · exact h _ _ _ _ e
theorem GOk.clear {pins : List (Addr × Obj)} {σ : L2.St} {H : Hp} {s : Shared} {g : List Code} {m : Nat} {a : Addr} {t : Str} (h : GOk X Own H0 g m) (I : Inv X pins σ H s) (oi : OwnIns Own) (ex : Ext H0 H) (oe : ∀ a t, Own H0 a t → Own H a t) (p : TxtAt X.K Own H0 (.ref a) t m) : Clear g a := fun id v rest kw e z => by
  subst z
  obtain ⟨t', w, q, l⟩ := h _ _ _ _ e
  have e1 := rw_of I oi (p.ext ex oe) (u := .ref a) rfl
  have e2 := rw_of I oi (q.ext ex oe) (u := .ref a) rfl
  have := e1.uniq e2
  omega
/-- repr at a place within a container -/
def RpG (X : Cx) (Own : Hp → Addr → Str → Prop) (n : Nat) (H0 : Hp) (v : V) (t : Str) (m : Nat) : Prop :=
  ∀ (A : Around) (g : List Code) (b : Nat) (pins : List (Addr × Obj)) (s : Shared) (σ : L2.St) (H : Hp) (u : Value), Sub X (n + m) A → A.guards = some g → GOk X Own H0 g m → b + t.length ≤ sizeLine → Ext H0 H → Inv X pins σ H s → RelV v u →
    wpAny (model X.prog X.w) A (pyReprUnder b u) (fun r s' => r = t ∧ ∃ H', Inv X pins σ H' s' ∧ Ext H H') X.xe s
def RpAllG (X : Cx) (Own : Hp → Addr → Str → Prop) (n : Nat) (H0 : Hp) (xs : List V) (ts : List Str) (m : Nat) : Prop := xs.length = ts.length ∧ ∀ (i : Nat) x y, xs[i]? = some x → ts[i]? = some y → RpG X Own n H0 x y m
theorem RpG.mono {v : V} {t : Str} {m k : Nat} (h : RpG X Own n H0 v t m) (l : m ≤ k) : RpG X Own n H0 v t k := fun A g b pins s σ H u sb hg go hb ex I r => h A g b pins s σ H u (sb.mono (by omega)) hg (go.mono l) hb ex I r
theorem RpG.of {v : V} {t : Str} (h : RpI X n [] H0 v t) : RpG X Own n H0 v t 0 := fun A g b pins s σ H u sb hg go hb ex I r => h A g b pins s σ H u sb hg (fun z hz => nomatch hz) hb ex I r
theorem gfold {A : Around} {g : List Code} {pins : List (Addr × Obj)} {σ : L2.St} {m : Nat} (sb : Sub X (n + m) A) (hg : A.guards = some g) (go : GOk X Own H0 g m) : ∀ (its : List Value) (xs : List V) (ts : List Str) (acc : Array Str) (k : Nat) (s : Shared) (H : Hp), Vals xs its → RpAllG X Own n H0 xs ts m → k + piled ts ≤ sizeLine → Ext H0 H → Inv X pins σ H s →
    wpAny (model X.prog X.w) A (forIn its (⟨acc, k⟩ : Array Str × Nat) tupBody) (fun r s' => r = ⟨acc ++ ts.toArray, k + piled ts⟩ ∧ ∃ H', Inv X pins σ H' s' ∧ Ext H H') X.xe s := by
  intro its
  induction its with
  | nil =>
    intro xs ts acc k s H r p _ _ I
    cases r
    have e : ts = [] := List.eq_nil_of_length_eq_zero (by rw [← p.1]; rfl)
    subst e
    simp only [List.forIn_nil]
    exact wpAny_pure ⟨by simp [piled], H, I, Ext.rfl'⟩
  | cons u its ih =>
    intro xs ts acc k s H r p hm ex I
    cases r with
    | @cons x _ xs _ rx rr =>
    cases ts with
    | nil => exact absurd p.1 (by simp)
    | cons y ts =>
    rw [piled_cons] at hm
    have hx := p.2 0 x y rfl rfl
    have hr : RpAllG X Own n H0 xs ts m := ⟨by have := p.1; simpa using this, fun i a b h1 h2 => p.2 (i + 1) a b (by simpa using h1) (by simpa using h2)⟩
    rw [List.forIn_cons]
    refine wpAny_bind (wpAny_bind (wpAny_mono (hx A g (k + 1) pins s σ H u sb hg go (by omega) ex I rx) (fun q s1 z => ?_) fun _ _ y => y))
    obtain ⟨rfl, H1, I1, e1⟩ := z
    refine wpAny_pure ?_
    refine wpAny_mono (ih xs ts (acc.push q) (k + (q.length + 2)) s1 H1 rr hr (by omega) (ex.trans e1) I1) (fun q2 s2 z => ?_) fun _ _ y => y
    obtain ⟨rfl, H2, I2, e2⟩ := z
    refine ⟨?_, H2, I2, e1.trans e2⟩
    rw [piled_cons, show k + (q.length + 2) + piled ts = k + (q.length + 2 + piled ts) by omega]
    simp
theorem RpG.tup (oi : OwnIns Own) (oe : ∀ H H', Ext H H' → ∀ a t, Own H a t → Own H' a t) {a : Addr} {xs : List V} {ts : List Str} {m : Nat} (ta : TxtAt X.K Own H0 (.ref a) (tupleText ts) (m + 1)) (ha : SqT X.K H0 a xs) (p : RpAllG X Own n H0 xs ts m) : RpG X Own n H0 (.ref a) (tupleText ts) (m + 1) := by
  intro A g b pins s σ H u sb hg go hb ex I r
  obtain rfl : u = Value.ref a := r
  obtain ⟨its, rv, ⟨o, ho, hcl, na, hd⟩, _⟩ := I.tuple (ha.ext ex)
  have cl : Clear g a := go.clear I oi ex (oe _ _ ex) ta
  have sb2 : Sub X (n + m) (A.under (.builtin "tuple.__repr__.under" ⟨.ref a :: [rawInt b], []⟩)) := by
    refine sub_rp (n := n + m) sb a _ _ ?_ ?_ ?_ (units_under_tuple_repr_under _ _)
    · rfl
    · rfl
    · first | exact Nat.le_refl _ | exact Nat.le_succ _ | simp [Around.under, Code.weight, Code.isCreation, Code.isGuard, Code.isCaller, Code.frames, Code.isFrame, guardIds]
  refine wpAny_pyReprUnder_ref (by omega) ?_
  refine wpAny_pyReprObjUnder_twin (twin := "tuple.__repr__.under") ⟨o, ho, hcl⟩ F.slot_tuple_repr rfl sb.room.units0 ?_
  refine call_twin_own (F.quiet_tuple_repr_under _) F.entry_tuple_repr_under F.check_tuple_repr_under ⟨o, ho, hcl⟩ F.slot_tuple_repr (F.args_tuple_repr_1 _) ?_
  have pl := piled_le_tupleText ts
  have lts : ts.length = its.length := by rw [← p.1, rv.length]
  rw [tuple_repr_tree] ; rw [tupleReprUnderWay_eq]
  refine wpOwn_bind (wpOwn_stackTailAny hg (tupGuardF_off _) (tupGuardF_pos _) ?_)
  have no : (g.any fun c => tupGuardF (.ref a) (c, default)) = false := List.any_eq_false.mpr fun c hm => by
    rw [tupGuardF_of_clear cl c hm] ; decide
  rw [no]
  refine wpOwn_of_wpAny ?_
  show wpAny _ _ (tupleReprRest b (.ref a)) _ _ s
  unfold tupleReprRest ; unfold Builtin.Tuple.tupleItemsOf
  refine wpAny_bind (wpAny_bind (wpAny_seqItems ho hd (wpAny_pure ?_)))
  rw [← Array.forIn_toList]
  refine wpAny_bind (wpAny_mono (gfold (H0 := H0) sb2 (guards_under_guard (isGuard_tuple_repr_under _) hg) ((go.mono (Nat.le_succ m)).cons ta (Nat.lt_succ_self m)) its.toArray.toList xs ts #[] b s H (by simpa using rv) p (by omega) ex I) (fun q s' z => ?_) fun e s' h => h)
  obtain ⟨rfl, H', I', e'⟩ := z
  refine wpAny_bind (wpAny_mkStr (wpAny_pure ?_) (by simpa [tupleText, lts] using (show (tupleText ts).length ≤ sizeLine by omega)))
  have et : (Str.ofString "(" ++ (Str.ofString ", ").join (#[] ++ ts.toArray, b + piled ts).fst.toList ++ Str.ofString (if (its.toArray.size == 1) = true then ",)" else ")")) = tupleText ts := by simp [tupleText, lts]
  rw [et]
  exact ⟨⟨_, _, rfl⟩, _, _, rfl, rfl, H', I'.tok _, e'⟩
theorem units_in_loop (A : Around) (args : Args) : (A.under (.builtin "list.__repr__.loop" args)).units = A.units + 1 := units_under_list_loop A args
theorem strs_of : ∀ {ts : List Str} {us : List Value}, Vals (ts.map V.str) us → ∃ done : List (Str × Tok), us = strValues done ∧ done.map (·.1) = ts
  | [], _, .nil => ⟨[], rfl, rfl⟩
  | t :: ts, _, .cons r q => by
    obtain ⟨k, rfl⟩ := r
    obtain ⟨d, rfl, e⟩ := strs_of q
    exact ⟨(t, k) :: d, rfl, by rw [List.map_cons, e]⟩
theorem gloop {A : Around} {g : List Code} {a P : Addr} {pins : List (Addr × Obj)} {σ : L2.St} {xs : List V} {ts : List Str} {base m : Nat} {R : Result → Shared → Prop} (sb : Sub X (n + m + 1) A) (hg : A.guards = some g) (go : GOk X Own H0 g m) {t : Str} (ta : TxtAt X.K Own H0 (.ref a) t (m + 1)) (ha : SqL X.K H0 a xs) (p : RpAllG X Own n H0 xs ts m) (hPf : H0 P = none)
    (hsz : base + (listText ts).length ≤ sizeLine) (H1 : Hp) (hP1 : H1 P = none)
    (fin : ∀ u s', (∃ H', Inv X pins σ H' s' ∧ Ext H1 H') → R (.ok (.ret (.str (listText ts) u))) s') (fe : ∀ e s', X.xe e s' → R (.error e) s') :
    ∀ (k i : Nat) (s : Shared) (H : Hp), xs.length - i = k → i ≤ xs.length → Ext H0 H → Ext H1 H → Inv X pins σ H s → H P = some (.lst ((ts.take i).map V.str)) →
    codeAny (model X.prog X.w) A (.builtin "list.__repr__.loop" ⟨[.ref a, rawInt i, .ref P, rawInt ((base + piled (ts.take i) : Nat) : Int)], []⟩) R s := by
  have hX : (listText ts).length = (textFrom 0 "[" ts).length + 1 := by
    show (textFrom 0 "[" ts ++ "]").length = _
    rw [strLen_append]; rfl
  have hL := textFrom_len ts 0 "["
  have hlen : ts.length = xs.length := p.1.symm
  have hsz1 : xs.length ≤ sizeLine := by
    have h1 := hL.1
    rw [if_neg (Nat.lt_irrefl 0)] at h1
    omega
  have hsz2 : ∀ t ∈ ts, t.length ≤ sizeLine := fun t ht => by
    have h2 := hL.2.1 t ht
    omega
  have hsz3 : (listText ts).length ≤ sizeLine := by omega
  have hp3 := piled_le_listText ts
  intro k
  induction k with
  | zero =>
    intro i s H hk hi ex ex1 I hP
    have hin : i = xs.length := by omega
    obtain ⟨its, rv, ⟨o, na, ho, hc, hdn, hd⟩, _⟩ := I.list (ha.ext ex)
    have li := rv.length
    obtain ⟨ps, np, rp, hop, _⟩ := I.lst hP
    obtain ⟨done, rfl, hdone⟩ := strs_of rp
    refine codeAny_builtin F.entry_list_repr_loop ?_
    show wpAny _ _ (Builtin.«list.__repr__.loop» ⟨[.ref a, .int i 0, .ref P, .int ((base + piled (ts.take i) : Nat) : Int) 0], []⟩) _ _ s
    rw [repr_loop_tree]
    refine wpAny_bind (wpAny_listItems ho hd ?_)
    have hnone : its.toArray[(i : Int).toNat]? = none := by simp [hin, li]
    simp only [hnone]
    unfold reprEnd
    refine wpAny_bind (wpAny_listItems hop rfl ?_)
    rw [show (strValues done).toArray.toList = strValues done from rfl, repr_fold]
    refine wpAny_bind (wpAny_pure ?_)
    have hall : done.map (·.1) = ts := by rw [hdone, hin, ← hlen, List.take_length]
    rw [hall]
    refine wpAny_bind (wpAny_mkStr (wpAny_pure ?_) hsz3)
    exact fin _ _ ⟨H, I.tok _, ex1⟩
  | succ k ih =>
    intro i s H hk hi ex ex1 I hP
    have hlt : i < xs.length := by omega
    obtain ⟨its, rv, ⟨o, na, ho, hc, hdn, hd⟩, _⟩ := I.list (ha.ext ex)
    have li := rv.length
    obtain ⟨x, hx⟩ : ∃ x, xs[i]? = some x := ⟨_, List.getElem?_eq_getElem hlt⟩
    obtain ⟨t, ht⟩ : ∃ t, ts[i]? = some t := ⟨_, List.getElem?_eq_getElem (by omega)⟩
    obtain ⟨u, hu, ru⟩ := rv.get hx
    have hrep := p.2 i x t hx ht
    have hp1 := piled_take_succ ht
    have hp2 := piled_take_le ts (i + 1)
    refine codeAny_builtin F.entry_list_repr_loop ?_
    show wpAny _ _ (Builtin.«list.__repr__.loop» ⟨[.ref a, .int i 0, .ref P, .int ((base + piled (ts.take i) : Nat) : Int) 0], []⟩) _ _ s
    rw [repr_loop_tree]
    refine wpAny_bind (wpAny_listItems ho hd ?_)
    have hsome : its.toArray[(i : Int).toNat]? = some u := by simpa using hu
    simp only [hsome]
    rw [Int.toNat_natCast]
    have sb2 : Sub X (n + m) (A.under (.builtin "list.__repr__.loop" ⟨.ref a :: [.int i 0, .ref P, .int ((base + piled (ts.take i) : Nat) : Int) 0], []⟩)) := by
      refine sub_rp (n := n + m) sb a _ _ ?_ ?_ ?_ (units_under_list_loop _ _)
      · rfl
      · rfl
      · first | exact Nat.le_refl _ | exact Nat.le_succ _ | simp [Around.under, Code.weight, Code.isCreation, Code.isGuard, Code.isCaller, Code.frames, Code.isFrame, guardIds]
    refine wpAny_bind (wpAny_holding (wpAny_mono (hrep _ _ (base + piled (ts.take i) + 1) pins s σ H u sb2 (guards_under_guard (isGuard_list_loop _) hg) (go.cons ta (Nat.lt_succ_self m)) (by omega) ex I ru) (fun q s1 z => ?_) fun e s' y => fe e s' y))
    obtain ⟨rfl, H2, I2, e2⟩ := z
    refine wpAny_bind (wpAny_mkStr ?_ (hsz2 q (List.mem_of_getElem? ht)))
    refine wpAny_bind ?_
    show wpAny _ _ (updateSeq P _) _ _ _
    have hP2 := e2 _ _ hP
    obtain ⟨ps, np, rp, hop, hz⟩ := I2.lst hP2
    have lp := rp.length
    have tk : (ts.take (i + 1)).map V.str = (ts.take i).map V.str ++ [.str q] := by rw [List.take_succ, ht]; simp
    refine wpAny_updateSeq hop rfl (wpAny_pure ⟨F.quiet_list_repr_loop _, ?_⟩) (by rw [List.size_toArray, ← lp]; omega)
    have e3 : ((i : Int) + 1) = ((i + 1 : Nat) : Int) := by omega
    have e4 : base + piled (ts.take i) + (q.length + 2) = base + piled (ts.take (i + 1)) := by omega
    rw [e3, e4]
    have I3 := I2.lset (ys := (ts.take (i + 1)).map V.str) (its' := ps ++ [.str q s1.toks]) (f := fun xs => xs.push (.str q s1.toks)) (t' := s1.toks + 1) hP2 hop (by simp) (by rw [tk]; exact rp.append (.cons ⟨_, rfl⟩ .nil)) (by rw [List.length_map, List.length_take]; omega)
    exact ih (i + 1) _ _ (by omega) hlt (fun b o e => by rw [upd_ne (ne_of_none e hPf)]; exact e2 _ _ (ex _ _ e)) (fun b o e => by rw [upd_ne (ne_of_none e hP1)]; exact e2 _ _ (ex1 _ _ e)) I3 upd_same
theorem gl_body (oi : OwnIns Own) (oe : ∀ H H', Ext H H' → ∀ a t, Own H a t → Own H' a t) {A : Around} {g : List Code} {a : Addr} {pins : List (Addr × Obj)} {σ : L2.St} {xs : List V} {ts : List Str} {b m : Nat} {R : Result → Shared → Prop} {s : Shared} {H : Hp} (sb : Sub X (n + m + 1) A) (hg : A.guards = some g) (go : GOk X Own H0 g (m + 1)) (ta : TxtAt X.K Own H0 (.ref a) (listText ts) (m + 1)) (ha : SqL X.K H0 a xs) (p : RpAllG X Own n H0 xs ts m)
    (hsz : b + (listText ts).length ≤ sizeLine) (ex : Ext H0 H) (I : Inv X pins σ H s) (fin : ∀ u s', (∃ H', Inv X pins σ H' s' ∧ Ext H H') → R (.ok (.ret (.str (listText ts) u))) s') (fe : ∀ e s', X.xe e s' → R (.error e) s') :
    wpAny (model X.prog X.w) A.in1 (Builtin.listReprAt b ⟨[.ref a], []⟩) (fun f s' => match f with | .done f => R (.ok f) s' | .again c => c.quiet = true ∧ codeAny (model X.prog X.w) A c R s') (fun e s' => R (.error e) s') s := by
  obtain ⟨its, rv, ⟨o, na, ho, hc, hdn, hd⟩, _⟩ := I.list (ha.ext ex)
  cases rv with
  | nil =>
    have e : ts = [] := List.eq_nil_of_length_eq_zero (by rw [← p.1]; rfl)
    subst e
    refine wpAny_list_repr_empty ho hd ?_
    have z := fin s.toks { s with toks := s.toks + 1 } ⟨H, I.tok _, Ext.rfl'⟩
    rw [listText_nil] at z
    exact z
  | @cons x u xs us rx rr =>
    have cl : Clear g a := go.clear I oi ex (oe _ _ ex) ta
    refine wpAny_list_repr_head (A := A.in1) hg (fun v rest kw hm => listSameRef_of_ne (cl _ _ _ _ hm)) ho hd ?_
    refine wpAny_bind (m := newList []) (wpAny_newObj_type ?_)
    refine wpAny_pure ⟨F.quiet_list_repr_loop _, ?_⟩
    have fr : H s.heap.objs.size = none := I.fresh
    have fr0 : H0 s.heap.objs.size = none := by
      cases e : H0 s.heap.objs.size with
      | none => rfl
      | some o => rw [ex _ _ e] at fr; cases fr
    refine gloop (n := n) (P := s.heap.objs.size) (R := R) (σ := σ) (pins := pins) sb hg (go.mono (Nat.le_succ m)) ta ha p fr0 hsz H fr fin fe _ 0 _ (upd H s.heap.objs.size (.lst [])) rfl (Nat.zero_le _) (ex.trans (Ext.upd fr)) (Ext.upd fr) (I.lnew (ys := []) (its := []) (t' := s.toks) .nil (by decide)) upd_same
theorem RpG.lst (oi : OwnIns Own) (oe : ∀ H H', Ext H H' → ∀ a t, Own H a t → Own H' a t) {a : Addr} {xs : List V} {ts : List Str} {m : Nat} (ta : TxtAt X.K Own H0 (.ref a) (listText ts) (m + 1)) (ha : SqL X.K H0 a xs) (p : RpAllG X Own n H0 xs ts m) : RpG X Own n H0 (.ref a) (listText ts) (m + 1) := by
  intro A g b pins s σ H u sb hg go hb ex I r
  obtain rfl : u = Value.ref a := r
  obtain ⟨its, rv, ⟨o, na, ho, hc, hdn, hd⟩, _⟩ := I.list (ha.ext ex)
  refine wpAny_pyReprUnder_ref (by omega) ?_
  refine wpAny_pyReprObjUnder_twin (twin := "list.__repr__.under") ⟨o, ho, hc⟩ F.slot_list_repr.toG rfl sb.room.units0 ?_
  refine call_twin_plain F.plain_list_repr_under F.entry_list_repr_under F.check_list_repr_under ⟨o, ho, hc⟩ F.slot_list_repr.toG (F.args_list_repr_1 _) ?_
  refine gl_body (R := callEnd _ _) oi oe sb hg go ta ha p hb ex I (fun u s' q => ?_) (fun e s' q => q)
  exact ⟨⟨_, _, rfl⟩, _, _, rfl, rfl, q⟩
theorem rpG_dct {a : Addr} {ps : List Str} {kvs : List (Key × V)} (hr : ∀ (h : Heap) es vs, KV kvs vs → PySem.Pairs (mixKind X.prog X.w) es vs → ReprEntriesK X.prog X.w [] h 0 es ps) {m : Nat} (cl : ∀ g pins σ H s, GOk X Own H0 g 0 → Ext H0 H → Inv X pins σ H s → Clear g a) (h : H0 a = some (.dK kvs)) : RpG X Own n H0 (.ref a) (dictText ps) 0 := by
  intro A g b pins s σ H u sb hg go hb ex I r
  obtain rfl : u = Value.ref a := r
  obtain ⟨_, ns, vs, kv, o, es, ep, e1, e2, e3, _, e4, _⟩ := I.hok a _ (ex _ _ h)
  refine wpAny_pyReprUnder_ref (by omega) ?_
  have c := cl g pins σ H s go ex I
  have un := sb.room.un
  refine wpAny_pyReprObjUnder_dictK (as := []) (h₀ := s.heap) (d := 0) (ps := ps) e1 e2.1 e3 ns (by simp) (hr s.heap _ _ kv e4) hg (fun z hz => ?_) (by omega) (fun _ _ e => e) (fun h' u tk kept => ?_) hb
  · rcases List.mem_cons.mp hz with e | e
    · rw [e]
      exact c
    · cases e
  · exact ⟨_, _, rfl, rfl, H, I.kept (t' := tk) kept, Ext.rfl'⟩
mutual
theorem rpG_of (oi : OwnIns Own) (oe : ∀ H H', Ext H H' → ∀ a t, Own H a t → Own H' a t) (own : ∀ a t, Own H0 a t → RpI X n [] H0 (.ref a) t) : ∀ {v : V} {t : Str} {m : Nat}, TxtAt X.K Own H0 v t m → RpG X Own n H0 v t m
  | v, _, _, .flat h => by
    cases v with
    | non =>
      cases h
      exact .of (.is fun u r => by
        obtain rfl : u = Value.none := r
        exact ReprIs.none)
    | bl b =>
      cases h
      exact .of (.is fun u r => by
        obtain rfl : u = Value.bool b := r
        exact ReprIs.bool b)
    | int i =>
      have h : (if i.natAbs.log2 < 1920 then some ((toString i : String) : Str) else none) = some _ := h
      by_cases c : i.natAbs.log2 < 1920
      · rw [if_pos c] at h
        cases h
        exact .of (RpI.int c)
      · rw [if_neg c] at h
        cases h
    | _ => cases h
  | _, _, _, .str h => .of (RpI.str h)
  | _, _, _, .own h => .of (own _ _ h)
  | .ref a, _, _, .edict h => by
    refine rpG_dct (m := 0) (kvs := []) (fun h es vs kv pr => ?_) (fun g pins σ H s go ex I => ?_) h
    · cases kv
      cases pr
      exact .nil
    · have t := (TxtAt.edict (Own := Own) (K := X.K) h)
      exact go.clear I oi ex (oe _ _ ex) t
  | .ref a, _, _, .sdict (x := x) (i := i) h hx hi => by
    refine rpG_dct (m := 0) (kvs := [(.inr x, .int i)]) (fun h es vs kv pr => ?_) (fun g pins σ H s go ex I => ?_) h
    · cases kv with
      | cons k1 k2 =>
      cases k2
      cases pr with
      | cons p1 p2 p3 =>
      cases p3
      rename_i q e
      obtain ⟨j, r⟩ := q
      obtain ⟨k1, k2⟩ := k1
      cases k1
      obtain ⟨tv, rfl⟩ := (show ∃ t, r = Value.int i t from k2)
      obtain ⟨i', t', z, _⟩ | ⟨x', t', z, z2⟩ := keyIs_shape (k := .inr x) (v := e.key) p1
      · cases z
      · cases z
        refine .cons ?_ ?_ .nil
        · rw [z2]
          exact .of_is (ReprIs.str x t' hx) _ _ _
        · rw [p2]
          exact .of_is (ReprIs.int tv hi) _ _ _
    · exact go.clear I oi ex (oe _ _ ex) (TxtAt.sdict (Own := Own) (K := X.K) h hx hi)
  | _, _, _, .lst h p => .lst oi oe (.lst h p) h (rpAll_of oi oe own p)
  | _, _, _, .tup h p => .tup oi oe (.tup h p) h (rpAll_of oi oe own p)
theorem rpAll_of (oi : OwnIns Own) (oe : ∀ H H', Ext H H' → ∀ a t, Own H a t → Own H' a t) (own : ∀ a t, Own H0 a t → RpI X n [] H0 (.ref a) t) : ∀ {vs : List V} {ts : List Str} {m : Nat}, TxtAll X.K Own H0 vs ts m → RpAllG X Own n H0 vs ts m
  | _, _, _, .nil => ⟨rfl, fun i x y h _ => by simp at h⟩
  | _, _, _, .cons (n := j) (m := k) h p => by
    obtain ⟨l, r⟩ := rpAll_of oi oe own p
    refine ⟨by rw [List.length_cons, List.length_cons, l], fun i a b h1 h2 => ?_⟩
    cases i with
    | zero =>
      cases (show some _ = some a from h1)
      cases (show some _ = some b from h2)
      exact (rpG_of oi oe own h).mono (Nat.le_max_left _ _)
    | succ i => exact (r i a b h1 h2).mono (Nat.le_max_right _ _)
end
/-- repr(xs) of a list -/
theorem cr_reprL (M : Nat) (oi : OwnIns Own) (oe : ∀ H H', Ext H H' → ∀ a t, Own H a t → Own H' a t) (own : ∀ H a t, Own H a t → RpI X n [] H (.ref a) t) (gd : X.A.guards = some []) (hr : Room (n + M + 2) X.A) : CallR X (.builtin "repr") (fun xs H Q => ∃ (a : Addr) (ys : List V) (ts : List Str) (m : Nat), xs = [.ref a] ∧ SqL X.K H a ys ∧ TxtAll X.K Own H ys ts m ∧ m ≤ M ∧ (listText ts).length ≤ sizeLine ∧ ∀ H', Ext H H' → Q (.str (listText ts)) H') := by
  intro pins s σ H xs us Q I r h
  obtain ⟨a, ys, ts, m, rfl, ha, p, hm, hl, q⟩ := h
  obtain ⟨u, rfl, ru⟩ := vals1 r
  obtain rfl : u = Value.ref a := ru
  obtain ⟨its, rv, ⟨o, na, ho, hc, hdn, hd⟩, _⟩ := I.list ha
  have sb : Sub X (n + m + 1) X.A.in1 := Sub.in1 ⟨hr.mono (by omega), rfl⟩
  refine call_repr_slot (by have := hr.un; omega) ⟨o, ho, hc⟩ F.slot_list_repr.toG ?_
  refine wpAny_call (codeAny_call_builtin F.slot_list_repr.plain F.entry_list_repr (F.slot_list_repr.check _ _ _ _ _ _ _ _ ⟨o, ho, hc⟩ (F.args_list_repr_1 _) ?_))
  refine gl_body (R := callEnd _ _) (H0 := H) (g := []) (b := 0) oi oe sb (show X.A.in1.guards = _ from gd) (fun _ _ _ _ z => nomatch z) (.lst ha p) ha (rpAll_of oi oe (own H) p) (by omega) Ext.rfl' I (fun u s' q' => ?_) (fun e s' q => q)
  obtain ⟨H', I', e⟩ := q'
  exact ⟨_, _, rfl, .str _, H', I', ⟨_, rfl⟩, q H' e⟩
end
end Sz
/-! a != b, two lists whose items are the same: flat, one object, or lists again -/
namespace Sz
open PySem PySem.Spec PyProof.Rows L2
def EqL (K : PySem.W.Frag) (H : Hp) : Nat → V → V → Prop
  | 0 => fun _ _ => False
  | n + 1 => fun x y => (x = y ∧ flatB x = true) ∨ (∃ a, x = .ref a ∧ y = .ref a) ∨ ∃ (a b : Addr) (xs ys : List V), x = .ref a ∧ y = .ref b ∧ SqL K H a xs ∧ SqL K H b ys ∧ Paired (EqL K H n) xs ys
theorem items_at {A : Around} {s : Shared} {F : V → V → Prop} (ih : ∀ x y v u, F x y → RelV x v → RelV y u → SeqAt.EqAt A s v u true) {xs ys : List V} (hp : Paired F xs ys) :
    ∀ {us ws : List Value}, Vals xs us → Vals ys ws → ∀ j (h1 : j < us.length) (h2 : j < ws.length), SeqAt.EqAt A s us[j] ws[j] true := by
  induction hp with
  | nil =>
    intro us ws r1 r2 j h1 h2
    cases r1
    exact absurd h1 (Nat.not_lt_zero j)
  | cons h _ k =>
    intro us ws r1 r2 j h1 h2
    cases r1 with
    | cons a1 b1 =>
      cases r2 with
      | cons a2 b2 =>
        cases j with
        | zero => exact ih _ _ _ _ h a1 a2
        | succ j => exact k b1 b2 j (Nat.lt_of_succ_lt_succ h1) (Nat.lt_of_succ_lt_succ h2)
section
variable {X : Cx} {pins : List (Addr × Obj)} {σ : L2.St} {H : Hp} {s : Shared}
theorem eqL_at (I : Inv X pins σ H s) : ∀ (n : Nat) (A : Around), A.units + n < cLine → ∀ (x y : V) (v u : Value), EqL X.K H n x y → RelV x v → RelV y u → SeqAt.EqAt A s v u true
  | 0, _, _, _, _, _, _, h, _, _ => (show False from h).elim
  | n + 1, A, hu, x, y, v, u, h, rx, ry => by
    rcases h with ⟨rfl, f⟩ | ⟨a, rfl, rfl⟩ | ⟨a, b, xs, ys, rfl, rfl, ha, hb, hp⟩
    · exact eqAt_same rx ry f
    · cases (show v = Value.ref a from rx)
      cases (show u = Value.ref a from ry)
      exact SeqAt.EqAt.same _
    · cases (show v = Value.ref a from rx)
      cases (show u = Value.ref b from ry)
      by_cases e : a = b
      · subst e
        exact SeqAt.EqAt.same _
      · obtain ⟨us, r1, p1, _⟩ := I.list ha
        obtain ⟨ws, r2, p2, _⟩ := I.list hb
        have hsz : us.toArray.size = ws.toArray.size := by
          rw [List.size_toArray, List.size_toArray, ← r1.length, ← r2.length]
          exact Paired.length hp
        have step : SeqAt.RcAt A s (.ref a) (.ref b) ((List.range us.toArray.size).all fun _ => true) := SeqAt.RcAt.lists (e := fun _ => true) p1.isList p2.isList hsz (by omega) (fun j h1 h2 => by
          have k := items_at (eqL_at I n A.in1 (by show A.units + 1 + n < cLine; omega)) hp r1 r2 j (by simpa using h1) (by simpa using h2)
          simpa using k)
        rw [show ((List.range us.toArray.size).all fun _ => true) = true from List.all_eq_true.mpr fun _ _ => rfl] at step
        exact SeqAt.EqAt.of_refs e step
end
def rNeL (K : PySem.W.Frag) : R2 := fun x y H Q => ∃ n, n ≤ 60 ∧ (∃ (a b : Addr) (xs ys : List V), x = .ref a ∧ y = .ref b ∧ SqL K H a xs ∧ SqL K H b ys ∧ Paired (EqL K H n) xs ys) ∧ Q (.bl false) H
theorem op_neL {X : Cx} (hu : X.A.units + 64 < cLine) : OpR X (compareOp .NotEq) (rNeL X.K) := by
  intro pins s σ H x y v u Q I rx ry h
  obtain ⟨n, hn, ⟨a, b, xs, ys, rfl, rfl, ha, hb, hp⟩, q⟩ := h
  cases (show v = Value.ref a from rx)
  cases (show u = Value.ref b from ry)
  obtain ⟨us, r1, p1, _⟩ := I.list ha
  obtain ⟨ws, r2, p2, _⟩ := I.list hb
  have hsz : us.toArray.size = ws.toArray.size := by
    rw [List.size_toArray, List.size_toArray, ← r1.length, ← r2.length]
    exact Paired.length hp
  have step := SeqAt.RcNeAt.lists (A := X.A) (e := fun _ => true) p1.isList p2.isList hsz (by omega) (fun j h1 h2 => by
    have k := items_at (eqL_at I n X.A.in1 (by show X.A.units + 1 + n < cLine; omega)) hp r1 r2 j (by simpa using h1) (by simpa using h2)
    simpa using k)
  rw [show ((List.range us.toArray.size).all fun _ => true) = true from List.all_eq_true.mpr fun _ _ => rfl] at step
  exact step X.prog X.w _ _ ⟨.bl false, H, I, rfl, q⟩
end Sz
/-! a thing against data (the thing may be {}); a list against [] -/
namespace Sz
open PySem PySem.Spec PyProof.Rows L2
end Sz
namespace PySem.SeqAt
open PySem PySem.Spec PyProof.Rows
open MeetsSeq MeetsSeq2 MeetsSeq3 SeqRoads2
theorem sub_int_dict : isSubtype (.type "int") (.type "dict") = pure false := by rw [isSubtype_type]; kernel_rfl
theorem sub_dict_int : isSubtype (.type "dict") (.type "int") = pure false := by rw [isSubtype_type]; kernel_rfl
theorem dict_eq_declines_int (l : Addr) (es : Array DictEntry) (n : Nat) (b : Int) (u : Tok) :
    Meets (Builtin.«dict.__eq__» ⟨[.ref l, .int b u], []⟩) (fun _ R s => s.heap.get? l = some { cls := .type "dict", dict := none, data := .dict es n, slots := #[] } ∧ R (.ok (.ret .notImplemented)) s) :=
  .of_wp fun prog w A R s h => by
    obtain ⟨hp, g, d, tk, os⟩ := s
    obtain ⟨hl, h⟩ := h
    have f1 := sub_int_dict
    wp_walk using AutoSeq1.wpAny_loadPart' hl
    exact ⟨_, rfl, h⟩
theorem int_eq_declines_dict (b : Int) (u : Tok) (l : Addr) (es : Array DictEntry) (n : Nat) :
    Meets (Builtin.«int.__eq__» ⟨[.int b u, .ref l], []⟩) (fun _ R s => s.heap.get? l = some { cls := .type "dict", dict := none, data := .dict es n, slots := #[] } ∧ R (.ok (.ret .notImplemented)) s) :=
  .of_wp fun prog w A R s h => by
    obtain ⟨hp, g, d, tk, os⟩ := s
    obtain ⟨hl, h⟩ := h
    wp_walk using AutoSeq1.wpAny_loadPart' hl, wpAny_load hl
    exact ⟨_, rfl, h⟩
theorem RcAt.dict_int {A : Around} {s : Shared} {l : Addr} {es : Array DictEntry} {n : Nat} (b : Int) (u : Tok) (ho : s.heap.get? l = some { cls := .type "dict", dict := none, data := .dict es n, slots := #[] }) (hu : A.units < cLine) : RcAt A s (.ref l) (.int b u) false := fun prog w E Q h => by
  exact rc_eq_decline_or (k := false) ⟨_, ho, rfl⟩ (typeIs_int s b u) (by decide) sub_int_dict F.slot_dict_eq F.slot_int_eq_refl
    (fun _ hq => call_meets F.slot_dict_eq ⟨_, ho, rfl⟩ F.entry_dict_eq (F.args_dict_eq_2 _ _) (dict_eq_declines_int l es n b u) ⟨ho, hq⟩)
    (fun _ hq => call_meets F.slot_int_eq_refl (typeIs_int s b u) F.entry_int_eq (F.args_int_eq_2 _ _) (int_eq_declines_dict b u l es n) ⟨ho, hq⟩)
    (fun _ hq => wpAny_of_eq (rfl : isSame (.ref l) (.int b u) = pure false) hq) (.inr hu) h
end PySem.SeqAt
namespace Sz
open PySem PySem.Spec PyProof.Rows L2
/-- data, or {}, against an int -/
def rEqDE (K : PySem.W.Frag) : R2 := fun x y H Q => (∃ d e, Dp K H x d ∧ Dp K H y e ∧ SeqAt.shaped d = true ∧ SeqAt.shaped e = true ∧ Q (.bl (PyData.eqv d e)) H) ∨ ∃ a i, x = .ref a ∧ H a = some (.dK []) ∧ y = .int i ∧ Q (.bl false) H
section
variable {X : Cx}
theorem op_eqDE (hu : X.A.units + 64 < cLine) : OpR X (compareOp .Eq) (rEqDE X.K) := by
  intro pins s σ H x y v u Q I rx ry h
  rcases h with h | ⟨a, i, rfl, h, rfl, q⟩
  · exact op_eqD hu pins s σ H x y v u Q I rx ry h
  · cases (show v = Value.ref a from rx)
    obtain ⟨t, rfl⟩ := (show ∃ t, u = Value.int i t from ry)
    obtain ⟨_, ns, vs, kv, hd⟩ : ([] : List (Key × V)).length ≤ sizeLine ∧ (a == sysModules) = false ∧ ∃ vs, KV [] vs ∧ s.heap.DictOf (mixKind X.prog X.w) a vs := I.hok a _ h
    obtain ⟨⟨cls, dd, data, sl⟩, es, ep, e1, ⟨f1, f2, f3⟩, e3, _⟩ := hd
    simp only at f1 f2 f3 e3
    subst f1 f2 f3 e3
    exact SeqAt.RcAt.dict_int i t e1 (by omega) X.prog X.w _ _ ⟨.bl false, H, I, rfl, q⟩
/-- xs != [] -/
def rNeE (K : PySem.W.Frag) : R2 := fun x y H Q => ∃ (a b : Addr) (xs : List V), x = .ref a ∧ y = .ref b ∧ SqL K H a xs ∧ SqL K H b [] ∧ Q (.bl (!xs.isEmpty)) H
theorem op_neE (hu : X.A.units + 64 < cLine) : OpR X (compareOp .NotEq) (rNeE X.K) := by
  intro pins s σ H x y v u Q I rx ry h
  obtain ⟨a, b, xs, rfl, rfl, ha, hb, q⟩ := h
  cases xs with
  | nil => exact op_neL hu pins s σ H _ _ v u Q I rx ry ⟨1, by decide, ⟨a, b, [], [], rfl, rfl, ha, hb, .nil⟩, q⟩
  | cons x xs =>
    cases (show v = Value.ref a from rx)
    cases (show u = Value.ref b from ry)
    obtain ⟨us, r1, p1, _⟩ := I.list ha
    obtain ⟨ws, r2, p2, _⟩ := I.list hb
    have step := SeqAt.RcNeAt.lists_lengths (A := X.A) p1.isList p2.isList (by
      rw [List.size_toArray, List.size_toArray, ← r1.length, ← r2.length]
      simp) (by omega)
    exact step X.prog X.w _ _ ⟨.bl true, H, I, rfl, q⟩
/-- xs == [] -/
def rEqE (K : PySem.W.Frag) : R2 := fun x y H Q => ∃ (a b : Addr) (xs : List V), x = .ref a ∧ y = .ref b ∧ SqL K H a xs ∧ SqL K H b [] ∧ Q (.bl xs.isEmpty) H
theorem op_eqE (hu : X.A.units + 64 < cLine) : OpR X (compareOp .Eq) (rEqE X.K) := by
  intro pins s σ H x y v u Q I rx ry h
  obtain ⟨a, b, xs, rfl, rfl, ha, hb, q⟩ := h
  cases (show v = Value.ref a from rx)
  cases (show u = Value.ref b from ry)
  obtain ⟨us, r1, p1, _⟩ := I.list ha
  obtain ⟨ws, r2, p2, _⟩ := I.list hb
  cases xs with
  | nil =>
    cases r1
    cases r2
    have step := SeqAt.RcAt.lists (A := X.A) (e := fun _ => true) p1.isList p2.isList rfl (by omega) (fun j h1 h2 => absurd h1 (by simp))
    exact step X.prog X.w _ _ ⟨.bl true, H, I, rfl, q⟩
  | cons x xs =>
    have step := SeqAt.RcAt.lists_lengths (A := X.A) p1.isList p2.isList (by
      rw [List.size_toArray, List.size_toArray, ← r1.length, ← r2.length]
      simp) (by omega)
    exact step X.prog X.w _ _ ⟨.bl false, H, I, rfl, q⟩
end
end Sz
/-! methods called with a keyword; a list times an integer -/
namespace Sz
open PySem PySem.Spec PyProof.Rows L2
/-- a method's promise, its function known -/
structure PromMD (P : Program) (w : World) (K : PySem.W.Frag) (mg : Str → Option Value) (base : Heap) (CX : CXT) (k : Nat) (C m q : Str) (st : Stmt) (ps : List Str) (sp : Sp) : Prop where
  cl : Cls K (He.ga K C)
  me : Meth K (He.ga K C) m (He.ma K (He.ga K C) m)
  ex : ∃ fd, FnOk P w K mg base CX k (He.ma K (He.ga K C) m) fd ps sp ∧ Binds K fd ps [] ∧ FunD K m q (defArgs st) (defBody st) (defScope st) [] [] (He.ma K (He.ga K C) m) fd
theorem PromMD.m {P : Program} {w : World} {K : PySem.W.Frag} {mg : Str → Option Value} {base : Heap} {CX : CXT} {k : Nat} {C m q : Str} {st : Stmt} {ps : List Str} {sp : Sp} (h : PromMD P w K mg base CX k C m q st ps sp) : PromM P w K mg base CX k C m ps sp :=
  let ⟨fd, F, b, _⟩ := h.ex
  ⟨h.cl, h.me, fd, F, b⟩
theorem PromMD.of {P : Program} {w : World} {K : PySem.W.Frag} {mg : Str → Option Value} {base : Heap} {C m q : Str} {st : Stmt} {ps N : List Str} {sp : Sp} {k : Nat} (cl : Cls K (He.ga K C)) (me : Meth K (He.ga K C) m (He.ma K (He.ga K C) m)) (D : DefAtM K C m q st) (S : FnScope N ps (defScope st)) (len : ∀ vs H Q E, sp vs H Q E → vs.length = ps.length)
    (hb : ∀ (kV doc pm : Value) (an : Option Addr) (cdv ct : Value) (us : List Value), us.length = ps.length → bindArgs (PySem.W.fnOf m q (defArgs st) (defBody st) (defScope st) .none kV doc pm an cdv ct) ⟨us, []⟩ = pure (ps.zip us))
    (hbody : ∀ (f : Addr) (cdv : Value) (A : Around) (outer : List Env) (s : Shared) (H : Hp) (vs : List V) (Q : VK) (E : XK), Room k (A.deeper (envOfC q (defScope st) s.heap.objs.size f cdv)) → sp vs H Q E →
      ∃ t, PSs (cxOf CX0 P w K mg base N q (defScope st) f cdv A outer s H E).nox (defBody st) t ∧ t { nx := fun _ H' => Q .non H', rt := Q } (start N vs) H) :
    PromMD P w K mg base CX0 (k + 1) C m q st ps sp := by
  obtain ⟨fd, F⟩ := D
  refine ⟨cl, me, fd, F.ok S len (fun cdv A outer s H vs Q E hr hs => ?_), F.bindsN hb, F⟩
  obtain ⟨t, h1, h2⟩ := hbody _ cdv A outer s H vs Q E hr hs
  exact ⟨t, h1.nox, h2⟩
/-- the receiver and one value by its name -/
def two1 {α : Type} (us ws : List α) : List α := match us, ws with
  | [u], [w] => [u, w]
  | _, _ => []
theorem two1_vals {vs zs : List V} {us ws : List Value} (r : Vals vs us) (z : Vals zs ws) : Vals (two1 vs zs) (two1 us ws) := by
  cases r with
  | nil => exact .nil
  | cons a r =>
    cases r with
    | cons _ _ => exact .nil
    | nil =>
      cases z with
      | nil => exact .nil
      | cons b z =>
        cases z with
        | nil => exact .cons a (.cons b .nil)
        | cons _ _ => exact .nil
theorem kb_two {K : PySem.W.Frag} {m q : Str} {st : Stmt} {ps ks : List Str} {f : Addr} {fd : FuncData} (hne : ps.length = 2)
    (h : ∀ (kV doc pm : Value) (an : Option Addr) (cdv ct u w : Value), bindArgs (PySem.W.fnOf m q (defArgs st) (defBody st) (defScope st) .none kV doc pm an cdv ct) ⟨[u], ks.zip [w]⟩ = pure (ps.zip [u, w]))
    (F : FunD K m q (defArgs st) (defBody st) (defScope st) [] [] f fd) : KBinds K fd ps ks two1 two1 := by
  obtain ⟨oc, od, dV, kV, doc, pm, an, cdv, ct, osl, rfl, lk, hcd, hD, hK⟩ := F.ex
  rcases hD with ⟨_, rfl⟩ | ⟨e, _⟩
  · refine ⟨fun s us ws _ hl => ?_, fun r z => two1_vals r z⟩
    match us, ws with
    | [u], [w] => exact .of_eq (h kV doc pm an cdv ct u w)
    | [], _ => exact absurd hl (by show ¬ 0 = _; omega)
    | _ :: _ :: _, _ => exact absurd hl (by show ¬ 0 = _; omega)
    | [_], [] => exact absurd hl (by show ¬ 0 = _; omega)
    | [_], _ :: _ :: _ => exact absurd hl (by show ¬ 0 = _; omega)
  · exact absurd rfl e
/-- o.m(k = v) -/
def tMethK (C : Addr) (m : Str) (sp : Sp) (E : XK) (ta : TE) (tk : TA) : TE := fun σ H Q => ta σ H fun x H1 => ∃ a dx fs, x = .ref a ∧ H1 a = some (.ins C dx fs) ∧ fs.lookup m = none ∧
  tk σ H1 fun zs H2 => sp (two1 [x] zs) H2 Q E
section
variable {X : Cx} {CX : CXT} {k : Nat} {C m q : Str} {st : Stmt} {ps ks : List Str} {sp : Sp} {E : XK} {o : Expr} {kws : List Keyword} {ta : TE} {tk : TA} {apos pos : Pos}
theorem pe_methKP {pl : Sem Bool} (G : PromMD X.prog X.w X.K X.mg X.base CX k C m q st ps sp) (hr : Room k X.A) (hx : Passes CX X E) (hne : ps.length = 2)
    (hb : ∀ (kV doc pm : Value) (an : Option Addr) (cdv ct u w : Value), bindArgs (PySem.W.fnOf m q (defArgs st) (defBody st) (defScope st) .none kV doc pm an cdv ct) ⟨[u], ks.zip [w]⟩ = pure (ps.zip [u, w]))
    (he : PE X o ta) (hkw : PK X kws tk) (hall : (backToKw pos (keywordEach kws X.env)).all (·.1.isSome) = true := by rfl) (hks : (backToKw pos (keywordEach kws X.env)).filterMap (·.1) = ks := by rfl)
    (hpl : ((backTo pos (starEach [] X.env)).any (·.1) || (backToKw pos (keywordEach kws X.env)).any (·.1.isNone)) = false := by rfl)
    (ht : eval (.Call (.Attribute o m apos) [] kws pos) X.env = (do
      let ov ← eval o X.env
      standAt apos.atName
      let (f, first) ← holding [ov] (getMethod ov m pl)
      callWith pos f first (backTo pos (starEach [] X.env)) (backToKw pos (keywordEach kws X.env))) := by rfl) :
    PE X (.Call (.Attribute o m apos) [] kws pos) (tMethK (He.ga X.K C) m sp E ta tk) := by
  obtain ⟨fd, F, _, D⟩ := G.ex
  have kb := kb_two hne hb D
  refine ⟨fun pins s σ H Q I h => ?_⟩
  refine PySem.W.methodCall_KW (pl := pl) (thn (he.run pins s σ H _ I h) fun u s1 ⟨x, H1, I1, rx, a, dx, fs, ex, ea, l, q⟩ => ?_) ht
  subst ex
  obtain rfl : u = Value.ref a := rx
  refine getmeth_ok I1 ea G.cl G.me l ?_
  refine PySem.W.callWith_KW0 (first := [.ref a]) (h₀ := X.base) I.ok.mod.kin G.me.kp hall (thn (hkw.run pos pins s1 σ H1 _ I1 q) fun ws s2 ⟨zs, H2, I2, rz, q2⟩ => ⟨I2.kIn, ?_⟩) hpl
  rw [hks]
  exact run_fnk (us := [.ref a]) (vs := [.ref a]) F hr kb hx I2 (.cons rfl .nil) rz q2
end
/-! ### a list times an integer -/
theorem op_mulL {X : Cx} : OpR X (binaryOp .Mult) (fun x y H Q => ∃ (a : Addr) (xs : List V) (n : Nat), x = V.ref a ∧ y = V.int (n : Int) ∧ n ≤ 4 ∧ xs.length ≤ 1000 ∧ SqL X.K H a xs ∧ ∀ p, H p = none → Q (.ref p) (upd H p (.lst (List.replicate n xs).flatten))) := by
  intro pins s σ H x y v u Q I rx ry h
  obtain ⟨a, xs, k, rfl, rfl, k4, xl, hs, q⟩ := h
  obtain rfl : v = Value.ref a := rx
  obtain ⟨tk, rfl⟩ := ry
  obtain ⟨its, rv, ⟨⟨cls, dd, data, sl⟩, n, ho, hc, hdn, hd⟩, hlen⟩ := I.list hs
  have hc1 : cls = Value.type "list" := hc
  have hd1 : data = Data.seq its.toArray n := hd
  subst hc1 hd1
  have hz : its.length ≤ 1000 := by rw [← rv.length]; exact xl
  have hsl := sizeLine_eq
  have hm : its.toArray.size * ((k : Int)).toNat ≤ 4000 := by
    rw [List.size_toArray]
    show its.length * k ≤ 4000
    exact Nat.mul_le_mul hz k4
  have e0 : ((k : Nat) : Int).toNat = k := rfl
  have f0 : Builtin.List.listFitsIndex ((k : Nat) : Int) = true := by
    have : k = 0 ∨ k = 1 ∨ k = 2 ∨ k = 3 ∨ k = 4 := by omega
    rcases this with rfl | rfl | rfl | rfl | rfl <;> decide
  have f1 : ¬ its.toArray.size * ((k : Nat) : Int).toNat > (2 ^ 63 - 1) / 8 := by
    have : (4000 : Nat) ≤ (2 ^ 63 - 1) / 8 := by decide
    omega
  have f2 : ¬ Builtin.List.listTooLong (its.toArray.size * ((k : Nat) : Int).toNat) = true := fun z => by
    have z := of_decide_eq_true z
    omega
  clear hm
  generalize ((k : Nat) : Int) = x at *
  refine wpAny_binaryOp_repeat_ref (T := "list") (U := "int") (by decide) ⟨_, ho, rfl⟩ (fun s' => typeIs_int s' _ tk) noFill_list_mul F.fills_int_mul F.slot_int_rmul repeat_list F.slot_int_index.lookup
    (call_meets F.slot_int_rmul (typeIs_int s _ tk) F.entry_int_rmul (F.args_int_rmul_2 _ _) (lm_int_rmul_list_any x tk a its.toArray n dd sl)
      ⟨ho, rfl, ⟨_, ho, rfl⟩, call_meets F.slot_list_mul ⟨_, ho, rfl⟩ F.entry_list_mul (F.args_list_mul_2 _ _)
        (lm_list_mul_any a its.toArray n dd sl x tk (by rw [f0]; decide) f1 f2)
        (And.intro ho ?_)⟩)
  rw [listMul_foldl_if, e0]
  refine ⟨.ref s.heap.objs.size, upd H s.heap.objs.size (.lst (List.replicate k xs).flatten), I.laid (t' := s.toks) (fun b o e => Heap.get?_push_of_some _ e) (Nat.le_refl _) ⟨?_, _, 0, ?_, Heap.get?_push_size _ rfl⟩, rfl, q _ (I.hok.fresh (Nat.le_refl _))⟩
  · have key : ∀ j : Nat, (List.replicate j xs).flatten.length = j * xs.length := fun j => by
      induction j with
      | zero => simp
      | succ j ih => rw [List.replicate_succ, List.flatten_cons, List.length_append, ih, Nat.succ_mul, Nat.add_comm]
    rw [key]
    have := Nat.mul_le_mul k4 xl
    omega
  · show Vals (List.replicate k xs).flatten (List.replicate k its).flatten
    clear q f0 f1 f2 e0 k4
    induction k with
    | zero => exact .nil
    | succ k ih =>
      rw [List.replicate_succ, List.replicate_succ, List.flatten_cons, List.flatten_cons]
      exact rv.append ih
end Sz
/-! x(e, ..) where x tells an instance whose class has an own __call__ -/
namespace Sz
open PySem PySem.Spec PyProof.Rows L2
section
open PySem.W PySem.Calls
theorem callWith_inst {M : Model} {A : Around} {E : Value → Shared → Prop} {s : Shared} {pos : Pos} {y : Addr} {Q : Value → Shared → Prop} {ps : List (Bool × Sem Value)} (np : ps.any (·.1) = false)
    (go : wpAny M A (evalArgs (.ref y) true ps []) (fun a s2 => Looks M s2.heap (keeperOf (.ref y)) .caller ∧ wpAny M A (call (.ref y) ([] ++ a.pos) a.kw) Q E s2) E s) :
    wpAny M A (callWith pos (.ref y) [] ps []) Q E s := by
  have np2 : (ps.any (·.1) || ([] : List (Option Str × Sem Value)).any (·.1.isNone)) = false := by rw [np]; rfl
  unfold callWith
  refine wpAny_bind (wpAny_holding (wpAny_mono go (fun a s2 both => wpAny_bind (wpAny_standAt ?_)) fun _ _ z => z))
  obtain ⟨L, run⟩ := both
  simp only [np2]
  refine wpAny_bind (L.here ?_)
  have ends : ∀ {t : Sem Value}, wpAny M A t Q E s2 → wpAny M A (t >>= fun r => holding [r] point >>= fun _ => pure r) Q E s2 := fun ht =>
    wpAny_bind (wpAny_mono ht (fun r s3 hr => wpAny_bind (wpAny_holding (wpAny_point (wpAny_pure hr)))) fun _ _ z => z)
  exact ends (wpAny_operateT run)
end
/-- the def of a method is a function object -/
theorem fn_in {K : PySem.W.Frag} {C m q : Str} {st : Stmt} (D : DefAtM K C m q st) : PySem.W.fnIn K (He.ma K (He.ga K C) m) = true := by
  obtain ⟨fd, F⟩ := D
  obtain ⟨_, _, _, _, _, _, _, _, _, _, rfl, lk, _⟩ := F.ex
  unfold PySem.W.fnIn
  rw [lk]
def tCallO (C : Addr) (sp : Sp) (E : XK) (to : TE) (t : TA) : TE := fun σ H Q => to σ H fun x H0 => ∃ a : Addr, x = .ref a ∧ t σ H0 fun vs H1 => ∃ (dx : Addr) (fs : List (Str × V)), H1 a = some (.ins C dx fs) ∧ sp (.ref a :: vs) H1 Q E
section
variable {X : Cx} {CX : CXT} {k i : Nat} {C : Str} {ps : List Str} {sp : Sp} {E : XK} {x : Str} {p pos : Pos} {e : Expr} {es : List Expr} {t : TA}
theorem pe_callO (G : PromM X.prog X.w X.K X.mg X.base CX k C "__call__" ps sp) (fn : PySem.W.fnIn X.K (He.ma X.K (He.ga X.K C) "__call__") = true) (hr : Room k X.A) (hN : X.N[i]? = some x) (hv : Vis X.env.scope x) (hx : Passes CX X E) (ha : PA X (e :: es) t)
    (hdb : (x == ("__debug__" : Str)) = false := by decide) (hcd : (x == ("__classdict__" : Str)) = false := by decide)
    (he : starEach (e :: es) X.env = (false, eval e X.env) :: starEach es X.env := by rfl) (hpl : (backTo pos (starEach es X.env)).any (·.1) = false := by rfl) : PE X (.Call (.Name x p) (e :: es) [] pos) (tCallO (He.ga X.K C) sp E (tVar i) t) := by
  obtain ⟨fd, F, hb⟩ := G.ex
  refine ⟨fun pins s σ H Q I h => ?_⟩
  refine wpAny_Call_Name_kw (thn ((pe_var (pos := p) hN hv hdb hcd).run pins s σ H _ I h) fun u s1 ⟨v, H1, I1, r1, q1⟩ => ?_)
  obtain ⟨a, rfl, q1⟩ := q1
  obtain rfl : u = Value.ref a := r1
  refine callWith_inst (by rw [he]; exact hpl) ?_
  rw [he]
  refine PySem.Calls.evalArgs_plain ?_
  have run := ha.run pos pins s1 σ H1 _ I1 q1
  rw [he] at run
  refine thn run fun us s2 ⟨vs, H2, I2, r, dx, fs, ea, q⟩ => ?_
  obtain ⟨mA, O, _⟩ := ins_get I2.hok ea
  obtain ⟨od, J, _⟩ := O.look
  refine ⟨PySem.W.kco_keeper J rfl, ?_⟩
  have r2 : Vals (V.ref a :: vs) (Value.ref a :: us) := .cons rfl r
  have hl : (Value.ref a :: us).length = ps.length := by rw [← r2.length]; exact F.len _ _ _ _ q
  refine wpAny_call (PySem.W.kco_code (f := He.ma X.K (He.ga X.K C) "__call__") I2.kIn J rfl G.me.at_ G.me.fn fn ?_)
  have hb2 := hb s2 (Value.ref a :: us) I2.kIn (by rw [List.append_nil]; exact hl)
  rw [List.append_nil] at hb2
  refine codeAny_mono (F.run X.A X.stack s2 H2 ⟨Value.ref a :: us, []⟩ (Value.ref a :: us) (V.ref a :: vs) Q E hr I2.env0 hb2 r2 q) fun r s' hq => ?_
  cases r with
  | error e => exact hx pins σ H2 s2 e s' I2 hq
  | ok fl =>
    cases fl with
    | ret u => exact I2.after hq
    | next => exact False.elim hq
    | brk => exact False.elim hq
    | cont => exact False.elim hq
/-- f() -/
theorem pe_callP0 {k : Nat} {st : Stmt} (G : Prom X.prog X.w X.K X.mg X.base CX k x st ps sp) (hr : Room k X.A) (hg : Gl X x) (hx : Passes CX X E) (hdb : (x == ("__debug__" : Str)) = false := by decide) : PE X (.Call (.Name x p) [] [] pos) (tCall sp [] E tNil) := by
  obtain ⟨f, fd, F, hm, D, hb⟩ := G.ex
  exact pe_call0 F hr hg hm D.kp hb .nil hx hdb
end
end Sz
set_option maxHeartbeats 400000
set_option pp.maxSteps 900
namespace Sz
open PySem PySem.Spec PyProof.Rows L2
def top (i : Nat) : Stmt := PySem.Challenge.pw_sizestacks_k59_values_of_any_kind_judged.main.body.getD i (.Pass ⟨0, 0, 0, 0⟩)
abbrev s__wall : Stmt := top 0
theorem sc__wall : FnScope ["k"] ["k"] (defScope s__wall) := ⟨rfl, rfl, rfl, by decide +kernel, rfl, by decide +kernel, by decide +kernel⟩
abbrev s_is_integer : Stmt := top 25
theorem sc_is_integer : FnScope ["value"] ["value"] (defScope s_is_integer) := ⟨rfl, rfl, rfl, by decide +kernel, rfl, by decide +kernel, by decide +kernel⟩
abbrev s_is_between : Stmt := top 26
theorem sc_is_between : FnScope ["value", "least", "most"] ["value", "least", "most"] (defScope s_is_between) := ⟨rfl, rfl, rfl, by decide +kernel, rfl, by decide +kernel, by decide +kernel⟩
abbrev s_check_length : Stmt := top 27
theorem sc_check_length : FnScope ["value"] ["value"] (defScope s_check_length) := ⟨rfl, rfl, rfl, by decide +kernel, rfl, by decide +kernel, by decide +kernel⟩
abbrev s_check_base : Stmt := top 28
theorem sc_check_base : FnScope ["value"] ["value"] (defScope s_check_base) := ⟨rfl, rfl, rfl, by decide +kernel, rfl, by decide +kernel, by decide +kernel⟩
abbrev s_figures_of : Stmt := top 29
theorem sc_figures_of : FnScope ["length", "base", "count", "power", "eight", "turn"] ["length", "base"] (defScope s_figures_of) := ⟨rfl, rfl, rfl, by decide +kernel, rfl, by decide +kernel, by decide +kernel⟩
abbrev s_amount_of : Stmt := top 30
theorem sc_amount_of : FnScope ["word", "amount", "sign"] ["word"] (defScope s_amount_of) := ⟨rfl, rfl, rfl, by decide +kernel, rfl, by decide +kernel, by decide +kernel⟩
abbrev s_fault_in : Stmt := top 35
theorem sc_fault_in : FnScope ["kind", "numbers", "index", "least", "most"] ["kind", "numbers"] (defScope s_fault_in) := ⟨rfl, rfl, rfl, by decide +kernel, rfl, by decide +kernel, by decide +kernel⟩
abbrev s_begun : Stmt := top 36
theorem sc_begun : FnScope ["length", "whole"] ["length", "whole"] (defScope s_begun) := ⟨rfl, rfl, rfl, by decide +kernel, rfl, by decide +kernel, by decide +kernel⟩
abbrev s_total_of : Stmt := top 37
theorem sc_total_of : FnScope ["length", "base", "figures"] ["length", "base"] (defScope s_total_of) := ⟨rfl, rfl, rfl, by decide +kernel, rfl, by decide +kernel, by decide +kernel⟩
abbrev s_Wrap___init__ : Stmt := inClass (top 38) 0
theorem sc_Wrap___init__ : FnScope ["self", "kind", "numbers", "fault", "number"] ["self", "kind", "numbers"] (defScope s_Wrap___init__) := ⟨rfl, rfl, rfl, by decide +kernel, rfl, by decide +kernel, by decide +kernel⟩
abbrev s_Wrap_grown : Stmt := inClass (top 38) 2
theorem sc_Wrap_grown : FnScope ["self", "length", "base", "first", "last"] ["self", "length", "base"] (defScope s_Wrap_grown) := ⟨rfl, rfl, rfl, by decide +kernel, rfl, by decide +kernel, by decide +kernel⟩
abbrev s_Wrap___eq__ : Stmt := inClass (top 38) 4
theorem sc_Wrap___eq__ : FnScope ["self", "other"] ["self", "other"] (defScope s_Wrap___eq__) := ⟨rfl, rfl, rfl, by decide +kernel, rfl, by decide +kernel, by decide +kernel⟩
abbrev s_Wrap___repr__ : Stmt := inClass (top 38) 6
theorem sc_Wrap___repr__ : FnScope ["self"] ["self"] (defScope s_Wrap___repr__) := ⟨rfl, rfl, rfl, by decide +kernel, rfl, by decide +kernel, by decide +kernel⟩
abbrev s_in_pieces : Stmt := top 39
theorem sc_in_pieces : FnScope ["length", "most", "constant", "base", "size", "rest"] ["length", "most", "constant", "base"] (defScope s_in_pieces) := ⟨rfl, rfl, rfl, by decide +kernel, rfl, by decide +kernel, by decide +kernel⟩
abbrev s_wrap_in : Stmt := top 40
theorem sc_wrap_in : FnScope ["text", "words", "kind", "numbers", "word"] ["text"] (defScope s_wrap_in) := ⟨rfl, rfl, rfl, by decide +kernel, rfl, by decide +kernel, by decide +kernel⟩
abbrev s_check_wrap : Stmt := top 41
theorem sc_check_wrap : FnScope ["value"] ["value"] (defScope s_check_wrap) := ⟨rfl, rfl, rfl, by decide +kernel, rfl, by decide +kernel, by decide +kernel⟩
abbrev s_fineness_of : Stmt := top 43
theorem sc_fineness_of : FnScope ["wraps", "product", "wrap"] ["wraps"] (defScope s_fineness_of) := ⟨rfl, rfl, rfl, by decide +kernel, rfl, by decide +kernel, by decide +kernel⟩
abbrev s_check_wraps : Stmt := top 44
theorem sc_check_wraps : FnScope ["values", "most", "index", "value"] ["values", "most"] (defScope s_check_wraps) := ⟨rfl, rfl, rfl, by decide +kernel, rfl, by decide +kernel, by decide +kernel⟩
abbrev s_Stack___init__ : Stmt := inClass (top 45) 0
theorem sc_Stack___init__ : FnScope ["self", "base", "wraps", "fineness"] ["self", "base", "wraps"] (defScope s_Stack___init__) := ⟨rfl, rfl, rfl, by decide +kernel, rfl, by decide +kernel, by decide +kernel⟩
abbrev s_Stack_grown : Stmt := inClass (top 45) 2
theorem sc_Stack_grown : FnScope ["self", "length", "wrap"] ["self", "length"] (defScope s_Stack_grown) := ⟨rfl, rfl, rfl, by decide +kernel, rfl, by decide +kernel, by decide +kernel⟩
abbrev s_Stack___repr__ : Stmt := inClass (top 45) 12
theorem sc_Stack___repr__ : FnScope ["self"] ["self"] (defScope s_Stack___repr__) := ⟨rfl, rfl, rfl, by decide +kernel, rfl, by decide +kernel, by decide +kernel⟩
abbrev s_stack_in : Stmt := top 46
theorem sc_stack_in : FnScope ["text", "rows", "word", "gap", "rest", "base", "wraps", "row"] ["text"] (defScope s_stack_in) := ⟨rfl, rfl, rfl, by decide +kernel, rfl, by decide +kernel, by decide +kernel⟩
abbrev s_is_length : Stmt := top 49
theorem sc_is_length : FnScope ["value"] ["value"] (defScope s_is_length) := ⟨rfl, rfl, rfl, by decide +kernel, rfl, by decide +kernel, by decide +kernel⟩
abbrev s_stack_told : Stmt := top 50
theorem sc_stack_told : FnScope ["value"] ["value"] (defScope s_stack_told) := ⟨rfl, rfl, rfl, by decide +kernel, rfl, by decide +kernel, by decide +kernel⟩
abbrev s_are_integers : Stmt := top 51
theorem sc_are_integers : FnScope ["value", "count", "part"] ["value", "count"] (defScope s_are_integers) := ⟨rfl, rfl, rfl, by decide +kernel, rfl, by decide +kernel, by decide +kernel⟩
abbrev s_unlike_sizes : Stmt := top 52
theorem sc_unlike_sizes : FnScope ["rest", "longer", "one", "other", "length"] ["rest", "longer"] (defScope s_unlike_sizes) := ⟨rfl, rfl, rfl, by decide +kernel, rfl, by decide +kernel, by decide +kernel⟩
abbrev s_has_size : Stmt := top 53
theorem sc_has_size : FnScope ["rest", "stack"] ["rest"] (defScope s_has_size) := ⟨rfl, rfl, rfl, by decide +kernel, rfl, by decide +kernel, by decide +kernel⟩
abbrev s_shows_payload : Stmt := top 54
theorem sc_shows_payload : FnScope ["rest", "paper", "stack", "bound", "length"] ["rest", "paper"] (defScope s_shows_payload) := ⟨rfl, rfl, rfl, by decide +kernel, rfl, by decide +kernel, by decide +kernel⟩
abbrev s_shows_missed : Stmt := top 55
theorem sc_shows_missed : FnScope ["rest", "paper", "stack", "size"] ["rest", "paper"] (defScope s_shows_missed) := ⟨rfl, rfl, rfl, by decide +kernel, rfl, by decide +kernel, by decide +kernel⟩
abbrev s_shows_doubled : Stmt := top 56
theorem sc_shows_doubled : FnScope ["rest", "paper", "total"] ["rest", "paper"] (defScope s_shows_doubled) := ⟨rfl, rfl, rfl, by decide +kernel, rfl, by decide +kernel, by decide +kernel⟩
abbrev s_steps_told : Stmt := top 57
theorem sc_steps_told : FnScope ["steps", "found", "wraps", "step"] ["steps"] (defScope s_steps_told) := ⟨rfl, rfl, rfl, by decide +kernel, rfl, by decide +kernel, by decide +kernel⟩
abbrev s_first_stop : Stmt := top 58
theorem sc_first_stop : FnScope ["base", "steps", "length", "inner", "place", "step"] ["base", "steps", "length"] (defScope s_first_stop) := ⟨rfl, rfl, rfl, by decide +kernel, rfl, by decide +kernel, by decide +kernel⟩
abbrev s_shows_stopped : Stmt := top 59
theorem sc_shows_stopped : FnScope ["rest", "paper", "steps", "most", "next_one", "place"] ["rest", "paper"] (defScope s_shows_stopped) := ⟨rfl, rfl, rfl, by decide +kernel, rfl, by decide +kernel, by decide +kernel⟩
abbrev s_holds : Stmt := top 60
theorem sc_holds : FnScope ["claim", "paper", "word", "rest"] ["claim", "paper"] (defScope s_holds) := ⟨rfl, rfl, rfl, by decide +kernel, rfl, by decide +kernel, by decide +kernel⟩
abbrev s_stack_behind : Stmt := top 62
theorem sc_stack_behind : FnScope ["base", "steps", "wraps", "step"] ["base", "steps"] (defScope s_stack_behind) := ⟨rfl, rfl, rfl, by decide +kernel, rfl, by decide +kernel, by decide +kernel⟩
abbrev s_sizes_along : Stmt := top 63
theorem sc_sizes_along : FnScope ["base", "steps", "length", "found", "inner", "step", "size"] ["base", "steps", "length"] (defScope s_sizes_along) := ⟨rfl, rfl, rfl, by decide +kernel, rfl, by decide +kernel, by decide +kernel⟩
abbrev s_check_free : Stmt := top 64
theorem sc_check_free : FnScope ["road"] ["road"] (defScope s_check_free) := ⟨rfl, rfl, rfl, by decide +kernel, rfl, by decide +kernel, by decide +kernel⟩
abbrev s_check_push : Stmt := top 65
theorem sc_check_push : FnScope ["stack", "wrap"] ["stack", "wrap"] (defScope s_check_push) := ⟨rfl, rfl, rfl, by decide +kernel, rfl, by decide +kernel, by decide +kernel⟩
abbrev s_add_step : Stmt := top 66
theorem sc_add_step : FnScope ["road", "step"] ["road", "step"] (defScope s_add_step) := ⟨rfl, rfl, rfl, by decide +kernel, rfl, by decide +kernel, by decide +kernel⟩
abbrev s_Road___init__ : Stmt := inClass (top 67) 0
theorem sc_Road___init__ : FnScope ["self", "base"] ["self", "base"] (defScope s_Road___init__) := ⟨rfl, rfl, rfl, by decide +kernel, rfl, by decide +kernel, by decide +kernel⟩
abbrev s_Road___repr__ : Stmt := inClass (top 67) 13
theorem sc_Road___repr__ : FnScope ["self"] ["self"] (defScope s_Road___repr__) := ⟨rfl, rfl, rfl, by decide +kernel, rfl, by decide +kernel, by decide +kernel⟩
abbrev s_L_cell : Stmt := top 69
theorem sc_L_cell : FnScope ["_law_cells", "_law_k", "_law_found", "_law_cell_here"] ["_law_cells", "_law_k"] (defScope s_L_cell) := ⟨rfl, rfl, rfl, by decide +kernel, rfl, by decide +kernel, by decide +kernel⟩
abbrev s_L_pool : Stmt := top 70
theorem sc_L_pool : FnScope ["_law_cell_here", "_law_digits"] ["_law_cell_here"] (defScope s_L_pool) := ⟨rfl, rfl, rfl, by decide +kernel, rfl, by decide +kernel, by decide +kernel⟩
abbrev s_L_draw : Stmt := top 71
theorem sc_L_draw : FnScope ["_law_pool_here", "_law_many", "_law_digit"] ["_law_pool_here", "_law_many"] (defScope s_L_draw) := ⟨rfl, rfl, rfl, by decide +kernel, rfl, by decide +kernel, by decide +kernel⟩
abbrev s_L_good : Stmt := top 72
theorem sc_L_good : FnScope ["_law_found", "_law_some"] [] (defScope s_L_good) := ⟨rfl, rfl, rfl, by decide +kernel, rfl, by decide +kernel, by decide +kernel⟩
abbrev s_L_odd : Stmt := top 73
theorem sc_L_odd : FnScope ["_law_pool_here", "_law_way", "_law_odd_here"] ["_law_pool_here"] (defScope s_L_odd) := ⟨rfl, rfl, rfl, by decide +kernel, rfl, by decide +kernel, by decide +kernel⟩
abbrev s_L_put_in : Stmt := top 74
theorem sc_L_put_in : FnScope ["_law_pool_here", "_law_thing", "_law_odd_here", "_law_at"] ["_law_pool_here", "_law_thing", "_law_odd_here"] (defScope s_L_put_in) := ⟨rfl, rfl, rfl, by decide +kernel, rfl, by decide +kernel, by decide +kernel⟩
abbrev s_L_truths : Stmt := top 75
theorem sc_L_truths : FnScope ["_law_thing", "_law_found", "_law_k", "_law_part_here"] ["_law_thing"] (defScope s_L_truths) := ⟨rfl, rfl, rfl, by decide +kernel, rfl, by decide +kernel, by decide +kernel⟩
abbrev s_L_by_hand : Stmt := top 76
theorem sc_L_by_hand : FnScope ["_law_claim_here", "_law_page_here", "_law_other"] [] (defScope s_L_by_hand) := ⟨rfl, rfl, rfl, by decide +kernel, rfl, by decide +kernel, by decide +kernel⟩
abbrev s_L_right : Stmt := top 77
theorem sc_L_right : FnScope ["_law_cell_here", "_law_pool_here", "_law_good_here", "_law_turn", "_law_claim_here", "_law_page_here", "_law_way", "_law_odd_here", "_law_other", "_law_sure", "_law_due"] ["_law_cell_here"] (defScope s_L_right) := ⟨rfl, rfl, rfl, by decide +kernel, rfl, by decide +kernel, by decide +kernel⟩
abbrev s_law : Stmt := top 78
theorem sc_law : FnScope ["_law_cells", "_law_k"] ["_law_cells"] (defScope s_law) := ⟨rfl, rfl, rfl, by decide +kernel, rfl, by decide +kernel, by decide +kernel⟩
structure Tx (w : World) (K : PySem.W.Frag) (mg : Str → Option Value) : Prop where
  d__wall : DefAt K mg "_wall" s__wall
  d_is_integer : DefAt K mg "is_integer" s_is_integer
  d_is_between : DefAt K mg "is_between" s_is_between
  d_check_length : DefAt K mg "check_length" s_check_length
  d_check_base : DefAt K mg "check_base" s_check_base
  d_figures_of : DefAt K mg "figures_of" s_figures_of
  d_amount_of : DefAt K mg "amount_of" s_amount_of
  d_fault_in : DefAt K mg "fault_in" s_fault_in
  d_begun : DefAt K mg "begun" s_begun
  d_total_of : DefAt K mg "total_of" s_total_of
  d_in_pieces : DefAt K mg "in_pieces" s_in_pieces
  d_wrap_in : DefAt K mg "wrap_in" s_wrap_in
  d_check_wrap : DefAt K mg "check_wrap" s_check_wrap
  d_fineness_of : DefAt K mg "fineness_of" s_fineness_of
  d_check_wraps : DefAt K mg "check_wraps" s_check_wraps
  d_stack_in : DefAt K mg "stack_in" s_stack_in
  d_is_length : DefAt K mg "is_length" s_is_length
  d_stack_told : DefAt K mg "stack_told" s_stack_told
  d_are_integers : DefAt K mg "are_integers" s_are_integers
  d_unlike_sizes : DefAt K mg "unlike_sizes" s_unlike_sizes
  d_has_size : DefAt K mg "has_size" s_has_size
  d_shows_payload : DefAt K mg "shows_payload" s_shows_payload
  d_shows_missed : DefAt K mg "shows_missed" s_shows_missed
  d_shows_doubled : DefAt K mg "shows_doubled" s_shows_doubled
  d_steps_told : DefAt K mg "steps_told" s_steps_told
  d_first_stop : DefAt K mg "first_stop" s_first_stop
  d_shows_stopped : DefAt K mg "shows_stopped" s_shows_stopped
  d_holds : DefAt K mg "holds" s_holds
  d_stack_behind : DefAt K mg "stack_behind" s_stack_behind
  d_sizes_along : DefAt K mg "sizes_along" s_sizes_along
  d_check_free : DefAt K mg "check_free" s_check_free
  d_check_push : DefAt K mg "check_push" s_check_push
  d_add_step : DefAt K mg "add_step" s_add_step
  d_L_cell : DefAt K mg "_law_cell" s_L_cell
  d_L_pool : DefAt K mg "_law_pool" s_L_pool
  d_L_draw : DefAt K mg "_law_draw" s_L_draw
  d_L_good : DefAt K mg "_law_good" s_L_good
  d_L_odd : DefAt K mg "_law_odd" s_L_odd
  d_L_put_in : DefAt K mg "_law_put_in" s_L_put_in
  d_L_truths : DefAt K mg "_law_truths" s_L_truths
  d_L_by_hand : DefAt K mg "_law_by_hand" s_L_by_hand
  d_L_right : DefAt K mg "_law_right" s_L_right
  d_law : DefAt K mg "law" s_law
  b_abs : mg "abs" = none
  b_all : mg "all" = none
  b_bool : mg "bool" = none
  b_divmod : mg "divmod" = none
  b_enumerate : mg "enumerate" = none
  b_int : mg "int" = none
  b_isinstance : mg "isinstance" = none
  b_len : mg "len" = none
  b_list : mg "list" = none
  b_max : mg "max" = none
  b_min : mg "min" = none
  b_range : mg "range" = none
  b_repr : mg "repr" = none
  b_str : mg "str" = none
  b_tuple : mg "tuple" = none
  b_zip : mg "zip" = none
  c_MOST_LENGTH : ∃ u, mg "MOST_LENGTH" = some (.int 1000000000000000000000000000000000000000000000000000000000000 u)
  c_MOST_WRAPS : ∃ u, mg "MOST_WRAPS" = some (.int 6 u)
  c_MOST_FINENESS : ∃ u, mg "MOST_FINENESS" = some (.int 120 u)
  c_MOST_CONSTANT : ∃ u, mg "MOST_CONSTANT" = some (.int 1000 u)
  c_LEAST_BASE : ∃ u, mg "LEAST_BASE" = some (.int 2 u)
  c_MOST_BASE : ∃ u, mg "MOST_BASE" = some (.int 256 u)
  c_MOST_PIECE : ∃ u, mg "MOST_PIECE" = some (.int 60 u)
  c_MOST_CODE : ∃ u, mg "MOST_CODE" = some (.int 120 u)
  c_LAST_LENGTH : ∃ u, mg "LAST_LENGTH" = some (.int 999999999999999999999999999999999999999999999999999999999999 u)
  c_TENS : ∃ u, mg "TENS" = some (.str "0123456789" u)
  k_Wrap : mg "Wrap" = some (.ref (He.ga K "Wrap"))
  cl_Wrap : Cls K (He.ga K "Wrap")
  mk_Wrap : Mk K (He.ga K "Wrap") (He.ma K (He.ga K "Wrap") "__init__")
  is_Wrap : IsiK K (He.ga K "Wrap")
  na_Wrap_kind : NoAttr K (He.ga K "Wrap") "kind"
  na_Wrap_numbers : NoAttr K (He.ga K "Wrap") "numbers"
  na_Wrap_words : NoAttr K (He.ga K "Wrap") "words"
  me_Wrap___init__ : Meth K (He.ga K "Wrap") "__init__" (He.ma K (He.ga K "Wrap") "__init__")
  dm_Wrap___init__ : DefAtM K "Wrap" "__init__" "Wrap.__init__" s_Wrap___init__
  me_Wrap_grown : Meth K (He.ga K "Wrap") "grown" (He.ma K (He.ga K "Wrap") "grown")
  dm_Wrap_grown : DefAtM K "Wrap" "grown" "Wrap.grown" s_Wrap_grown
  me_Wrap___eq__ : Meth K (He.ga K "Wrap") "__eq__" (He.ma K (He.ga K "Wrap") "__eq__")
  dm_Wrap___eq__ : DefAtM K "Wrap" "__eq__" "Wrap.__eq__" s_Wrap___eq__
  me_Wrap___repr__ : Meth K (He.ga K "Wrap") "__repr__" (He.ma K (He.ga K "Wrap") "__repr__")
  dm_Wrap___repr__ : DefAtM K "Wrap" "__repr__" "Wrap.__repr__" s_Wrap___repr__
  k_Stack : mg "Stack" = some (.ref (He.ga K "Stack"))
  cl_Stack : Cls K (He.ga K "Stack")
  mk_Stack : Mk K (He.ga K "Stack") (He.ma K (He.ga K "Stack") "__init__")
  is_Stack : IsiK K (He.ga K "Stack")
  na_Stack_base : NoAttr K (He.ga K "Stack") "base"
  na_Stack_wraps : NoAttr K (He.ga K "Stack") "wraps"
  na_Stack_fineness : NoAttr K (He.ga K "Stack") "fineness"
  me_Stack___init__ : Meth K (He.ga K "Stack") "__init__" (He.ma K (He.ga K "Stack") "__init__")
  dm_Stack___init__ : DefAtM K "Stack" "__init__" "Stack.__init__" s_Stack___init__
  me_Stack_grown : Meth K (He.ga K "Stack") "grown" (He.ma K (He.ga K "Stack") "grown")
  dm_Stack_grown : DefAtM K "Stack" "grown" "Stack.grown" s_Stack_grown
  me_Stack___repr__ : Meth K (He.ga K "Stack") "__repr__" (He.ma K (He.ga K "Stack") "__repr__")
  dm_Stack___repr__ : DefAtM K "Stack" "__repr__" "Stack.__repr__" s_Stack___repr__
  k_Road : mg "Road" = some (.ref (He.ga K "Road"))
  cl_Road : Cls K (He.ga K "Road")
  mk_Road : Mk K (He.ga K "Road") (He.ma K (He.ga K "Road") "__init__")
  is_Road : IsiK K (He.ga K "Road")
  na_Road_base : NoAttr K (He.ga K "Road") "base"
  na_Road_steps : NoAttr K (He.ga K "Road") "steps"
  na_Road_stack : NoAttr K (He.ga K "Road") "stack"
  na_Road_busy : NoAttr K (He.ga K "Road") "busy"
  me_Road___init__ : Meth K (He.ga K "Road") "__init__" (He.ma K (He.ga K "Road") "__init__")
  dm_Road___init__ : DefAtM K "Road" "__init__" "Road.__init__" s_Road___init__
  me_Road___repr__ : Meth K (He.ga K "Road") "__repr__" (He.ma K (He.ga K "Road") "__repr__")
  dm_Road___repr__ : DefAtM K "Road" "__repr__" "Road.__repr__" s_Road___repr__
  ne_Road_Wrap : He.ga K "Road" ≠ He.ga K "Wrap"
  ne_Road_Stack : He.ga K "Road" ≠ He.ga K "Stack"
  kt : KitTab K ["Wrap", "Stack", "Road"]
  k_RANGES : mg "RANGES" = some (.ref (He.ga K "RANGES"))
  kd : ∃ es n, KDict K w (He.ga K "RANGES") es n
  rg : ∀ a : Wr, Rng K (He.ga K "RANGES") a.kind a.rng
  rn : ∀ z : Str, z ∉ kinds7 → PySem.W.nsIn K (He.ga K "RANGES") z = some none
def dd__wall : He.DefD := ⟨("_wall", none), "_wall", "_wall", defArgs s__wall, defBody s__wall, defScope s__wall, [], []⟩
def dd_is_integer : He.DefD := ⟨("is_integer", none), "is_integer", "is_integer", defArgs s_is_integer, defBody s_is_integer, defScope s_is_integer, [], []⟩
def dd_is_between : He.DefD := ⟨("is_between", none), "is_between", "is_between", defArgs s_is_between, defBody s_is_between, defScope s_is_between, [], []⟩
def dd_check_length : He.DefD := ⟨("check_length", none), "check_length", "check_length", defArgs s_check_length, defBody s_check_length, defScope s_check_length, [], []⟩
def dd_check_base : He.DefD := ⟨("check_base", none), "check_base", "check_base", defArgs s_check_base, defBody s_check_base, defScope s_check_base, [], []⟩
def dd_figures_of : He.DefD := ⟨("figures_of", none), "figures_of", "figures_of", defArgs s_figures_of, defBody s_figures_of, defScope s_figures_of, [], []⟩
def dd_amount_of : He.DefD := ⟨("amount_of", none), "amount_of", "amount_of", defArgs s_amount_of, defBody s_amount_of, defScope s_amount_of, [], []⟩
def dd_fault_in : He.DefD := ⟨("fault_in", none), "fault_in", "fault_in", defArgs s_fault_in, defBody s_fault_in, defScope s_fault_in, [], []⟩
def dd_begun : He.DefD := ⟨("begun", none), "begun", "begun", defArgs s_begun, defBody s_begun, defScope s_begun, [], []⟩
def dd_total_of : He.DefD := ⟨("total_of", none), "total_of", "total_of", defArgs s_total_of, defBody s_total_of, defScope s_total_of, [], []⟩
def dd_in_pieces : He.DefD := ⟨("in_pieces", none), "in_pieces", "in_pieces", defArgs s_in_pieces, defBody s_in_pieces, defScope s_in_pieces, [], []⟩
def dd_wrap_in : He.DefD := ⟨("wrap_in", none), "wrap_in", "wrap_in", defArgs s_wrap_in, defBody s_wrap_in, defScope s_wrap_in, [], []⟩
def dd_check_wrap : He.DefD := ⟨("check_wrap", none), "check_wrap", "check_wrap", defArgs s_check_wrap, defBody s_check_wrap, defScope s_check_wrap, [], []⟩
def dd_fineness_of : He.DefD := ⟨("fineness_of", none), "fineness_of", "fineness_of", defArgs s_fineness_of, defBody s_fineness_of, defScope s_fineness_of, [], []⟩
def dd_check_wraps : He.DefD := ⟨("check_wraps", none), "check_wraps", "check_wraps", defArgs s_check_wraps, defBody s_check_wraps, defScope s_check_wraps, [], []⟩
def dd_stack_in : He.DefD := ⟨("stack_in", none), "stack_in", "stack_in", defArgs s_stack_in, defBody s_stack_in, defScope s_stack_in, [], []⟩
def dd_is_length : He.DefD := ⟨("is_length", none), "is_length", "is_length", defArgs s_is_length, defBody s_is_length, defScope s_is_length, [], []⟩
def dd_stack_told : He.DefD := ⟨("stack_told", none), "stack_told", "stack_told", defArgs s_stack_told, defBody s_stack_told, defScope s_stack_told, [], []⟩
def dd_are_integers : He.DefD := ⟨("are_integers", none), "are_integers", "are_integers", defArgs s_are_integers, defBody s_are_integers, defScope s_are_integers, [], []⟩
def dd_unlike_sizes : He.DefD := ⟨("unlike_sizes", none), "unlike_sizes", "unlike_sizes", defArgs s_unlike_sizes, defBody s_unlike_sizes, defScope s_unlike_sizes, [], []⟩
def dd_has_size : He.DefD := ⟨("has_size", none), "has_size", "has_size", defArgs s_has_size, defBody s_has_size, defScope s_has_size, [], []⟩
def dd_shows_payload : He.DefD := ⟨("shows_payload", none), "shows_payload", "shows_payload", defArgs s_shows_payload, defBody s_shows_payload, defScope s_shows_payload, [], []⟩
def dd_shows_missed : He.DefD := ⟨("shows_missed", none), "shows_missed", "shows_missed", defArgs s_shows_missed, defBody s_shows_missed, defScope s_shows_missed, [], []⟩
def dd_shows_doubled : He.DefD := ⟨("shows_doubled", none), "shows_doubled", "shows_doubled", defArgs s_shows_doubled, defBody s_shows_doubled, defScope s_shows_doubled, [], []⟩
def dd_steps_told : He.DefD := ⟨("steps_told", none), "steps_told", "steps_told", defArgs s_steps_told, defBody s_steps_told, defScope s_steps_told, [], []⟩
def dd_first_stop : He.DefD := ⟨("first_stop", none), "first_stop", "first_stop", defArgs s_first_stop, defBody s_first_stop, defScope s_first_stop, [], []⟩
def dd_shows_stopped : He.DefD := ⟨("shows_stopped", none), "shows_stopped", "shows_stopped", defArgs s_shows_stopped, defBody s_shows_stopped, defScope s_shows_stopped, [], []⟩
def dd_holds : He.DefD := ⟨("holds", none), "holds", "holds", defArgs s_holds, defBody s_holds, defScope s_holds, [], []⟩
def dd_stack_behind : He.DefD := ⟨("stack_behind", none), "stack_behind", "stack_behind", defArgs s_stack_behind, defBody s_stack_behind, defScope s_stack_behind, [], []⟩
def dd_sizes_along : He.DefD := ⟨("sizes_along", none), "sizes_along", "sizes_along", defArgs s_sizes_along, defBody s_sizes_along, defScope s_sizes_along, [], []⟩
def dd_check_free : He.DefD := ⟨("check_free", none), "check_free", "check_free", defArgs s_check_free, defBody s_check_free, defScope s_check_free, [], []⟩
def dd_check_push : He.DefD := ⟨("check_push", none), "check_push", "check_push", defArgs s_check_push, defBody s_check_push, defScope s_check_push, [], []⟩
def dd_add_step : He.DefD := ⟨("add_step", none), "add_step", "add_step", defArgs s_add_step, defBody s_add_step, defScope s_add_step, [], []⟩
def dd_L_cell : He.DefD := ⟨("_law_cell", none), "_law_cell", "_law_cell", defArgs s_L_cell, defBody s_L_cell, defScope s_L_cell, [], []⟩
def dd_L_pool : He.DefD := ⟨("_law_pool", none), "_law_pool", "_law_pool", defArgs s_L_pool, defBody s_L_pool, defScope s_L_pool, [], []⟩
def dd_L_draw : He.DefD := ⟨("_law_draw", none), "_law_draw", "_law_draw", defArgs s_L_draw, defBody s_L_draw, defScope s_L_draw, [], []⟩
def dd_L_good : He.DefD := ⟨("_law_good", none), "_law_good", "_law_good", defArgs s_L_good, defBody s_L_good, defScope s_L_good, [], []⟩
def dd_L_odd : He.DefD := ⟨("_law_odd", none), "_law_odd", "_law_odd", defArgs s_L_odd, defBody s_L_odd, defScope s_L_odd, [], []⟩
def dd_L_put_in : He.DefD := ⟨("_law_put_in", none), "_law_put_in", "_law_put_in", defArgs s_L_put_in, defBody s_L_put_in, defScope s_L_put_in, [], []⟩
def dd_L_truths : He.DefD := ⟨("_law_truths", none), "_law_truths", "_law_truths", defArgs s_L_truths, defBody s_L_truths, defScope s_L_truths, [], []⟩
def dd_L_by_hand : He.DefD := ⟨("_law_by_hand", none), "_law_by_hand", "_law_by_hand", defArgs s_L_by_hand, defBody s_L_by_hand, defScope s_L_by_hand, [], []⟩
def dd_L_right : He.DefD := ⟨("_law_right", none), "_law_right", "_law_right", defArgs s_L_right, defBody s_L_right, defScope s_L_right, [], []⟩
def dd_law : He.DefD := ⟨("law", none), "law", "law", defArgs s_law, defBody s_law, defScope s_law, [], []⟩
def dd_Wrap___init__ : He.DefD := ⟨("Wrap", some "__init__"), "__init__", "Wrap.__init__", defArgs s_Wrap___init__, defBody s_Wrap___init__, defScope s_Wrap___init__, [], []⟩
def dd_Wrap_grown : He.DefD := ⟨("Wrap", some "grown"), "grown", "Wrap.grown", defArgs s_Wrap_grown, defBody s_Wrap_grown, defScope s_Wrap_grown, [], []⟩
def dd_Wrap___eq__ : He.DefD := ⟨("Wrap", some "__eq__"), "__eq__", "Wrap.__eq__", defArgs s_Wrap___eq__, defBody s_Wrap___eq__, defScope s_Wrap___eq__, [], []⟩
def dd_Wrap___repr__ : He.DefD := ⟨("Wrap", some "__repr__"), "__repr__", "Wrap.__repr__", defArgs s_Wrap___repr__, defBody s_Wrap___repr__, defScope s_Wrap___repr__, [], []⟩
def dd_Stack___init__ : He.DefD := ⟨("Stack", some "__init__"), "__init__", "Stack.__init__", defArgs s_Stack___init__, defBody s_Stack___init__, defScope s_Stack___init__, [], []⟩
def dd_Stack_grown : He.DefD := ⟨("Stack", some "grown"), "grown", "Stack.grown", defArgs s_Stack_grown, defBody s_Stack_grown, defScope s_Stack_grown, [], []⟩
def dd_Stack___repr__ : He.DefD := ⟨("Stack", some "__repr__"), "__repr__", "Stack.__repr__", defArgs s_Stack___repr__, defBody s_Stack___repr__, defScope s_Stack___repr__, [], []⟩
def dd_Road___init__ : He.DefD := ⟨("Road", some "__init__"), "__init__", "Road.__init__", defArgs s_Road___init__, defBody s_Road___init__, defScope s_Road___init__, [], []⟩
def dd_Road___repr__ : He.DefD := ⟨("Road", some "__repr__"), "__repr__", "Road.__repr__", defArgs s_Road___repr__, defBody s_Road___repr__, defScope s_Road___repr__, [], []⟩
def fnL : List He.DefD := [dd__wall, dd_is_integer, dd_is_between, dd_check_length, dd_check_base, dd_figures_of, dd_amount_of, dd_fault_in, dd_begun, dd_total_of, dd_in_pieces, dd_wrap_in, dd_check_wrap, dd_fineness_of, dd_check_wraps, dd_stack_in, dd_is_length, dd_stack_told, dd_are_integers, dd_unlike_sizes, dd_has_size, dd_shows_payload, dd_shows_missed, dd_shows_doubled, dd_steps_told, dd_first_stop, dd_shows_stopped, dd_holds, dd_stack_behind, dd_sizes_along, dd_check_free, dd_check_push, dd_add_step, dd_L_cell, dd_L_pool, dd_L_draw, dd_L_good, dd_L_odd, dd_L_put_in, dd_L_truths, dd_L_by_hand, dd_L_right, dd_law, dd_Wrap___init__, dd_Wrap_grown, dd_Wrap___eq__, dd_Wrap___repr__, dd_Stack___init__, dd_Stack_grown, dd_Stack___repr__, dd_Road___init__, dd_Road___repr__]
def faL : List He.Fa := [.glo "_wall", .glo "is_integer", .glo "is_between", .glo "check_length", .glo "check_base", .glo "figures_of", .glo "amount_of", .glo "fault_in", .glo "begun", .glo "total_of", .glo "in_pieces", .glo "wrap_in", .glo "check_wrap", .glo "fineness_of", .glo "check_wraps", .glo "stack_in", .glo "is_length", .glo "stack_told", .glo "are_integers", .glo "unlike_sizes", .glo "has_size", .glo "shows_payload", .glo "shows_missed", .glo "shows_doubled", .glo "steps_told", .glo "first_stop", .glo "shows_stopped", .glo "holds", .glo "stack_behind", .glo "sizes_along", .glo "check_free", .glo "check_push", .glo "add_step", .glo "_law_cell", .glo "_law_pool", .glo "_law_draw", .glo "_law_good", .glo "_law_odd", .glo "_law_put_in", .glo "_law_truths", .glo "_law_by_hand", .glo "_law_right", .glo "law", .free "abs", .free "all", .free "bool", .free "divmod", .free "enumerate", .free "int", .free "isinstance", .free "len", .free "list", .free "max", .free "min", .free "range", .free "repr", .free "str", .free "tuple", .free "zip", .int "MOST_LENGTH" 1000000000000000000000000000000000000000000000000000000000000, .int "MOST_WRAPS" 6, .int "MOST_FINENESS" 120, .int "MOST_CONSTANT" 1000, .int "LEAST_BASE" 2, .int "MOST_BASE" 256, .int "MOST_PIECE" 60, .int "MOST_CODE" 120, .int "LAST_LENGTH" 999999999999999999999999999999999999999999999999999999999999, .str "TENS" "0123456789", .glo "Wrap", .cls "Wrap", .mkr "Wrap", .noat "Wrap" "kind", .noat "Wrap" "numbers", .noat "Wrap" "words", .meth "Wrap" "__init__", .meth "Wrap" "grown", .meth "Wrap" "__eq__", .meth "Wrap" "__repr__", .glo "Stack", .cls "Stack", .mkr "Stack", .noat "Stack" "base", .noat "Stack" "wraps", .noat "Stack" "fineness", .meth "Stack" "__init__", .meth "Stack" "grown", .meth "Stack" "__repr__", .glo "Road", .cls "Road", .mkr "Road", .noat "Road" "base", .noat "Road" "steps", .noat "Road" "stack", .noat "Road" "busy", .meth "Road" "__init__", .meth "Road" "__repr__", .glo "RANGES"]
def loose0 : List Str := ["_wall", "is_integer", "is_between", "check_length", "check_base", "figures_of", "amount_of", "fault_in", "begun", "total_of", "in_pieces", "wrap_in", "check_wrap", "fineness_of", "check_wraps", "stack_in", "is_length", "stack_told", "are_integers", "unlike_sizes", "has_size", "shows_payload", "shows_missed", "shows_doubled", "steps_told", "first_stop", "shows_stopped", "holds", "stack_behind", "sizes_along"]
def loose1 : List Str := ["check_free", "check_push", "add_step", "_law_cell", "_law_pool", "_law_draw", "_law_good", "_law_odd", "_law_put_in", "_law_truths", "_law_by_hand", "_law_right", "Misfit", "Untimely", "Excess", "NotAWrap", "InvalidKind", "InvalidBase", "InvalidLength", "InvalidNumber", "InvalidText", "InvalidNumbers", "InvalidWraps", "NothingToPop", "Busy", "TooFine", "TooManyWraps", "Wrap", "Stack", "Road"]
def loose2 : List Str := ["MOST_LENGTH", "MOST_WRAPS", "MOST_FINENESS", "MOST_CONSTANT", "TENS", "LEAST_BASE", "MOST_BASE", "MOST_PIECE", "MOST_CODE", "RANGES", "LAST_LENGTH"]
def looseL : List Str := loose0 ++ loose1 ++ loose2
abbrev RR : PySem.W.OpenRow := PySem.W.OpenLaw.row PySem.Challenge.rw_sizestacks_k59_values_of_any_kind_judged
def tabL : List He.Tab := [(fun K => He.ga K "RANGES", ["plus", "told", "whole", "pieces", "cut", "coded", "filled"])]
def fbL (K : PySem.W.Frag) : Bool := [isiB K (He.ga K "Wrap"), isiB K (He.ga K "Stack"), isiB K (He.ga K "Road"), decide (He.ga K "Road" ≠ He.ga K "Wrap"), decide (He.ga K "Road" ≠ He.ga K "Stack"), kitTabB K ["Wrap", "Stack", "Road"], rngB K (He.ga K "RANGES") (Wr.plus 0).kind (Wr.plus 0).rng, rngB K (He.ga K "RANGES") (Wr.told 0).kind (Wr.told 0).rng, rngB K (He.ga K "RANGES") (Wr.whole 0).kind (Wr.whole 0).rng, rngB K (He.ga K "RANGES") (Wr.pieces 0 0).kind (Wr.pieces 0 0).rng, rngB K (He.ga K "RANGES") (Wr.cut 0 0).kind (Wr.cut 0 0).rng, rngB K (He.ga K "RANGES") (Wr.coded 0 0).kind (Wr.coded 0 0).rng, rngB K (He.ga K "RANGES") (Wr.filled 0).kind (Wr.filled 0).rng, keysB K (He.ga K "RANGES")].all id
abbrev hk : PySem.W.Hook := hookX 5 fbL faL fnL tabL
def ob (z : PySem.W.SharedT) : AlX := obsXG 5 fbL faL fnL tabL (HandSHeadRun.getT z)
theorem ob_eq (z : PySem.W.SharedT) : ob z = hk.obs z.abs := obsXG_eq (HandSHeadRun.getT_eq z)
theorem runF (w : World) : HandSHeadRun.RunEq RR (PySem.W.view RR.prog [78]) hk ob 30000 looseL (w.withFollow "special-get-raises" false) := by
  intro os
  kernel_rfl
theorem runT (w : World) : HandSHeadRun.RunEq RR (PySem.W.view RR.prog [78]) hk ob 30000 looseL (w.withFollow "special-get-raises" true) := by
  intro os
  kernel_rfl
theorem run (w : World) : HandSHeadRun.RunEq RR (PySem.W.view RR.prog [78]) hk ob 30000 looseL w :=
  PySem.W.byRow2 "special-get-raises" (P := fun w => HandSHeadRun.RunEq RR (PySem.W.view RR.prog [78]) hk ob 30000 looseL w) runF runT w
theorem tx_of {w : World} {K : PySem.W.Frag} {h : Heap} {mg : Str → Option Value} (X : K.In h) (G : h.Ns mainGlobals mg) (c0 : SaysX fbL faL fnL tabL w K) : Tx w K mg := by
  have c : He.SaysD faL fnL K := c0.t.d
  exact {
    d__wall := let ⟨fd, F⟩ := c.def_ 0 (d := dd__wall) rfl; ⟨_, fd, F, He.glo_ok X G (c.fact 0 (f := .glo "_wall") rfl)⟩,
    d_is_integer := let ⟨fd, F⟩ := c.def_ 1 (d := dd_is_integer) rfl; ⟨_, fd, F, He.glo_ok X G (c.fact 1 (f := .glo "is_integer") rfl)⟩,
    d_is_between := let ⟨fd, F⟩ := c.def_ 2 (d := dd_is_between) rfl; ⟨_, fd, F, He.glo_ok X G (c.fact 2 (f := .glo "is_between") rfl)⟩,
    d_check_length := let ⟨fd, F⟩ := c.def_ 3 (d := dd_check_length) rfl; ⟨_, fd, F, He.glo_ok X G (c.fact 3 (f := .glo "check_length") rfl)⟩,
    d_check_base := let ⟨fd, F⟩ := c.def_ 4 (d := dd_check_base) rfl; ⟨_, fd, F, He.glo_ok X G (c.fact 4 (f := .glo "check_base") rfl)⟩,
    d_figures_of := let ⟨fd, F⟩ := c.def_ 5 (d := dd_figures_of) rfl; ⟨_, fd, F, He.glo_ok X G (c.fact 5 (f := .glo "figures_of") rfl)⟩,
    d_amount_of := let ⟨fd, F⟩ := c.def_ 6 (d := dd_amount_of) rfl; ⟨_, fd, F, He.glo_ok X G (c.fact 6 (f := .glo "amount_of") rfl)⟩,
    d_fault_in := let ⟨fd, F⟩ := c.def_ 7 (d := dd_fault_in) rfl; ⟨_, fd, F, He.glo_ok X G (c.fact 7 (f := .glo "fault_in") rfl)⟩,
    d_begun := let ⟨fd, F⟩ := c.def_ 8 (d := dd_begun) rfl; ⟨_, fd, F, He.glo_ok X G (c.fact 8 (f := .glo "begun") rfl)⟩,
    d_total_of := let ⟨fd, F⟩ := c.def_ 9 (d := dd_total_of) rfl; ⟨_, fd, F, He.glo_ok X G (c.fact 9 (f := .glo "total_of") rfl)⟩,
    d_in_pieces := let ⟨fd, F⟩ := c.def_ 10 (d := dd_in_pieces) rfl; ⟨_, fd, F, He.glo_ok X G (c.fact 10 (f := .glo "in_pieces") rfl)⟩,
    d_wrap_in := let ⟨fd, F⟩ := c.def_ 11 (d := dd_wrap_in) rfl; ⟨_, fd, F, He.glo_ok X G (c.fact 11 (f := .glo "wrap_in") rfl)⟩,
    d_check_wrap := let ⟨fd, F⟩ := c.def_ 12 (d := dd_check_wrap) rfl; ⟨_, fd, F, He.glo_ok X G (c.fact 12 (f := .glo "check_wrap") rfl)⟩,
    d_fineness_of := let ⟨fd, F⟩ := c.def_ 13 (d := dd_fineness_of) rfl; ⟨_, fd, F, He.glo_ok X G (c.fact 13 (f := .glo "fineness_of") rfl)⟩,
    d_check_wraps := let ⟨fd, F⟩ := c.def_ 14 (d := dd_check_wraps) rfl; ⟨_, fd, F, He.glo_ok X G (c.fact 14 (f := .glo "check_wraps") rfl)⟩,
    d_stack_in := let ⟨fd, F⟩ := c.def_ 15 (d := dd_stack_in) rfl; ⟨_, fd, F, He.glo_ok X G (c.fact 15 (f := .glo "stack_in") rfl)⟩,
    d_is_length := let ⟨fd, F⟩ := c.def_ 16 (d := dd_is_length) rfl; ⟨_, fd, F, He.glo_ok X G (c.fact 16 (f := .glo "is_length") rfl)⟩,
    d_stack_told := let ⟨fd, F⟩ := c.def_ 17 (d := dd_stack_told) rfl; ⟨_, fd, F, He.glo_ok X G (c.fact 17 (f := .glo "stack_told") rfl)⟩,
    d_are_integers := let ⟨fd, F⟩ := c.def_ 18 (d := dd_are_integers) rfl; ⟨_, fd, F, He.glo_ok X G (c.fact 18 (f := .glo "are_integers") rfl)⟩,
    d_unlike_sizes := let ⟨fd, F⟩ := c.def_ 19 (d := dd_unlike_sizes) rfl; ⟨_, fd, F, He.glo_ok X G (c.fact 19 (f := .glo "unlike_sizes") rfl)⟩,
    d_has_size := let ⟨fd, F⟩ := c.def_ 20 (d := dd_has_size) rfl; ⟨_, fd, F, He.glo_ok X G (c.fact 20 (f := .glo "has_size") rfl)⟩,
    d_shows_payload := let ⟨fd, F⟩ := c.def_ 21 (d := dd_shows_payload) rfl; ⟨_, fd, F, He.glo_ok X G (c.fact 21 (f := .glo "shows_payload") rfl)⟩,
    d_shows_missed := let ⟨fd, F⟩ := c.def_ 22 (d := dd_shows_missed) rfl; ⟨_, fd, F, He.glo_ok X G (c.fact 22 (f := .glo "shows_missed") rfl)⟩,
    d_shows_doubled := let ⟨fd, F⟩ := c.def_ 23 (d := dd_shows_doubled) rfl; ⟨_, fd, F, He.glo_ok X G (c.fact 23 (f := .glo "shows_doubled") rfl)⟩,
    d_steps_told := let ⟨fd, F⟩ := c.def_ 24 (d := dd_steps_told) rfl; ⟨_, fd, F, He.glo_ok X G (c.fact 24 (f := .glo "steps_told") rfl)⟩,
    d_first_stop := let ⟨fd, F⟩ := c.def_ 25 (d := dd_first_stop) rfl; ⟨_, fd, F, He.glo_ok X G (c.fact 25 (f := .glo "first_stop") rfl)⟩,
    d_shows_stopped := let ⟨fd, F⟩ := c.def_ 26 (d := dd_shows_stopped) rfl; ⟨_, fd, F, He.glo_ok X G (c.fact 26 (f := .glo "shows_stopped") rfl)⟩,
    d_holds := let ⟨fd, F⟩ := c.def_ 27 (d := dd_holds) rfl; ⟨_, fd, F, He.glo_ok X G (c.fact 27 (f := .glo "holds") rfl)⟩,
    d_stack_behind := let ⟨fd, F⟩ := c.def_ 28 (d := dd_stack_behind) rfl; ⟨_, fd, F, He.glo_ok X G (c.fact 28 (f := .glo "stack_behind") rfl)⟩,
    d_sizes_along := let ⟨fd, F⟩ := c.def_ 29 (d := dd_sizes_along) rfl; ⟨_, fd, F, He.glo_ok X G (c.fact 29 (f := .glo "sizes_along") rfl)⟩,
    d_check_free := let ⟨fd, F⟩ := c.def_ 30 (d := dd_check_free) rfl; ⟨_, fd, F, He.glo_ok X G (c.fact 30 (f := .glo "check_free") rfl)⟩,
    d_check_push := let ⟨fd, F⟩ := c.def_ 31 (d := dd_check_push) rfl; ⟨_, fd, F, He.glo_ok X G (c.fact 31 (f := .glo "check_push") rfl)⟩,
    d_add_step := let ⟨fd, F⟩ := c.def_ 32 (d := dd_add_step) rfl; ⟨_, fd, F, He.glo_ok X G (c.fact 32 (f := .glo "add_step") rfl)⟩,
    d_L_cell := let ⟨fd, F⟩ := c.def_ 33 (d := dd_L_cell) rfl; ⟨_, fd, F, He.glo_ok X G (c.fact 33 (f := .glo "_law_cell") rfl)⟩,
    d_L_pool := let ⟨fd, F⟩ := c.def_ 34 (d := dd_L_pool) rfl; ⟨_, fd, F, He.glo_ok X G (c.fact 34 (f := .glo "_law_pool") rfl)⟩,
    d_L_draw := let ⟨fd, F⟩ := c.def_ 35 (d := dd_L_draw) rfl; ⟨_, fd, F, He.glo_ok X G (c.fact 35 (f := .glo "_law_draw") rfl)⟩,
    d_L_good := let ⟨fd, F⟩ := c.def_ 36 (d := dd_L_good) rfl; ⟨_, fd, F, He.glo_ok X G (c.fact 36 (f := .glo "_law_good") rfl)⟩,
    d_L_odd := let ⟨fd, F⟩ := c.def_ 37 (d := dd_L_odd) rfl; ⟨_, fd, F, He.glo_ok X G (c.fact 37 (f := .glo "_law_odd") rfl)⟩,
    d_L_put_in := let ⟨fd, F⟩ := c.def_ 38 (d := dd_L_put_in) rfl; ⟨_, fd, F, He.glo_ok X G (c.fact 38 (f := .glo "_law_put_in") rfl)⟩,
    d_L_truths := let ⟨fd, F⟩ := c.def_ 39 (d := dd_L_truths) rfl; ⟨_, fd, F, He.glo_ok X G (c.fact 39 (f := .glo "_law_truths") rfl)⟩,
    d_L_by_hand := let ⟨fd, F⟩ := c.def_ 40 (d := dd_L_by_hand) rfl; ⟨_, fd, F, He.glo_ok X G (c.fact 40 (f := .glo "_law_by_hand") rfl)⟩,
    d_L_right := let ⟨fd, F⟩ := c.def_ 41 (d := dd_L_right) rfl; ⟨_, fd, F, He.glo_ok X G (c.fact 41 (f := .glo "_law_right") rfl)⟩,
    d_law := let ⟨fd, F⟩ := c.def_ 42 (d := dd_law) rfl; ⟨_, fd, F, He.glo_ok X G (c.fact 42 (f := .glo "law") rfl)⟩,
    b_abs := He.free_ok X G (c.fact 43 (f := .free "abs") rfl),
    b_all := He.free_ok X G (c.fact 44 (f := .free "all") rfl),
    b_bool := He.free_ok X G (c.fact 45 (f := .free "bool") rfl),
    b_divmod := He.free_ok X G (c.fact 46 (f := .free "divmod") rfl),
    b_enumerate := He.free_ok X G (c.fact 47 (f := .free "enumerate") rfl),
    b_int := He.free_ok X G (c.fact 48 (f := .free "int") rfl),
    b_isinstance := He.free_ok X G (c.fact 49 (f := .free "isinstance") rfl),
    b_len := He.free_ok X G (c.fact 50 (f := .free "len") rfl),
    b_list := He.free_ok X G (c.fact 51 (f := .free "list") rfl),
    b_max := He.free_ok X G (c.fact 52 (f := .free "max") rfl),
    b_min := He.free_ok X G (c.fact 53 (f := .free "min") rfl),
    b_range := He.free_ok X G (c.fact 54 (f := .free "range") rfl),
    b_repr := He.free_ok X G (c.fact 55 (f := .free "repr") rfl),
    b_str := He.free_ok X G (c.fact 56 (f := .free "str") rfl),
    b_tuple := He.free_ok X G (c.fact 57 (f := .free "tuple") rfl),
    b_zip := He.free_ok X G (c.fact 58 (f := .free "zip") rfl),
    c_MOST_LENGTH := He.int_ok X G (c.fact 59 (f := .int "MOST_LENGTH" 1000000000000000000000000000000000000000000000000000000000000) rfl),
    c_MOST_WRAPS := He.int_ok X G (c.fact 60 (f := .int "MOST_WRAPS" 6) rfl),
    c_MOST_FINENESS := He.int_ok X G (c.fact 61 (f := .int "MOST_FINENESS" 120) rfl),
    c_MOST_CONSTANT := He.int_ok X G (c.fact 62 (f := .int "MOST_CONSTANT" 1000) rfl),
    c_LEAST_BASE := He.int_ok X G (c.fact 63 (f := .int "LEAST_BASE" 2) rfl),
    c_MOST_BASE := He.int_ok X G (c.fact 64 (f := .int "MOST_BASE" 256) rfl),
    c_MOST_PIECE := He.int_ok X G (c.fact 65 (f := .int "MOST_PIECE" 60) rfl),
    c_MOST_CODE := He.int_ok X G (c.fact 66 (f := .int "MOST_CODE" 120) rfl),
    c_LAST_LENGTH := He.int_ok X G (c.fact 67 (f := .int "LAST_LENGTH" 999999999999999999999999999999999999999999999999999999999999) rfl),
    c_TENS := He.str_ok X G (c.fact 68 (f := .str "TENS" "0123456789") rfl),
    k_Wrap := He.glo_ok X G (c.fact 69 (f := .glo "Wrap") rfl),
    cl_Wrap := He.cls_ok (c.fact 70 (f := .cls "Wrap") rfl),
    mk_Wrap := He.mkr_ok (c.fact 71 (f := .mkr "Wrap") rfl),
    na_Wrap_kind := He.noat_ok (c.fact 72 (f := .noat "Wrap" "kind") rfl),
    na_Wrap_numbers := He.noat_ok (c.fact 73 (f := .noat "Wrap" "numbers") rfl),
    na_Wrap_words := He.noat_ok (c.fact 74 (f := .noat "Wrap" "words") rfl),
    me_Wrap___init__ := He.meth_ok (c.fact 75 (f := .meth "Wrap" "__init__") rfl),
    me_Wrap_grown := He.meth_ok (c.fact 76 (f := .meth "Wrap" "grown") rfl),
    me_Wrap___eq__ := He.meth_ok (c.fact 77 (f := .meth "Wrap" "__eq__") rfl),
    me_Wrap___repr__ := He.meth_ok (c.fact 78 (f := .meth "Wrap" "__repr__") rfl),
    k_Stack := He.glo_ok X G (c.fact 79 (f := .glo "Stack") rfl),
    cl_Stack := He.cls_ok (c.fact 80 (f := .cls "Stack") rfl),
    mk_Stack := He.mkr_ok (c.fact 81 (f := .mkr "Stack") rfl),
    na_Stack_base := He.noat_ok (c.fact 82 (f := .noat "Stack" "base") rfl),
    na_Stack_wraps := He.noat_ok (c.fact 83 (f := .noat "Stack" "wraps") rfl),
    na_Stack_fineness := He.noat_ok (c.fact 84 (f := .noat "Stack" "fineness") rfl),
    me_Stack___init__ := He.meth_ok (c.fact 85 (f := .meth "Stack" "__init__") rfl),
    me_Stack_grown := He.meth_ok (c.fact 86 (f := .meth "Stack" "grown") rfl),
    me_Stack___repr__ := He.meth_ok (c.fact 87 (f := .meth "Stack" "__repr__") rfl),
    k_Road := He.glo_ok X G (c.fact 88 (f := .glo "Road") rfl),
    cl_Road := He.cls_ok (c.fact 89 (f := .cls "Road") rfl),
    mk_Road := He.mkr_ok (c.fact 90 (f := .mkr "Road") rfl),
    na_Road_base := He.noat_ok (c.fact 91 (f := .noat "Road" "base") rfl),
    na_Road_steps := He.noat_ok (c.fact 92 (f := .noat "Road" "steps") rfl),
    na_Road_stack := He.noat_ok (c.fact 93 (f := .noat "Road" "stack") rfl),
    na_Road_busy := He.noat_ok (c.fact 94 (f := .noat "Road" "busy") rfl),
    me_Road___init__ := He.meth_ok (c.fact 95 (f := .meth "Road" "__init__") rfl),
    me_Road___repr__ := He.meth_ok (c.fact 96 (f := .meth "Road" "__repr__") rfl),
    k_RANGES := He.glo_ok X G (c.fact 97 (f := .glo "RANGES") rfl),
    dm_Wrap___init__ := c.def_ 43 (d := dd_Wrap___init__) rfl,
    dm_Wrap_grown := c.def_ 44 (d := dd_Wrap_grown) rfl,
    dm_Wrap___eq__ := c.def_ 45 (d := dd_Wrap___eq__) rfl,
    dm_Wrap___repr__ := c.def_ 46 (d := dd_Wrap___repr__) rfl,
    dm_Stack___init__ := c.def_ 47 (d := dd_Stack___init__) rfl,
    dm_Stack_grown := c.def_ 48 (d := dd_Stack_grown) rfl,
    dm_Stack___repr__ := c.def_ 49 (d := dd_Stack___repr__) rfl,
    dm_Road___init__ := c.def_ 50 (d := dd_Road___init__) rfl,
    dm_Road___repr__ := c.def_ 51 (d := dd_Road___repr__) rfl,
    kd := c0.t.tab 0 (t := (fun K => He.ga K "RANGES", ["plus", "told", "whole", "pieces", "cut", "coded", "filled"])) rfl,
    rg := fun a => by
      cases a with
      | plus _ => exact rngB_ok (K := K) (kd := (Wr.plus 0).kind) (qs := (Wr.plus 0).rng) (List.all_eq_true.mp c0.b _ (.tail _ (.tail _ (.tail _ (.tail _ (.tail _ (.tail _ (.head _))))))))
      | told _ => exact rngB_ok (K := K) (kd := (Wr.told 0).kind) (qs := (Wr.told 0).rng) (List.all_eq_true.mp c0.b _ (.tail _ (.tail _ (.tail _ (.tail _ (.tail _ (.tail _ (.tail _ (.head _)))))))))
      | whole _ => exact rngB_ok (K := K) (kd := (Wr.whole 0).kind) (qs := (Wr.whole 0).rng) (List.all_eq_true.mp c0.b _ (.tail _ (.tail _ (.tail _ (.tail _ (.tail _ (.tail _ (.tail _ (.tail _ (.head _))))))))))
      | pieces _ _ => exact rngB_ok (K := K) (kd := (Wr.pieces 0 0).kind) (qs := (Wr.pieces 0 0).rng) (List.all_eq_true.mp c0.b _ (.tail _ (.tail _ (.tail _ (.tail _ (.tail _ (.tail _ (.tail _ (.tail _ (.tail _ (.head _)))))))))))
      | cut _ _ => exact rngB_ok (K := K) (kd := (Wr.cut 0 0).kind) (qs := (Wr.cut 0 0).rng) (List.all_eq_true.mp c0.b _ (.tail _ (.tail _ (.tail _ (.tail _ (.tail _ (.tail _ (.tail _ (.tail _ (.tail _ (.tail _ (.head _))))))))))))
      | coded _ _ => exact rngB_ok (K := K) (kd := (Wr.coded 0 0).kind) (qs := (Wr.coded 0 0).rng) (List.all_eq_true.mp c0.b _ (.tail _ (.tail _ (.tail _ (.tail _ (.tail _ (.tail _ (.tail _ (.tail _ (.tail _ (.tail _ (.tail _ (.head _)))))))))))))
      | filled _ => exact rngB_ok (K := K) (kd := (Wr.filled 0).kind) (qs := (Wr.filled 0).rng) (List.all_eq_true.mp c0.b _ (.tail _ (.tail _ (.tail _ (.tail _ (.tail _ (.tail _ (.tail _ (.tail _ (.tail _ (.tail _ (.tail _ (.tail _ (.head _)))))))))))))),
    rn := fun _ hz => keysB_ok (List.all_eq_true.mp c0.b _ (.tail _ (.tail _ (.tail _ (.tail _ (.tail _ (.tail _ (.tail _ (.tail _ (.tail _ (.tail _ (.tail _ (.tail _ (.tail _ (.head _))))))))))))))) hz,
    is_Wrap := isiB_ok (He.cls_ok (c.fact 70 (f := .cls "Wrap") rfl)) (List.all_eq_true.mp c0.b _ (.head _)),
    is_Stack := isiB_ok (He.cls_ok (c.fact 80 (f := .cls "Stack") rfl)) (List.all_eq_true.mp c0.b _ (.tail _ (.head _))),
    is_Road := isiB_ok (He.cls_ok (c.fact 89 (f := .cls "Road") rfl)) (List.all_eq_true.mp c0.b _ (.tail _ (.tail _ (.head _)))),
    ne_Road_Wrap := of_decide_eq_true (List.all_eq_true.mp c0.b _ (.tail _ (.tail _ (.tail _ (.head _))))),
    ne_Road_Stack := of_decide_eq_true (List.all_eq_true.mp c0.b _ (.tail _ (.tail _ (.tail _ (.tail _ (.head _)))))),
    kt := kitTab_ok (List.all_eq_true.mp c0.b _ (.tail _ (.tail _ (.tail _ (.tail _ (.tail _ (.head _))))))) }
def spLaw (K : PySem.W.Frag) : Sp := fun vs H Q _ => ∃ (a : Addr) (ns : List Int), vs = [.ref a] ∧ SqL K H a (ns.map V.int) ∧ ns.length ≤ 63 ∧ (∀ z ∈ ns, Builtin.Int.intBits z ≤ 1048576) ∧ ∀ H', Q (.bl true) H'

/-! ### what a number is (for numbers alone) -/
def spIsInt : Sp := fun vs H Q _ => ∃ i : Int, vs = [.int i] ∧ Q (.bl true) H
def spBetween : Sp := fun vs H Q _ => ∃ v l m : Int, vs = [.int v, .int l, .int m] ∧ Q (.bl (decide (l ≤ v ∧ v ≤ m))) H
def spLength : Sp := fun vs H Q _ => ∃ n : Int, vs = [.int n] ∧ 0 ≤ n ∧ n ≤ 10 ^ 60 - 1 ∧ Q .non H
def spBase : Sp := fun vs H Q _ => ∃ n : Int, vs = [.int n] ∧ 2 ≤ n ∧ n ≤ 256 ∧ Q .non H
def spFig : Sp := fun vs H Q _ => ∃ n b : Int, vs = [.int n, .int b] ∧ 2 ≤ b ∧ b ≤ 256 ∧ n < 2 ^ 4000 ∧ ∀ k, IsF b n k → Q (.int k) H
section
variable {P : Program} {w : World} {K : PySem.W.Frag} {mg : Str → Option Value} {base : Heap}
theorem ok_is_integer (T : Tx w K mg) : Prom P w K mg base CX0 1 "is_integer" s_is_integer ["value"] spIsInt := by
  refine Prom.of T.d_is_integer sc_is_integer (fun vs H Q E h => ?_) (fun _ _ _ _ _ _ us hl => match us, hl with | [_], _ => rfl) (fun f cdv A outer s H vs Q E hr h => ?_)
  · obtain ⟨i, rfl, _⟩ := h
    rfl
  · obtain ⟨i, rfl, k⟩ := h
    refine ⟨_, (pss_one (ps_ret (pe_and (pe_callB call_isi (by rfl) T.b_isinstance (by decide +kernel) (pa_cons (pv 0) (pa_cons (pe_bltn (v := .ty "int") (by rfl) T.b_int (by decide +kernel) rfl) pa_nil))) (pe_and (pe_cmpR op_isnotBl (pv 0) pe_bl (nomark _)) (pe_one (pe_cmpR op_isnotBl (pv 0) pe_bl (nomark _))))))), ?_⟩
    refine ⟨_, rfl, _, _, _, _, true, rfl, .ty _, .base (.int _), kit_ty (by decide +kernel), true, rfl, iteT ?_⟩
    refine ⟨_, rfl, _, rfl, true, rfl, iteT ?_⟩
    exact ⟨_, rfl, _, rfl, k⟩
theorem ok_is_between (T : Tx w K mg) : Prom P w K mg base CX0 2 "is_between" s_is_between ["value", "least", "most"] spBetween := by
  refine Prom.of T.d_is_between sc_is_between (fun vs H Q E h => ?_) (fun _ _ _ _ _ _ us hl => match us, hl with | [_, _, _], _ => rfl) (fun f cdv A outer s H vs Q E hr h => ?_)
  · obtain ⟨v, l, m, rfl, _⟩ := h
    rfl
  · obtain ⟨v, l, m, rfl, k⟩ := h
    refine ⟨_, (pss_one (ps_ret (pe_and (pe_callP (ok_is_integer T) (hr.mono (by decide)) (by rfl) pass0 (pa_cons (pv 0) pa_nil)) (pe_one (pe_chain op_le op_le (pv 1) (pv 0) (pv 2)))))), ?_⟩
    refine ⟨_, rfl, v, rfl, true, rfl, iteT ?_⟩
    refine ⟨_, rfl, _, rfl, _, _, rfl, rfl, _, rfl, ifd (fun h1 => ?_) (fun h1 => ?_)⟩
    · refine ⟨_, rfl, _, _, rfl, rfl, ?_⟩
      show Q (.bl (decide (v ≤ m))) H
      have e : decide (v ≤ m) = decide (l ≤ v ∧ v ≤ m) := by simp [h1]
      rw [e]
      exact k
    · show Q (.bl false) H
      have e : false = decide (l ≤ v ∧ v ≤ m) := by simp [h1]
      rw [e]
      exact k
end
section
variable {P : Program} {w : World} {K : PySem.W.Frag} {mg : Str → Option Value} {base : Heap}
theorem ok_check_length (T : Tx w K mg) : Prom P w K mg base CX0 3 "check_length" s_check_length ["value"] spLength := by
  refine Prom.of T.d_check_length sc_check_length (fun vs H Q E h => ?_) (fun _ _ _ _ _ _ us hl => match us, hl with | [_], _ => rfl) (fun f cdv A outer s H vs Q E hr h => ?_)
  · obtain ⟨i, rfl, _⟩ := h
    rfl
  · obtain ⟨i, rfl, h0, h1, k⟩ := h
    refine ⟨_, (pss_one (ps_if (pt_not (pt_val (pe_callP (ok_is_between T) (hr.mono (by decide)) (by rfl) pass0 (pa_cons (pv 0) (pa_cons pe_int (pa_cons (pe_op op_sub (pe_gint T.c_MOST_LENGTH) pe_int) pa_nil)))))) (pss_one ps_never) pss_nil)), ?_⟩
    refine ⟨_, rfl, _, _, rfl, rfl, _, _, _, rfl, _, rfl, ?_⟩
    exact ifn (fun c => absurd (show (0 : Int) ≤ i ∧ i ≤ _ from ⟨h0, by omega⟩) c) (fun _ => k)
end
section
variable {P : Program} {w : World} {K : PySem.W.Frag} {mg : Str → Option Value} {base : Heap}
theorem ok_check_base (T : Tx w K mg) : Prom P w K mg base CX0 3 "check_base" s_check_base ["value"] spBase := by
  refine Prom.of T.d_check_base sc_check_base (fun vs H Q E h => ?_) (fun _ _ _ _ _ _ us hl => match us, hl with | [_], _ => rfl) (fun f cdv A outer s H vs Q E hr h => ?_)
  · obtain ⟨i, rfl, _⟩ := h
    rfl
  · obtain ⟨i, rfl, h0, h1, k⟩ := h
    refine ⟨_, (pss_one (ps_if (pt_not (pt_val (pe_callP (ok_is_between T) (hr.mono (by decide)) (by rfl) pass0 (pa_cons (pv 0) (pa_cons (pe_gint T.c_LEAST_BASE) (pa_cons (pe_gint T.c_MOST_BASE) pa_nil)))))) (pss_one ps_never) pss_nil)), ?_⟩
    refine ⟨_, rfl, _, _, _, rfl, _, rfl, ?_⟩
    exact ifn (fun c => absurd (show (2 : Int) ≤ i ∧ i ≤ 256 from ⟨h0, h1⟩) c) (fun _ => k)
end
section
variable {P : Program} {w : World} {K : PySem.W.Frag} {mg : Str → Option Value} {base : Heap}
theorem fig_mul {b p e n : Int} {j : Nat} (hb : 2 ≤ b) (hb2 : b ≤ 256) (hn : n < 2 ^ 4000) (hp : p = b ^ (j + 1)) (hj : j = 0 ∨ b ^ j ≤ n) (he : e = b ^ 8) : CMulW p e := by
  have b8 : b ^ 8 ≤ 256 ^ 8 := by
    have g : ∀ m : Nat, b ^ m ≤ 256 ^ m := fun m => by
      induction m with
      | zero => rw [Int.pow_zero, Int.pow_zero]; exact Int.le_refl _
      | succ m ih =>
        rw [Int.pow_succ, Int.pow_succ]
        exact Int.mul_le_mul ih hb2 (by omega) (Int.le_of_lt (Int.lt_of_lt_of_le (by decide) (pow_pos (show (1 : Int) ≤ 256 by decide) m)))
    exact g 8
  have p1 := pow_pos (show 1 ≤ b by omega) (j + 1)
  have p8 := pow_pos (show 1 ≤ b by omega) 8
  have hq : b ^ j ≤ 2 ^ 4000 := by
    rcases hj with h | h
    · rw [h, Int.pow_zero]
      exact pow_pos (by decide) 4000
    · omega
  have pj := pow_pos (show 1 ≤ b by omega) j
  have hp2 : p ≤ 2 ^ 4000 * 256 := by
    rw [hp, Int.pow_succ]
    exact Int.mul_le_mul hq hb2 (by omega) (Int.le_of_lt (Int.lt_of_lt_of_le (by decide) (pow_pos (show (1 : Int) ≤ 2 by decide) 4000)))
  refine wide_mul (a := 4009) (b := 65) ?_ ?_ (by decide) (by decide) (by decide)
  · have h1 : p < 2 ^ 4009 := Int.lt_of_le_of_lt hp2 (by decide)
    have h2 : ((p.natAbs : Nat) : Int) < ((2 ^ 4009 : Nat) : Int) := by
      rw [Int.natCast_pow]
      have e : ((2 : Nat) : Int) = 2 := rfl
      rw [e]
      omega
    exact Int.ofNat_lt.mp h2
  · have h1 : e < 2 ^ 65 := by
      rw [he]
      exact Int.lt_of_le_of_lt b8 (by decide)
    have h2 : ((e.natAbs : Nat) : Int) < ((2 ^ 65 : Nat) : Int) := by
      rw [Int.natCast_pow]
      have e : ((2 : Nat) : Int) = 2 := rfl
      rw [e]
      omega
    exact Int.ofNat_lt.mp h2
theorem ok_figures_of (T : Tx w K mg) : Prom P w K mg base CX0 1 "figures_of" s_figures_of ["length", "base"] spFig := by
  refine Prom.of T.d_figures_of sc_figures_of (fun vs H Q E h => ?_) (fun _ _ _ _ _ _ us hl => match us, hl with | [_, _], _ => rfl) (fun f cdv A outer s H vs Q E hr h => ?_)
  · obtain ⟨n, b, rfl, _⟩ := h
    rfl
  · obtain ⟨n, b, rfl, hb, hb2, hn, k⟩ := h
    refine ⟨_, (pss_cons (ps_par3 (i := 2) (j := 3) (l := 4) (by rfl) sc_figures_of.nd rfl rfl rfl (by decide) (by decide) (by decide) rfl rfl rfl (pa_cons pe_int (pa_cons (pv 1) (pa_cons pe_int pa_nil))) (by rfl))
      (pss_cons (ps_for PassesOwn.never (by rfl) (pi_range1 (by rfl) T.b_range (pa_cons pe_int pa_nil)) (pg_name (i := 5) sc_figures_of.nd rfl (Or.inl rfl)) (pss_one (ps_set (i := 4) sc_figures_of.nd rfl (Or.inl rfl) (pe_op op_mul (pv 4) (pv 1)))))
      (pss_cons (ps_while PassesOwn.never (pt_cmp (pc_le (pe_op op_mulW (pv 3) (pv 4)) (pv 0))) (pss_one (ps_par (i := 2) (j := 3) (by rfl) sc_figures_of.nd rfl rfl (by decide) rfl rfl (pa_cons (pe_op op_add (pv 2) pe_int) (pa_cons (pe_op op_mulW (pv 3) (pv 4)) pa_nil)) (by rfl))))
      (pss_cons (ps_while PassesOwn.never (pt_cmp (pc_le (pv 3) (pv 0))) (pss_one (ps_par (i := 2) (j := 3) (by rfl) sc_figures_of.nd rfl rfl (by decide) rfl rfl (pa_cons (pe_op op_add (pv 2) pe_int) (pa_cons (pe_op op_mul (pv 3) (pv 1)) pa_nil)) (by rfl))))
      (pss_one (ps_ret (pv 2))))))), ?_⟩
    -- count, power, eight = 1, base, 1
    refine ⟨_, rfl, _, _, _, rfl, ?_⟩
    -- for turn in range(8)
    refine ⟨8, rfl, by decide, by decide, for_range (lo := 0) (n := 8) (fun i σ H' => H' = H ∧ ∃ v, σ = [some (.int n), some (.int b), some (.int 1), some (.int b), some (.int (b ^ i)), v]) ⟨rfl, none, by rw [Int.pow_zero]; rfl⟩ ?_ ?_⟩
    · rintro i σ H' hi ⟨rfl, v, rfl⟩
      refine ⟨_, rfl, _, rfl, _, _, rfl, rfl, .inr ⟨by omega, by omega⟩, ?_⟩
      exact ⟨rfl, some (.int (0 + (i : Int))), by rw [Int.pow_succ]; rfl⟩
    · rintro σ H' ⟨rfl, v, rfl⟩
      -- while power * eight <= length
      refine ⟨fun m σ H1 => H1 = H' ∧ ∃ (j : Nat), σ = [some (.int n), some (.int b), some (.int ((j : Int) + 1)), some (.int (b ^ (j + 1))), some (.int (b ^ 8)), v] ∧ (j = 0 ∨ b ^ j ≤ n) ∧ m = (n + 1 - b ^ (j + 1)).toNat,
        ⟨_, rfl, 0, by rw [pow_one b]; rfl, .inl rfl, rfl⟩, ?_⟩
      rintro m σ H1 ⟨rfl, j, rfl, hj, hm⟩
      have p1 := pow_pos (show 1 ≤ b by omega) (j + 1)
      refine ⟨_, rfl, _, rfl, _, _, rfl, rfl, fig_mul hb hb2 hn rfl hj rfl, ?_⟩
      refine ⟨_, rfl, _, _, rfl, rfl, _, rfl, ifd (fun c => ?_) (fun c => ?_)⟩
      · refine ⟨_, fun σ' H' h => h, ?_⟩
        have e9 : b ^ (j + 1) * b ^ 8 = b ^ (j + 8 + 1) := by rw [← Int.pow_add]
        have e8 : b ^ (j + 1) < b ^ (j + 8 + 1) := Int.lt_of_lt_of_le (pow_lt hb (j + 1)) (pow_mono (show 1 ≤ b by omega) (by omega))
        refine ⟨_, rfl, _, _, rfl, rfl, _, rfl, _, rfl, _, _, rfl, rfl, fig_mul hb hb2 hn rfl hj rfl, _, _, rfl, ?_⟩
        refine ⟨_, ?_, rfl, j + 8, ?_, .inr ?_, rfl⟩
        · rw [hm]
          rw [e9] at c
          omega
        · show [some (V.int n), some (V.int b), some (V.int ((j : Int) + 1 + 8)), some (V.int (b ^ (j + 1) * b ^ 8)), some (V.int (b ^ 8)), v] = _
          rw [e9]
          have e : (j : Int) + 1 + 8 = ((j + 8 : Nat) : Int) + 1 := by omega
          rw [e]
        · rw [e9] at c
          exact Int.le_trans (pow_mono (show 1 ≤ b by omega) (by omega)) c
      · -- while power <= length
        refine ⟨fun m σ H2 => H2 = H1 ∧ ∃ (j : Nat), σ = [some (.int n), some (.int b), some (.int ((j : Int) + 1)), some (.int (b ^ (j + 1))), some (.int (b ^ 8)), v] ∧ (j = 0 ∨ b ^ j ≤ n) ∧ m = (n + 1 - b ^ (j + 1)).toNat,
          ⟨_, rfl, j, rfl, hj, rfl⟩, ?_⟩
        clear c hm p1 hj
        rintro m σ H2 ⟨rfl, j, rfl, hj, hm⟩
        have p1 := pow_pos (show 1 ≤ b by omega) (j + 1)
        refine ⟨_, rfl, _, rfl, _, _, rfl, rfl, _, rfl, ifd (fun c => ?_) (fun c => ?_)⟩
        · refine ⟨_, fun σ' H' h => h, ?_⟩
          have e8 := pow_lt hb (j + 1)
          refine ⟨_, rfl, _, _, rfl, rfl, _, rfl, _, rfl, _, _, rfl, rfl, .inr ⟨by omega, by omega⟩, _, _, rfl, ?_⟩
          refine ⟨_, ?_, rfl, j + 1, ?_, .inr c, rfl⟩
          · rw [hm]
            omega
          · show [some (V.int n), some (V.int b), some (V.int ((j : Int) + 1 + 1)), some (V.int (b ^ (j + 1) * b)), some (V.int (b ^ 8)), v] = _
            rw [← Int.pow_succ]
            have e : (j : Int) + 1 + 1 = ((j + 1 : Nat) : Int) + 1 := by omega
            rw [e]
        · exact ⟨_, rfl, k _ ⟨j, rfl, by omega, hj⟩⟩
end
section
variable {P : Program} {w : World} {K : PySem.W.Frag} {mg : Str → Option Value} {base : Heap}
def spTotal : Sp := fun vs H Q _ => ∃ n b : Int, vs = [.int n, .int b] ∧ 2 ≤ b ∧ b ≤ 256 ∧ 0 ≤ n ∧ n < 2 ^ 3900 ∧ ∀ s, IsTot b n s → s ≤ n + 4000 → Q (.int s) H
theorem ok_total_of (T : Tx w K mg) : Prom P w K mg base CX0 2 "total_of" s_total_of ["length", "base"] spTotal := by
  refine Prom.of T.d_total_of sc_total_of (fun vs H Q E h => ?_) (fun _ _ _ _ _ _ us hl => match us, hl with | [_, _], _ => rfl) (fun f cdv A outer s H vs Q E hr h => ?_)
  · obtain ⟨n, b, rfl, _⟩ := h
    rfl
  · obtain ⟨n, b, rfl, b0, b1, n0, n1, k⟩ := h
    have big : ∀ x : Int, x ≤ n + 4000 → x < 2 ^ 4000 := fun x hx => by
      have : (2 : Int) ^ 3900 + 4000 ≤ 2 ^ 4000 := by decide
      omega
    refine ⟨_, (pss_cons (ps_set (i := 2) sc_total_of.nd rfl (Or.inl rfl) (pe_callP (ok_figures_of T) (hr.mono (by decide)) (by rfl) pass0 (pa_cons (pv 0) (pa_cons (pv 1) pa_nil))))
      (pss_cons (ps_while PassesOwn.never (pt_cmp (pc_neI (pe_callP (ok_figures_of T) (hr.mono (by decide)) (by rfl) pass0 (pa_cons (pe_op op_add (pv 0) (pv 2)) (pa_cons (pv 1) pa_nil))) (pv 2))) (pss_one (ps_aug (i := 2) sc_total_of.nd rfl (.inl rfl) pe_int ip_add)))
      (pss_one (ps_ret (pe_op op_add (pv 0) (pv 2)))))), ?_⟩
    refine ⟨_, rfl, _, rfl, n, b, rfl, b0, b1, big n (by omega), fun z hz => ?_⟩
    have z0 := isF_pos hz
    have z1 := isF_bound b0 3900 n1 hz
    refine ⟨fun m σ H1 => H1 = H ∧ ((m = 1 ∧ σ = [some (.int n), some (.int b), some (.int z)]) ∨ (m = 0 ∧ σ = [some (.int n), some (.int b), some (.int (z + 1))] ∧ IsF b (n + z) (z + 1))), ⟨1, rfl, .inl ⟨rfl, rfl⟩⟩, ?_⟩
    rintro m σ H1 ⟨rfl, ⟨rfl, rfl⟩ | ⟨rfl, rfl, h1⟩⟩
    · refine ⟨_, rfl, _, rfl, _, _, rfl, rfl, _, rfl, n + z, b, rfl, b0, b1, big _ (by omega), fun g hg => ?_⟩
      refine ⟨_, rfl, _, _, rfl, rfl, _, rfl, ifn (fun c => ?_) (fun c => ?_)⟩
      · have e : g = z + 1 := (fig_grow b0 n0 hz hg).resolve_left c
        subst e
        exact ⟨_, fun _ _ h => h, _, rfl, _, _, rfl, rfl, 0, by decide, rfl, .inr ⟨rfl, rfl, hg⟩⟩
      · subst c
        exact ⟨_, rfl, _, rfl, _, _, rfl, rfl, k _ (isTot_first b0 hz hg) (by omega)⟩
    · refine ⟨_, rfl, _, rfl, _, _, rfl, rfl, _, rfl, n + (z + 1), b, rfl, b0, b1, big _ (by omega), fun g hg => ?_⟩
      have h2 := fig_next b0 n0 hz h1
      have e0 : n + (z + 1) = n + z + 1 := by omega
      rw [e0] at hg
      have e : g = z + 1 := isF_eq b0 hg h2
      refine ⟨_, rfl, _, _, rfl, rfl, _, rfl, ifn (fun c => absurd e c) (fun c => ?_)⟩
      refine ⟨_, rfl, _, rfl, _, _, rfl, rfl, ?_⟩
      show Q (.int (n + (z + 1))) _
      rw [e0]
      exact k _ (isTot_second b0 n0 hz h1) (by omega)
end
theorem log2_small {i : Int} (h0 : 0 ≤ i) (h1 : i < 10 ^ 70) : i.natAbs.log2 < 1920 := by
  have h3 : i.natAbs < 2 ^ 300 := Nat.lt_of_lt_of_le (show i.natAbs < 10 ^ 70 by omega) (by decide)
  exact Nat.lt_of_lt_of_le (PySem.Flt.log2_lt_of (by decide) h3) (by decide)
/-! ### ints shown -/
theorem shownAll_ints : ∀ xs : List Int, PyData.shownAll (xs.map PyData.int) = xs.map fun i => (toString i : Str)
  | [] => rfl
  | x :: xs => by
    show (toString x : Str) :: PyData.shownAll (xs.map PyData.int) = _
    rw [shownAll_ints xs]
    rfl
theorem sum_short : ∀ (xs : List Int), (∀ x ∈ xs, x.natAbs < 10 ^ 70) → ((xs.map fun i => (toString i : Str)).map (·.length)).sum ≤ 71 * xs.length
  | [], _ => by simp
  | x :: xs, h => by
    have h1 := sum_short xs fun y hy => h y (List.mem_cons_of_mem _ hy)
    have h2 : (toString x : Str).length ≤ 71 := by
      have := int_text_length_le10 (k := 70) (by decide) (h x (List.mem_cons_self ..))
      have e : (Str.ofString (toString x)).length = (toString x : String).length := PySem.ofString_length _
      show (Str.ofString (toString x)).length ≤ 71
      omega
    simp only [List.map_cons, List.sum_cons, List.length_cons]
    omega
def Shows (d : PyData) : Prop := d.showable = true ∧ d.hasDict = false ∧ d.depth ≤ 40 ∧ d.shown.length ≤ sizeLine
theorem ints_showable : ∀ xs : List Int, (∀ x ∈ xs, x.natAbs < 10 ^ 70) → PyData.showableAll (xs.map PyData.int) = true ∧ PyData.hasDictAll (xs.map PyData.int) = false ∧ PyData.depthAll (xs.map PyData.int) ≤ 2
  | [], _ => ⟨rfl, rfl, by decide⟩
  | x :: xs, h => by
    obtain ⟨h1, h2, h3⟩ := ints_showable xs fun y hy => h y (List.mem_cons_of_mem _ hy)
    have hx : x.natAbs.log2 < 1920 := by
      have h4 : x.natAbs < 2 ^ 300 := Nat.lt_of_lt_of_le (h x (List.mem_cons_self ..)) (by decide)
      exact Nat.lt_of_lt_of_le (PySem.Flt.log2_lt_of (by decide) h4) (by decide)
    refine ⟨?_, ?_, ?_⟩
    · show (decide (x.natAbs.log2 < 1920) && PyData.showableAll (xs.map PyData.int)) = true
      rw [h1, decide_eq_true hx] <;> rfl
    · show (false || PyData.hasDictAll (xs.map PyData.int)) = false
      rw [h2] <;> rfl
    · show max (PyData.depth (.int x)) (PyData.depthAll (xs.map PyData.int)) ≤ 2
      have : PyData.depth (.int x) ≤ 1 := by first | exact Nat.le_refl _ | exact Nat.zero_le _ | decide
      omega
theorem shows_tuple {xs : List Int} (h : ∀ x ∈ xs, x.natAbs < 10 ^ 70) (hl : xs.length ≤ 10000) : Shows (.tuple (xs.map PyData.int)) := by
  obtain ⟨h1, h2, h3⟩ := ints_showable xs h
  refine ⟨h1, h2, ?_, ?_⟩
  · show PyData.depthAll (xs.map PyData.int) + 1 ≤ 40
    omega
  · show (tupleText (PyData.shownAll (xs.map PyData.int))).length ≤ sizeLine
    have h4 := tupleText_len_le (PyData.shownAll (xs.map PyData.int))
    rw [shownAll_ints] at h4 ⊢
    have h5 := sum_short xs h
    rw [List.length_map] at h4
    rw [sizeLine_eq]
    omega
theorem shows_list {xs : List Int} (h : ∀ x ∈ xs, x.natAbs < 10 ^ 70) (hl : xs.length ≤ 10000) : Shows (.list (xs.map PyData.int)) := by
  obtain ⟨h1, h2, h3⟩ := ints_showable xs h
  refine ⟨h1, h2, ?_, ?_⟩
  · show PyData.depthAll (xs.map PyData.int) + 1 ≤ 40
    omega
  · show (listText (PyData.shownAll (xs.map PyData.int))).length ≤ sizeLine
    have h4 := listText_len_le (PyData.shownAll (xs.map PyData.int))
    rw [shownAll_ints] at h4 ⊢
    have h5 := sum_short xs h
    rw [List.length_map] at h4
    rw [sizeLine_eq]
    omega
theorem dp_ints {K : PySem.W.Frag} {H : Hp} : ∀ xs : List Int, DpAll K H (xs.map V.int) (xs.map PyData.int)
  | [] => .nil
  | x :: xs => .cons (.int x) (dp_ints xs)
/-! ### wraps -/
/-- the first number that does not do -/
def faultL : List (Int × Int) → List Int → Nat → Option Nat
  | q :: qs, n :: ns, i => if q.1 ≤ n ∧ n ≤ q.2 then faultL qs ns (i + 1) else some i
  | _, _, _ => none
def faultV (a : Wr) (ns : List Int) : V := match faultL a.rng ns 0 with
  | some i => .int (i : Nat)
  | none => if a.kind = "coded" ∧ ns.getD 1 0 < ns.getD 0 0 then .int 1 else .non
theorem faultL_drop : ∀ (qs : List (Int × Int)) (ns : List Int) (j i : Nat), qs.length = ns.length → (∀ m q n, m < i → qs[m]? = some q → ns[m]? = some n → q.1 ≤ n ∧ n ≤ q.2) → i ≤ ns.length → faultL qs ns j = faultL (qs.drop i) (ns.drop i) (j + i)
  | _, _, j, 0, _, _, _ => rfl
  | [], [], j, i + 1, _, _, h => by simp at h
  | [], _ :: _, j, i + 1, h, _, _ => by simp at h
  | _ :: _, [], j, i + 1, h, _, _ => by simp at h
  | q :: qs, n :: ns, j, i + 1, hl, hg, hi => by
    have h0 := hg 0 q n (by omega) rfl rfl
    have ih := faultL_drop qs ns (j + 1) i (by simpa using hl) (fun m q' n' hm h1 h2 => hg (m + 1) q' n' (by omega) (by simpa using h1) (by simpa using h2)) (by simpa using hi)
    show (if q.1 ≤ n ∧ n ≤ q.2 then faultL qs ns (j + 1) else some j) = _
    rw [if_pos h0, ih]
    have e : j + 1 + i = j + (i + 1) := by omega
    rw [e]
    rfl
theorem drop_at {α : Type} : ∀ {xs : List α} {i : Nat} {x : α}, xs[i]? = some x → xs.drop i = x :: xs.drop (i + 1)
  | [], i, x, h => by simp at h
  | y :: ys, 0, x, h => by
    simp at h
    rw [h]
    rfl
  | y :: ys, i + 1, x, h => drop_at (xs := ys) (i := i) (by simpa using h)
def spFault (K : PySem.W.Frag) : Sp := fun vs H Q _ => ∃ (a : Wr) (ns : List Int) (p : Addr), vs = [.str a.kind, .ref p] ∧ (SqL K H p (ns.map V.int) ∨ SqT K H p (ns.map V.int)) ∧ ns.length = a.rng.length ∧ ∀ H', Same H H' → Q (faultV a ns) H'
section
variable {P : Program} {w : World} {K : PySem.W.Frag} {mg : Str → Option Value} {base : Heap}
theorem sq_same {H H' : Hp} {p : Addr} {xs : List V} (s : Same H H') (h : SqL K H p xs ∨ SqT K H p xs) : SqL K H' p xs ∨ SqT K H' p xs := by
  rcases h with h | h
  · exact .inl (s.seq h)
  · refine .inr ?_
    rcases h with (h | ⟨o, h⟩) | h
    · exact .inl (.inl (s _ _ h))
    · exact .inl (.inr ⟨o, s _ _ h⟩)
    · exact .inr h
theorem ok_fault_in (T : Tx w K mg) : Prom P w K mg base CX0 3 "fault_in" s_fault_in ["kind", "numbers"] (spFault K) := by
  refine Prom.of T.d_fault_in sc_fault_in (fun vs H Q E h => ?_) (fun _ _ _ _ _ _ us hl => match us, hl with | [_, _], _ => rfl) (fun f cdv A outer s H vs Q E hr h => ?_)
  · obtain ⟨a, ns, p, rfl, _⟩ := h
    rfl
  · obtain ⟨a, ns, p, rfl, hS, hl, k⟩ := h
    obtain ⟨es, en, kd⟩ := T.kd
    obtain ⟨b, xs, hb, hq, hp⟩ := T.rg a
    have hlx := hp.len
    have at_ : ∀ {H' : Hp} {i : Nat} {n : Int} {Q' : VK}, Same H H' → ns[i]? = some n → Q' (.int n) H' → rIxL K (.ref p) (.int (i : Nat)) H' Q' ∨ rIxT K (.ref p) (.int (i : Nat)) H' Q' := fun {H' i n Q'} hs hn hQ => by
      have en : (ns.map V.int)[i]? = some (V.int n) := by rw [List.getElem?_map, hn]; rfl
      rcases sq_same hs hS with z | z
      · exact .inl ⟨p, _, _, _, rfl, rfl, z, atI_nat en, hQ⟩
      · exact .inr ⟨p, _, _, _, rfl, rfl, z, atI_nat en, hQ⟩
    refine ⟨_, (pss_cons (ps_for PassesOwn.never (by rfl) (pi_enumT (by rfl) T.b_enumerate (pa_cons (pe_ix ix_kdict (pe_glob (v := .ref _) (by rfl) T.k_RANGES rfl) (pv 0) (fun _ _ => rfl)) pa_nil)) (pg_tup rfl (pgs_cons (pg_name (i := 2) sc_fault_in.nd rfl (Or.inl rfl)) (pgs_cons (pg_tup rfl (pgs_cons (pg_name (i := 3) sc_fault_in.nd rfl (Or.inl rfl)) (pgs_cons (pg_name (i := 4) sc_fault_in.nd rfl (Or.inl rfl)) pgs_nil))) pgs_nil))) (pss_one (ps_if (pt_not (pt_val (pe_callP (ok_is_between T) (hr.mono (by decide)) (by rfl) pass0 (pa_cons (pe_ix ix_any (pv 1) (pv 2) (fun _ _ => rfl)) (pa_cons (pv 3) (pa_cons (pv 4) pa_nil)))))) (pss_one (ps_ret (pv 2))) pss_nil)))
      (pss_one (ps_ret (pe_ifExp (PW.pt (pw_and (pt_cmpR op_eq (pv 0) pe_str (nomark _)) (pw_and1 (pt_cmp (pc_lt (pe_ix ix_any (pv 1) pe_int (fun _ _ => rfl)) (pe_ix ix_any (pv 1) pe_int (fun _ _ => rfl))))))) pe_int pe_non)))), ?_⟩
    refine ⟨_, rfl, _, _, .ref b, rfl, rfl, ⟨es, en, _, kd.at_, kd.lit, hb, rfl⟩, b, xs, rfl, hq _, ?_⟩
    refine for_it (walk_enumT (K := K) (a := b) (xs := xs)) (fun i σ H' => Same H H' ∧ (∀ m q n, m < i → a.rng[m]? = some q → ns[m]? = some n → q.1 ≤ n ∧ n ≤ q.2) ∧ ∃ v1 v2 v3, σ = [some (.str a.kind), some (.ref p), v1, v2, v3]) ⟨Same.refl H, fun m q n h => absurd h (Nat.not_lt_zero m), none, none, none, rfl⟩ (fun _ _ H' _ _ => hq H') ?_ ?_
    · rintro i x σ H1 H2 hi ⟨hs, hg, v1, v2, v3, rfl⟩ ⟨t, x1, x2, rfl, ht, rfl, e1, e2⟩
      cases e1
      obtain ⟨c, q, rfl, hq2, hc⟩ := hp.get e2
      have hin : i < ns.length := by omega
      obtain ⟨n, hn⟩ : ∃ n, ns[i]? = some n := ⟨_, List.getElem?_eq_getElem hin⟩
      have hs2 : Same H (upd H1 t (.tup [.int (i : Nat), .ref c])) := fun y o e => by rw [upd_ne (ne_of_none (hs _ _ e) ht)]; exact hs _ _ e
      refine ⟨t, _, rfl, SqT.of upd_same, rfl, _, _, rfl, _, _, rfl, ?_⟩
      refine ⟨c, _, rfl, hc _, rfl, _, _, rfl, _, _, rfl, rfl, rfl, ?_⟩
      refine ⟨_, rfl, _, rfl, at_ hs2 hn ⟨_, rfl, _, rfl, n, q.1, q.2, rfl, _, rfl, ifn (fun c => ?_) (fun c => ?_)⟩⟩
      · have e : faultV a ns = .int (i : Nat) := by
          unfold faultV
          rw [faultL_drop a.rng ns 0 i hl.symm hg (by omega)]
          have d1 : a.rng.drop i = q :: a.rng.drop (i + 1) := drop_at hq2
          have d2 : ns.drop i = n :: ns.drop (i + 1) := drop_at hn
          rw [d1, d2]
          show (match (if q.1 ≤ n ∧ n ≤ q.2 then _ else some (0 + i)) with
            | some i => V.int (i : Nat)
            | none => _) = _
          rw [if_neg c, Nat.zero_add]
        have k2 := k _ hs2
        rw [e] at k2
        exact ⟨_, rfl, k2⟩
      · refine ⟨hs2, fun m q' n' hm h1 h2 => ?_, _, _, _, rfl⟩
        by_cases z : m = i
        · subst z
          rw [hq2] at h1
          rw [hn] at h2
          cases h1
          cases h2
          exact c
        · exact hg m q' n' (by omega) h1 h2
    · rintro σ H' ⟨hs, hg, v1, v2, v3, rfl⟩
      have e0 : faultL a.rng ns 0 = none := by
        rw [faultL_drop a.rng ns 0 ns.length hl.symm (by rw [hlx, ← hl] at hg; exact hg) (Nat.le_refl _)]
        rw [List.drop_length]
        cases a.rng.drop ns.length <;> rfl
      have k2 := k _ hs
      unfold faultV at k2
      rw [e0] at k2
      refine ⟨_, rfl, rfl, _, rfl, ifd (fun c => ?_) (fun c => ?_)⟩
      · have ec : a.kind = "coded" := by
          have c : V.str a.kind = V.str "coded" := c
          injection c
        have l2 : a.rng.length = 2 := by
          cases a with
          | coded _ _ => rfl
          | pieces _ _ => rfl
          | cut _ _ => rfl
          | plus _ => exact absurd (show ("plus" : Str) = "coded" from ec) (by decide)
          | told _ => exact absurd (show ("told" : Str) = "coded" from ec) (by decide)
          | whole _ => exact absurd (show ("whole" : Str) = "coded" from ec) (by decide)
          | filled _ => exact absurd (show ("filled" : Str) = "coded" from ec) (by decide)
        rw [l2] at hl
        obtain ⟨n0, n1, rfl⟩ : ∃ n0 n1, ns = [n0, n1] := by
          match ns, hl with
          | [n0, n1], _ => exact ⟨n0, n1, rfl⟩
        refine ⟨_, rfl, at_ (i := 1) (n := n1) hs rfl ⟨_, rfl, at_ (i := 0) (n := n0) hs rfl ⟨_, _, rfl, rfl, _, rfl, ifd (fun c2 => ?_) (fun c2 => ?_)⟩⟩⟩
        · rw [if_pos ⟨ec, c2⟩] at k2
          exact k2
        · rw [if_neg (fun z => c2 z.2)] at k2
          exact k2
      · rw [if_neg (fun z => c (congrArg V.str z.1))] at k2
        exact k2
end
/-- the text of a wrap -/
def Wr.text (a : Wr) : Str := Txt.join " " (a.kind :: a.nums.map fun i => (toString i : Str))
def wrapFs (a : Wr) (p : Addr) : List (Str × V) := [("kind", .str a.kind), ("numbers", .ref p), ("words", .str a.text)]
/-- a wrap stands there -/
def WrapAt (K : PySem.W.Frag) (H : Hp) (q : Addr) (a : Wr) : Prop := ∃ dx p, H q = some (.ins (He.ga K "Wrap") dx (wrapFs a p)) ∧ H p = some (.tup (a.nums.map V.int))
theorem WrapAt.same {K : PySem.W.Frag} {H H' : Hp} {q : Addr} {a : Wr} (h : WrapAt K H q a) (s : Same H H') : WrapAt K H' q a := by
  obtain ⟨dx, p, h1, h2⟩ := h
  exact ⟨dx, p, s _ _ h1, s _ _ h2⟩
def spInit (K : PySem.W.Frag) : Sp := fun vs H Q _ => ∃ (a : Wr) (x p dx : Addr), vs = [.ref x, .str a.kind, .ref p] ∧ a.ok ∧ H x = some (.ins (He.ga K "Wrap") dx []) ∧ H p = some (.tup (a.nums.map V.int)) ∧
  ∀ H', Kp x H H' → H' x = some (.ins (He.ga K "Wrap") dx (wrapFs a p)) → Q .non H'
def spWrap (K : PySem.W.Frag) : Sp := fun vs H Q _ => ∃ a : Wr, vs = .str a.kind :: a.nums.map V.int ∧ a.ok ∧ ∀ q H', H q = none → Same H H' → WrapAt K H' q a → Q (.ref q) H'
theorem kind_len (a : Wr) : a.kind.length ≤ 6 := by
  cases a with
  | plus _ => exact (show ("plus" : Str).length ≤ 6 by decide)
  | told _ => exact (show ("told" : Str).length ≤ 6 by decide)
  | whole _ => exact (show ("whole" : Str).length ≤ 6 by decide)
  | pieces _ _ => exact (show ("pieces" : Str).length ≤ 6 by decide)
  | cut _ _ => exact (show ("cut" : Str).length ≤ 6 by decide)
  | coded _ _ => exact (show ("coded" : Str).length ≤ 6 by decide)
  | filled _ => exact (show ("filled" : Str).length ≤ 6 by decide)
theorem faultL_one {q : Int × Int} {n : Int} (h : q.1 ≤ n ∧ n ≤ q.2) : faultL [q] [n] 0 = none := by
  show (if q.1 ≤ n ∧ n ≤ q.2 then none else some 0) = none
  rw [if_pos h]
theorem faultL_two {q r : Int × Int} {n m : Int} (h : q.1 ≤ n ∧ n ≤ q.2) (h2 : r.1 ≤ m ∧ m ≤ r.2) : faultL [q, r] [n, m] 0 = none := by
  show (if q.1 ≤ n ∧ n ≤ q.2 then (if r.1 ≤ m ∧ m ≤ r.2 then none else some 1) else some 0) = none
  rw [if_pos h, if_pos h2]
theorem fault_ok {a : Wr} (h : a.ok) : faultV a a.nums = .non := by
  unfold faultV
  cases a with
  | plus c => rw [show faultL (Wr.plus c).rng (Wr.plus c).nums 0 = none from faultL_one h]; rfl
  | told c => rw [show faultL (Wr.told c).rng (Wr.told c).nums 0 = none from faultL_one h]; rfl
  | whole c => rw [show faultL (Wr.whole c).rng (Wr.whole c).nums 0 = none from faultL_one h]; rfl
  | filled c => rw [show faultL (Wr.filled c).rng (Wr.filled c).nums 0 = none from faultL_one h]; rfl
  | pieces m c => rw [show faultL (Wr.pieces m c).rng (Wr.pieces m c).nums 0 = none from faultL_two ⟨h.1, h.2.1⟩ h.2.2]; rfl
  | cut m c => rw [show faultL (Wr.cut m c).rng (Wr.cut m c).nums 0 = none from faultL_two ⟨h.1, h.2.1⟩ h.2.2]; rfl
  | coded m c =>
    simp only [Wr.ok] at h
    rw [show faultL (Wr.coded m c).rng (Wr.coded m c).nums 0 = none from faultL_two ⟨h.1, h.2.1⟩ ⟨show (1 : Int) ≤ c by omega, h.2.2.2⟩]
    exact if_neg (fun z => absurd (show c < m from z.2) (by omega))
section
variable {P : Program} {w : World} {K : PySem.W.Frag} {mg : Str → Option Value} {base : Heap}
theorem ok_Wrap (T : Tx w K mg) : PromC P w K mg base CX0 4 "Wrap" (spWrap K) := by
  refine PromC.star (sp0 := spInit K) T.mk_Wrap T.k_Wrap T.dm_Wrap___init__ sc_Wrap___init__ (fun _ _ _ _ _ _ _ _ => rfl) (fun _ _ _ _ _ _ _ _ _ _ => rfl) (fun f cdv A outer s H vs Q E hr h => ?_) (fun vs H Q E h => ?_)
  · obtain ⟨a, x, p, dx, rfl, ha, hx, hp, k⟩ := h
    obtain ⟨es, en, kd⟩ := T.kd
    obtain ⟨b, xs, hb, hq, hps⟩ := T.rg a
    refine ⟨_, (pss_cons (ps_if (PW.pt (pw_or (pt_not (pt_val (pe_callB call_isi (by rfl) T.b_isinstance (by decide +kernel) (pa_cons (pv 1) (pa_cons (pe_bltn (v := .ty "str") (by rfl) T.b_str (by decide +kernel) rfl) pa_nil))))) (pw_or1 (pt_cmpR (op_notIn_kd kd) (pv 1) (pe_glob (v := .ref _) (by rfl) T.k_RANGES rfl) (by rfl))))) (pss_one ps_never) pss_nil)
      (pss_cons (ps_if (pt_cmp (pc_neI (pe_callB call_len_seq (by rfl) T.b_len (by decide +kernel) (pa_cons (pv 2) pa_nil)) (pe_callB call_len_seq (by rfl) T.b_len (by decide +kernel) (pa_cons (pe_ix ix_kdict (pe_glob (v := .ref _) (by rfl) T.k_RANGES rfl) (pv 1) (fun _ _ => rfl)) pa_nil)))) (pss_one ps_never) pss_nil)
      (pss_cons (ps_set (i := 3) sc_Wrap___init__.nd rfl (Or.inl rfl) (pe_callP (ok_fault_in T) (hr.mono (by decide)) (by rfl) pass0 (pa_cons (pv 1) (pa_cons (pv 2) pa_nil))))
      (pss_cons (ps_if (pt_cmpR op_notN (pv 3) pe_non (nomark _)) (pss_one ps_never) pss_nil)
      (pss_cons (ps_fld (pv 0) (pv 1) rfl)
      (pss_cons (ps_fld (pv 0) (pv 2) rfl)
      (pss_one (ps_fld (pv 0) (pe_join pe_str (pe_lst (pa_cons (pv 1) (StX.pa_star (pe_lc (own := [("number", 4)]) (g := (gName 4)) (tt := tYes) (by rfl) sc_Wrap___init__.nd (pi_tup (pv 2)) (blkOk_by (own := [("number", 4)]) (N := ["self", "kind", "numbers", "fault", "number"]) (sc := defScope s_Wrap___init__) (by decide +kernel)) (fun _ _ _ _ _ => (pg_name (i := 4) sc_Wrap___init__.nd rfl (Or.inl rfl))) (fun _ _ _ _ _ => pts_nil) (fun _ _ _ _ _ => (pe_joined1 (pe_fmt (pv 4))))) pa_nil)))) rfl)))))))), ?_⟩
    refine ⟨_, rfl, _, _, _, _, true, rfl, .ty _, .base (.str _), kit_ty (by decide +kernel), true, rfl, iteF ?_⟩
    refine ⟨_, rfl, _, _, rfl, rfl, hb, _, rfl, iteF ?_⟩
    refine ⟨_, rfl, p, _, rfl, .inr (SqT.of hp), _, rfl, _, _, .ref b, rfl, rfl, ⟨es, en, _, kd.at_, kd.lit, hb, rfl⟩, b, xs, rfl, .inr (hq _), _, _, rfl, rfl, _, rfl, ifn (fun c => ?_) (fun _ => ?_)⟩
    · refine absurd ?_ c
      rw [List.length_map, hps.len, nums_len]
      first | done | rfl
    refine ⟨_, rfl, _, rfl, a, a.nums, p, rfl, .inr (SqT.of hp), nums_len, fun H1 s1 => ?_⟩
    rw [fault_ok ha]
    refine ⟨_, rfl, rfl, _, rfl, iteF ?_⟩
    refine ⟨_, rfl, _, rfl, x, _, dx, _, rfl, s1 _ _ hx, T.cl_Wrap, T.na_Wrap_kind, by decide, ?_⟩
    refine ⟨_, rfl, _, rfl, x, _, dx, _, rfl, upd_same, T.cl_Wrap, T.na_Wrap_numbers, (show (1 : Nat) < 1000 by decide), ?_⟩
    obtain ⟨H3, e3, hx3, kp3⟩ : ∃ H3, upd (upd H1 x (.ins (He.ga K "Wrap") dx (putF "kind" (.str a.kind) []))) x (.ins (He.ga K "Wrap") dx (putF "numbers" (.ref p) (putF "kind" (.str a.kind) []))) = H3 ∧ H3 x = some (.ins (He.ga K "Wrap") dx [("kind", .str a.kind), ("numbers", .ref p)]) ∧ Kp x H H3 :=
      ⟨_, rfl, upd_same, Kp.set (Kp.set fun b o n e => s1 _ _ e)⟩
    rw [e3]
    have npx : p ≠ x := fun z => by
      rw [z, hx] at hp
      cases hp
    have hp3 : H3 p = some (.tup (a.nums.map V.int)) := kp3 _ _ npx hp
    refine ⟨⟨_, rfl⟩, _, rfl, _, rfl, p, rfl, ⟨_, SqT.of hp3⟩, fun D hD => ?_⟩
    refine lc_tup (K := K) (a := p) (xs := a.nums.map V.int) (Pv := fun i H' => Same H3 H' ∧ H' D = some (.lst ((a.nums.take i).map fun z => V.str (toString z)))) ⟨fun z o e => by rw [upd_ne (ne_of_none e hD)]; exact e, upd_same⟩ (fun i H' _ h => SqT.of (h.1 _ _ hp3)) ?_ ?_
    · rintro i y H' hi ⟨hs, hl⟩
      obtain ⟨n, hn, rfl⟩ : ∃ n, a.nums[i]? = some n ∧ y = V.int n := by
        rw [List.getElem?_map] at hi
        cases e : a.nums[i]? with
        | none =>
          rw [e] at hi
          cases hi
        | some n =>
          rw [e] at hi
          exact ⟨n, rfl, (Option.some.inj hi).symm⟩
      have hb := nums_small ha n (List.mem_of_getElem? hn)
      have hlen : a.nums.length ≤ 2 := by cases a <;> simp [Wr.nums]
      have hil : i < a.nums.length := by
        rcases List.getElem?_eq_some_iff.mp hn with ⟨z, _⟩
        exact z
      refine ⟨rfl, _, rfl, .inr ⟨n, rfl, log2_small hb.1 (by omega), _, hl, ?_, fun z o e => ?_, ?_⟩⟩
      · rw [List.length_map, List.length_take, sizeLine_eq]
        omega
      · rw [upd_ne (ne_of_none e hD)]
        exact hs _ _ e
      · rw [upd_same, List.take_succ, hn, List.map_append]
        rfl
    · rintro H' ⟨hs, hl⟩
      rw [List.length_map, List.take_length] at hl
      refine ⟨D, _, rfl, .inr (SqL.of hl), ?_, fun l hl2 => ?_⟩
      · have hlen : a.nums.length ≤ 2 := by cases a <;> simp [Wr.nums]
        simp
        rw [sizeLine_eq]
        omega
      have el : V.str a.kind :: (a.nums.map (fun z => V.str (toString z)) ++ []) = (a.kind :: a.nums.map fun z => (toString z : Str)).map V.str := by simp
      refine ⟨_, l, a.kind :: a.nums.map (fun z => (toString z : Str)), rfl, rfl, .inl (SqL.of (by rw [← el]; exact upd_same)), ?_, ?_⟩
      · have h1 := sum_short a.nums (fun z hz => by have := nums_small ha z hz; omega)
        have hlen : a.nums.length ≤ 2 := by cases a <;> simp [Wr.nums]
        have hk : a.kind.length ≤ 6 := kind_len a
        simp only [List.map_cons, List.sum_cons, List.length_cons, List.length_map]
        have h2 : (" " : Str).length = 1 := by decide
        rw [h2]
        omega
      · have hx5 : (upd H' l (.lst (V.str a.kind :: (a.nums.map (fun z => V.str (toString z)) ++ [])))) x = some (.ins (He.ga K "Wrap") dx [("kind", .str a.kind), ("numbers", .ref p)]) := by rw [upd_ne (ne_of_none (hs _ _ hx3) hl2)]; exact hs _ _ hx3
        refine ⟨_, rfl, x, _, dx, _, rfl, hx5, T.cl_Wrap, T.na_Wrap_words, (show (2 : Nat) < 1000 by decide), ?_⟩
        refine k _ (fun z o n e => ?_) upd_same
        have ez := hs _ _ (kp3 z o n e)
        rw [upd_ne n, upd_ne (ne_of_none ez hl2)]
        exact ez
  · obtain ⟨a, rfl, ha, k⟩ := h
    refine ⟨_, _, rfl, ?_, fun x dx p hx hdx nd np npd hp => ?_⟩
    · rw [List.length_map, sizeLine_eq]
      have hlen : a.nums.length ≤ 2 := by cases a <;> simp [Wr.nums]
      omega
    refine ⟨a, x, p, dx, rfl, ha, by rw [upd_ne (Ne.symm np)]; exact upd_same, upd_same, fun H' kp hx' => ⟨rfl, ?_⟩⟩
    refine k x H' hx (fun z o e => ?_) ⟨dx, p, hx', kp _ _ np upd_same⟩
    have n1 : z ≠ x := ne_of_none e hx
    refine kp _ _ n1 ?_
    rw [upd_ne (ne_of_none e hp), upd_ne n1, upd_ne (ne_of_none e hdx)]
    exact e
end
/-! ### sizes by wraps -/
def spBegun : Sp := fun vs H Q _ => ∃ n m : Int, vs = [.int n, .int m] ∧ 1 ≤ m ∧ m ≤ 1000 ∧ Q (.int (beg n m)) H
def spPieces : Sp := fun vs H Q _ => ∃ n m c b : Int, vs = [.int n, .int m, .int c, .int b] ∧ 0 ≤ n ∧ 1 ≤ m ∧ m ≤ 60 ∧ 0 ≤ c ∧ c ≤ 60 ∧ 2 ≤ b ∧ b ≤ 256 ∧ Q (.int ((Wr.pieces m c).gr b n)) H
def spGrown (K : PySem.W.Frag) : Sp := fun vs H Q _ => ∃ (a : Wr) (q : Addr) (n b : Int), vs = [.ref q, .int n, .int b] ∧ WrapAt K H q a ∧ a.ok ∧ 2 ≤ b ∧ b ≤ 256 ∧ 0 ≤ n ∧ n < 2 ^ 3000 ∧ Q (.int (a.gr b n)) H
def spSize (K : PySem.W.Frag) : Sp := fun vs H Q _ => ∃ (a : Wr) (q : Addr) (n b : Int), vs = [.ref q, .int n, .int b] ∧ WrapAt K H q a ∧ a.ok ∧ 2 ≤ b ∧ b ≤ 256 ∧ 0 ≤ n ∧ n ≤ 10 ^ 60 - 1 ∧ Q (.int (a.gr b n)) H
theorem ifs_neg {x y : Str} {A B : Prop} (h : x ≠ y) (hB : B) : if decide (V.str x = V.str y) = true then A else B := by
  rw [decide_eq_false (fun z => h (by injection z)), if_neg Bool.false_ne_true]
  exact hB
theorem nums_first {a : Wr} : ∃ m, (a.nums.map V.int)[0]? = some (.int m) ∧ ∃ l, atI (a.nums.map V.int) (-1) = some (.int l) := by
  cases a <;> exact ⟨_, rfl, _, rfl⟩
section
variable {P : Program} {w : World} {K : PySem.W.Frag} {mg : Str → Option Value} {base : Heap}
theorem ok_begun (T : Tx w K mg) : Prom P w K mg base CX0 1 "begun" s_begun ["length", "whole"] spBegun := by
  refine Prom.of T.d_begun sc_begun (fun vs H Q E h => ?_) (fun _ _ _ _ _ _ us hl => match us, hl with | [_, _], _ => rfl) (fun f cdv A outer s H vs Q E hr h => ?_)
  · obtain ⟨n, m, rfl, _⟩ := h
    rfl
  · obtain ⟨n, m, rfl, h0, h1, k⟩ := h
    refine ⟨_, (pss_one (ps_ret (pe_op op_fdiv (pe_op op_sub (pe_op op_add (pv 0) (pv 1)) pe_int) (pv 1)))), ?_⟩
    exact ⟨_, rfl, _, rfl, _, _, rfl, rfl, _, _, rfl, rfl, _, rfl, _, _, rfl, rfl, ⟨by omega, by omega⟩, k⟩
theorem ok_in_pieces (T : Tx w K mg) : Prom P w K mg base CX0 2 "in_pieces" s_in_pieces ["length", "most", "constant", "base"] spPieces := by
  refine Prom.of T.d_in_pieces sc_in_pieces (fun vs H Q E h => ?_) (fun _ _ _ _ _ _ us hl => match us, hl with | [_, _, _, _], _ => rfl) (fun f cdv A outer s H vs Q E hr h => ?_)
  · obtain ⟨n, m, c, b, rfl, _⟩ := h
    rfl
  · obtain ⟨n, m, c, b, rfl, n0, m0, m1, c0, c1, b0, b1, k⟩ := h
    have f1 := fig_small (b := b) (m := m) b0 m1
    have f2 := figF_pos (b := b) (n := m) b0
    have r0 := Int.emod_nonneg n (show m ≠ 0 by omega)
    have r1 := Int.emod_lt_of_pos n (show 0 < m by omega)
    have big : ∀ x : Int, x ≤ 60 → x < 2 ^ 4000 := fun x hx => Int.lt_of_le_of_lt hx (by decide)
    refine ⟨_, (pss_cons (ps_set (i := 4) sc_in_pieces.nd rfl (Or.inl rfl) (pe_op op_mul (pe_op op_fdiv (pv 0) (pv 1)) (pe_op op_add (pe_op op_add (pv 1) (pv 2)) (pe_callP (ok_figures_of T) (hr.mono (by decide)) (by rfl) pass0 (pa_cons (pv 1) (pa_cons (pv 3) pa_nil))))))
      (pss_cons (ps_set (i := 5) sc_in_pieces.nd rfl (Or.inl rfl) (pe_op op_mod (pe_callTy call_int1 (by rfl) T.b_int (by decide +kernel) (pa_cons (pv 0) pa_nil)) (pv 1)))
      (pss_cons (ps_if (pt_cmp (pc_gt (pv 5) pe_int)) (pss_one (ps_set (i := 4) sc_in_pieces.nd rfl (Or.inl rfl) (pe_op op_add (pe_op op_add (pe_op op_add (pv 4) (pv 5)) (pv 2)) (pe_callP (ok_figures_of T) (hr.mono (by decide)) (by rfl) pass0 (pa_cons (pv 5) (pa_cons (pv 3) pa_nil)))))) pss_nil)
      (pss_one (ps_ret (pe_op op_add (pe_op op_add (pv 4) (pv 2)) pe_int)))))), ?_⟩
    refine ⟨_, rfl, _, rfl, _, _, rfl, rfl, ⟨by omega, by omega⟩, _, rfl, _, rfl, _, _, rfl, rfl, _, rfl, _, rfl, m, b, rfl, b0, b1, big m m1, fun g hg => ?_⟩
    have eg := figF_eq b0 hg
    subst eg
    refine ⟨_, _, rfl, rfl, _, _, rfl, rfl, .inr ⟨by omega, by omega⟩, ?_⟩
    refine ⟨_, rfl, .inl ⟨_, rfl, _, rfl, _, _, rfl, rfl, (show 0 < m by omega), ?_⟩⟩
    simp only [Wr.gr] at k
    refine ⟨_, rfl, _, _, rfl, rfl, _, rfl, ifd (fun h1 => ?_) (fun h1 => ?_)⟩
    · have h1 : 0 < n % m := h1
      rw [if_pos h1] at k
      refine ⟨_, rfl, _, rfl, _, _, rfl, rfl, _, rfl, _, _, rfl, rfl, _, rfl, _, rfl, n % m, b, rfl, b0, b1, big _ (by omega), fun g hg => ?_⟩
      have eg := figF_eq b0 hg
      subst eg
      refine ⟨_, _, rfl, rfl, ?_⟩
      refine ⟨_, rfl, _, rfl, _, _, rfl, rfl, _, _, rfl, rfl, ?_⟩
      have e : n / m * (m + c + figF b m) + n % m + c + figF b (n % m) + c + 1 = n / m * (m + c + figF b m) + (n % m + c + figF b (n % m)) + c + 1 := by omega
      rw [← e] at k
      exact k
    · have h1 : ¬ 0 < n % m := h1
      rw [if_neg h1] at k
      refine ⟨_, rfl, _, rfl, _, _, rfl, rfl, _, _, rfl, rfl, ?_⟩
      have e : n / m * (m + c + figF b m) + 0 + c + 1 = n / m * (m + c + figF b m) + c + 1 := by omega
      rw [e] at k
      exact k
theorem ok_Wrap_grown (T : Tx w K mg) : PromM P w K mg base CX0 3 "Wrap" "grown" ["self", "length", "base"] (spGrown K) := by
  refine PromM.of T.cl_Wrap T.me_Wrap_grown T.dm_Wrap_grown sc_Wrap_grown (fun vs H Q E h => ?_) (fun _ _ _ _ _ _ us hl => match us, hl with | [_, _, _], _ => rfl) (fun f cdv A outer s H vs Q E hr h => ?_)
  · obtain ⟨a, q, n, b, rfl, _⟩ := h
    rfl
  · obtain ⟨a, q, n, b, rfl, ⟨dx, p, hq, hp⟩, ha, b0, b1, n0, n1, k⟩ := h
    obtain ⟨x1, hm, x2, hl⟩ := nums_first (a := a)
    refine ⟨_, (pss_cons (ps_par (i := 3) (j := 4) (by rfl) sc_Wrap_grown.nd rfl rfl (by decide) rfl rfl (pa_cons (pe_ix ix_tup (pe_fld (pv 0) rfl) pe_int (fun _ _ => rfl)) (pa_cons (pe_ix ix_tup (pe_fld (pv 0) rfl) (pe_un un_neg pe_int) (fun _ _ => rfl)) pa_nil)) (by rfl))
      (pss_cons (ps_if (pt_cmpR op_eq (pe_fld (pv 0) rfl) pe_str (nomark _)) (pss_one (ps_ret (pe_op op_add (pv 1) (pv 3)))) pss_nil)
      (pss_cons (ps_if (pt_cmpR op_eq (pe_fld (pv 0) rfl) pe_str (nomark _)) (pss_one (ps_ret (pe_op op_add (pe_op op_add (pv 1) (pv 3)) (pe_callP (ok_figures_of T) (hr.mono (by decide)) (by rfl) pass0 (pa_cons (pv 1) (pa_cons (pv 2) pa_nil)))))) pss_nil)
      (pss_cons (ps_if (pt_cmpR op_eq (pe_fld (pv 0) rfl) pe_str (nomark _)) (pss_one (ps_ret (pe_callP (ok_total_of T) (hr.mono (by decide)) (by rfl) pass0 (pa_cons (pe_op op_add (pv 1) (pv 3)) (pa_cons (pv 2) pa_nil))))) pss_nil)
      (pss_cons (ps_if (pt_cmpR op_eq (pe_fld (pv 0) rfl) pe_str (nomark _)) (pss_one (ps_ret (pe_op op_mul (pe_callP (ok_begun T) (hr.mono (by decide)) (by rfl) pass0 (pa_cons (pv 1) (pa_cons (pv 3) pa_nil))) (pv 4)))) pss_nil)
      (pss_cons (ps_if (pt_cmpR op_eq (pe_fld (pv 0) rfl) pe_str (nomark _)) (pss_one (ps_ret (pe_op op_mul (pe_callP (ok_begun T) (hr.mono (by decide)) (by rfl) pass0 (pa_cons (pv 1) (pa_cons (pv 3) pa_nil))) (pv 3)))) pss_nil)
      (pss_cons (ps_if (pt_cmpR op_eq (pe_fld (pv 0) rfl) pe_str (nomark _)) (pss_one (ps_ret (pe_op op_add (pv 1) (pe_op op_mul (pe_callP (ok_begun T) (hr.mono (by decide)) (by rfl) pass0 (pa_cons (pv 1) (pa_cons (pv 3) pa_nil))) (pv 4))))) pss_nil)
      (pss_one (ps_ret (pe_callP (ok_in_pieces T) (hr.mono (by decide)) (by rfl) pass0 (pa_cons (pv 1) (pa_cons (pv 3) (pa_cons (pv 4) (pa_cons (pv 2) pa_nil)))))))))))))), ?_⟩
    refine ⟨_, rfl, q, _, dx, _, _, rfl, hq, T.cl_Wrap, T.na_Wrap_numbers, rfl, p, _, _, _, rfl, rfl, SqT.of hp, atI_nat (j := 0) hm, ?_⟩
    have big : ∀ x : Int, x ≤ n → x < 2 ^ 4000 := fun x hx => Int.lt_of_lt_of_le (show x < 2 ^ 3000 by omega) (by decide)
    refine ⟨_, rfl, q, _, dx, _, _, rfl, hq, T.cl_Wrap, T.na_Wrap_numbers, rfl, _, rfl, p, _, _, _, rfl, rfl, SqT.of hp, hl, _, _, rfl, ?_⟩
    cases a with
    | plus c =>
      have e1 : c = x1 := by injection hm with z; injection z
      have e2 : c = x2 := by injection hl with z; injection z
      subst e1 e2
      simp only [Wr.ok] at ha
      refine ⟨_, rfl, q, _, dx, _, _, rfl, hq, T.cl_Wrap, T.na_Wrap_kind, rfl, rfl, _, rfl, ifd_pos rfl ?_⟩
      exact ⟨_, rfl, _, rfl, _, _, rfl, rfl, k⟩
    | told c =>
      have e1 : c = x1 := by injection hm with z; injection z
      have e2 : c = x2 := by injection hl with z; injection z
      subst e1 e2
      simp only [Wr.ok] at ha
      refine ⟨_, rfl, q, _, dx, _, _, rfl, hq, T.cl_Wrap, T.na_Wrap_kind, rfl, rfl, _, rfl, ifs_neg (show ("told" : Str) ≠ "plus" by decide) ?_⟩
      refine ⟨_, rfl, q, _, dx, _, _, rfl, hq, T.cl_Wrap, T.na_Wrap_kind, rfl, rfl, _, rfl, ifd_pos rfl ?_⟩
      refine ⟨_, rfl, _, rfl, _, _, rfl, rfl, _, rfl, _, rfl, n, b, rfl, b0, b1, big n (by omega), fun g hg => ?_⟩
      have eg := figF_eq b0 hg
      subst eg
      exact ⟨_, _, rfl, rfl, k⟩
    | whole c =>
      have e1 : c = x1 := by injection hm with z; injection z
      have e2 : c = x2 := by injection hl with z; injection z
      subst e1 e2
      simp only [Wr.ok] at ha
      refine ⟨_, rfl, q, _, dx, _, _, rfl, hq, T.cl_Wrap, T.na_Wrap_kind, rfl, rfl, _, rfl, ifs_neg (show ("whole" : Str) ≠ "plus" by decide) ?_⟩
      refine ⟨_, rfl, q, _, dx, _, _, rfl, hq, T.cl_Wrap, T.na_Wrap_kind, rfl, rfl, _, rfl, ifs_neg (show ("whole" : Str) ≠ "told" by decide) ?_⟩
      refine ⟨_, rfl, q, _, dx, _, _, rfl, hq, T.cl_Wrap, T.na_Wrap_kind, rfl, rfl, _, rfl, ifd_pos rfl ?_⟩
      refine ⟨_, rfl, _, rfl, _, _, rfl, rfl, _, rfl, n + c, b, rfl, b0, b1, by omega, Int.lt_of_lt_of_le (show n + c < 2 ^ 3000 + 1001 by omega) (by decide), fun s hs _ => ?_⟩
      have eg := totF_eq b0 (show 0 ≤ n + c by omega) hs
      subst eg
      exact k
    | pieces m c =>
      have e1 : m = x1 := by injection hm with z; injection z
      have e2 : c = x2 := by injection hl with z; injection z
      subst e1 e2
      simp only [Wr.ok] at ha
      refine ⟨_, rfl, q, _, dx, _, _, rfl, hq, T.cl_Wrap, T.na_Wrap_kind, rfl, rfl, _, rfl, ifs_neg (show ("pieces" : Str) ≠ "plus" by decide) ?_⟩
      refine ⟨_, rfl, q, _, dx, _, _, rfl, hq, T.cl_Wrap, T.na_Wrap_kind, rfl, rfl, _, rfl, ifs_neg (show ("pieces" : Str) ≠ "told" by decide) ?_⟩
      refine ⟨_, rfl, q, _, dx, _, _, rfl, hq, T.cl_Wrap, T.na_Wrap_kind, rfl, rfl, _, rfl, ifs_neg (show ("pieces" : Str) ≠ "whole" by decide) ?_⟩
      refine ⟨_, rfl, q, _, dx, _, _, rfl, hq, T.cl_Wrap, T.na_Wrap_kind, rfl, rfl, _, rfl, ifs_neg (show ("pieces" : Str) ≠ "coded" by decide) ?_⟩
      refine ⟨_, rfl, q, _, dx, _, _, rfl, hq, T.cl_Wrap, T.na_Wrap_kind, rfl, rfl, _, rfl, ifs_neg (show ("pieces" : Str) ≠ "filled" by decide) ?_⟩
      refine ⟨_, rfl, q, _, dx, _, _, rfl, hq, T.cl_Wrap, T.na_Wrap_kind, rfl, rfl, _, rfl, ifs_neg (show ("pieces" : Str) ≠ "cut" by decide) ?_⟩
      exact ⟨_, rfl, _, rfl, _, rfl, _, rfl, n, m, c, b, rfl, n0, by omega, by omega, by omega, by omega, b0, b1, k⟩
    | cut m c =>
      have e1 : m = x1 := by injection hm with z; injection z
      have e2 : c = x2 := by injection hl with z; injection z
      subst e1 e2
      simp only [Wr.ok] at ha
      refine ⟨_, rfl, q, _, dx, _, _, rfl, hq, T.cl_Wrap, T.na_Wrap_kind, rfl, rfl, _, rfl, ifs_neg (show ("cut" : Str) ≠ "plus" by decide) ?_⟩
      refine ⟨_, rfl, q, _, dx, _, _, rfl, hq, T.cl_Wrap, T.na_Wrap_kind, rfl, rfl, _, rfl, ifs_neg (show ("cut" : Str) ≠ "told" by decide) ?_⟩
      refine ⟨_, rfl, q, _, dx, _, _, rfl, hq, T.cl_Wrap, T.na_Wrap_kind, rfl, rfl, _, rfl, ifs_neg (show ("cut" : Str) ≠ "whole" by decide) ?_⟩
      refine ⟨_, rfl, q, _, dx, _, _, rfl, hq, T.cl_Wrap, T.na_Wrap_kind, rfl, rfl, _, rfl, ifs_neg (show ("cut" : Str) ≠ "coded" by decide) ?_⟩
      refine ⟨_, rfl, q, _, dx, _, _, rfl, hq, T.cl_Wrap, T.na_Wrap_kind, rfl, rfl, _, rfl, ifs_neg (show ("cut" : Str) ≠ "filled" by decide) ?_⟩
      refine ⟨_, rfl, q, _, dx, _, _, rfl, hq, T.cl_Wrap, T.na_Wrap_kind, rfl, rfl, _, rfl, ifd_pos rfl ?_⟩
      exact ⟨_, rfl, _, rfl, _, rfl, n, m, rfl, by omega, by omega, _, rfl, _, _, rfl, rfl, .inr ⟨by omega, by omega⟩, _, _, rfl, rfl, k⟩
    | coded m c =>
      have e1 : m = x1 := by injection hm with z; injection z
      have e2 : c = x2 := by injection hl with z; injection z
      subst e1 e2
      simp only [Wr.ok] at ha
      refine ⟨_, rfl, q, _, dx, _, _, rfl, hq, T.cl_Wrap, T.na_Wrap_kind, rfl, rfl, _, rfl, ifs_neg (show ("coded" : Str) ≠ "plus" by decide) ?_⟩
      refine ⟨_, rfl, q, _, dx, _, _, rfl, hq, T.cl_Wrap, T.na_Wrap_kind, rfl, rfl, _, rfl, ifs_neg (show ("coded" : Str) ≠ "told" by decide) ?_⟩
      refine ⟨_, rfl, q, _, dx, _, _, rfl, hq, T.cl_Wrap, T.na_Wrap_kind, rfl, rfl, _, rfl, ifs_neg (show ("coded" : Str) ≠ "whole" by decide) ?_⟩
      refine ⟨_, rfl, q, _, dx, _, _, rfl, hq, T.cl_Wrap, T.na_Wrap_kind, rfl, rfl, _, rfl, ifd_pos rfl ?_⟩
      exact ⟨_, rfl, _, rfl, n, m, rfl, by omega, by omega, _, rfl, _, _, rfl, rfl, .inr ⟨by omega, by omega⟩, k⟩
    | filled m =>
      have e1 : m = x1 := by injection hm with z; injection z
      have e2 : m = x2 := by injection hl with z; injection z
      subst e1 e2
      simp only [Wr.ok] at ha
      refine ⟨_, rfl, q, _, dx, _, _, rfl, hq, T.cl_Wrap, T.na_Wrap_kind, rfl, rfl, _, rfl, ifs_neg (show ("filled" : Str) ≠ "plus" by decide) ?_⟩
      refine ⟨_, rfl, q, _, dx, _, _, rfl, hq, T.cl_Wrap, T.na_Wrap_kind, rfl, rfl, _, rfl, ifs_neg (show ("filled" : Str) ≠ "told" by decide) ?_⟩
      refine ⟨_, rfl, q, _, dx, _, _, rfl, hq, T.cl_Wrap, T.na_Wrap_kind, rfl, rfl, _, rfl, ifs_neg (show ("filled" : Str) ≠ "whole" by decide) ?_⟩
      refine ⟨_, rfl, q, _, dx, _, _, rfl, hq, T.cl_Wrap, T.na_Wrap_kind, rfl, rfl, _, rfl, ifs_neg (show ("filled" : Str) ≠ "coded" by decide) ?_⟩
      refine ⟨_, rfl, q, _, dx, _, _, rfl, hq, T.cl_Wrap, T.na_Wrap_kind, rfl, rfl, _, rfl, ifd_pos rfl ?_⟩
      exact ⟨_, rfl, _, rfl, n, m, rfl, by omega, by omega, _, rfl, _, _, rfl, rfl, .inr ⟨by omega, by omega⟩, k⟩
end
/-! ### stacks -/
def stepF (p : Int) : Wr → Int
  | .coded m c => p * m * c
  | .pieces m _ => p * m
  | .cut m _ => p * m
  | .filled m => p * m
  | _ => p
def fineL (ws : List Wr) : Int := ws.foldl stepF 1
inductive WrapsAt (K : PySem.W.Frag) (H : Hp) : List V → List Wr → Prop where
  | nil : WrapsAt K H [] []
  | cons {a : Addr} {x : Wr} {xs : List V} {ws : List Wr} (h : WrapAt K H a x) (r : WrapsAt K H xs ws) : WrapsAt K H (.ref a :: xs) (x :: ws)
theorem WrapsAt.len {K : PySem.W.Frag} {H : Hp} {xs : List V} {ws : List Wr} (h : WrapsAt K H xs ws) : xs.length = ws.length := by
  induction h with
  | nil => rfl
  | cons _ _ ih => exact congrArg (· + 1) ih
theorem WrapsAt.get {K : PySem.W.Frag} {H : Hp} {xs : List V} {ws : List Wr} (h : WrapsAt K H xs ws) : ∀ {i : Nat} {x : V}, xs[i]? = some x → ∃ (a : Addr) (y : Wr), x = .ref a ∧ ws[i]? = some y ∧ WrapAt K H a y := by
  induction h with
  | nil =>
    intro i x e
    simp at e
  | cons h _ ih =>
    intro i x e
    cases i with
    | zero =>
      simp at e
      exact ⟨_, _, e.symm, rfl, h⟩
    | succ i => exact ih (by simpa using e)
theorem WrapsAt.same {K : PySem.W.Frag} {H H' : Hp} {xs : List V} {ws : List Wr} (h : WrapsAt K H xs ws) (s : Same H H') : WrapsAt K H' xs ws := by
  induction h with
  | nil => exact .nil
  | cons h _ ih => exact .cons (h.same s) ih
theorem WrapsAt.snoc {K : PySem.W.Frag} {H : Hp} {xs : List V} {ws : List Wr} {a : Addr} {x : Wr} (h : WrapsAt K H xs ws) (hx : WrapAt K H a x) : WrapsAt K H (xs ++ [.ref a]) (ws ++ [x]) := by
  induction h with
  | nil => exact .cons hx .nil
  | cons h _ ih => exact .cons h ih
def stkFs (b : Int) (t : Addr) (ws : List Wr) : List (Str × V) := [("base", .int b), ("wraps", .ref t), ("fineness", .int (fineL ws))]
structure StkOk (b : Int) (ws : List Wr) : Prop where
  b0 : 2 ≤ b
  b1 : b ≤ 256
  ok : ∀ a ∈ ws, a.ok
  len : ws.length ≤ 6
  fine : fineL ws ≤ 120
/-- a stack stands there -/
def StkAt (K : PySem.W.Frag) (H : Hp) (q : Addr) (b : Int) (ws : List Wr) : Prop := ∃ dx t xs, H q = some (.ins (He.ga K "Stack") dx (stkFs b t ws)) ∧ H t = some (.tup xs) ∧ WrapsAt K H xs ws
theorem StkAt.same {K : PySem.W.Frag} {H H' : Hp} {q : Addr} {b : Int} {ws : List Wr} (h : StkAt K H q b ws) (s : Same H H') : StkAt K H' q b ws := by
  obtain ⟨dx, t, xs, h1, h2, h3⟩ := h
  exact ⟨dx, t, xs, s _ _ h1, s _ _ h2, h3.same s⟩
/-- the size behind all wraps -/
noncomputable def grS (b : Int) (ws : List Wr) (n : Int) : Int := ws.foldl (fun m a => a.gr b m) n
def spFine (K : PySem.W.Frag) : Sp := fun vs H Q _ => ∃ (t : Addr) (xs : List V) (ws : List Wr), vs = [.ref t] ∧ (SqL K H t xs ∨ SqT K H t xs) ∧ WrapsAt K H xs ws ∧ (∀ a ∈ ws, a.ok) ∧ ∀ H', Same H H' → Q (.int (fineL ws)) H'
def spWraps (K : PySem.W.Frag) : Sp := fun vs H Q _ => ∃ (t : Addr) (xs : List V) (ws : List Wr), vs = [.ref t, .int 6] ∧ SqT K H t xs ∧ WrapsAt K H xs ws ∧ ws.length ≤ 6 ∧ ∀ H', Same H H' → Q .non H'
section
variable {P : Program} {w : World} {K : PySem.W.Frag} {mg : Str → Option Value} {base : Heap}
theorem up {H' : Hp} {z : Addr} {o : HO} (hz : H' z = none) : Same H' (upd H' z o) := fun y u e => by
  rw [upd_ne (ne_of_none e hz)]
  exact e
theorem ifb_pos {b : Bool} {A B : Prop} (h : b = true) (a : A) : if b = true then A else B := by
  rw [if_pos h]
  exact a
theorem ifb_neg {b : Bool} {A B : Prop} (h : b = false) (a : B) : if b = true then A else B := by
  rw [h, if_neg Bool.false_ne_true]
  exact a
theorem ok_fineness_of (T : Tx w K mg) : Prom P w K mg base CX0 1 "fineness_of" s_fineness_of ["wraps"] (spFine K) := by
  refine Prom.of T.d_fineness_of sc_fineness_of (fun vs H Q E h => ?_) (fun _ _ _ _ _ _ us hl => match us, hl with | [_], _ => rfl) (fun f cdv A outer s H vs Q E hr h => ?_)
  · obtain ⟨t, xs, ws, rfl, _⟩ := h
    rfl
  · obtain ⟨t, xs, ws, rfl, hT, hw, ha, k⟩ := h
    have inv : True := trivial
    refine ⟨_, (pss_cons (ps_set (i := 1) sc_fineness_of.nd rfl (Or.inl rfl) pe_int)
      (pss_cons (ps_for PassesOwn.never (by rfl) (pi_seq (pv 0)) (pg_name (i := 2) sc_fineness_of.nd rfl (Or.inl rfl)) (pss_one (ps_if (pt_cmpR op_eq (pe_fld (pv 2) rfl) pe_str (nomark _)) (pss_one (ps_set (i := 1) sc_fineness_of.nd rfl (Or.inl rfl) (pe_op op_mul (pe_op op_mul (pv 1) (pe_ix ix_tup (pe_fld (pv 2) rfl) pe_int (fun _ _ => rfl))) (pe_ix ix_tup (pe_fld (pv 2) rfl) pe_int (fun _ _ => rfl))))) (pss_one (ps_if (pt_cmpR op_in_seq (pe_fld (pv 2) rfl) (pe_tup (pa_cons pe_str (pa_cons pe_str (pa_cons pe_str pa_nil)))) (by rfl)) (pss_one (ps_set (i := 1) sc_fineness_of.nd rfl (Or.inl rfl) (pe_op op_mul (pv 1) (pe_ix ix_tup (pe_fld (pv 2) rfl) pe_int (fun _ _ => rfl))))) pss_nil)))))
      (pss_one (ps_ret (pv 1))))), ?_⟩
    rcases hT with hT | hT
    · have hT' : ∀ {H' : Hp}, Same H H' → SqL K H' t xs := fun {H'} hs => hs.seq hT
      refine .inl ⟨_, rfl, t, rfl, ⟨_, hT⟩, for_it (walk_list (K := K) (a := t) (xs := xs)) (fun i σ H' => Same H H' ∧ ∃ v, σ = [some (.ref t), some (.int ((ws.take i).foldl stepF 1)), v]) ⟨Same.refl H, none, rfl⟩ (fun _ _ H' _ h => hT' h.1) ?_ ?_⟩
      · rintro i x σ H1 H2 hi ⟨hs, v, rfl⟩ ⟨rfl, hx⟩
        obtain ⟨q, a, rfl, hq, hw1⟩ := hw.get hx
        have hok := ha a (List.mem_of_getElem? hq)
        obtain ⟨dx, p, h1, h2⟩ := hw1.same hs
        have et : (ws.take (i + 1)).foldl stepF 1 = stepF ((ws.take i).foldl stepF 1) a := by
          rw [List.take_succ, hq, List.foldl_append]
          rfl
        generalize (ws.take i).foldl stepF 1 = m at et ⊢
        rw [et]
        have num : ∀ {j : Nat} {n : Int}, a.nums[j]? = some n → atI (a.nums.map V.int) ((j : Nat) : Int) = some (.int n) := fun {j n} hj => atI_nat (by rw [List.getElem?_map, hj]; rfl)
        refine ⟨_, rfl, q, _, dx, _, _, rfl, h1, T.cl_Wrap, T.na_Wrap_kind, rfl, rfl, _, rfl, ?_⟩
        cases a with
        | coded m' c =>
          refine ifd_pos rfl ?_
          simp only [Wr.ok] at hok
          refine ⟨_, rfl, _, rfl, q, _, dx, _, _, rfl, h1, T.cl_Wrap, T.na_Wrap_numbers, rfl, p, _, _, _, rfl, rfl, SqT.of h2, num (j := 0) rfl, _, _, rfl, rfl, .inr ⟨by omega, by omega⟩, ?_⟩
          refine ⟨_, rfl, q, _, dx, _, _, rfl, h1, T.cl_Wrap, T.na_Wrap_numbers, rfl, p, _, _, _, rfl, rfl, SqT.of h2, num (j := 1) rfl, _, _, rfl, rfl, .inr ⟨by omega, by omega⟩, ?_⟩
          exact ⟨hs, _, rfl⟩
        | plus c =>
          refine ifs_neg (show ("plus" : Str) ≠ "coded" by decide) ?_
          refine ⟨_, rfl, q, _, dx, _, _, rfl, h1, T.cl_Wrap, T.na_Wrap_kind, rfl, (by show 3 ≤ sizeLine; decide), fun t2 ht2 => ?_⟩
          refine ⟨t2, _, rfl, .inr (SqT.of upd_same), rfl, rfl, _, rfl, ifb_neg (by kernel_rfl) ?_⟩
          exact ⟨hs.trans (up ht2), _, rfl⟩
        | told c =>
          refine ifs_neg (show ("told" : Str) ≠ "coded" by decide) ?_
          refine ⟨_, rfl, q, _, dx, _, _, rfl, h1, T.cl_Wrap, T.na_Wrap_kind, rfl, (by show 3 ≤ sizeLine; decide), fun t2 ht2 => ?_⟩
          refine ⟨t2, _, rfl, .inr (SqT.of upd_same), rfl, rfl, _, rfl, ifb_neg (by kernel_rfl) ?_⟩
          exact ⟨hs.trans (up ht2), _, rfl⟩
        | whole c =>
          refine ifs_neg (show ("whole" : Str) ≠ "coded" by decide) ?_
          refine ⟨_, rfl, q, _, dx, _, _, rfl, h1, T.cl_Wrap, T.na_Wrap_kind, rfl, (by show 3 ≤ sizeLine; decide), fun t2 ht2 => ?_⟩
          refine ⟨t2, _, rfl, .inr (SqT.of upd_same), rfl, rfl, _, rfl, ifb_neg (by kernel_rfl) ?_⟩
          exact ⟨hs.trans (up ht2), _, rfl⟩
        | pieces m' c =>
          refine ifs_neg (show ("pieces" : Str) ≠ "coded" by decide) ?_
          simp only [Wr.ok] at hok
          refine ⟨_, rfl, q, _, dx, _, _, rfl, h1, T.cl_Wrap, T.na_Wrap_kind, rfl, (by show 3 ≤ sizeLine; decide), fun t2 ht2 => ?_⟩
          refine ⟨t2, _, rfl, .inr (SqT.of upd_same), rfl, rfl, _, rfl, ifb_pos (by kernel_rfl) ?_⟩
          have g1 := (up ht2 (o := .tup [V.str "pieces", V.str "cut", V.str "filled"])) _ _ h1
          have g2 := (up ht2 (o := .tup [V.str "pieces", V.str "cut", V.str "filled"])) _ _ h2
          refine ⟨_, rfl, _, rfl, q, _, dx, _, _, rfl, g1, T.cl_Wrap, T.na_Wrap_numbers, rfl, p, _, _, _, rfl, rfl, SqT.of g2, num (j := 0) rfl, _, _, rfl, rfl, .inr ⟨by omega, by omega⟩, ?_⟩
          exact ⟨hs.trans (up ht2), _, rfl⟩
        | cut m' c =>
          refine ifs_neg (show ("cut" : Str) ≠ "coded" by decide) ?_
          simp only [Wr.ok] at hok
          refine ⟨_, rfl, q, _, dx, _, _, rfl, h1, T.cl_Wrap, T.na_Wrap_kind, rfl, (by show 3 ≤ sizeLine; decide), fun t2 ht2 => ?_⟩
          refine ⟨t2, _, rfl, .inr (SqT.of upd_same), rfl, rfl, _, rfl, ifb_pos (by kernel_rfl) ?_⟩
          have g1 := (up ht2 (o := .tup [V.str "pieces", V.str "cut", V.str "filled"])) _ _ h1
          have g2 := (up ht2 (o := .tup [V.str "pieces", V.str "cut", V.str "filled"])) _ _ h2
          refine ⟨_, rfl, _, rfl, q, _, dx, _, _, rfl, g1, T.cl_Wrap, T.na_Wrap_numbers, rfl, p, _, _, _, rfl, rfl, SqT.of g2, num (j := 0) rfl, _, _, rfl, rfl, .inr ⟨by omega, by omega⟩, ?_⟩
          exact ⟨hs.trans (up ht2), _, rfl⟩
        | filled m' =>
          refine ifs_neg (show ("filled" : Str) ≠ "coded" by decide) ?_
          simp only [Wr.ok] at hok
          refine ⟨_, rfl, q, _, dx, _, _, rfl, h1, T.cl_Wrap, T.na_Wrap_kind, rfl, (by show 3 ≤ sizeLine; decide), fun t2 ht2 => ?_⟩
          refine ⟨t2, _, rfl, .inr (SqT.of upd_same), rfl, rfl, _, rfl, ifb_pos (by kernel_rfl) ?_⟩
          have g1 := (up ht2 (o := .tup [V.str "pieces", V.str "cut", V.str "filled"])) _ _ h1
          have g2 := (up ht2 (o := .tup [V.str "pieces", V.str "cut", V.str "filled"])) _ _ h2
          refine ⟨_, rfl, _, rfl, q, _, dx, _, _, rfl, g1, T.cl_Wrap, T.na_Wrap_numbers, rfl, p, _, _, _, rfl, rfl, SqT.of g2, num (j := 0) rfl, _, _, rfl, rfl, .inr ⟨by omega, by omega⟩, ?_⟩
          exact ⟨hs.trans (up ht2), _, rfl⟩
      · rintro σ H' ⟨hs, v, rfl⟩
        rw [hw.len, List.take_length]
        exact ⟨_, rfl, k _ hs⟩
    · have hT' : ∀ {H' : Hp}, Same H H' → SqT K H' t xs := fun {H'} hs => by
        rcases hT with (h | ⟨o, h⟩) | h
        · exact .inl (.inl (hs _ _ h))
        · exact .inl (.inr ⟨o, hs _ _ h⟩)
        · exact .inr h
      refine .inr ⟨_, rfl, t, rfl, ⟨_, hT⟩, for_it (walk_tup (K := K) (a := t) (xs := xs)) (fun i σ H' => Same H H' ∧ ∃ v, σ = [some (.ref t), some (.int ((ws.take i).foldl stepF 1)), v]) ⟨Same.refl H, none, rfl⟩ (fun _ _ H' _ h => hT' h.1) ?_ ?_⟩
      · rintro i x σ H1 H2 hi ⟨hs, v, rfl⟩ ⟨rfl, hx⟩
        obtain ⟨q, a, rfl, hq, hw1⟩ := hw.get hx
        have hok := ha a (List.mem_of_getElem? hq)
        obtain ⟨dx, p, h1, h2⟩ := hw1.same hs
        have et : (ws.take (i + 1)).foldl stepF 1 = stepF ((ws.take i).foldl stepF 1) a := by
          rw [List.take_succ, hq, List.foldl_append]
          rfl
        generalize (ws.take i).foldl stepF 1 = m at et ⊢
        rw [et]
        have num : ∀ {j : Nat} {n : Int}, a.nums[j]? = some n → atI (a.nums.map V.int) ((j : Nat) : Int) = some (.int n) := fun {j n} hj => atI_nat (by rw [List.getElem?_map, hj]; rfl)
        refine ⟨_, rfl, q, _, dx, _, _, rfl, h1, T.cl_Wrap, T.na_Wrap_kind, rfl, rfl, _, rfl, ?_⟩
        cases a with
        | coded m' c =>
          refine ifd_pos rfl ?_
          simp only [Wr.ok] at hok
          refine ⟨_, rfl, _, rfl, q, _, dx, _, _, rfl, h1, T.cl_Wrap, T.na_Wrap_numbers, rfl, p, _, _, _, rfl, rfl, SqT.of h2, num (j := 0) rfl, _, _, rfl, rfl, .inr ⟨by omega, by omega⟩, ?_⟩
          refine ⟨_, rfl, q, _, dx, _, _, rfl, h1, T.cl_Wrap, T.na_Wrap_numbers, rfl, p, _, _, _, rfl, rfl, SqT.of h2, num (j := 1) rfl, _, _, rfl, rfl, .inr ⟨by omega, by omega⟩, ?_⟩
          exact ⟨hs, _, rfl⟩
        | plus c =>
          refine ifs_neg (show ("plus" : Str) ≠ "coded" by decide) ?_
          refine ⟨_, rfl, q, _, dx, _, _, rfl, h1, T.cl_Wrap, T.na_Wrap_kind, rfl, (by show 3 ≤ sizeLine; decide), fun t2 ht2 => ?_⟩
          refine ⟨t2, _, rfl, .inr (SqT.of upd_same), rfl, rfl, _, rfl, ifb_neg (by kernel_rfl) ?_⟩
          exact ⟨hs.trans (up ht2), _, rfl⟩
        | told c =>
          refine ifs_neg (show ("told" : Str) ≠ "coded" by decide) ?_
          refine ⟨_, rfl, q, _, dx, _, _, rfl, h1, T.cl_Wrap, T.na_Wrap_kind, rfl, (by show 3 ≤ sizeLine; decide), fun t2 ht2 => ?_⟩
          refine ⟨t2, _, rfl, .inr (SqT.of upd_same), rfl, rfl, _, rfl, ifb_neg (by kernel_rfl) ?_⟩
          exact ⟨hs.trans (up ht2), _, rfl⟩
        | whole c =>
          refine ifs_neg (show ("whole" : Str) ≠ "coded" by decide) ?_
          refine ⟨_, rfl, q, _, dx, _, _, rfl, h1, T.cl_Wrap, T.na_Wrap_kind, rfl, (by show 3 ≤ sizeLine; decide), fun t2 ht2 => ?_⟩
          refine ⟨t2, _, rfl, .inr (SqT.of upd_same), rfl, rfl, _, rfl, ifb_neg (by kernel_rfl) ?_⟩
          exact ⟨hs.trans (up ht2), _, rfl⟩
        | pieces m' c =>
          refine ifs_neg (show ("pieces" : Str) ≠ "coded" by decide) ?_
          simp only [Wr.ok] at hok
          refine ⟨_, rfl, q, _, dx, _, _, rfl, h1, T.cl_Wrap, T.na_Wrap_kind, rfl, (by show 3 ≤ sizeLine; decide), fun t2 ht2 => ?_⟩
          refine ⟨t2, _, rfl, .inr (SqT.of upd_same), rfl, rfl, _, rfl, ifb_pos (by kernel_rfl) ?_⟩
          have g1 := (up ht2 (o := .tup [V.str "pieces", V.str "cut", V.str "filled"])) _ _ h1
          have g2 := (up ht2 (o := .tup [V.str "pieces", V.str "cut", V.str "filled"])) _ _ h2
          refine ⟨_, rfl, _, rfl, q, _, dx, _, _, rfl, g1, T.cl_Wrap, T.na_Wrap_numbers, rfl, p, _, _, _, rfl, rfl, SqT.of g2, num (j := 0) rfl, _, _, rfl, rfl, .inr ⟨by omega, by omega⟩, ?_⟩
          exact ⟨hs.trans (up ht2), _, rfl⟩
        | cut m' c =>
          refine ifs_neg (show ("cut" : Str) ≠ "coded" by decide) ?_
          simp only [Wr.ok] at hok
          refine ⟨_, rfl, q, _, dx, _, _, rfl, h1, T.cl_Wrap, T.na_Wrap_kind, rfl, (by show 3 ≤ sizeLine; decide), fun t2 ht2 => ?_⟩
          refine ⟨t2, _, rfl, .inr (SqT.of upd_same), rfl, rfl, _, rfl, ifb_pos (by kernel_rfl) ?_⟩
          have g1 := (up ht2 (o := .tup [V.str "pieces", V.str "cut", V.str "filled"])) _ _ h1
          have g2 := (up ht2 (o := .tup [V.str "pieces", V.str "cut", V.str "filled"])) _ _ h2
          refine ⟨_, rfl, _, rfl, q, _, dx, _, _, rfl, g1, T.cl_Wrap, T.na_Wrap_numbers, rfl, p, _, _, _, rfl, rfl, SqT.of g2, num (j := 0) rfl, _, _, rfl, rfl, .inr ⟨by omega, by omega⟩, ?_⟩
          exact ⟨hs.trans (up ht2), _, rfl⟩
        | filled m' =>
          refine ifs_neg (show ("filled" : Str) ≠ "coded" by decide) ?_
          simp only [Wr.ok] at hok
          refine ⟨_, rfl, q, _, dx, _, _, rfl, h1, T.cl_Wrap, T.na_Wrap_kind, rfl, (by show 3 ≤ sizeLine; decide), fun t2 ht2 => ?_⟩
          refine ⟨t2, _, rfl, .inr (SqT.of upd_same), rfl, rfl, _, rfl, ifb_pos (by kernel_rfl) ?_⟩
          have g1 := (up ht2 (o := .tup [V.str "pieces", V.str "cut", V.str "filled"])) _ _ h1
          have g2 := (up ht2 (o := .tup [V.str "pieces", V.str "cut", V.str "filled"])) _ _ h2
          refine ⟨_, rfl, _, rfl, q, _, dx, _, _, rfl, g1, T.cl_Wrap, T.na_Wrap_numbers, rfl, p, _, _, _, rfl, rfl, SqT.of g2, num (j := 0) rfl, _, _, rfl, rfl, .inr ⟨by omega, by omega⟩, ?_⟩
          exact ⟨hs.trans (up ht2), _, rfl⟩
      · rintro σ H' ⟨hs, v, rfl⟩
        rw [hw.len, List.take_length]
        exact ⟨_, rfl, k _ hs⟩
end
theorem gr_pow {b : Int} {a : Wr} (hb : 2 ≤ b) (h : a.ok) {n : Int} {k : Nat} (hk : 12 ≤ k) (hn : 0 ≤ n) (hn2 : n < 2 ^ k) : 0 ≤ a.gr b n ∧ a.gr b n < 2 ^ (k + 8) := by
  have g := gr_le hb h hn
  have e : (2 : Int) ^ (k + 8) = 2 ^ k * 256 := by rw [Int.pow_add]; rfl
  have e2 : (2 : Int) ^ 12 ≤ 2 ^ k := pow_mono (by decide) hk
  have e3 : (2 : Int) ^ 12 = 4096 := by decide
  omega
theorem grS_pow {b : Int} (hb : 2 ≤ b) : ∀ (ws : List Wr), (∀ a ∈ ws, a.ok) → ∀ {n : Int} {k : Nat}, 12 ≤ k → 0 ≤ n → n < 2 ^ k → 0 ≤ grS b ws n ∧ grS b ws n < 2 ^ (k + 8 * ws.length)
  | [], _, n, k, _, h0, h1 => ⟨h0, h1⟩
  | a :: ws, ha, n, k, hk, h0, h1 => by
    have g := gr_pow hb (ha a (List.mem_cons_self ..)) hk h0 h1
    have ih := grS_pow hb ws (fun x hx => ha x (List.mem_cons_of_mem _ hx)) (show 12 ≤ k + 8 by omega) g.1 g.2
    refine ⟨ih.1, ?_⟩
    have e : k + 8 + 8 * ws.length = k + 8 * (a :: ws).length := by simp; omega
    rw [e] at ih
    exact ih.2
def spStack0 (K : PySem.W.Frag) : Sp := fun vs H Q _ => ∃ (x p dx : Addr) (b : Int) (xs : List V) (ws : List Wr), vs = [.ref x, .int b, .ref p] ∧ StkOk b ws ∧ H x = some (.ins (He.ga K "Stack") dx []) ∧ H p = some (.tup xs) ∧ WrapsAt K H xs ws ∧
  ∀ H', Kp x H H' → H' x = some (.ins (He.ga K "Stack") dx (stkFs b p ws)) → Q .non H'
def spStack (K : PySem.W.Frag) : Sp := fun vs H Q _ => ∃ (b : Int) (xs : List V) (ws : List Wr), vs = .int b :: xs ∧ StkOk b ws ∧ WrapsAt K H xs ws ∧ ∀ q H', H q = none → Same H H' → StkAt K H' q b ws → Q (.ref q) H'
def spSGrown (K : PySem.W.Frag) : Sp := fun vs H Q _ => ∃ (q : Addr) (b : Int) (ws : List Wr) (n : Int), vs = [.ref q, .int n] ∧ StkAt K H q b ws ∧ StkOk b ws ∧ 0 ≤ n ∧ n < 2 ^ 1000 ∧ Q (.int (grS b ws n)) H
def spSSize (K : PySem.W.Frag) : Sp := fun vs H Q _ => ∃ (q : Addr) (b : Int) (ws : List Wr) (n : Int), vs = [.ref q, .int n] ∧ StkAt K H q b ws ∧ StkOk b ws ∧ 0 ≤ n ∧ n ≤ 10 ^ 60 - 1 ∧ Q (.int (grS b ws n)) H
def spIsWrap (K : PySem.W.Frag) : Sp := fun vs H Q _ => ∃ (q : Addr) (a : Wr), vs = [.ref q] ∧ WrapAt K H q a ∧ Q .non H
def spIsStack (K : PySem.W.Frag) : Sp := fun vs H Q _ => ∃ (q : Addr) (b : Int) (ws : List Wr), vs = [.ref q] ∧ StkAt K H q b ws ∧ Q .non H
def spAdd (K : PySem.W.Frag) : Sp := fun vs H Q _ => ∃ (q r : Addr) (b : Int) (ws : List Wr) (a : Wr), vs = [.ref q, .ref r] ∧ StkAt K H q b ws ∧ WrapAt K H r a ∧ ws.length < 6 ∧ StkOk b (ws ++ [a]) ∧ ∀ q' H', H q' = none → Same H H' → StkAt K H' q' b (ws ++ [a]) → Q (.ref q') H'
section
variable {P : Program} {w : World} {K : PySem.W.Frag} {mg : Str → Option Value} {base : Heap}
theorem ok_check_wraps (T : Tx w K mg) : Prom P w K mg base CX0 1 "check_wraps" s_check_wraps ["values", "most"] (spWraps K) := by
  refine Prom.of T.d_check_wraps sc_check_wraps (fun vs H Q E h => ?_) (fun _ _ _ _ _ _ us hl => match us, hl with | [_, _], _ => rfl) (fun f cdv A outer s H vs Q E hr h => ?_)
  · obtain ⟨t, xs, ws, rfl, _⟩ := h
    rfl
  · obtain ⟨t, xs, ws, rfl, hT, hw, hl, k⟩ := h
    have hT' : ∀ {H' : Hp}, Same H H' → SqT K H' t xs := fun {H'} hs => by
      rcases hT with (h | ⟨o, h⟩) | h
      · exact .inl (.inl (hs _ _ h))
      · exact .inl (.inr ⟨o, hs _ _ h⟩)
      · exact .inr h
    have hlx := hw.len
    refine ⟨_, (pss_cons (ps_if (pt_cmp (pc_gt (pe_callB call_len_seq (by rfl) T.b_len (by decide +kernel) (pa_cons (pv 0) pa_nil)) (pv 1))) (pss_one ps_never) pss_nil)
      (pss_one (ps_for PassesOwn.never (by rfl) (pi_enumT (by rfl) T.b_enumerate (pa_cons (pv 0) pa_nil)) (pg_tup rfl (pgs_cons (pg_name (i := 2) sc_check_wraps.nd rfl (Or.inl rfl)) (pgs_cons (pg_name (i := 3) sc_check_wraps.nd rfl (Or.inl rfl)) pgs_nil))) (pss_one (ps_if (pt_not (pt_val (pe_callB call_isi (by rfl) T.b_isinstance (by decide +kernel) (pa_cons (pv 3) (pa_cons (pe_glob (v := .ref _) (by rfl) T.k_Wrap rfl) pa_nil))))) (pss_one ps_never) pss_nil))))), ?_⟩
    refine ⟨_, rfl, t, xs, rfl, .inr hT, _, rfl, _, _, rfl, rfl, _, rfl, ifd (fun c => absurd c (by show ¬ (6 : Int) < (xs.length : Int); omega)) (fun _ => ?_)⟩
    refine ⟨_, rfl, t, xs, rfl, hT, for_it (walk_enumT (K := K) (a := t) (xs := xs)) (fun i σ H' => Same H H' ∧ ∃ v1 v2, σ = [some (.ref t), some (.int 6), v1, v2]) ⟨Same.refl H, none, none, rfl⟩ (fun _ _ H' _ h => hT' h.1) ?_ ?_⟩
    · rintro i x σ H1 H2 hi ⟨hs, v1, v2, rfl⟩ ⟨t2, x1, x2, rfl, ht2, rfl, e1, e2⟩
      cases e1
      obtain ⟨q, a, rfl, hq, hw1⟩ := hw.get e2
      have hs2 := hs.trans (up (o := .tup [.int (i : Nat), .ref q]) ht2)
      obtain ⟨dx, p, h1, h2⟩ := hw1.same hs2
      refine ⟨t2, _, rfl, SqT.of upd_same, rfl, _, _, rfl, _, _, rfl, rfl, ?_⟩
      refine ⟨_, rfl, _, _, _, _, true, rfl, .own _, T.is_Wrap.ty h1, kit_self, true, rfl, iteF ?_⟩
      exact ⟨hs2, _, _, rfl⟩
    · rintro σ H' ⟨hs, v1, v2, rfl⟩
      exact k _ hs
theorem ok_Stack (T : Tx w K mg) : PromC P w K mg base CX0 4 "Stack" (spStack K) := by
  refine PromC.star (sp0 := spStack0 K) T.mk_Stack T.k_Stack T.dm_Stack___init__ sc_Stack___init__ (fun _ _ _ _ _ _ _ _ => rfl) (fun _ _ _ _ _ _ _ _ _ _ => rfl) (fun f cdv A outer s H vs Q E hr h => ?_) (fun vs H Q E h => ?_)
  · obtain ⟨x, p, dx, b, xs, ws, rfl, so, hx, hp, hw, k⟩ := h
    refine ⟨_, (pss_cons (ps_expr (pe_callP (ok_check_base T) (hr.mono (by decide)) (by rfl) pass0 (pa_cons (pv 1) pa_nil)))
      (pss_cons (ps_expr (pe_callP (ok_check_wraps T) (hr.mono (by decide)) (by rfl) pass0 (pa_cons (pv 2) (pa_cons (pe_gint T.c_MOST_WRAPS) pa_nil))))
      (pss_cons (ps_set (i := 3) sc_Stack___init__.nd rfl (Or.inl rfl) (pe_callP (ok_fineness_of T) (hr.mono (by decide)) (by rfl) pass0 (pa_cons (pv 2) pa_nil)))
      (pss_cons (ps_if (pt_cmp (pc_gt (pv 3) (pe_gint T.c_MOST_FINENESS))) (pss_one ps_never) pss_nil)
      (pss_cons (ps_fld (pv 0) (pv 1) rfl)
      (pss_cons (ps_fld (pv 0) (pv 2) rfl)
      (pss_one (ps_fld (pv 0) (pv 3) rfl)))))))), ?_⟩
    refine ⟨_, rfl, b, rfl, so.b0, so.b1, ?_⟩
    refine ⟨_, rfl, p, xs, ws, rfl, SqT.of hp, hw, so.len, fun H1 s1 => ?_⟩
    refine ⟨_, rfl, p, xs, ws, rfl, .inr (SqT.of (s1 _ _ hp)), hw.same s1, so.ok, fun H2 s2 => ?_⟩
    have sf := so.fine
    refine ⟨_, rfl, _, _, rfl, rfl, _, rfl, ifd (fun c => absurd c (by show ¬ (120 : Int) < fineL ws; omega)) (fun _ => ?_)⟩
    refine ⟨_, rfl, _, rfl, x, _, dx, _, rfl, s2 _ _ (s1 _ _ hx), T.cl_Stack, T.na_Stack_base, (show (0 : Nat) < 1000 by decide), ?_⟩
    refine ⟨_, rfl, _, rfl, x, _, dx, _, rfl, upd_same, T.cl_Stack, T.na_Stack_wraps, (show (1 : Nat) < 1000 by decide), ?_⟩
    refine ⟨_, rfl, _, rfl, x, _, dx, _, rfl, upd_same, T.cl_Stack, T.na_Stack_fineness, (show (2 : Nat) < 1000 by decide), ?_⟩
    exact k _ (Kp.set (Kp.set (Kp.set fun z o n e => s2 _ _ (s1 _ _ e)))) upd_same
  · obtain ⟨b, xs, ws, rfl, so, hw, k⟩ := h
    have hl : xs.length ≤ sizeLine := by
      rw [hw.len, sizeLine_eq]
      have := so.len
      omega
    refine ⟨_, _, rfl, hl, fun x dx p hx hdx nd np npd hp => ?_⟩
    have same : Same H (upd (upd (upd H dx (.own x)) x (.ins (He.ga K "Stack") dx [])) p (.tup xs)) := fun z o e => by
      rw [upd_ne (ne_of_none e hp), upd_ne (ne_of_none e hx), upd_ne (ne_of_none e hdx)]
      exact e
    refine ⟨x, p, dx, b, xs, ws, rfl, so, by rw [upd_ne (Ne.symm np)]; exact upd_same, upd_same, hw.same same, fun H' kp hx' => ⟨rfl, ?_⟩⟩
    have s2 : Same H H' := fun z o e => kp _ _ (ne_of_none e hx) (same _ _ e)
    exact k x H' hx s2 ⟨dx, p, xs, hx', kp _ _ np upd_same, hw.same s2⟩
theorem ok_Stack_grown (T : Tx w K mg) : PromM P w K mg base CX0 4 "Stack" "grown" ["self", "length"] (spSGrown K) := by
  refine PromM.of T.cl_Stack T.me_Stack_grown T.dm_Stack_grown sc_Stack_grown (fun vs H Q E h => ?_) (fun _ _ _ _ _ _ us hl => match us, hl with | [_, _], _ => rfl) (fun f cdv A outer s H vs Q E hr h => ?_)
  · obtain ⟨q, b, ws, n, rfl, _⟩ := h
    rfl
  · obtain ⟨q, b, ws, n, rfl, ⟨dx, t, xs, hq, ht, hw⟩, so, n0, n1, k⟩ := h
    refine ⟨_, (pss_cons (ps_for PassesOwn.never (by rfl) (pi_tup (pe_fld (pv 0) rfl)) (pg_name (i := 2) sc_Stack_grown.nd rfl (Or.inl rfl)) (pss_one (ps_set (i := 1) sc_Stack_grown.nd rfl (Or.inl rfl) (pe_methP (ok_Wrap_grown T) (hr.mono (by decide)) pass0 (pv 2) (pa_cons (pv 1) (pa_cons (pe_fld (pv 0) rfl) pa_nil))))))
      (pss_one (ps_ret (pv 1)))), ?_⟩
    refine ⟨_, rfl, q, _, dx, _, _, rfl, hq, T.cl_Stack, T.na_Stack_wraps, rfl, t, rfl, ⟨_, SqT.of ht⟩, for_it (walk_tup (K := K) (a := t) (xs := xs)) (fun i σ H' => H' = H ∧ ∃ v, σ = [some (.ref q), some (.int (grS b (ws.take i) n)), v]) ⟨rfl, none, rfl⟩ (fun _ _ H' _ h => by rw [h.1]; exact SqT.of ht) ?_ ?_⟩
    · rintro i x σ H1 H2 hi ⟨rfl, v, rfl⟩ ⟨rfl, hx⟩
      obtain ⟨r, a, rfl, hr2, hw1⟩ := hw.get hx
      have hok := so.ok a (List.mem_of_getElem? hr2)
      obtain ⟨dx2, p, h1, h2⟩ := id hw1
      have et : grS b (ws.take (i + 1)) n = a.gr b (grS b (ws.take i) n) := by
        unfold grS
        rw [List.take_succ, hr2, List.foldl_append]
        rfl
      have hl := so.len
      have hlt : (ws.take i).length ≤ 6 := by
        rw [List.length_take]
        omega
      have bd := grS_pow so.b0 (ws.take i) (fun z hz => so.ok z (List.mem_of_mem_take hz)) (show 12 ≤ 1000 by decide) n0 n1
      have bd2 : grS b (ws.take i) n < 2 ^ 3000 := Int.lt_of_lt_of_le bd.2 (pow_mono (by decide) (by omega))
      rw [et]
      generalize grS b (ws.take i) n = m at bd bd2 ⊢
      refine ⟨_, rfl, r, dx2, _, rfl, h1, rfl, _, rfl, _, rfl, q, _, dx, _, _, rfl, hq, T.cl_Stack, T.na_Stack_base, rfl, a, r, m, b, rfl, hw1, hok, so.b0, so.b1, bd.1, bd2, ?_⟩
      exact ⟨rfl, _, rfl⟩
    · rintro σ H' ⟨rfl, v, rfl⟩
      rw [hw.len, List.take_length]
      exact ⟨_, rfl, k⟩
end
/-! ### the integer that a word tells -/
def spAmount : Sp := fun vs H Q _ => ∃ s : Str, vs = [.str s] ∧ s.length ≤ 2000 ∧ Q (.int (numV s)) H
theorem str_dec {a b : Str} : decide (V.str a = V.str b) = decide (a = b) := by
  by_cases h : a = b
  · rw [decide_eq_true h, decide_eq_true (congrArg V.str h)]
  · rw [decide_eq_false h, decide_eq_false fun z => h (by cases z; rfl)]
theorem str_ne_nil {s : Str} (h : s ≠ "") : ∃ c cs, s.cps.toList = c :: cs := by
  match e : s.cps.toList with
  | c :: cs => exact ⟨c, cs, rfl⟩
  | [] =>
    refine absurd ?_ h
    have : s.cps = #[] := by
      rw [← Array.toList_inj]
      exact e
    cases s
    cases this
    rfl
theorem ite_same2 {b : Bool} {A R : Prop} (h : b = true → R → A) (r : R) : if b = true then A else R := by
  cases b with
  | false => exact r
  | true => exact h rfl r
section
variable {P : Program} {w : World} {K : PySem.W.Frag} {mg : Str → Option Value} {base : Heap}
theorem ok_amount_of (T : Tx w K mg) : Prom P w K mg base CX0 2 "amount_of" s_amount_of ["word"] spAmount := by
  refine Prom.of T.d_amount_of sc_amount_of (fun vs H Q E h => ?_) (fun _ _ _ _ _ _ us hl => match us, hl with | [_], _ => rfl) (fun f cdv A outer s H vs Q E hr h => ?_)
  · obtain ⟨z, rfl, _⟩ := h
    rfl
  · obtain ⟨z, rfl, hz, k⟩ := h
    refine ⟨_, (pss_cons (ps_if (PW.pt (pw_or (pt_cmpR op_eq (pv 0) pe_str (nomark _)) (pw_or1 (PW.pt (pw_and (pt_cmpR op_eq (pe_ix ix_str (pv 0) pe_int (fun _ _ => rfl)) pe_str (nomark _)) (pw_and1 (pt_cmpR op_ne (pv 0) pe_str (nomark _)))))))) (pss_one (ps_ret (pe_un un_neg pe_int))) pss_nil)
      (pss_cons (ps_set (i := 1) sc_amount_of.nd rfl (Or.inl rfl) pe_int)
      (pss_cons (ps_for PassesOwn.never (by rfl) (pi_str (pv 0)) (pg_name (i := 2) sc_amount_of.nd rfl (Or.inl rfl)) (pss_cons (ps_if (pt_cmpR op_notIn_sign (pv 2) (pe_gstr T.c_TENS) (by rfl)) (pss_one (ps_ret (pe_un un_neg pe_int))) pss_nil)
      (pss_one (ps_set (i := 1) sc_amount_of.nd rfl (Or.inl rfl) (pe_op op_add (pe_op op_mul pe_int (pv 1)) (pe_sindex (pe_gstr T.c_TENS) (pv 2)))))))
      (pss_one (ps_ret (pv 1)))))), ?_⟩
    have hz2 : z.length ≤ sizeLine := Nat.le_trans hz (by decide)
    by_cases e0 : z = ""
    · subst e0
      refine ⟨_, rfl, rfl, _, rfl, iteT ?_⟩
      exact iteT ⟨_, rfl, k⟩
    obtain ⟨c, cs, ec⟩ := str_ne_nil e0
    refine ⟨_, rfl, rfl, _, rfl, ifd (fun x => absurd (by cases x; rfl) e0) (fun _ => ?_)⟩
    refine ⟨_, rfl, _, _, c, rfl, rfl, hz2, atI_nat (j := 0) (by rw [ec]; rfl), rfl, _, rfl, ?_⟩
    by_cases e1 : z.cps.toList[0]? = some 48 ∧ z ≠ "0"
    · have ec0 : c = 48 := by
        have := e1.1
        rw [ec] at this
        exact Option.some.inj this
      refine ifd (fun _ => ?_) (fun x => absurd (by rw [ec0]; rfl) x)
      refine ⟨_, rfl, rfl, _, rfl, ifn (fun _ => ?_) (fun x => absurd (by cases x; rfl) e1.2)⟩
      refine ⟨_, rfl, ?_⟩
      rw [numV_zero e0 e1.1 e1.2] at k
      exact k
    refine ite_same2 (fun x r => ⟨_, rfl, rfl, _, rfl, ?_⟩) ?_
    · have ez : z = "0" := by
        refine Decidable.byContradiction fun y => e1 ⟨?_, y⟩
        rw [ec]
        have x := of_decide_eq_true x
        cases x
        rfl
      rw [show (!decide (V.str z = V.str (Str.ofString "0"))) = false by rw [ez]; rfl]
      exact r
    refine iteF ?_
    refine ⟨_, rfl, ?_⟩
    refine ⟨_, rfl, for_str (z := z) (fun i σ H' => H' = H ∧ (∀ c ∈ z.cps.toList.take i, dig c = true) ∧ ∃ e, σ = [some (.str z), some (.int (digV (z.cps.toList.take i))), e]) ⟨rfl, fun c hc => by simp at hc, none, rfl⟩ ?_ ?_⟩
    · rintro i d σ H' hd ⟨rfl, hall, e, rfl⟩
      refine ⟨_, rfl, d, _, rfl, rfl, _, rfl, ?_⟩
      rw [show decide (d ∈ (Str.ofString "0123456789").cps.toList) = dig d from tens_mem d]
      cases hg : dig d with
      | false =>
        refine iteT ⟨_, rfl, ?_⟩
        rw [numV_not (List.mem_of_getElem? hd) hg] at k
        exact k
      | true =>
        have hd2 := of_decide_eq_true hg
        have ed : d = 48 + (⟨d - 48, by omega⟩ : Fin 10).val := by
          show d = 48 + (d - 48)
          omega
        have et : z.cps.toList.take (i + 1) = z.cps.toList.take i ++ [d] := by
          rw [List.take_succ, hd]
          rfl
        refine iteF ?_
        refine ⟨_, rfl, _, _, rfl, rfl, .inl ⟨by decide, by decide⟩, ⟨_, rfl⟩, _, rfl, _, _, _, [], rfl, rfl, (by rw [ed]; exact tens_at _), _, _, rfl, rfl, ?_⟩
        refine ⟨rfl, fun c hc => ?_, some (.str ⟨#[d]⟩), ?_⟩
        · rw [et, List.mem_append, List.mem_singleton] at hc
          rcases hc with hc | rfl
          · exact hall c hc
          · exact hg
        · rw [et, digV_snoc]
          have e2 : ((d - 48 : Nat) : Int) = (d : Int) - 48 := by omega
          rw [← e2]
          rfl
    · rintro σ H' ⟨rfl, hall, e, rfl⟩
      have e2 : z.cps.toList.take z.length = z.cps.toList := List.take_of_length_le (by simp [Str.length])
      rw [e2] at hall ⊢
      rw [numV_all e0 e1 hall] at k
      exact ⟨_, rfl, k⟩
end
theorem st_eq {F : L2.St → Hp → Prop} {σ : L2.St} {H : Hp} (σ' : L2.St) (e : σ = σ') (k : F σ' H) : F σ H := e ▸ k
theorem hp_eq {F : L2.St → Hp → Prop} {σ : L2.St} {H : Hp} (H2 : Hp) (e : H = H2) (k : F σ H2) : F σ H := e ▸ k
/-! ### the wrap that a text tells -/
/-- the wrap of a kind with numbers, if there is one -/
def mkW (kd : Str) (ns : List Int) : Option Wr := match ns with
  | [c] => if kd = "plus" then (if 0 ≤ c ∧ c ≤ 1000 then some (.plus c) else none)
      else if kd = "told" then (if 0 ≤ c ∧ c ≤ 1000 then some (.told c) else none)
      else if kd = "whole" then (if 0 ≤ c ∧ c ≤ 1000 then some (.whole c) else none)
      else if kd = "filled" then (if 1 ≤ c ∧ c ≤ 60 then some (.filled c) else none)
      else none
  | [m, c] => if kd = "pieces" then (if 1 ≤ m ∧ m ≤ 60 ∧ 0 ≤ c ∧ c ≤ 60 then some (.pieces m c) else none)
      else if kd = "cut" then (if 1 ≤ m ∧ m ≤ 60 ∧ 0 ≤ c ∧ c ≤ 60 then some (.cut m c) else none)
      else if kd = "coded" then (if 1 ≤ m ∧ m ≤ 60 ∧ m ≤ c ∧ c ≤ 120 then some (.coded m c) else none)
      else none
  | _ => none
theorem mkW_spec {kd : Str} {ns : List Int} {a : Wr} (h : mkW kd ns = some a) : a.kind = kd ∧ a.nums = ns ∧ a.ok := by
  unfold mkW at h
  split at h
  · repeat' split at h
    all_goals first | (cases h; done) | skip
    all_goals
      rename_i hk hc
      cases h
      exact ⟨hk.symm, rfl, hc⟩
  · repeat' split at h
    all_goals first | (cases h; done) | skip
    all_goals
      rename_i hk hc
      cases h
      exact ⟨hk.symm, rfl, hc⟩
  · cases h
theorem mkW_ok {a : Wr} (h : a.ok) : mkW a.kind a.nums = some a := by
  cases a with
  | plus c => exact if_pos h
  | told c => exact if_pos h
  | whole c => exact if_pos h
  | filled c => exact if_pos h
  | pieces m c => exact if_pos h
  | cut m c => exact if_pos h
  | coded m c => exact if_pos h
theorem kinds_rep {kd : Str} (h : kd ∈ kinds7) : ∃ a : Wr, a.kind = kd := by
  have h : kd ∈ [("plus" : Str), "told", "whole", "pieces", "cut", "coded", "filled"] := h
  simp only [List.mem_cons, List.not_mem_nil, or_false] at h
  rcases h with rfl | rfl | rfl | rfl | rfl | rfl | rfl
  · exact ⟨.plus 0, rfl⟩
  · exact ⟨.told 0, rfl⟩
  · exact ⟨.whole 0, rfl⟩
  · exact ⟨.pieces 1 0, rfl⟩
  · exact ⟨.cut 1 0, rfl⟩
  · exact ⟨.coded 1 1, rfl⟩
  · exact ⟨.filled 1, rfl⟩
theorem kind_mem (a : Wr) : a.kind ∈ kinds7 := by
  cases a with
  | plus _ => exact (show ("plus" : Str) ∈ kinds7 by decide)
  | told _ => exact (show ("told" : Str) ∈ kinds7 by decide)
  | whole _ => exact (show ("whole" : Str) ∈ kinds7 by decide)
  | pieces _ _ => exact (show ("pieces" : Str) ∈ kinds7 by decide)
  | cut _ _ => exact (show ("cut" : Str) ∈ kinds7 by decide)
  | coded _ _ => exact (show ("coded" : Str) ∈ kinds7 by decide)
  | filled _ => exact (show ("filled" : Str) ∈ kinds7 by decide)
def rlen (k : Str) : Nat := if k = "pieces" ∨ k = "cut" ∨ k = "coded" then 2 else 1
theorem rng_rlen (a : Wr) : a.rng.length = rlen a.kind := by
  cases a with
  | plus _ => exact (show 1 = rlen "plus" by decide)
  | told _ => exact (show 1 = rlen "told" by decide)
  | whole _ => exact (show 1 = rlen "whole" by decide)
  | pieces _ _ => exact (show 2 = rlen "pieces" by decide)
  | cut _ _ => exact (show 2 = rlen "cut" by decide)
  | coded _ _ => exact (show 2 = rlen "coded" by decide)
  | filled _ => exact (show 1 = rlen "filled" by decide)
theorem mkW_out {kd : Str} (h : kd ∉ kinds7) (ns : List Int) : mkW kd ns = none := by
  cases e : mkW kd ns with
  | none => rfl
  | some a =>
    refine absurd ?_ h
    rw [← (mkW_spec e).1]
    exact kind_mem a
theorem mkW_len {a0 : Wr} {ns : List Int} (h : ns.length ≠ a0.rng.length) : mkW a0.kind ns = none := by
  cases e : mkW a0.kind ns with
  | none => rfl
  | some a =>
    refine absurd ?_ h
    obtain ⟨e1, e2, _⟩ := mkW_spec e
    rw [← e2, nums_len, rng_rlen, rng_rlen, e1]
theorem len_two {ns : List Int} (h : ns.length = 2) : ∃ m c, ns = [m, c] := by
  match ns, h with
  | [m, c], _ => exact ⟨m, c, rfl⟩
theorem fault_mk {a0 : Wr} {ns : List Int} (h : ns.length = a0.rng.length) : (faultV a0 ns = .non ∧ ∃ a, mkW a0.kind ns = some a) ∨ (faultV a0 ns ≠ .non ∧ mkW a0.kind ns = none) := by
  cases a0 with
  | plus c0 =>
    obtain ⟨c, rfl⟩ : ∃ c, ns = [c] := List.length_eq_one_iff.mp h
    by_cases k : 0 ≤ c ∧ c ≤ 1000
    · exact .inl ⟨fault_ok (a := .plus c) k, _, mkW_ok (a := .plus c) k⟩
    · refine .inr ⟨?_, if_neg k⟩
      unfold faultV
      rw [show faultL (Wr.plus c0).rng [c] 0 = some 0 from if_neg k]
      exact fun z => by cases z
  | told c0 =>
    obtain ⟨c, rfl⟩ : ∃ c, ns = [c] := List.length_eq_one_iff.mp h
    by_cases k : 0 ≤ c ∧ c ≤ 1000
    · exact .inl ⟨fault_ok (a := .told c) k, _, mkW_ok (a := .told c) k⟩
    · refine .inr ⟨?_, if_neg k⟩
      unfold faultV
      rw [show faultL (Wr.told c0).rng [c] 0 = some 0 from if_neg k]
      exact fun z => by cases z
  | whole c0 =>
    obtain ⟨c, rfl⟩ : ∃ c, ns = [c] := List.length_eq_one_iff.mp h
    by_cases k : 0 ≤ c ∧ c ≤ 1000
    · exact .inl ⟨fault_ok (a := .whole c) k, _, mkW_ok (a := .whole c) k⟩
    · refine .inr ⟨?_, if_neg k⟩
      unfold faultV
      rw [show faultL (Wr.whole c0).rng [c] 0 = some 0 from if_neg k]
      exact fun z => by cases z
  | filled c0 =>
    obtain ⟨c, rfl⟩ : ∃ c, ns = [c] := List.length_eq_one_iff.mp h
    by_cases k : 1 ≤ c ∧ c ≤ 60
    · exact .inl ⟨fault_ok (a := .filled c) k, _, mkW_ok (a := .filled c) k⟩
    · refine .inr ⟨?_, if_neg k⟩
      unfold faultV
      rw [show faultL (Wr.filled c0).rng [c] 0 = some 0 from if_neg k]
      exact fun z => by cases z
  | pieces m0 c0 =>
    obtain ⟨m, c, rfl⟩ : ∃ m c, ns = [m, c] := len_two h
    by_cases k : 1 ≤ m ∧ m ≤ 60 ∧ 0 ≤ c ∧ c ≤ 60
    · exact .inl ⟨fault_ok (a := .pieces m c) k, _, mkW_ok (a := .pieces m c) k⟩
    · refine .inr ⟨?_, if_neg k⟩
      unfold faultV
      rw [show faultL (Wr.pieces m0 c0).rng [m, c] 0 = if 1 ≤ m ∧ m ≤ 60 then (if 0 ≤ c ∧ c ≤ 60 then none else some 1) else some 0 from rfl]
      by_cases km : 1 ≤ m ∧ m ≤ 60
      · rw [if_pos km]
        by_cases kc : 0 ≤ c ∧ c ≤ 60
        · exact absurd ⟨km.1, km.2, kc⟩ k
        · rw [if_neg kc]
          exact fun z => by cases z
      · rw [if_neg km]
        exact fun z => by cases z
  | cut m0 c0 =>
    obtain ⟨m, c, rfl⟩ : ∃ m c, ns = [m, c] := len_two h
    by_cases k : 1 ≤ m ∧ m ≤ 60 ∧ 0 ≤ c ∧ c ≤ 60
    · exact .inl ⟨fault_ok (a := .cut m c) k, _, mkW_ok (a := .cut m c) k⟩
    · refine .inr ⟨?_, if_neg k⟩
      unfold faultV
      rw [show faultL (Wr.cut m0 c0).rng [m, c] 0 = if 1 ≤ m ∧ m ≤ 60 then (if 0 ≤ c ∧ c ≤ 60 then none else some 1) else some 0 from rfl]
      by_cases km : 1 ≤ m ∧ m ≤ 60
      · rw [if_pos km]
        by_cases kc : 0 ≤ c ∧ c ≤ 60
        · exact absurd ⟨km.1, km.2, kc⟩ k
        · rw [if_neg kc]
          exact fun z => by cases z
      · rw [if_neg km]
        exact fun z => by cases z
  | coded m0 c0 =>
    obtain ⟨m, c, rfl⟩ : ∃ m c, ns = [m, c] := len_two h
    by_cases k : 1 ≤ m ∧ m ≤ 60 ∧ m ≤ c ∧ c ≤ 120
    · exact .inl ⟨fault_ok (a := .coded m c) k, _, mkW_ok (a := .coded m c) k⟩
    · refine .inr ⟨?_, if_neg k⟩
      unfold faultV
      rw [show faultL (Wr.coded m0 c0).rng [m, c] 0 = if 1 ≤ m ∧ m ≤ 60 then (if 1 ≤ c ∧ c ≤ 120 then none else some 1) else some 0 from rfl]
      by_cases km : 1 ≤ m ∧ m ≤ 60
      · rw [if_pos km]
        by_cases kc : 1 ≤ c ∧ c ≤ 120
        · rw [if_pos kc]
          show (if (Wr.coded m0 c0).kind = "coded" ∧ c < m then V.int 1 else .non) ≠ .non
          rw [if_pos ⟨rfl, by omega⟩]
          exact fun z => by cases z
        · rw [if_neg kc]
          exact fun z => by cases z
      · rw [if_neg km]
        exact fun z => by cases z
def rdW (t : Str) : Option Wr := match Txt.split t " " with
  | kd :: ws => mkW kd (ws.map numV)
  | [] => none
def spWrapIn (K : PySem.W.Frag) : Sp := fun vs H Q _ => ∃ t : Str, vs = [.str t] ∧ t.length ≤ 1000 ∧ (∀ H', Same H H' → rdW t = none → Q .non H') ∧ ∀ a q H', rdW t = some a → H q = none → Same H H' → WrapAt K H' q a → Q (.ref q) H'
section
variable {P : Program} {w : World} {K : PySem.W.Frag} {mg : Str → Option Value} {base : Heap}
theorem ok_wrap_in (T : Tx w K mg) : Prom P w K mg base CX0 6 "wrap_in" s_wrap_in ["text"] (spWrapIn K) := by
  refine Prom.of T.d_wrap_in sc_wrap_in (fun vs H Q E h => ?_) (fun _ _ _ _ _ _ us hl => match us, hl with | [_], _ => rfl) (fun f cdv A outer s H vs Q E hr h => ?_)
  · obtain ⟨z, rfl, _⟩ := h
    rfl
  · obtain ⟨z, rfl, hz, k0, k⟩ := h
    obtain ⟨es, en, kd⟩ := T.kd
    refine ⟨_, (pss_cons (ps_set (i := 1) sc_wrap_in.nd rfl (Or.inl rfl) (pe_split (pv 0) pe_str))
      (pss_cons (ps_par (i := 2) (j := 3) (by rfl) sc_wrap_in.nd rfl rfl (by decide) rfl rfl (pa_cons (pe_ix ix_list (pv 1) pe_int (fun _ _ => rfl)) (pa_cons (pe_lc (own := [("word", 4)]) (g := (gName 4)) (tt := tYes) (by rfl) sc_wrap_in.nd (pi_list (pe_slice sl_list (pv 1) (po_some pe_int) po_none)) (blkOk_by (own := [("word", 4)]) (N := ["text", "words", "kind", "numbers", "word"]) (sc := defScope s_wrap_in) (by decide +kernel)) (fun _ _ _ _ _ => (pg_name (i := 4) sc_wrap_in.nd rfl (Or.inl rfl))) (fun _ _ _ _ _ => pts_nil) (fun _ _ _ _ _ => (pe_callP (ok_amount_of T) (hr.mono (by decide)) (by rfl) pass0 (pa_cons (pv 4) pa_nil)))) pa_nil)) (by rfl))
      (pss_cons (ps_if (PW.pt (pw_or (pt_cmpR (op_notIn_kd kd) (pv 2) (pe_glob (v := .ref _) (by rfl) T.k_RANGES rfl) (by rfl)) (pw_or (pt_cmp (pc_neI (pe_callB call_len_seq (by rfl) T.b_len (by decide +kernel) (pa_cons (pv 3) pa_nil)) (pe_callB call_len_seq (by rfl) T.b_len (by decide +kernel) (pa_cons (pe_ix ix_kdict (pe_glob (v := .ref _) (by rfl) T.k_RANGES rfl) (pv 2) (fun _ _ => rfl)) pa_nil)))) (pw_or1 (pt_cmpR op_notN (pe_callP (ok_fault_in T) (hr.mono (by decide)) (by rfl) pass0 (pa_cons (pv 2) (pa_cons (pv 3) pa_nil))) pe_non (nomark _)))))) (pss_one (ps_ret pe_non)) pss_nil)
      (pss_one (ps_ret (pe_newS (ok_Wrap T) (hr.mono (by decide)) (by rfl) pass0 (pa_cons (pv 2) (StX.pa_star (pv 3) pa_nil)))))))), ?_⟩
    obtain ⟨kw, ws, es1⟩ : ∃ kw ws, Txt.split z " " = kw :: ws := by
      match e : Txt.split z " " with
      | k :: ws => exact ⟨k, ws, rfl⟩
      | [] =>
        have := split_pos z " "
        rw [e] at this
        simp at this
    have short : ∀ y ∈ ws, y.length ≤ 1000 := fun y hy => Nat.le_trans (part_short (x := z) (y := " ") (by rw [es1]; exact .tail _ hy)) hz
    have er : rdW z = mkW kw (ws.map numV) := by
      unfold rdW
      rw [es1]
    have hws : ws.length ≤ 1002 := by
      have := split_le z " "
      rw [es1, List.length_cons] at this
      omega
    refine ⟨_, rfl, ⟨_, rfl⟩, _, _, rfl, rfl, by decide +kernel, Nat.le_trans (Nat.add_le_add_right hz 2) (by decide), fun l hl => ?_⟩
    rw [es1]
    refine ⟨_, rfl, l, _, _, _, rfl, rfl, SqL.of upd_same, at_of (j := 0) rfl rfl, ?_⟩
    refine ⟨_, rfl, _, rfl, l, _, rfl, SqL.of upd_same, fun q hq => ?_⟩
    have ecut : cutV ((kw :: ws).map V.str) (some 1) none = ws.map V.str := by
      have e : HT.sIx ((kw :: ws).map V.str).length 0 (some 1) = min 1 ((kw :: ws).map V.str).length := HT.sIx_nat _ 0 1
      unfold cutV
      rw [e, HT.sIx_none, List.length_map, List.length_cons, Nat.min_eq_left (by omega)]
      show (ws.map V.str).take (ws.length + 1 - 1) = ws.map V.str
      rw [Nat.add_sub_cancel, List.take_of_length_le (by rw [List.length_map]; omega)]
    rw [ecut]
    have s1 : Same H (upd H l (.lst ((kw :: ws).map V.str))) := up hl
    have s2 := up (o := .lst (ws.map V.str)) hq
    refine ⟨q, rfl, ⟨_, SqL.of upd_same⟩, fun D hD => ?_⟩
    have sD := up (o := .lst []) hD
    obtain ⟨H0, e0⟩ : ∃ H0, H0 = upd (upd H l (.lst ((kw :: ws).map V.str))) q (.lst (ws.map V.str)) := ⟨_, rfl⟩
    rw [← e0] at hD sD ⊢
    have s0 : Same H H0 := by
      rw [e0]
      exact fun a o e => s2 _ _ (s1 _ _ e)
    have gq : H0 q = some (.lst (ws.map V.str)) := by
      rw [e0]
      exact upd_same
    refine lc_list (K := K) (a := q) (xs := ws.map V.str) (Pv := fun j H' => Same H0 H' ∧ H' D = some (.lst (((ws.take j).map numV).map V.int))) ⟨sD, upd_same⟩ (fun j H' _ h => SqL.of (h.1 _ _ gq)) ?_ ?_
    · rintro j x H1 hj ⟨hs, hd⟩
      obtain ⟨y, hy, rfl⟩ : ∃ y, ws[j]? = some y ∧ x = V.str y := by
        rw [List.getElem?_map] at hj
        cases e : ws[j]? with
        | none =>
          rw [e] at hj
          cases hj
        | some n =>
          rw [e] at hj
          exact ⟨n, rfl, (Option.some.inj hj).symm⟩
      have hjl : j < ws.length := by
        rcases List.getElem?_eq_some_iff.mp hy with ⟨z, _⟩
        exact z
      refine ⟨rfl, _, rfl, y, rfl, Nat.le_trans (short y (List.mem_of_getElem? hy)) (by decide), _, hd, ?_, fun y o e => ?_, ?_⟩
      · rw [List.length_map, List.length_map, List.length_take, sizeLine_eq]
        omega
      · rw [upd_ne (ne_of_none e hD)]
        exact hs _ _ e
      · rw [upd_same, List.take_succ, hy, List.map_append, List.map_append]
        rfl
    rintro H1 ⟨hs, hd⟩
    rw [List.length_map, List.take_length] at hd
    have sH : Same H H1 := fun a o e => hs _ _ (s0 _ _ e)
    clear hD sD e0 s2 ecut hq hl s1
    obtain ⟨ns, ens⟩ : ∃ ns, ns = ws.map numV := ⟨_, rfl⟩
    rw [← ens] at hd er
    refine ⟨_, _, rfl, ?_⟩
    refine st_eq [some (.str z), some (.ref l), some (.str kw), some (.ref D), none] rfl ?_
    by_cases hk : kw ∈ kinds7
    · obtain ⟨a0, rfl⟩ := kinds_rep hk
      obtain ⟨b, xs, hb, hq', hp⟩ := T.rg a0
      refine ⟨_, rfl, _, some (.ref b), rfl, rfl, hb, _, rfl, iteF ?_⟩
      refine ⟨_, rfl, D, _, rfl, .inl (SqL.of hd), _, rfl, _, _, .ref b, rfl, rfl, ⟨es, en, _, kd.at_, kd.lit, hb, rfl⟩, b, xs, rfl, .inr (hq' _), _, _, rfl, rfl, ?_⟩
      have nil : rdW z = none → Q .non H1 := k0 _ sH
      refine ⟨_, rfl, ifn (fun c => ?_) (fun c => ?_)⟩
      · have c : ¬ ((ns.map V.int).length : Int) = (xs.length : Int) := c
        refine iteT (nil ?_)
        rw [er]
        refine mkW_len fun e => c ?_
        rw [List.length_map, hp.len, e]
      · have c : ((ns.map V.int).length : Int) = (xs.length : Int) := c
        have el : ns.length = a0.rng.length := by
          rw [List.length_map, hp.len] at c
          omega
        refine ⟨_, rfl, _, rfl, a0, ns, D, rfl, .inl (SqL.of hd), el, fun H2 s2 => ?_⟩
        have sH2 : Same H H2 := fun a o e => s2 _ _ (sH _ _ e)
        refine ⟨rfl, _, rfl, ?_⟩
        rcases fault_mk el with ⟨e, a, ea⟩ | ⟨e, en⟩
        · refine ifn (fun x => absurd e x) (fun _ => ?_)
          obtain ⟨e1, e2, ok⟩ := mkW_spec ea
          refine ⟨_, rfl, _, rfl, D, _, rfl, .inr (SqL.of (s2 _ _ hd)), a, ?_, ok, fun q3 H3 n3 s3 w3 => ?_⟩
          · show V.str a0.kind :: (ns.map V.int ++ []) = _
            rw [e1, e2, List.append_nil]
          · refine k a q3 H3 (by rw [er]; exact ea) ?_ (fun x o e => s3 _ _ (sH2 _ _ e)) w3
            cases e3 : H q3 with
            | none => rfl
            | some o =>
              rw [sH2 _ _ e3] at n3
              cases n3
        · refine ifn (fun _ => ?_) (fun x => absurd x e)
          exact k0 _ sH2 (by rw [er]; exact en)
    · refine ⟨_, rfl, _, none, rfl, rfl, T.rn kw hk, _, rfl, iteT ?_⟩
      refine iteT (k0 _ sH ?_)
      rw [er]
      exact mkW_out hk _
end
/-! ### a wrap is not None -/
def NW (K : PySem.W.Frag) : Addr → Hp → Prop := fun a H => ∃ x, WrapAt K H a x
theorem NW.mon {K : PySem.W.Frag} : ∀ a H H', Ext H H' → NW K a H → NW K a H' := fun a H H' e ⟨x, h⟩ => ⟨x, h.same e⟩
section
variable {P : Program} {w : World} {K : PySem.W.Frag} {mg : Str → Option Value} {base : Heap}
theorem ok_Wrap_eqN (T : Tx w K mg) : PromM P w K mg base CX0 1 "Wrap" "__eq__" ["self", "other"] (spEqN (NW K)) := by
  refine PromM.of T.cl_Wrap T.me_Wrap___eq__ T.dm_Wrap___eq__ sc_Wrap___eq__ (fun vs H Q E h => ?_) (fun _ _ _ _ _ _ us hl => match us, hl with | [_, _], _ => rfl) (fun f cdv A outer s H vs Q E hr h => ?_)
  · obtain ⟨a, rfl, _⟩ := h
    rfl
  · obtain ⟨a, rfl, ⟨x, dx, p, h1, h2⟩, k⟩ := h
    refine ⟨_, (pss_one (ps_ret (pe_and (pe_callB call_isi (by rfl) T.b_isinstance (by decide +kernel) (pa_cons (pv 1) (pa_cons (pe_glob (v := .ref _) (by rfl) T.k_Wrap rfl) pa_nil))) (pe_and (pe_cmpR op_eq (pe_fld (pv 0) rfl) (pe_fld (pv 1) rfl) (nomark _)) (pe_one (pe_cmpR (op_eqD hr.units) (pe_fld (pv 0) rfl) (pe_fld (pv 1) rfl) (nomark _))))))), ?_⟩
    refine ⟨_, rfl, _, _, _, _, false, rfl, .own _, .base .non, T.kt.bt "NoneType" (by decide) "Wrap" (by decide), false, rfl, iteF ?_⟩
    exact k _ Ext.rfl'
end
/-! ### the stack that a text tells -/
def rdS (t : Str) : Option (Int × List Wr) := match Txt.split t "\n" with
  | [] => none
  | r0 :: rows =>
    let pt := Txt.partition r0 " "
    if pt.1 = "base" ∧ 2 ≤ numV pt.2.2 ∧ numV pt.2.2 ≤ 256 ∧ rows.length ≤ 6 then
      match rows.mapM rdW with
      | some ws => if fineL ws ≤ 120 then some (numV pt.2.2, ws) else none
      | none => none
    else none
/-- what is read of each row -/
inductive RdsAt (K : PySem.W.Frag) (H : Hp) : List V → List (Option Wr) → Prop where
  | nil : RdsAt K H [] []
  | non {xs : List V} {ws : List (Option Wr)} (r : RdsAt K H xs ws) : RdsAt K H (.non :: xs) (none :: ws)
  | ref {a : Addr} {x : Wr} {xs : List V} {ws : List (Option Wr)} (h : WrapAt K H a x) (r : RdsAt K H xs ws) : RdsAt K H (.ref a :: xs) (some x :: ws)
theorem RdsAt.len {K : PySem.W.Frag} {H : Hp} {xs : List V} {ws : List (Option Wr)} (h : RdsAt K H xs ws) : xs.length = ws.length := by
  induction h with
  | nil => rfl
  | non _ ih => exact congrArg (· + 1) ih
  | ref _ _ ih => exact congrArg (· + 1) ih
theorem RdsAt.same {K : PySem.W.Frag} {H H' : Hp} {xs : List V} {ws : List (Option Wr)} (h : RdsAt K H xs ws) (s : Same H H') : RdsAt K H' xs ws := by
  induction h with
  | nil => exact .nil
  | non _ ih => exact .non ih
  | ref h _ ih => exact .ref (h.same s) ih
theorem RdsAt.snocN {K : PySem.W.Frag} {H : Hp} {xs : List V} {ws : List (Option Wr)} (h : RdsAt K H xs ws) : RdsAt K H (xs ++ [.non]) (ws ++ [none]) := by
  induction h with
  | nil => exact .non .nil
  | non _ ih => exact .non ih
  | ref h _ ih => exact .ref h ih
theorem RdsAt.snocR {K : PySem.W.Frag} {H : Hp} {xs : List V} {ws : List (Option Wr)} {a : Addr} {x : Wr} (h : RdsAt K H xs ws) (hx : WrapAt K H a x) : RdsAt K H (xs ++ [.ref a]) (ws ++ [some x]) := by
  induction h with
  | nil => exact .ref hx .nil
  | non _ ih => exact .non ih
  | ref h _ ih => exact .ref h ih
theorem RdsAt.upd {K : PySem.W.Frag} {H : Hp} {D : Addr} {zs : List V} {o : HO} (g : H D = some (.lst zs)) {xs : List V} {ws : List (Option Wr)} (h : RdsAt K H xs ws) : RdsAt K (L2.upd H D o) xs ws := by
  induction h with
  | nil => exact .nil
  | non _ ih => exact .non ih
  | ref h _ ih =>
    obtain ⟨dx, p, h1, h2⟩ := h
    refine .ref ⟨dx, p, ?_, ?_⟩ ih
    · rw [upd_ne (fun e => by rw [e, g] at h1; cases h1)]
      exact h1
    · rw [upd_ne (fun e => by rw [e, g] at h2; cases h2)]
      exact h2
theorem RdsAt.each {K : PySem.W.Frag} {H : Hp} {xs : List V} {ws : List (Option Wr)} (h : RdsAt K H xs ws) : ∀ z ∈ xs, z = .non ∨ ∃ a dx fs, z = .ref a ∧ H a = some (.ins (He.ga K "Wrap") dx fs) ∧ NW K a H := by
  induction h with
  | nil => exact fun z h => by cases h
  | non _ ih =>
    intro z hz
    rcases List.mem_cons.mp hz with rfl | hz
    · exact .inl rfl
    · exact ih z hz
  | ref h _ ih =>
    intro z hz
    rcases List.mem_cons.mp hz with rfl | hz
    · have h0 := h
      obtain ⟨dx, p, h1, h2⟩ := h
      exact .inr ⟨_, dx, _, rfl, h1, _, h0⟩
    · exact ih z hz
theorem RdsAt.all {K : PySem.W.Frag} {H : Hp} : ∀ {xs : List V} {ts : List Str}, RdsAt K H xs (ts.map rdW) → xs.any isNon = false → ∃ ws, ts.mapM rdW = some ws ∧ WrapsAt K H xs ws
  | [], [], _, _ => ⟨[], rfl, .nil⟩
  | _ :: _, [], h, _ => by cases h
  | [], _ :: _, h, _ => by cases h
  | x :: xs, t :: ts, h, e => by
    rw [List.any_cons, Bool.or_eq_false_iff] at e
    rw [List.map_cons] at h
    generalize ew : rdW t = o at h
    cases h with
    | non r => cases e.1
    | ref hx r =>
      obtain ⟨ws, e1, e2⟩ := RdsAt.all r e.2
      refine ⟨_ :: ws, ?_, .cons hx e2⟩
      rw [List.mapM_cons, ew, e1]
      rfl
theorem RdsAt.some_none {K : PySem.W.Frag} {H : Hp} : ∀ {xs : List V} {ts : List Str}, RdsAt K H xs (ts.map rdW) → xs.any isNon = true → ts.mapM rdW = none
  | [], _, _, e => by cases e
  | _ :: _, [], h, _ => by cases h
  | x :: xs, t :: ts, h, e => by
    rw [List.any_cons, Bool.or_eq_true] at e
    rw [List.map_cons] at h
    generalize ew : rdW t = o at h
    cases h with
    | non r =>
      rw [List.mapM_cons, ew]
      rfl
    | ref hx r =>
      rcases e with e | e
      · cases e
      rw [List.mapM_cons, ew, RdsAt.some_none r e]
      rfl
theorem rd_ok {t : Str} {a : Wr} (h : rdW t = some a) : a.ok := by
  unfold rdW at h
  split at h
  · exact (mkW_spec h).2.2
  · cases h
theorem rds_ok : ∀ {ts : List Str} {ws : List Wr}, ts.mapM rdW = some ws → (∀ a ∈ ws, a.ok) ∧ ws.length = ts.length
  | [], ws, h => by
    cases h
    exact ⟨fun _ h => (by cases h), rfl⟩
  | t :: ts, ws, h => by
    rw [List.mapM_cons] at h
    cases e : rdW t with
    | none =>
      rw [e] at h
      cases h
    | some a =>
      cases e2 : ts.mapM rdW with
      | none =>
        rw [e, e2] at h
        cases h
      | some us =>
        rw [e, e2] at h
        cases h
        obtain ⟨h1, h2⟩ := rds_ok e2
        refine ⟨fun b hb => ?_, congrArg (· + 1) h2⟩
        rcases List.mem_cons.mp hb with rfl | hb
        · exact rd_ok e
        · exact h1 b hb
theorem part_len3 (x y : Str) : (Txt.partition x y).2.2.length ≤ x.length := by
  rcases partition_whole x y with ⟨e, _⟩ | ⟨i, e, _⟩
  · rw [e]
    exact Nat.zero_le _
  · rw [TL.len_tl (Txt.partition x y).2.2, e]
    dsimp only
    rw [TL.tl_strSub_end, List.length_drop, TL.len_tl x]
    exact Nat.sub_le _ _
def spStackIn (K : PySem.W.Frag) : Sp := fun vs H Q _ => ∃ t : Str, vs = [.str t] ∧ t.length ≤ 1000 ∧ (∀ H', Same H H' → rdS t = none → Q .non H') ∧ ∀ b ws q H', rdS t = some (b, ws) → StkOk b ws → H q = none → Same H H' → StkAt K H' q b ws → Q (.ref q) H'
section
variable {P : Program} {w : World} {K : PySem.W.Frag} {mg : Str → Option Value} {base : Heap}
theorem ok_stack_in (T : Tx w K mg) : Prom P w K mg base CX0 8 "stack_in" s_stack_in ["text"] (spStackIn K) := by
  refine Prom.of T.d_stack_in sc_stack_in (fun vs H Q E h => ?_) (fun _ _ _ _ _ _ us hl => match us, hl with | [_], _ => rfl) (fun f cdv A outer s H vs Q E hr h => ?_)
  · obtain ⟨z, rfl, _⟩ := h
    rfl
  · obtain ⟨z, rfl, hz, k0, k⟩ := h
    refine ⟨_, (pss_cons (ps_set (i := 1) sc_stack_in.nd rfl (Or.inl rfl) (pe_split (pv 0) pe_str))
      (pss_cons (ps_asg (pe_partition (pe_ix ix_list (pv 1) pe_int (fun _ _ => rfl)) pe_str) (pg_tup rfl (pgs_cons (pg_name (i := 2) sc_stack_in.nd rfl (Or.inl rfl)) (pgs_cons (pg_name (i := 3) sc_stack_in.nd rfl (Or.inl rfl)) (pgs_cons (pg_name (i := 4) sc_stack_in.nd rfl (Or.inl rfl)) pgs_nil)))))
      (pss_cons (ps_par (i := 5) (j := 6) (by rfl) sc_stack_in.nd rfl rfl (by decide) rfl rfl (pa_cons (pe_callP (ok_amount_of T) (hr.mono (by decide)) (by rfl) pass0 (pa_cons (pv 4) pa_nil)) (pa_cons (pe_lc (own := [("row", 7)]) (g := (gName 7)) (tt := tYes) (by rfl) sc_stack_in.nd (pi_list (pe_slice sl_list (pv 1) (po_some pe_int) po_none)) (blkOk_by (own := [("row", 7)]) (N := ["text", "rows", "word", "gap", "rest", "base", "wraps", "row"]) (sc := defScope s_stack_in) (by decide +kernel)) (fun _ _ _ _ _ => (pg_name (i := 7) sc_stack_in.nd rfl (Or.inl rfl))) (fun _ _ _ _ _ => pts_nil) (fun _ _ _ _ _ => (pe_callP (ok_wrap_in T) (hr.mono (by decide)) (by rfl) pass0 (pa_cons (pv 7) pa_nil)))) pa_nil)) (by rfl))
      (pss_cons (ps_if (PW.pt (pw_or (pt_cmpR op_ne (pv 2) pe_str (nomark _)) (pw_or (pt_not (pt_val (pe_callP (ok_is_between T) (hr.mono (by decide)) (by rfl) pass0 (pa_cons (pv 5) (pa_cons pe_int (pa_cons pe_int pa_nil)))))) (pw_or1 (pt_cmp (pc_gt (pe_callB call_len_seq (by rfl) T.b_len (by decide +kernel) (pa_cons (pv 6) pa_nil)) (pe_gint T.c_MOST_WRAPS))))))) (pss_one (ps_ret pe_non)) pss_nil)
      (pss_cons (ps_if (PW.pt (pw_or (pt_cmpR (op_inN (ok_Wrap_eqN T) NW.mon (hr.mono (by decide)) pass0) pe_non (pv 6) (by rfl)) (pw_or1 (pt_cmp (pc_gt (pe_callP (ok_fineness_of T) (hr.mono (by decide)) (by rfl) pass0 (pa_cons (pv 6) pa_nil)) (pe_gint T.c_MOST_FINENESS)))))) (pss_one (ps_ret pe_non)) pss_nil)
      (pss_one (ps_ret (pe_newS (ok_Stack T) (hr.mono (by decide)) (by rfl) pass0 (pa_cons (pv 5) (StX.pa_star (pv 6) pa_nil)))))))))), ?_⟩
    obtain ⟨r0, rs, es1⟩ : ∃ r0 rs, Txt.split z "\n" = r0 :: rs := by
      match e : Txt.split z "\n" with
      | k :: ws => exact ⟨k, ws, rfl⟩
      | [] =>
        have := split_pos z "\n"
        rw [e] at this
        simp at this
    have short : ∀ y ∈ r0 :: rs, y.length ≤ 1000 := fun y hy => Nat.le_trans (part_short (x := z) (y := "\n") (by rw [es1]; exact hy)) hz
    have hrs : rs.length ≤ 1002 := by
      have := split_le z "\n"
      rw [es1, List.length_cons] at this
      omega
    refine ⟨_, rfl, ⟨_, rfl⟩, _, _, rfl, rfl, by decide +kernel, Nat.le_trans (Nat.add_le_add_right hz 2) (by decide), fun l hl => ?_⟩
    rw [es1]
    have s1 : Same H (upd H l (.lst ((r0 :: rs).map V.str))) := up hl
    refine ⟨_, rfl, l, _, _, _, rfl, rfl, SqL.of upd_same, at_of (j := 0) rfl rfl, ⟨_, rfl⟩, _, _, rfl, rfl, by decide +kernel, Nat.le_trans (short r0 (.head _)) (by decide), fun p hp => ?_⟩
    obtain ⟨pt, ept⟩ : ∃ pt, pt = Txt.partition r0 " " := ⟨_, rfl⟩
    refine ⟨p, _, rfl, SqT.of upd_same, rfl, ?_⟩
    refine ⟨_, _, rfl, _, _, rfl, _, _, rfl, rfl, ?_⟩
    have pl : pt.2.2.length ≤ 2000 := by
      rw [ept]
      exact Nat.le_trans (part_len3 r0 " ") (Nat.le_trans (short r0 (.head _)) (by decide))
    refine st_eq [some (.str z), some (.ref l), some (.str pt.1), some (.str pt.2.1), some (.str pt.2.2), none, none, none] (by rw [ept]; rfl) ?_
    have s2 := fun (o : HO) => up (o := o) hp
    refine ⟨_, rfl, _, rfl, pl, ?_⟩
    refine ⟨_, rfl, _, rfl, l, _, rfl, SqL.of (s2 _ _ _ upd_same), fun q hq => ?_⟩
    have ecut : cutV ((r0 :: rs).map V.str) (some 1) none = rs.map V.str := by
      have e : HT.sIx ((r0 :: rs).map V.str).length 0 (some 1) = min 1 ((r0 :: rs).map V.str).length := HT.sIx_nat _ 0 1
      unfold cutV
      rw [e, HT.sIx_none, List.length_map, List.length_cons, Nat.min_eq_left (by omega)]
      show (rs.map V.str).take (rs.length + 1 - 1) = rs.map V.str
      rw [Nat.add_sub_cancel, List.take_of_length_le (by rw [List.length_map]; omega)]
    rw [ecut]
    have s3 := up (o := .lst (rs.map V.str)) hq
    refine ⟨q, rfl, ⟨_, SqL.of upd_same⟩, fun D hD => ?_⟩
    have sD := up (o := .lst []) hD
    refine lc_list (K := K) (a := q) (xs := rs.map V.str) (Pv := fun j H' => Same H H' ∧ H' q = some (.lst (rs.map V.str)) ∧ ∃ zs, H' D = some (.lst zs) ∧ RdsAt K H' zs ((rs.take j).map rdW)) ⟨fun a o e => sD _ _ (s3 _ _ (s2 _ _ _ (s1 _ _ e))), sD _ _ upd_same, [], upd_same, .nil⟩ (fun j H' _ h => SqL.of h.2.1) ?_ ?_
    · rintro j x H1 hj ⟨hs, gq, zs, gD, hr⟩
      obtain ⟨y, hy, rfl⟩ : ∃ y, rs[j]? = some y ∧ x = V.str y := by
        rw [List.getElem?_map] at hj
        cases e : rs[j]? with
        | none =>
          rw [e] at hj
          cases hj
        | some n =>
          rw [e] at hj
          exact ⟨n, rfl, (Option.some.inj hj).symm⟩
      have hjl : j < rs.length := by
        rcases List.getElem?_eq_some_iff.mp hy with ⟨z, _⟩
        exact z
      have zl : zs.length < sizeLine := by
        rw [hr.len, List.length_map, List.length_take, sizeLine_eq]
        omega
      have et : (rs.take (j + 1)).map rdW = (rs.take j).map rdW ++ [rdW y] := by
        rw [List.take_succ, hy, List.map_append]
        rfl
      have nD : ∀ {a : Addr} {o : HO}, H a = some o → a ≠ D := fun e => ne_of_none (s3 _ _ (s2 _ _ _ (s1 _ _ e))) hD
      have nq : q ≠ D := ne_of_none upd_same hD
      refine ⟨rfl, _, rfl, y, rfl, short y (.tail _ (List.mem_of_getElem? hy)), fun H2 s4 en => ?_, fun a q2 H2 ea n2 s4 wa => ?_⟩
      · refine ⟨zs, s4 _ _ gD, zl, fun b o e => ?_, ?_, _, upd_same, ?_⟩
        · rw [upd_ne (nD e)]
          exact s4 _ _ (hs _ _ e)
        · rw [upd_ne nq]
          exact s4 _ _ gq
        · rw [et, en]
          exact RdsAt.upd (s4 _ _ gD) (hr.same s4).snocN
      · refine ⟨zs, s4 _ _ gD, zl, fun b o e => ?_, ?_, _, upd_same, ?_⟩
        · rw [upd_ne (nD e)]
          exact s4 _ _ (hs _ _ e)
        · rw [upd_ne nq]
          exact s4 _ _ gq
        · rw [et, ea]
          exact RdsAt.upd (s4 _ _ gD) ((hr.same s4).snocR wa)
    · rintro H1 ⟨hs, gq, zs, gD, hr⟩
      rw [List.length_map, List.take_length] at hr
      have er : rdS z = if pt.1 = "base" ∧ 2 ≤ numV pt.2.2 ∧ numV pt.2.2 ≤ 256 ∧ rs.length ≤ 6 then (match rs.mapM rdW with | some ws => if fineL ws ≤ 120 then some (numV pt.2.2, ws) else none | none => none) else none := by
        unfold rdS
        rw [es1, ept]
      refine ⟨_, _, rfl, ?_⟩
      refine st_eq [some (.str z), some (.ref l), some (.str pt.1), some (.str pt.2.1), some (.str pt.2.2), some (.int (numV pt.2.2)), some (.ref D), none] rfl ?_
      refine ⟨_, rfl, rfl, _, rfl, ifn (fun c => ?_) (fun c => ?_)⟩
      · refine k0 _ hs ?_
        rw [er, if_neg fun h => c (by rw [h.1])]
      have ew : pt.1 = "base" := by
        have c : V.str pt.1 = V.str "base" := c
        injection c
      refine ⟨_, rfl, _, _, _, rfl, _, rfl, ?_⟩
      refine ifn (fun c2 => ?_) (fun c2 => ?_)
      · refine k0 _ hs ?_
        rw [er, if_neg fun h => c2 ⟨h.2.1, h.2.2.1⟩]
      have zl : zs.length = rs.length := by rw [hr.len, List.length_map]
      refine ⟨_, rfl, D, _, rfl, .inl (SqL.of gD), _, _, rfl, rfl, _, rfl, ifd (fun c3 => ?_) (fun c3 => ?_)⟩
      · have c3 : (zs.length : Int) > 6 := c3
        refine k0 _ hs ?_
        rw [er, if_neg fun h => absurd h.2.2.2 (by omega)]
      have c3 : ¬ (zs.length : Int) > 6 := c3
      rw [if_pos ⟨ew, c2.1, c2.2, by omega⟩] at er
      refine ⟨_, rfl, D, zs, rfl, rfl, SqL.of gD, hr.each, fun H2 e2 => ?_⟩
      have s2H : Same H H2 := fun a o e => e2 _ _ (hs _ _ e)
      refine ⟨_, rfl, ?_⟩
      cases en : zs.any isNon with
      | true =>
        refine iteT (k0 _ s2H ?_)
        rw [er, RdsAt.some_none hr en]
      | false =>
        obtain ⟨ws, ews, hw⟩ := RdsAt.all hr en
        obtain ⟨wok, wl⟩ := rds_ok ews
        rw [ews] at er
        refine iteF ?_
        refine ⟨_, rfl, D, zs, ws, rfl, .inl (SqL.of (e2 _ _ gD)), hw.same e2, wok, fun H3 s3 => ?_⟩
        have s3H : Same H H3 := fun a o e => s3 _ _ (s2H _ _ e)
        refine ⟨_, _, rfl, rfl, _, rfl, ifd (fun c4 => ?_) (fun c4 => ?_)⟩
        · have c4 : fineL ws > 120 := c4
          refine k0 _ s3H ?_
          rw [er]
          exact if_neg (by omega)
        · have c4 : ¬ fineL ws > 120 := c4
          have er : rdS z = some (numV pt.2.2, ws) := er.trans (if_pos (by omega))
          have so : StkOk (numV pt.2.2) ws := ⟨c2.1, c2.2, wok, by omega, by omega⟩
          refine ⟨_, rfl, _, rfl, D, zs, rfl, .inr (SqL.of (s3 _ _ (e2 _ _ gD))), _, zs, ws, ?_, so, (hw.same e2).same s3, fun q3 H4 n4 s4 h4 => ?_⟩
          · show V.int (numV pt.2.2) :: (zs ++ []) = _
            rw [List.append_nil]
          · refine k _ ws q3 H4 er so ?_ (fun x o e => s4 _ _ (s3H _ _ e)) h4
            cases e3 : H q3 with
            | none => rfl
            | some o =>
              rw [s3H _ _ e3] at n4
              cases n4
end
/-! ### things of any kind: Dp told anew (all that is no truth, integer, text, tuple or None is one kind) -/
structure OthAt (K : PySem.W.Frag) (H : Hp) (v : V) : Prop where
  ex : ∃ t, TyX K H v t ∧ PySem.W.kitOne K t (.type "str") = some false ∧ PySem.W.kitOne K t (.type "tuple") = some false ∧ PySem.W.kitOne K t (.type "int") = some false ∧ PySem.W.kitOne K t (.type "bool") = some false
mutual
inductive Dp (K : PySem.W.Frag) (H : Hp) : V → PyData → Prop
  | non : Dp K H .non .none
  | bl (b : Bool) : Dp K H (.bl b) (.bool b)
  | int (i : Int) : Dp K H (.int i) (.int i)
  | str (x : Str) : Dp K H (.str x) (.str x)
  | lst {a : Addr} (h1 : OthAt K H (.ref a)) (h2 : True) : Dp K H (.ref a) (.list [])
  | tup {a : Addr} {xs : List V} {ds : List PyData} (h1 : SqT K H a xs) (h2 : DpAll K H xs ds) : Dp K H (.ref a) (.tuple ds)
inductive DpAll (K : PySem.W.Frag) (H : Hp) : List V → List PyData → Prop
  | nil : DpAll K H [] []
  | cons {v : V} {vs : List V} {d : PyData} {ds : List PyData} (h1 : Dp K H v d) (h2 : DpAll K H vs ds) : DpAll K H (v :: vs) (d :: ds)
end
def isStrD : PyData → Bool
  | .str _ => true
  | _ => false
def isTupD : PyData → Bool
  | .tuple _ => true
  | _ => false
def isIntD : PyData → Bool
  | .int _ => true
  | .bool _ => true
  | _ => false
def isBoolD : PyData → Bool
  | .bool _ => true
  | _ => false
theorem dp_ex {K : PySem.W.Frag} {H : Hp} {v : V} {d : PyData} (h : Dp K H v d) : ∃ t, TyX K H v t ∧ PySem.W.kitOne K t (.type "str") = some (isStrD d) ∧ PySem.W.kitOne K t (.type "tuple") = some (isTupD d) ∧ PySem.W.kitOne K t (.type "int") = some (isIntD d) ∧ PySem.W.kitOne K t (.type "bool") = some (isBoolD d) := by
  cases h with
  | non => exact ⟨.type "NoneType", .base .non, kit_ty (show kitB "NoneType" "str" = some false by decide +kernel), kit_ty (show kitB "NoneType" "tuple" = some false by decide +kernel), kit_ty (show kitB "NoneType" "int" = some false by decide +kernel), kit_ty (show kitB "NoneType" "bool" = some false by decide +kernel)⟩
  | bl b => exact ⟨.type "bool", .base (.bl b), kit_ty (show kitB "bool" "str" = some false by decide +kernel), kit_ty (show kitB "bool" "tuple" = some false by decide +kernel), kit_ty (show kitB "bool" "int" = some true by decide +kernel), kit_ty (show kitB "bool" "bool" = some true by decide +kernel)⟩
  | int i => exact ⟨.type "int", .base (.int i), kit_ty (show kitB "int" "str" = some false by decide +kernel), kit_ty (show kitB "int" "tuple" = some false by decide +kernel), kit_ty (show kitB "int" "int" = some true by decide +kernel), kit_ty (show kitB "int" "bool" = some false by decide +kernel)⟩
  | str x => exact ⟨.type "str", .base (.str x), kit_ty (show kitB "str" "str" = some true by decide +kernel), kit_ty (show kitB "str" "tuple" = some false by decide +kernel), kit_ty (show kitB "str" "int" = some false by decide +kernel), kit_ty (show kitB "str" "bool" = some false by decide +kernel)⟩
  | lst h _ => exact h.ex
  | @tup a xs ds h _ =>
    have e : TyX K H (.ref a) (.type "tuple") := by
      rcases h with (h | ⟨o, h⟩) | ⟨o, _, _, h, c, _⟩
      · exact .base (.tup h)
      · exact .fTuple h
      · exact .kTuple h c
    exact ⟨.type "tuple", e, kit_ty (show kitB "tuple" "str" = some false by decide +kernel), kit_ty (show kitB "tuple" "tuple" = some true by decide +kernel), kit_ty (show kitB "tuple" "int" = some false by decide +kernel), kit_ty (show kitB "tuple" "bool" = some false by decide +kernel)⟩
noncomputable def tyH {K : PySem.W.Frag} {H : Hp} {v : V} {d : PyData} (h : Dp K H v d) : Value := Classical.choose (dp_ex h)
theorem dp_ty {K : PySem.W.Frag} {H : Hp} {v : V} {d : PyData} (h : Dp K H v d) : TyX K H v (tyH h) := (Classical.choose_spec (dp_ex h)).1
theorem kit_strD {K : PySem.W.Frag} {H : Hp} {v : V} {d : PyData} (h : Dp K H v d) : PySem.W.kitOne K (tyH h) (.type "str") = some (isStrD d) := (Classical.choose_spec (dp_ex h)).2.1
theorem kit_tupD {K : PySem.W.Frag} {H : Hp} {v : V} {d : PyData} (h : Dp K H v d) : PySem.W.kitOne K (tyH h) (.type "tuple") = some (isTupD d) := (Classical.choose_spec (dp_ex h)).2.2.1
theorem kit_intD {K : PySem.W.Frag} {H : Hp} {v : V} {d : PyData} (h : Dp K H v d) : PySem.W.kitOne K (tyH h) (.type "int") = some (isIntD d) := (Classical.choose_spec (dp_ex h)).2.2.2.1
theorem kit_boolD {K : PySem.W.Frag} {H : Hp} {v : V} {d : PyData} (h : Dp K H v d) : PySem.W.kitOne K (tyH h) (.type "bool") = some (isBoolD d) := (Classical.choose_spec (dp_ex h)).2.2.2.2
theorem dpAll_l2 {K : PySem.W.Frag} {H : Hp} : ∀ {ns : List Int} {xs : List V}, DpAll K H xs (ns.map PyData.int) → L2.DpAll K H xs (ns.map PyData.int)
  | [], _, h => by
    cases h
    exact .nil
  | n :: ns, _, h => by
    cases h with
    | cons h1 h2 =>
      cases h1
      exact .cons (.int _) (dpAll_l2 h2)
theorem dp_l2 {K : PySem.W.Frag} {H : Hp} {ns : List Int} {v : V} (h : Dp K H v (.tuple (ns.map PyData.int))) : L2.Dp K H v (.tuple (ns.map PyData.int)) := by
  cases h with
  | tup h1 h2 => exact .tup h1 (dpAll_l2 h2)
set_option pp.maxSteps 900
/-! ### any thing -/
def isI : PyData → Bool
  | .int _ => true
  | _ => false
def inR (lo hi : Int) : PyData → Bool
  | .int i => decide (lo ≤ i ∧ i ≤ hi)
  | _ => false
def spIsIntX (K : PySem.W.Frag) : Sp := fun vs H Q _ => ∃ (v : V) (d : PyData), vs = [v] ∧ Dp K H v d ∧ Q (.bl (isI d)) H
def spBetweenX (K : PySem.W.Frag) : Sp := fun vs H Q _ => ∃ (v : V) (d : PyData) (l m : Int), vs = [v, .int l, .int m] ∧ Dp K H v d ∧ Q (.bl (inR l m d)) H
def spIsLenX (K : PySem.W.Frag) : Sp := fun vs H Q _ => ∃ (v : V) (d : PyData), vs = [v] ∧ Dp K H v d ∧ Q (.bl (inR 0 (10 ^ 60 - 1) d)) H
section
variable {P : Program} {w : World} {K : PySem.W.Frag} {mg : Str → Option Value} {base : Heap}
theorem ok_is_integerX (T : Tx w K mg) : Prom P w K mg base CX0 1 "is_integer" s_is_integer ["value"] (spIsIntX K) := by
  refine Prom.of T.d_is_integer sc_is_integer (fun vs H Q E h => ?_) (fun _ _ _ _ _ _ us hl => match us, hl with | [_], _ => rfl) (fun f cdv A outer s H vs Q E hr h => ?_)
  · obtain ⟨v, d, rfl, _⟩ := h
    rfl
  · obtain ⟨v, d, rfl, hd, k⟩ := h
    refine ⟨_, (pss_one (ps_ret (pe_and (pe_callB call_isi (by rfl) T.b_isinstance (by decide +kernel) (pa_cons (pv 0) (pa_cons (pe_bltn (v := .ty "int") (by rfl) T.b_int (by decide +kernel) rfl) pa_nil))) (pe_and (pe_cmpR op_isnotBl (pv 0) pe_bl (nomark _)) (pe_one (pe_cmpR op_isnotBl (pv 0) pe_bl (nomark _))))))), ?_⟩
    cases hd with
    | int i =>
      refine ⟨_, rfl, _, _, _, _, true, rfl, .ty _, dp_ty (.int _), (by first | exact kit_strD _ | exact kit_tupD _ | exact kit_intD _ | exact kit_boolD _), true, rfl, iteT ?_⟩
      refine ⟨_, rfl, _, rfl, true, rfl, iteT ?_⟩
      exact ⟨_, rfl, _, rfl, k⟩
    | bl b =>
      refine ⟨_, rfl, _, _, _, _, true, rfl, .ty _, dp_ty (.bl _), (by first | exact kit_strD _ | exact kit_tupD _ | exact kit_intD _ | exact kit_boolD _), true, rfl, iteT ?_⟩
      cases b with
      | true => exact ⟨_, rfl, _, rfl, false, rfl, iteF k⟩
      | false =>
        refine ⟨_, rfl, _, rfl, true, rfl, iteT ?_⟩
        exact ⟨_, rfl, _, rfl, k⟩
    | non => exact ⟨_, rfl, _, _, _, _, false, rfl, .ty _, dp_ty .non, (by first | exact kit_strD _ | exact kit_tupD _ | exact kit_intD _ | exact kit_boolD _), false, rfl, iteF k⟩
    | str x => exact ⟨_, rfl, _, _, _, _, false, rfl, .ty _, dp_ty (.str x), (by first | exact kit_strD _ | exact kit_tupD _ | exact kit_intD _ | exact kit_boolD _), false, rfl, iteF k⟩
    | lst h1 h2 => exact ⟨_, rfl, _, _, _, _, false, rfl, .ty _, dp_ty (.lst h1 h2), (by first | exact kit_strD _ | exact kit_tupD _ | exact kit_intD _ | exact kit_boolD _), false, rfl, iteF k⟩
    | tup h1 h2 => exact ⟨_, rfl, _, _, _, _, false, rfl, .ty _, dp_ty (.tup h1 h2), (by first | exact kit_strD _ | exact kit_tupD _ | exact kit_intD _ | exact kit_boolD _), false, rfl, iteF k⟩
theorem ok_is_betweenX (T : Tx w K mg) : Prom P w K mg base CX0 2 "is_between" s_is_between ["value", "least", "most"] (spBetweenX K) := by
  refine Prom.of T.d_is_between sc_is_between (fun vs H Q E h => ?_) (fun _ _ _ _ _ _ us hl => match us, hl with | [_, _, _], _ => rfl) (fun f cdv A outer s H vs Q E hr h => ?_)
  · obtain ⟨v, d, l, m, rfl, _⟩ := h
    rfl
  · obtain ⟨v, d, l, m, rfl, hd, k⟩ := h
    refine ⟨_, (pss_one (ps_ret (pe_and (pe_callP (ok_is_integerX T) (hr.mono (by decide)) (by rfl) pass0 (pa_cons (pv 0) pa_nil)) (pe_one (pe_chain op_le op_le (pv 1) (pv 0) (pv 2)))))), ?_⟩
    refine ⟨_, rfl, v, d, rfl, hd, isI d, rfl, ?_⟩
    cases hd with
    | int v =>
      refine iteT ?_
      refine ⟨_, rfl, _, rfl, _, _, rfl, rfl, _, rfl, ifd (fun h1 => ?_) (fun h1 => ?_)⟩
      · refine ⟨_, rfl, _, _, rfl, rfl, ?_⟩
        show Q (.bl (decide (v ≤ m))) H
        have e : decide (v ≤ m) = decide (l ≤ v ∧ v ≤ m) := by simp [h1]
        rw [e]
        exact k
      · show Q (.bl false) H
        have e : false = decide (l ≤ v ∧ v ≤ m) := by simp [h1]
        rw [e]
        exact k
    | bl b => exact iteF k
    | non => exact iteF k
    | str x => exact iteF k
    | lst h1 h2 => exact iteF k
    | tup h1 h2 => exact iteF k
theorem ok_is_lengthX (T : Tx w K mg) : Prom P w K mg base CX0 3 "is_length" s_is_length ["value"] (spIsLenX K) := by
  refine Prom.of T.d_is_length sc_is_length (fun vs H Q E h => ?_) (fun _ _ _ _ _ _ us hl => match us, hl with | [_], _ => rfl) (fun f cdv A outer s H vs Q E hr h => ?_)
  · obtain ⟨v, d, rfl, _⟩ := h
    rfl
  · obtain ⟨v, d, rfl, hd, k⟩ := h
    refine ⟨_, (pss_one (ps_ret (pe_callP (ok_is_betweenX T) (hr.mono (by decide)) (by rfl) pass0 (pa_cons (pv 0) (pa_cons pe_int (pa_cons (pe_gint T.c_LAST_LENGTH) pa_nil)))))), ?_⟩
    exact ⟨_, rfl, v, d, _, _, rfl, hd, k⟩
end
/-! ### the stack whose text a thing is -/
def TextOk (d : PyData) : Prop := ∀ s, d = .str s → s.length ≤ 1000
def rdT : PyData → Option (Int × List Wr)
  | .str s => rdS s
  | _ => none
def ToldAt (K : PySem.W.Frag) (H : Hp) (v : V) (o : Option (Int × List Wr)) : Prop := (o = none ∧ v = .non) ∨ ∃ q b ws, o = some (b, ws) ∧ v = .ref q ∧ StkAt K H q b ws ∧ StkOk b ws
theorem ToldAt.same {K : PySem.W.Frag} {H H' : Hp} {v : V} {o : Option (Int × List Wr)} (s : Same H H') (h : ToldAt K H v o) : ToldAt K H' v o := by
  rcases h with h | ⟨q, b, ws, h1, h2, h3, h4⟩
  · exact .inl h
  · exact .inr ⟨q, b, ws, h1, h2, h3.same s, h4⟩
def spTold (K : PySem.W.Frag) : Sp := fun vs H Q _ => ∃ (v : V) (d : PyData), vs = [v] ∧ Dp K H v d ∧ TextOk d ∧ ∀ v H', Same H H' → ToldAt K H' v (rdT d) → Q v H'
section
variable {P : Program} {w : World} {K : PySem.W.Frag} {mg : Str → Option Value} {base : Heap}
theorem ok_stack_told (T : Tx w K mg) : Prom P w K mg base CX0 9 "stack_told" s_stack_told ["value"] (spTold K) := by
  refine Prom.of T.d_stack_told sc_stack_told (fun vs H Q E h => ?_) (fun _ _ _ _ _ _ us hl => match us, hl with | [_], _ => rfl) (fun f cdv A outer s H vs Q E hr h => ?_)
  · obtain ⟨v, d, rfl, _⟩ := h
    rfl
  · obtain ⟨v, d, rfl, hd, ht, kk⟩ := h
    have k0 : ∀ H', Same H H' → rdT d = none → Q .non H' := fun H' s e => kk .non H' s (.inl ⟨e, rfl⟩)
    have k : ∀ b ws q H', rdT d = some (b, ws) → StkOk b ws → H q = none → Same H H' → StkAt K H' q b ws → Q (.ref q) H' := fun b ws q H' e so _ s sa => kk _ _ s (.inr ⟨q, b, ws, e, rfl, sa, so⟩)
    refine ⟨_, (pss_one (ps_ret (pe_ifExp (pt_val (pe_callB call_isi (by rfl) T.b_isinstance (by decide +kernel) (pa_cons (pv 0) (pa_cons (pe_bltn (v := .ty "str") (by rfl) T.b_str (by decide +kernel) rfl) pa_nil)))) (pe_callP (ok_stack_in T) (hr.mono (by decide)) (by rfl) pass0 (pa_cons (pv 0) pa_nil)) pe_non))), ?_⟩
    cases hd with
    | int i => exact ⟨_, rfl, _, _, _, _, false, rfl, .ty _, dp_ty (.int i), (by first | exact kit_strD _ | exact kit_tupD _ | exact kit_intD _ | exact kit_boolD _), false, rfl, iteF (k0 _ (Same.refl H) rfl)⟩
    | bl i => exact ⟨_, rfl, _, _, _, _, false, rfl, .ty _, dp_ty (.bl i), (by first | exact kit_strD _ | exact kit_tupD _ | exact kit_intD _ | exact kit_boolD _), false, rfl, iteF (k0 _ (Same.refl H) rfl)⟩
    | non => exact ⟨_, rfl, _, _, _, _, false, rfl, .ty _, dp_ty .non, (by first | exact kit_strD _ | exact kit_tupD _ | exact kit_intD _ | exact kit_boolD _), false, rfl, iteF (k0 _ (Same.refl H) rfl)⟩
    | lst h1 h2 => exact ⟨_, rfl, _, _, _, _, false, rfl, .ty _, dp_ty (.lst h1 h2), (by first | exact kit_strD _ | exact kit_tupD _ | exact kit_intD _ | exact kit_boolD _), false, rfl, iteF (k0 _ (Same.refl H) rfl)⟩
    | tup h1 h2 => exact ⟨_, rfl, _, _, _, _, false, rfl, .ty _, dp_ty (.tup h1 h2), (by first | exact kit_strD _ | exact kit_tupD _ | exact kit_intD _ | exact kit_boolD _), false, rfl, iteF (k0 _ (Same.refl H) rfl)⟩
    | str x =>
      refine ⟨_, rfl, _, _, _, _, true, rfl, .ty _, dp_ty (.str x), (by first | exact kit_strD _ | exact kit_tupD _ | exact kit_intD _ | exact kit_boolD _), true, rfl, iteT ?_⟩
      exact ⟨_, rfl, x, rfl, ht x rfl, k0, k⟩
end
/-! ### things as data (from c_are) -/
theorem DpAll.len {K : PySem.W.Frag} {H : Hp} : ∀ {xs : List V} {ds : List PyData}, DpAll K H xs ds → xs.length = ds.length
  | _, _, .nil => rfl
  | _, _, .cons _ h => congrArg (· + 1) (DpAll.len h)
theorem sqL_same {K : PySem.W.Frag} {H H' : Hp} {a : Addr} {xs : List V} (s : Same H H') (h : SqL K H a xs) : SqL K H' a xs := by
  rcases h with (h | ⟨o, h⟩) | h
  · exact .inl (.inl (s _ _ h))
  · exact .inl (.inr ⟨o, s _ _ h⟩)
  · exact .inr h
theorem sqT_same {K : PySem.W.Frag} {H H' : Hp} {a : Addr} {xs : List V} (s : Same H H') (h : SqT K H a xs) : SqT K H' a xs := by
  rcases h with (h | ⟨o, h⟩) | h
  · exact .inl (.inl (s _ _ h))
  · exact .inl (.inr ⟨o, s _ _ h⟩)
  · exact .inr h
theorem DpAll.get {K : PySem.W.Frag} {H : Hp} : ∀ {xs : List V} {ds : List PyData}, DpAll K H xs ds → ∀ {i : Nat} {x : V}, xs[i]? = some x → ∃ d, ds[i]? = some d ∧ Dp K H x d
  | _, _, .nil, i, x, e => by simp at e
  | _, _, .cons h g, 0, x, e => by
    simp at e
    subst e
    exact ⟨_, rfl, h⟩
  | _, _, .cons h g, i + 1, x, e => DpAll.get g (by simpa using e)
theorem all_isI : ∀ {ds : List PyData}, (ds.map isI).all id = true → ∃ ns : List Int, ds = ns.map PyData.int
  | [], _ => ⟨[], rfl⟩
  | d :: ds, h => by
    simp only [List.map_cons, List.all_cons, Bool.and_eq_true] at h
    obtain ⟨ns, e⟩ := all_isI h.2
    cases d with
    | int i => exact ⟨i :: ns, by rw [e]; rfl⟩
    | _ => exact absurd h.1 (by simp [isI])
theorem isI_all : ∀ (ns : List Int), ((ns.map PyData.int).map isI).all id = true
  | [] => rfl
  | n :: ns => by
    simp only [List.map_cons, List.all_cons, Bool.and_eq_true]
    exact ⟨rfl, isI_all ns⟩
theorem nb {A : Prop} (h : ¬ A) : false = true ↔ A := ⟨fun z => Bool.noConfusion z, fun z => absurd z h⟩
theorem OthAt.same {K : PySem.W.Frag} {H H' : Hp} (s : Same H H') {v : V} (h : OthAt K H v) : OthAt K H' v := by
  obtain ⟨t, ty, r⟩ := h.ex
  exact ⟨t, tyX_same s ty, r⟩
mutual
theorem Dp.same {K : PySem.W.Frag} {H H' : Hp} (s : Same H H') : ∀ {v : V} {d : PyData}, Dp K H v d → Dp K H' v d
  | _, _, .non => .non
  | _, _, .bl b => .bl b
  | _, _, .int i => .int i
  | _, _, .str x => .str x
  | _, _, .lst h g => .lst (OthAt.same s h) trivial
  | _, _, .tup h g => .tup (sqT_same s h) (DpAll.same s g)
theorem DpAll.same {K : PySem.W.Frag} {H H' : Hp} (s : Same H H') : ∀ {xs : List V} {ds : List PyData}, DpAll K H xs ds → DpAll K H' xs ds
  | _, _, .nil => .nil
  | _, _, .cons h g => .cons (Dp.same s h) (DpAll.same s g)
end
def spNone : Sp := fun _ _ _ _ => False
/-! ### small things -/
theorem DpAll.one {K : PySem.W.Frag} {H : Hp} {x : V} {xs : List V} {ds : List PyData} (h : DpAll K H (x :: xs) ds) : ∃ e es, ds = e :: es ∧ Dp K H x e ∧ DpAll K H xs es := by
  cases h with
  | cons a b => exact ⟨_, _, rfl, a, b⟩
theorem DpAll.zero {K : PySem.W.Frag} {H : Hp} {ds : List PyData} (h : DpAll K H [] ds) : ds = [] := by
  cases h
  rfl
theorem three {xs : List V} (c : (xs.length : Int) = 3) : ∃ x0 x1 x2, xs = [x0, x1, x2] := by
  have c : xs.length = 3 := by omega
  match xs, c with
  | [x0, x1, x2], _ => exact ⟨x0, x1, x2, rfl⟩
theorem two {xs : List V} (c : (xs.length : Int) = 2) : ∃ x0 x1, xs = [x0, x1] := by
  have c : xs.length = 2 := by omega
  match xs, c with
  | [x0, x1], _ => exact ⟨x0, x1, rfl⟩
theorem iteB {b : Bool} {A B : Prop} (h1 : b = false → A) (h2 : b = true → B) : if (!b) = true then A else B := by
  cases b with
  | false => exact h1 rfl
  | true => exact h2 rfl
theorem inR_no {l m i : Int} (h : inR l m (.int i) = false) : ¬ (l ≤ i ∧ i ≤ m) := of_decide_eq_false h
theorem four {xs : List V} (c : (xs.length : Int) = 4) : ∃ x0 x1 x2 x3, xs = [x0, x1, x2, x3] := by
  have c : xs.length = 4 := by omega
  match xs, c with
  | [x0, x1, x2, x3], _ => exact ⟨x0, x1, x2, x3, rfl⟩
/-! ### what isinstance says of any thing -/
theorem strD_of {d : PyData} (h : isStrD d = true) : ∃ s, d = .str s := by
  cases d with
  | str s => exact ⟨s, rfl⟩
  | _ => cases h
theorem tupD_of {d : PyData} (h : isTupD d = true) : ∃ ds, d = .tuple ds := by
  cases d with
  | tuple ds => exact ⟨ds, rfl⟩
  | _ => cases h
theorem cut1 {x : V} {xs : List V} : cutV (x :: xs) (some 1) none = xs := by
  have e : HT.sIx (x :: xs).length 0 (some 1) = min 1 (xs.length + 1) := HT.sIx_nat _ 0 1
  unfold cutV
  rw [e, HT.sIx_none, List.length_cons, Nat.min_eq_left (by omega)]
  exact List.take_length
theorem cut1_no {x : V} {xs : List V} {k : Nat} : ¬ (HT.sIx (x :: xs).length 0 (some 1) = 0 ∧ k = (x :: xs).length) := fun z => by
  have z := z.1
  have e : HT.sIx (x :: xs).length 0 (some 1) = min 1 (xs.length + 1) := HT.sIx_nat _ 0 1
  omega
theorem in3 {x a b c : Str} : (if false = true then !inV (.str x) [.str a, .str b, .str c] else inV (.str x) [.str a, .str b, .str c]) = decide (x = a ∨ x = b ∨ x = c) := by
  show ((a == x) || ((b == x) || ((c == x) || false))) = _
  by_cases h1 : x = a
  · rw [h1]; simp
  by_cases h2 : x = b
  · rw [h2]; simp
  by_cases h3 : x = c
  · rw [h3]; simp
  rw [beq_eq_false_iff_ne.mpr (Ne.symm h1), beq_eq_false_iff_ne.mpr (Ne.symm h2), beq_eq_false_iff_ne.mpr (Ne.symm h3), decide_eq_false (by simp [h1, h2, h3])]
  rfl
theorem ifs {x a b c : Str} {A B : Prop} (h1 : x = a ∨ x = b ∨ x = c → A) (h2 : ¬ (x = a ∨ x = b ∨ x = c) → B) : if (if false = true then !inV (.str x) [.str a, .str b, .str c] else inV (.str x) [.str a, .str b, .str c]) = true then A else B := by
  rw [in3]
  exact ifd h1 h2
theorem ifs2 {x a b : Str} {A B : Prop} (h1 : x = a ∨ x = b → A) (h2 : ¬ (x = a ∨ x = b) → B) : if (if false = true then !inV (.str x) [.str a, .str b] else inV (.str x) [.str a, .str b]) = true then A else B := by
  have e : (if false = true then !inV (.str x) [.str a, .str b] else inV (.str x) [.str a, .str b]) = decide (x = a ∨ x = b) := by
    show ((a == x) || ((b == x) || false)) = _
    by_cases h1 : x = a
    · rw [h1]; simp
    by_cases h2 : x = b
    · rw [h2]; simp
    rw [beq_eq_false_iff_ne.mpr (Ne.symm h1), beq_eq_false_iff_ne.mpr (Ne.symm h2), decide_eq_false (by simp [h1, h2])]
    rfl
  rw [e]
  exact ifd h1 h2
theorem ifeq {x a : Str} {A B : Prop} (h1 : x = a → A) (h2 : x ≠ a → B) : if decide (V.str x = V.str a) = true then A else B := by
  by_cases h : x = a
  · rw [decide_eq_true (congrArg V.str h), if_pos rfl]
    exact h1 h
  · rw [decide_eq_false fun z => h (by cases z; rfl), if_neg Bool.false_ne_true]
    exact h2 h
theorem one_of {α β : Type} {f : α → β} {ns : List α} (h : ((ns.map f).length : Int) = 1) : ∃ c, ns = [c] := by
  rw [List.length_map] at h
  match ns, h with
  | [c], _ => exact ⟨c, rfl⟩
  | [], h => cases h
  | _ :: _ :: _, h => exact absurd h (by simp only [List.length_cons]; omega)
theorem two_of {α β : Type} {f : α → β} {ns : List α} (h : ((ns.map f).length : Int) = 2) : ∃ m c, ns = [m, c] := by
  rw [List.length_map] at h
  match ns, h with
  | [m, c], _ => exact ⟨m, c, rfl⟩
  | [], h => cases h
  | [_], h => cases h
  | _ :: _ :: _ :: _, h => exact absurd h (by simp only [List.length_cons]; omega)
theorem inR_int {l m : Int} {d : PyData} (h : inR l m d = true) : ∃ n, d = .int n ∧ l ≤ n ∧ n ≤ m := by
  cases d with
  | int n => exact ⟨n, rfl, of_decide_eq_true h⟩
  | _ => cases h
theorem isI_int {d : PyData} (h : isI d = true) : ∃ n, d = .int n := by
  cases d with
  | int n => exact ⟨n, rfl⟩
  | _ => cases h
theorem DpAll.oneR {K : PySem.W.Frag} {H : Hp} {xs : List V} {d : PyData} {ds : List PyData} (h : DpAll K H xs (d :: ds)) : ∃ x ys, xs = x :: ys ∧ Dp K H x d ∧ DpAll K H ys ds := by
  cases h with
  | cons a b => exact ⟨_, _, rfl, a, b⟩
/-! ### a tuple of so many integers -/
def spAreI (K : PySem.W.Frag) : Sp := fun vs H Q _ => ∃ (v : V) (d : PyData) (k : Nat), vs = [v, .int k] ∧ Dp K H v d ∧ k ≤ 10 ∧ ∀ r H', (r = true ↔ ∃ ns : List Int, d = .tuple (ns.map PyData.int) ∧ ns.length = k) → Same H H' → Q (.bl r) H'
section
variable {P : Program} {w : World} {K : PySem.W.Frag} {mg : Str → Option Value} {base : Heap}
theorem ok_are_integers (T : Tx w K mg) : Prom P w K mg base CX0 3 "are_integers" s_are_integers ["value", "count"] (spAreI K) := by
  refine Prom.of T.d_are_integers sc_are_integers (fun vs H Q E h => ?_) (fun _ _ _ _ _ _ us hl => match us, hl with | [_, _], _ => rfl) (fun f cdv A outer s H vs Q E hr h => ?_)
  · obtain ⟨v, d, n, rfl, _⟩ := h
    rfl
  · obtain ⟨v, d, n, rfl, hd, n10, k⟩ := h
    refine ⟨_, (pss_one (ps_ret (pe_and (pe_callB call_isi (by rfl) T.b_isinstance (by decide +kernel) (pa_cons (pv 0) (pa_cons (pe_bltn (v := .ty "tuple") (by rfl) T.b_tuple (by decide +kernel) rfl) pa_nil))) (pe_and (pe_cmp (pc_eqI (pe_callB call_len_seq (by rfl) T.b_len (by decide +kernel) (pa_cons (pv 0) pa_nil)) (pv 1))) (pe_one (pe_callB (cr_all rfl) (by rfl) T.b_all (by decide +kernel) (pa_cons (pe_lc (own := [("part", 2)]) (g := (gName 2)) (tt := tYes) (by rfl) sc_are_integers.nd (pi_tup (pv 0)) (blkOk_by (own := [("part", 2)]) (N := ["value", "count", "part"]) (sc := defScope s_are_integers) (by decide +kernel)) (fun _ _ _ _ _ => (pg_name (i := 2) sc_are_integers.nd rfl (Or.inl rfl))) (fun _ _ _ _ _ => pts_nil) (fun _ _ _ _ _ => (pe_callP (ok_is_integerX T) (hr.mono (by decide)) (by rfl) pass0 (pa_cons (pv 2) pa_nil)))) pa_nil))))))), ?_⟩
    have other : (∀ ds, d ≠ .tuple ds) → ¬ ∃ ns : List Int, d = .tuple (ns.map PyData.int) ∧ ns.length = n := fun h ⟨ns, e, _⟩ => h _ e
    cases hd with
    | tup h1 h2 =>
      rename_i a xs ds
      have xl := DpAll.len h2
      refine ⟨_, rfl, _, _, _, _, true, rfl, .ty _, dp_ty (.tup h1 h2), (by first | exact kit_strD _ | exact kit_tupD _ | exact kit_intD _ | exact kit_boolD _), true, rfl, iteT ?_⟩
      refine ⟨_, rfl, a, xs, rfl, .inr h1, _, rfl, _, _, rfl, rfl, _, rfl, ifd (fun c => ?_) (fun c => ?_)⟩
      · have c : (xs.length : Int) = (n : Int) := c
        refine ⟨_, rfl, a, rfl, ⟨_, h1⟩, fun D hD => ?_⟩
        refine lc_tup (K := K) (a := a) (xs := xs) (Pv := fun j H' => Same H H' ∧ H' D = some (.lst (((ds.take j).map isI).map V.bl))) ⟨up hD, upd_same⟩ (fun j H' _ h => sqT_same h.1 h1) ?_ ?_
        · rintro j x H1 hj ⟨hs, hd⟩
          obtain ⟨e, he, hx⟩ := DpAll.get h2 hj
          refine ⟨rfl, _, rfl, x, e, rfl, Dp.same hs hx, _, hd, ?_, fun y o e => ?_, ?_⟩
          · rw [List.length_map, List.length_map, List.length_take, sizeLine_eq]
            omega
          · rw [upd_ne (ne_of_none e hD)]
            exact hs _ _ e
          · rw [upd_same, List.take_succ, he, List.map_append, List.map_append]
            rfl
        rintro H1 ⟨hs, hd⟩
        rw [xl, List.take_length] at hd
        refine ⟨D, ds.map isI, rfl, SqL.of hd, k _ _ ⟨fun z => ?_, fun ⟨ns, e, e2⟩ => ?_⟩ hs⟩
        · obtain ⟨ns, e⟩ := all_isI z
          refine ⟨ns, by rw [e], ?_⟩
          rw [e, List.length_map] at xl
          omega
        · cases e
          exact isI_all ns
      · refine k _ _ (nb fun ⟨ns, e, e2⟩ => c ?_) (Same.refl H)
        cases e
        show (xs.length : Int) = (n : Int)
        rw [xl, List.length_map, e2]
    | int i => exact ⟨_, rfl, _, _, _, _, false, rfl, .ty _, dp_ty (.int i), (by first | exact kit_strD _ | exact kit_tupD _ | exact kit_intD _ | exact kit_boolD _), false, rfl, iteF (k _ _ (nb (other fun _ z => by cases z)) (Same.refl H))⟩
    | bl i => exact ⟨_, rfl, _, _, _, _, false, rfl, .ty _, dp_ty (.bl i), (by first | exact kit_strD _ | exact kit_tupD _ | exact kit_intD _ | exact kit_boolD _), false, rfl, iteF (k _ _ (nb (other fun _ z => by cases z)) (Same.refl H))⟩
    | non => exact ⟨_, rfl, _, _, _, _, false, rfl, .ty _, dp_ty .non, (by first | exact kit_strD _ | exact kit_tupD _ | exact kit_intD _ | exact kit_boolD _), false, rfl, iteF (k _ _ (nb (other fun _ z => by cases z)) (Same.refl H))⟩
    | str x => exact ⟨_, rfl, _, _, _, _, false, rfl, .ty _, dp_ty (.str x), (by first | exact kit_strD _ | exact kit_tupD _ | exact kit_intD _ | exact kit_boolD _), false, rfl, iteF (k _ _ (nb (other fun _ z => by cases z)) (Same.refl H))⟩
    | lst h1 h2 => exact ⟨_, rfl, _, _, _, _, false, rfl, .ty _, dp_ty (.lst h1 h2), (by first | exact kit_strD _ | exact kit_tupD _ | exact kit_intD _ | exact kit_boolD _), false, rfl, iteF (k _ _ (nb (other fun _ z => by cases z)) (Same.refl H))⟩
end
def Wr.use : Wr → Int
  | .coded m c => m * c
  | .pieces m _ => m
  | .cut m _ => m
  | .filled m => m
  | _ => 1
theorem step_use (p : Int) (a : Wr) : stepF p a = p * a.use := by
  cases a <;> simp [stepF, Wr.use, Int.mul_assoc]
theorem use_pos {a : Wr} (h : a.ok) : 1 ≤ a.use := by
  cases a with
  | coded m c =>
    simp only [Wr.ok] at h
    simp only [Wr.use]
    have := Int.mul_le_mul h.1 (show 1 ≤ c by omega) (by decide) (by omega)
    omega
  | _ => simp only [Wr.ok] at h; simp only [Wr.use]; omega
theorem fine_app (ws : List Wr) (a : Wr) : fineL (ws ++ [a]) = fineL ws * a.use := by
  unfold fineL
  rw [List.foldl_append]
  exact step_use _ a
theorem fine_pos : ∀ {ws : List Wr}, (∀ a ∈ ws, a.ok) → ∀ {p : Int}, 1 ≤ p → p ≤ ws.foldl stepF p
  | [], _, p, _ => Int.le_refl p
  | a :: ws, h, p, hp => by
    have u := use_pos (h a (List.mem_cons_self ..))
    have m := Int.mul_le_mul_of_nonneg_left u (show 0 ≤ p by omega)
    rw [Int.mul_one] at m
    have e : stepF p a = p * a.use := step_use p a
    have ih := fine_pos (ws := ws) (fun x hx => h x (List.mem_cons_of_mem _ hx)) (p := stepF p a) (by omega)
    show p ≤ ws.foldl stepF (stepF p a)
    omega
theorem fine_take {ws : List Wr} (h : ∀ a ∈ ws, a.ok) (i : Nat) : fineL (ws.take i) ≤ fineL ws := by
  have e : fineL ws = (ws.drop i).foldl stepF (fineL (ws.take i)) := by
    unfold fineL
    rw [← List.foldl_append, List.take_append_drop]
  rw [e]
  exact fine_pos (fun x hx => h x (List.mem_of_mem_drop hx)) (fine_pos (fun x hx => h x (List.mem_of_mem_take hx)) (by decide))
/-- the numbers from lo on whose square is within the room, among so many -/
def sqs (r : Int) (i : Nat) : List Int := ((List.range i).map fun (j : Nat) => 1 + (j : Int)).filter fun z => decide (z * z ≤ r)
theorem sqs_succ (r : Int) (i : Nat) : sqs r (i + 1) = sqs r i ++ (if (1 + (i : Int)) * (1 + (i : Int)) ≤ r then [1 + (i : Int)] else []) := by
  unfold sqs
  rw [List.range_succ, List.map_append, List.filter_append]
  congr 1
  by_cases c : (1 + (i : Int)) * (1 + (i : Int)) ≤ r <;> simp [c]
theorem sqs_len {r : Int} (hr : 1 ≤ r) : ∀ i : Nat, (sqs r i).length ≤ i ∧ (1 ≤ i → 1 ≤ (sqs r i).length) ∧ ∀ z : Int, 1 ≤ z → z ≤ (sqs r i).length → z * z ≤ r
  | 0 => ⟨Nat.zero_le _, fun h => absurd h (by decide), fun z h0 h1 => by
    have e : (sqs r 0).length = 0 := rfl
    rw [e] at h1
    omega⟩
  | i + 1 => by
    obtain ⟨h1, h2, h3⟩ := sqs_len hr i
    have e := sqs_succ r i
    by_cases c : (1 + (i : Int)) * (1 + (i : Int)) ≤ r
    · rw [e, if_pos c, List.length_append]
      refine ⟨by simp; omega, fun _ => by simp, fun z z0 z1 => ?_⟩
      have zi : z ≤ 1 + (i : Int) := by
        simp at z1
        omega
      exact Int.le_trans (Int.mul_le_mul zi zi (by omega) (by omega)) c
    · rw [e, if_neg c, List.append_nil]
      refine ⟨by omega, fun _ => ?_, h3⟩
      by_cases i0 : i = 0
      · exfalso
        apply c
        rw [i0]
        simp
        omega
      · exact h2 (by omega)
/-! ### steps of a road -/
inductive Stp where
  | push (a : Wr)
  | pop
  | bound (n : Int)
def stepOn (ws : List Wr) : Stp → List Wr
  | .push a => ws ++ [a]
  | .pop => ws.dropLast
  | .bound _ => ws
def stepOk (b : Int) (ws : List Wr) : Stp → Prop
  | .push a => StkOk b (ws ++ [a])
  | .pop => ws ≠ []
  | .bound n => 0 ≤ n ∧ n ≤ 10 ^ 60 - 1
/-- the wraps that are on -/
def onL (ss : List Stp) : List Wr := ss.foldl stepOn []
inductive RoadB (b : Int) : List Stp → Prop where
  | nil : RoadB b []
  | snoc {ss : List Stp} {s : Stp} (h : RoadB b ss) (ok : stepOk b (onL ss) s) : RoadB b (ss ++ [s])
theorem onL_snoc (ss : List Stp) (s : Stp) : onL (ss ++ [s]) = stepOn (onL ss) s := by
  unfold onL
  rw [List.foldl_append]
  rfl
theorem fine_init {ws : List Wr} (h : ∀ a ∈ ws, a.ok) : fineL ws.dropLast ≤ fineL ws := by
  rw [List.dropLast_eq_take]
  exact fine_take h _
theorem StkOk.init {b : Int} {ws : List Wr} (so : StkOk b ws) : StkOk b ws.dropLast :=
  ⟨so.b0, so.b1, fun a ha => so.ok a (by rw [List.dropLast_eq_take] at ha; exact List.mem_of_mem_take ha), by rw [List.length_dropLast]; have := so.len; omega, Int.le_trans (fine_init so.ok) so.fine⟩
theorem StkOk.step {b : Int} {ws : List Wr} {s : Stp} (so : StkOk b ws) (h : stepOk b ws s) : StkOk b (stepOn ws s) := by
  cases s with
  | push a => exact h
  | pop => exact so.init
  | bound n => exact so
theorem StkOk.nil {b : Int} (b0 : 2 ≤ b) (b1 : b ≤ 256) : StkOk b [] := ⟨b0, b1, fun _ h => absurd h (by simp), by simp, by decide⟩
theorem RoadB.stk {b : Int} {ss : List Stp} (b0 : 2 ≤ b) (b1 : b ≤ 256) (h : RoadB b ss) : StkOk b (onL ss) := by
  induction h with
  | nil => exact StkOk.nil b0 b1
  | snoc h ok ih =>
    rw [onL_snoc]
    exact ih.step ok
theorem RoadB.take {b : Int} {ss : List Stp} (h : RoadB b ss) : ∀ i : Nat, RoadB b (ss.take i) := by
  induction h with
  | nil => intro i; simp; exact .nil
  | @snoc ss s h ok ih =>
    intro i
    by_cases z : i ≤ ss.length
    · rw [List.take_append_of_le_length z]
      exact ih i
    · rw [List.take_of_length_le (by rw [List.length_append]; simp; omega)]
      exact .snoc h ok
theorem RoadB.at_ {b : Int} {ss : List Stp} (h : RoadB b ss) : ∀ {i : Nat} {s : Stp}, ss[i]? = some s → stepOk b (onL (ss.take i)) s := by
  induction h with
  | nil => intro i s e; simp at e
  | @snoc ss s' h ok ih =>
    intro i s e
    by_cases z : i < ss.length
    · rw [List.getElem?_append_left z] at e
      rw [List.take_append_of_le_length (by omega)]
      exact ih e
    · have hi : i = ss.length := by
        have := (List.getElem?_eq_some_iff.mp e).1
        rw [List.length_append] at this
        simp at this
        omega
      subst hi
      rw [List.getElem?_append_right (Nat.le_refl _), Nat.sub_self] at e
      have e2 : s' = s := by simpa using e
      rw [List.take_append_of_le_length (Nat.le_refl _), List.take_length, ← e2]
      exact ok
/-! sizes along a road -/
noncomputable def goT (b : Int) (z : Int × List Int) : Stp → Int × List Int
  | .push a => (a.gr b z.1, z.2 ++ [z.1])
  | .pop => (z.2.getLast?.getD 0, z.2.dropLast)
  | .bound _ => z
noncomputable def trS (b : Int) (ss : List Stp) (n : Int) : Int × List Int := ss.foldl (goT b) (n, [])
noncomputable def inner (b : Int) (ws : List Wr) (n : Int) : List Int := (List.range ws.length).map fun j => grS b (ws.take j) n
theorem grS_snoc {b : Int} {ws : List Wr} {a : Wr} {n : Int} : grS b (ws ++ [a]) n = a.gr b (grS b ws n) := by
  unfold grS
  rw [List.foldl_append]
  rfl
theorem inner_snoc {b : Int} {ws : List Wr} {a : Wr} {n : Int} : inner b (ws ++ [a]) n = inner b ws n ++ [grS b ws n] := by
  unfold inner
  rw [List.length_append, List.length_singleton, List.range_succ, List.map_append]
  congr 1
  · refine List.map_congr_left fun j hj => ?_
    have := List.mem_range.mp hj
    rw [List.take_append_of_le_length (by omega)]
  · simp
theorem trS_snoc {b : Int} {ss : List Stp} {s : Stp} {n : Int} : trS b (ss ++ [s]) n = goT b (trS b ss n) s := by
  unfold trS
  rw [List.foldl_append]
  rfl
theorem trS_on {b : Int} {ss : List Stp} (h : RoadB b ss) (n : Int) : trS b ss n = (grS b (onL ss) n, inner b (onL ss) n) := by
  induction h with
  | nil => rfl
  | @snoc ss s h ok ih =>
    rw [trS_snoc, onL_snoc, ih]
    cases s with
    | push a =>
      show (a.gr b (grS b (onL ss) n), inner b (onL ss) n ++ [grS b (onL ss) n]) = (grS b (onL ss ++ [a]) n, inner b (onL ss ++ [a]) n)
      rw [grS_snoc, inner_snoc]
    | pop =>
      have ok : onL ss ≠ [] := ok
      generalize onL ss = ws at ok ⊢
      show ((inner b ws n).getLast?.getD 0, (inner b ws n).dropLast) = (grS b ws.dropLast n, inner b ws.dropLast n)
      have e := List.dropLast_concat_getLast ok
      generalize ws.dropLast = us at e
      generalize ws.getLast ok = a at e
      rw [← e, inner_snoc]
      simp
    | bound m => rfl
/-- all bounds let it through -/
def fitsP (b : Int) (ss : List Stp) (n : Int) : Prop := ∀ (i : Nat) (m : Int), ss[i]? = some (.bound m) → grS b (onL (ss.take i)) n ≤ m
theorem fits_snoc {b : Int} {ss : List Stp} {s : Stp} {n : Int} : fitsP b (ss ++ [s]) n ↔ fitsP b ss n ∧ ∀ m, s = .bound m → grS b (onL ss) n ≤ m := by
  constructor
  · intro h
    refine ⟨fun i m e => ?_, fun m e => ?_⟩
    · have hi : i < ss.length := (List.getElem?_eq_some_iff.mp e).1
      have z := h i m (by rw [List.getElem?_append_left hi]; exact e)
      rw [List.take_append_of_le_length (by omega)] at z
      exact z
    · have z := h ss.length m (by rw [List.getElem?_append_right (Nat.le_refl _), Nat.sub_self, e]; rfl)
      rw [List.take_append_of_le_length (Nat.le_refl _), List.take_length] at z
      exact z
  · rintro ⟨h1, h2⟩ i m e
    by_cases z : i < ss.length
    · rw [List.getElem?_append_left z] at e
      rw [List.take_append_of_le_length (by omega)]
      exact h1 i m e
    · have hi : i = ss.length := by
        have := (List.getElem?_eq_some_iff.mp e).1
        rw [List.length_append] at this
        simp at this
        omega
      subst hi
      rw [List.getElem?_append_right (Nat.le_refl _), Nat.sub_self] at e
      rw [List.take_append_of_le_length (Nat.le_refl _), List.take_length]
      exact h2 m (by simpa using e)
/-! ### has a length a size? -/
theorem DpAll.three {K : PySem.W.Frag} {H : Hp} {xs : List V} {ds : List PyData} (h : DpAll K H xs ds) (l : xs.length = 3) : ∃ x0 x1 x2 d0 d1 d2, xs = [x0, x1, x2] ∧ ds = [d0, d1, d2] ∧ Dp K H x0 d0 ∧ Dp K H x1 d1 ∧ Dp K H x2 d2 := by
  match xs, ds, h, l with
  | [x0, x1, x2], [d0, d1, d2], .cons h0 (.cons h1 (.cons h2 .nil)), _ => exact ⟨x0, x1, x2, d0, d1, d2, rfl, rfl, h0, h1, h2⟩
def SizeP (ds : List PyData) : Prop := ∃ (e : PyData) (n b : Int) (ws : List Wr), ds = [e, .int n, .int (grS b ws n)] ∧ 0 ≤ n ∧ n ≤ 10 ^ 60 - 1 ∧ rdT e = some (b, ws)
def spHasSize (K : PySem.W.Frag) : Sp := fun vs H Q _ => ∃ (a : Addr) (xs : List V) (ds : List PyData), vs = [.ref a] ∧ SqT K H a xs ∧ DpAll K H xs ds ∧ (∀ d ∈ ds, TextOk d) ∧ ∀ r H', (r = true ↔ SizeP ds) → Same H H' → Q (.bl r) H'
section
variable {P : Program} {w : World} {K : PySem.W.Frag} {mg : Str → Option Value} {base : Heap}
theorem ok_has_size (T : Tx w K mg) : Prom P w K mg base CX0 10 "has_size" s_has_size ["rest"] (spHasSize K) := by
  refine Prom.of T.d_has_size sc_has_size (fun vs H Q E h => ?_) (fun _ _ _ _ _ _ us hl => match us, hl with | [_], _ => rfl) (fun f cdv A outer s H vs Q E hr h => ?_)
  · obtain ⟨a, xs, ds, rfl, _⟩ := h
    rfl
  · obtain ⟨a, xs, ds, rfl, hS, hd, ht, k⟩ := h
    refine ⟨_, (pss_cons (ps_if (PW.pt (pw_or (pt_cmp (pc_neI (pe_callB call_len_seq (by rfl) T.b_len (by decide +kernel) (pa_cons (pv 0) pa_nil)) pe_int)) (pw_or (pt_not (pt_val (pe_callP (ok_is_lengthX T) (hr.mono (by decide)) (by rfl) pass0 (pa_cons (pe_ix ix_tup (pv 0) pe_int (fun _ _ => rfl)) pa_nil)))) (pw_or1 (pt_not (pt_val (pe_callP (ok_is_integerX T) (hr.mono (by decide)) (by rfl) pass0 (pa_cons (pe_ix ix_tup (pv 0) pe_int (fun _ _ => rfl)) pa_nil)))))))) (pss_one (ps_ret pe_bl)) pss_nil)
      (pss_cons (ps_set (i := 1) sc_has_size.nd rfl (Or.inl rfl) (pe_callP (ok_stack_told T) (hr.mono (by decide)) (by rfl) pass0 (pa_cons (pe_ix ix_tup (pv 0) pe_int (fun _ _ => rfl)) pa_nil)))
      (pss_one (ps_ret (pe_and (pe_cmpR op_notN (pv 1) pe_non (nomark _)) (pe_one (pe_cmp (pc_eqI (pe_methP (ok_Stack_grown T) (hr.mono (by decide)) pass0 (pv 1) (pa_cons (pe_ix ix_tup (pv 0) pe_int (fun _ _ => rfl)) pa_nil)) (pe_ix ix_tup (pv 0) pe_int (fun _ _ => rfl)))))))))), ?_⟩
    have fin : ∀ H', Same H H' → ¬ SizeP ds → Q (.bl false) H' := fun H' s n => k _ _ (nb n) s
    have xl := DpAll.len hd
    refine ⟨_, rfl, a, _, rfl, .inr hS, _, _, rfl, rfl, _, rfl, ifn (fun c => ?_) (fun c => ?_)⟩
    · have c : ¬ (xs.length : Int) = 3 := c
      refine fin _ (Same.refl H) fun ⟨e, n, b, ws, h, _⟩ => c ?_
      rw [xl, h]
      rfl
    have c : (xs.length : Int) = 3 := c
    obtain ⟨x0, x1, x2, d0, d1, d2, rfl, rfl, h0, h1, h2⟩ := DpAll.three hd (by omega)
    refine ⟨_, rfl, a, _, _, x1, rfl, rfl, hS, at_of (j := 1) rfl rfl, x1, d1, rfl, h1, _, rfl, ?_⟩
    have S0 := Same.refl H
    cases e1 : inR 0 (10 ^ 60 - 1) d1 with
    | false =>
      refine iteT (fin _ S0 fun ⟨e, n, b, ws, h, n0, n1, _⟩ => ?_)
      cases h
      rw [show inR 0 (10 ^ 60 - 1) (.int n) = true from decide_eq_true ⟨n0, n1⟩] at e1
      cases e1
    | true =>
    obtain ⟨n, rfl, n0, n1⟩ := inR_int e1
    refine iteF ?_
    refine ⟨_, rfl, a, _, _, x2, rfl, rfl, hS, at_of (j := 2) rfl rfl, x2, d2, rfl, h2, _, rfl, ?_⟩
    cases e2 : isI d2 with
    | false =>
      refine iteT (fin _ S0 fun ⟨e, n, b, ws, h, n0, n1, _⟩ => ?_)
      cases h
      cases e2
    | true =>
    obtain ⟨m, rfl⟩ := isI_int e2
    refine iteF ?_
    cases h1
    cases h2
    refine ⟨_, rfl, a, _, _, x0, rfl, rfl, hS, at_of (j := 0) rfl rfl, x0, d0, rfl, h0, ht _ (.head _), fun v0 H1 s1 t0 => ?_⟩
    rcases t0 with ⟨en, rfl⟩ | ⟨q, b, ws, es, rfl, sa, so⟩
    · refine ⟨_, rfl, rfl, _, rfl, iteF (fin _ s1 fun ⟨e, n, b, ws, h, _, _, z⟩ => ?_)⟩
      cases h
      rw [en] at z
      cases z
    · have hS1 := sqT_same s1 hS
      obtain ⟨dx, t, us, hq, _⟩ := id sa
      refine ⟨_, rfl, rfl, _, rfl, iteT ?_⟩
      refine ⟨_, rfl, q, dx, _, rfl, hq, rfl, ⟨_, rfl, a, _, _, _, rfl, rfl, hS1, at_of (j := 1) rfl rfl, q, b, ws, n, rfl, sa, so, n0, Int.lt_of_le_of_lt n1 (by decide), ?_⟩⟩
      refine ⟨_, rfl, a, _, _, _, rfl, rfl, hS1, at_of (j := 2) rfl rfl, _, _, rfl, rfl, k _ _ ⟨fun z => ?_, fun ⟨e, n', b', ws', h, _, _, z⟩ => ?_⟩ s1⟩
      · have z : grS b ws n = m := of_decide_eq_true z
        rw [← z]
        exact ⟨d0, n, b, ws, rfl, n0, n1, es⟩
      · cases h
        rw [es] at z
        cases z
        exact decide_eq_true rfl
end
/-! ### have two stacks unlike sizes? -/
def unlS (lg : Bool) (x y : Int) : Prop := if lg = true then x > y else x ≠ y
def UnlP (lg : Bool) (ds : List PyData) : Prop := ∃ (e1 e2 : PyData) (n b b' : Int) (ws ws' : List Wr), ds = [e1, e2, .int n] ∧ 0 ≤ n ∧ n ≤ 10 ^ 60 - 1 ∧ rdT e1 = some (b, ws) ∧ rdT e2 = some (b', ws') ∧ unlS lg (grS b ws n) (grS b' ws' n)
def spUnlike (K : PySem.W.Frag) : Sp := fun vs H Q _ => ∃ (a : Addr) (lg : Bool) (xs : List V) (ds : List PyData), vs = [.ref a, .bl lg] ∧ SqT K H a xs ∧ DpAll K H xs ds ∧ (∀ d ∈ ds, TextOk d) ∧ ∀ r H', (r = true ↔ UnlP lg ds) → Same H H' → Q (.bl r) H'
section
variable {P : Program} {w : World} {K : PySem.W.Frag} {mg : Str → Option Value} {base : Heap}
theorem ok_unlike_sizes (T : Tx w K mg) : Prom P w K mg base CX0 10 "unlike_sizes" s_unlike_sizes ["rest", "longer"] (spUnlike K) := by
  refine Prom.of T.d_unlike_sizes sc_unlike_sizes (fun vs H Q E h => ?_) (fun _ _ _ _ _ _ us hl => match us, hl with | [_, _], _ => rfl) (fun f cdv A outer s H vs Q E hr h => ?_)
  · obtain ⟨a, lg, xs, ds, rfl, _⟩ := h
    rfl
  · obtain ⟨a, lg, xs, ds, rfl, hS, hd, ht, k⟩ := h
    refine ⟨_, (pss_cons (ps_if (pt_cmp (pc_neI (pe_callB call_len_seq (by rfl) T.b_len (by decide +kernel) (pa_cons (pv 0) pa_nil)) pe_int)) (pss_one (ps_ret pe_bl)) pss_nil)
      (pss_cons (ps_par3 (i := 2) (j := 3) (l := 4) (by rfl) sc_unlike_sizes.nd rfl rfl rfl (by decide) (by decide) (by decide) rfl rfl rfl (pa_cons (pe_callP (ok_stack_told T) (hr.mono (by decide)) (by rfl) pass0 (pa_cons (pe_ix ix_tup (pv 0) pe_int (fun _ _ => rfl)) pa_nil)) (pa_cons (pe_callP (ok_stack_told T) (hr.mono (by decide)) (by rfl) pass0 (pa_cons (pe_ix ix_tup (pv 0) pe_int (fun _ _ => rfl)) pa_nil)) (pa_cons (pe_ix ix_tup (pv 0) pe_int (fun _ _ => rfl)) pa_nil))) (by rfl))
      (pss_cons (ps_if (PW.pt (pw_or (pt_cmpR op_isN (pv 2) pe_non (nomark _)) (pw_or (pt_cmpR op_isN (pv 3) pe_non (nomark _)) (pw_or1 (pt_not (pt_val (pe_callP (ok_is_lengthX T) (hr.mono (by decide)) (by rfl) pass0 (pa_cons (pv 4) pa_nil)))))))) (pss_one (ps_ret pe_bl)) pss_nil)
      (pss_cons (ps_if (pt_val (pv 1)) (pss_one (ps_ret (pe_cmp (pc_gt (pe_methP (ok_Stack_grown T) (hr.mono (by decide)) pass0 (pv 2) (pa_cons (pv 4) pa_nil)) (pe_methP (ok_Stack_grown T) (hr.mono (by decide)) pass0 (pv 3) (pa_cons (pv 4) pa_nil)))))) pss_nil)
      (pss_one (ps_ret (pe_cmp (pc_neI (pe_methP (ok_Stack_grown T) (hr.mono (by decide)) pass0 (pv 2) (pa_cons (pv 4) pa_nil)) (pe_methP (ok_Stack_grown T) (hr.mono (by decide)) pass0 (pv 3) (pa_cons (pv 4) pa_nil)))))))))), ?_⟩
    have fin : ∀ H', Same H H' → ¬ UnlP lg ds → Q (.bl false) H' := fun H' s n => k _ _ (nb n) s
    have xl := DpAll.len hd
    refine ⟨_, rfl, a, _, rfl, .inr hS, _, _, rfl, rfl, _, rfl, ifn (fun c => ?_) (fun c => ?_)⟩
    · have c : ¬ (xs.length : Int) = 3 := c
      refine fin _ (Same.refl H) fun ⟨e1, e2, n, b, b', ws, ws', h, _⟩ => c ?_
      rw [xl, h]
      rfl
    have c : (xs.length : Int) = 3 := c
    obtain ⟨x0, x1, x2, d0, d1, d2, rfl, rfl, h0, h1, h2⟩ := DpAll.three hd (by omega)
    refine ⟨_, rfl, a, _, _, x0, rfl, rfl, hS, at_of (j := 0) rfl rfl, x0, d0, rfl, h0, ht _ (.head _), fun v1 H1 s1 t1 => ?_⟩
    have hS1 := sqT_same s1 hS
    refine ⟨_, rfl, a, _, _, x1, rfl, rfl, hS1, at_of (j := 1) rfl rfl, x1, d1, rfl, Dp.same s1 h1, ht _ (.tail _ (.head _)), fun v2 H2 s2 t2 => ?_⟩
    have hS2 := sqT_same s2 hS1
    have sH2 : Same H H2 := fun x o e => s2 _ _ (s1 _ _ e)
    refine ⟨_, rfl, a, _, _, x2, rfl, rfl, hS2, at_of (j := 2) rfl rfl, ?_⟩
    refine ⟨_, _, _, rfl, ?_⟩
    refine st_eq [some (.ref a), some (.bl lg), some v1, some v2, some x2] rfl ?_
    have t1 := t1.same s2
    rcases t1 with ⟨e1, rfl⟩ | ⟨q1, b1, ws1, e1, rfl, sa1, so1⟩
    · repeat (first | (refine And.intro ?_ ?_; · (first | exact rfl | (show (_ : Int) ≤ _; omega) | (show (_ : Int) < _; omega) | assumption | exact SqL.of upd_same | exact SqT.of upd_same | exact upd_same | exact Drew.at_ (by assumption) | exact at_of (j := 0) rfl rfl | exact at_of (j := 1) rfl rfl | exact at_of (j := 2) rfl rfl | exact at_of (j := 3) rfl rfl | exact .inr (by assumption) | exact .inl (by assumption) | exact .ty _ | exact dp_ty (by assumption) | exact kit_strD _ | exact kit_tupD _ | exact kit_intD _ | exact kit_boolD _ | exact ⟨_, rfl⟩ | decide | omega | exact (show 0 ≤ sizeLine by decide) | exact (show 1 ≤ sizeLine by decide) | exact (show 2 ≤ sizeLine by decide) | exact (show 3 ≤ sizeLine by decide) | exact (show 4 ≤ sizeLine by decide) | exact (show 5 ≤ sizeLine by decide) | exact (show 6 ≤ sizeLine by decide) | decide +kernel)) | apply Exists.intro | refine iteT ?_ | refine iteF ?_)
      refine fin _ sH2 fun ⟨f1, f2, n, b, b', ws, ws', h, _, _, z1, z2, _⟩ => ?_
      cases h
      rw [e1] at z1
      cases z1
    repeat (first | (refine And.intro ?_ ?_; · (first | exact rfl | (show (_ : Int) ≤ _; omega) | (show (_ : Int) < _; omega) | assumption | exact SqL.of upd_same | exact SqT.of upd_same | exact upd_same | exact Drew.at_ (by assumption) | exact at_of (j := 0) rfl rfl | exact at_of (j := 1) rfl rfl | exact at_of (j := 2) rfl rfl | exact at_of (j := 3) rfl rfl | exact .inr (by assumption) | exact .inl (by assumption) | exact .ty _ | exact dp_ty (by assumption) | exact kit_strD _ | exact kit_tupD _ | exact kit_intD _ | exact kit_boolD _ | exact ⟨_, rfl⟩ | decide | omega | exact (show 0 ≤ sizeLine by decide) | exact (show 1 ≤ sizeLine by decide) | exact (show 2 ≤ sizeLine by decide) | exact (show 3 ≤ sizeLine by decide) | exact (show 4 ≤ sizeLine by decide) | exact (show 5 ≤ sizeLine by decide) | exact (show 6 ≤ sizeLine by decide) | decide +kernel)) | apply Exists.intro | refine iteT ?_ | refine iteF ?_)
    rcases t2 with ⟨e2, rfl⟩ | ⟨q2, b2, ws2, e2, rfl, sa2, so2⟩
    · repeat (first | (refine And.intro ?_ ?_; · (first | exact rfl | (show (_ : Int) ≤ _; omega) | (show (_ : Int) < _; omega) | assumption | exact SqL.of upd_same | exact SqT.of upd_same | exact upd_same | exact Drew.at_ (by assumption) | exact at_of (j := 0) rfl rfl | exact at_of (j := 1) rfl rfl | exact at_of (j := 2) rfl rfl | exact at_of (j := 3) rfl rfl | exact .inr (by assumption) | exact .inl (by assumption) | exact .ty _ | exact dp_ty (by assumption) | exact kit_strD _ | exact kit_tupD _ | exact kit_intD _ | exact kit_boolD _ | exact ⟨_, rfl⟩ | decide | omega | exact (show 0 ≤ sizeLine by decide) | exact (show 1 ≤ sizeLine by decide) | exact (show 2 ≤ sizeLine by decide) | exact (show 3 ≤ sizeLine by decide) | exact (show 4 ≤ sizeLine by decide) | exact (show 5 ≤ sizeLine by decide) | exact (show 6 ≤ sizeLine by decide) | decide +kernel)) | apply Exists.intro | refine iteT ?_ | refine iteF ?_)
      refine fin _ sH2 fun ⟨f1, f2, n, b, b', ws, ws', h, _, _, z1, z2, _⟩ => ?_
      cases h
      rw [e2] at z2
      cases z2
    repeat (first | (refine And.intro ?_ ?_; · (first | exact rfl | (show (_ : Int) ≤ _; omega) | (show (_ : Int) < _; omega) | assumption | exact SqL.of upd_same | exact SqT.of upd_same | exact upd_same | exact Drew.at_ (by assumption) | exact at_of (j := 0) rfl rfl | exact at_of (j := 1) rfl rfl | exact at_of (j := 2) rfl rfl | exact at_of (j := 3) rfl rfl | exact .inr (by assumption) | exact .inl (by assumption) | exact .ty _ | exact dp_ty (by assumption) | exact kit_strD _ | exact kit_tupD _ | exact kit_intD _ | exact kit_boolD _ | exact ⟨_, rfl⟩ | decide | omega | exact (show 0 ≤ sizeLine by decide) | exact (show 1 ≤ sizeLine by decide) | exact (show 2 ≤ sizeLine by decide) | exact (show 3 ≤ sizeLine by decide) | exact (show 4 ≤ sizeLine by decide) | exact (show 5 ≤ sizeLine by decide) | exact (show 6 ≤ sizeLine by decide) | decide +kernel)) | apply Exists.intro | refine iteT ?_ | refine iteF ?_)
    refine ⟨Dp.same sH2 h2, _, rfl, iteB (fun c2 => ?_) (fun c2 => ?_)⟩
    · refine fin _ sH2 fun ⟨f1, f2, n, b, b', ws, ws', h, n0, n1, z1, z2, _⟩ => ?_
      cases h
      rw [show inR 0 (10 ^ 60 - 1) (.int n) = true from decide_eq_true ⟨n0, n1⟩] at c2
      cases c2
    obtain ⟨n, rfl, n0, n1⟩ := inR_int c2
    cases h2
    have n2 : n < 10 ^ 60 := Int.lt_of_le_of_lt n1 (by decide)
    have key : ∀ {r : Bool}, (r = true ↔ unlS lg (grS b1 ws1 n) (grS b2 ws2 n)) → (r = true ↔ UnlP lg [d0, d1, .int n]) := fun {r} hr => by
      refine ⟨fun z => ⟨d0, d1, n, b1, b2, ws1, ws2, rfl, n0, n1, e1, e2, hr.mp z⟩, fun ⟨f1, f2, n', b, b', ws, ws', h, _, _, z1, z2, z3⟩ => hr.mpr ?_⟩
      cases h
      rw [e1] at z1
      rw [e2] at z2
      cases z1
      cases z2
      exact z3
    obtain ⟨dx1, tt1, us1, hq1, _⟩ := id sa1
    obtain ⟨dx2, tt2, us2, hq2, _⟩ := id sa2
    cases lg with
    | true =>
      repeat (first | (refine And.intro ?_ ?_; · (first | exact rfl | (show (_ : Int) ≤ _; omega) | (show (_ : Int) < _; omega) | assumption | exact SqL.of upd_same | exact SqT.of upd_same | exact upd_same | exact Drew.at_ (by assumption) | exact at_of (j := 0) rfl rfl | exact at_of (j := 1) rfl rfl | exact at_of (j := 2) rfl rfl | exact at_of (j := 3) rfl rfl | exact .inr (by assumption) | exact .inl (by assumption) | exact .ty _ | exact dp_ty (by assumption) | exact kit_strD _ | exact kit_tupD _ | exact kit_intD _ | exact kit_boolD _ | exact ⟨_, rfl⟩ | decide | omega | exact (show 0 ≤ sizeLine by decide) | exact (show 1 ≤ sizeLine by decide) | exact (show 2 ≤ sizeLine by decide) | exact (show 3 ≤ sizeLine by decide) | exact (show 4 ≤ sizeLine by decide) | exact (show 5 ≤ sizeLine by decide) | exact (show 6 ≤ sizeLine by decide) | decide +kernel)) | apply Exists.intro | refine iteT ?_ | refine iteF ?_)
      exact k _ _ (key (decide_eq_true_iff (p := grS b1 ws1 n > grS b2 ws2 n))) sH2
    | false =>
      repeat (first | (refine And.intro ?_ ?_; · (first | exact rfl | (show (_ : Int) ≤ _; omega) | (show (_ : Int) < _; omega) | assumption | exact SqL.of upd_same | exact SqT.of upd_same | exact upd_same | exact Drew.at_ (by assumption) | exact at_of (j := 0) rfl rfl | exact at_of (j := 1) rfl rfl | exact at_of (j := 2) rfl rfl | exact at_of (j := 3) rfl rfl | exact .inr (by assumption) | exact .inl (by assumption) | exact .ty _ | exact dp_ty (by assumption) | exact kit_strD _ | exact kit_tupD _ | exact kit_intD _ | exact kit_boolD _ | exact ⟨_, rfl⟩ | decide | omega | exact (show 0 ≤ sizeLine by decide) | exact (show 1 ≤ sizeLine by decide) | exact (show 2 ≤ sizeLine by decide) | exact (show 3 ≤ sizeLine by decide) | exact (show 4 ≤ sizeLine by decide) | exact (show 5 ≤ sizeLine by decide) | exact (show 6 ≤ sizeLine by decide) | decide +kernel)) | apply Exists.intro | refine iteT ?_ | refine iteF ?_)
      refine k _ _ (key ?_) sH2
      unfold unlS
      simp
end
/-! ### a length and the next one, on both sides of a bound -/
def PayP (ds : List PyData) (e : PyData) : Prop := ∃ (t : PyData) (bd n b : Int) (ws : List Wr), ds = [t, .int bd, .int n] ∧ 0 ≤ bd ∧ bd ≤ 10 ^ 60 - 1 ∧ 0 ≤ n ∧ n ≤ 10 ^ 60 - 1 ∧ rdT t = some (b, ws) ∧ grS b ws n ≤ bd ∧
  ((n = 10 ^ 60 - 1 ∧ e = .tuple [.int (grS b ws n)]) ∨ (n ≠ 10 ^ 60 - 1 ∧ e = .tuple [.int (grS b ws n), .int (grS b ws (n + 1))] ∧ bd < grS b ws (n + 1)))
theorem eqv_two {x y g h : Int} : PyData.eqv (.tuple [.int x, .int y]) (.tuple [.int g, .int h]) = decide (x = g ∧ y = h) := by
  by_cases h1 : x = g
  · by_cases h2 : y = h
    · rw [h1, h2, decide_eq_true ⟨rfl, rfl⟩]
      simp [PyData.eqv, PyData.eqvAll]
    · rw [decide_eq_false fun z => h2 z.2]
      simp [PyData.eqv, PyData.eqvAll, h2]
  · rw [decide_eq_false fun z => h1 z.1]
    simp [PyData.eqv, PyData.eqvAll, h1]
def spPay (K : PySem.W.Frag) : Sp := fun vs H Q _ => ∃ (a : Addr) (u : V) (xs : List V) (ds : List PyData) (e : PyData), vs = [.ref a, u] ∧ SqT K H a xs ∧ DpAll K H xs ds ∧ Dp K H u e ∧ (∀ d ∈ ds, TextOk d) ∧ ∀ r H', (r = true ↔ PayP ds e) → Same H H' → Q (.bl r) H'
section
variable {P : Program} {w : World} {K : PySem.W.Frag} {mg : Str → Option Value} {base : Heap}
theorem ok_shows_payload (T : Tx w K mg) : Prom P w K mg base CX0 10 "shows_payload" s_shows_payload ["rest", "paper"] (spPay K) := by
  refine Prom.of T.d_shows_payload sc_shows_payload (fun vs H Q E h => ?_) (fun _ _ _ _ _ _ us hl => match us, hl with | [_, _], _ => rfl) (fun f cdv A outer s H vs Q E hr h => ?_)
  · obtain ⟨a, u, xs, ds, e, rfl, _⟩ := h
    rfl
  · obtain ⟨a, u, xs, ds, e, rfl, hS, hD, he, ht, k⟩ := h
    refine ⟨_, (pss_cons (ps_if (PW.pt (pw_or (pt_cmp (pc_neI (pe_callB call_len_seq (by rfl) T.b_len (by decide +kernel) (pa_cons (pv 0) pa_nil)) pe_int)) (pw_or (pt_not (pt_val (pe_callP (ok_is_lengthX T) (hr.mono (by decide)) (by rfl) pass0 (pa_cons (pe_ix ix_tup (pv 0) pe_int (fun _ _ => rfl)) pa_nil)))) (pw_or1 (pt_not (pt_val (pe_callP (ok_is_lengthX T) (hr.mono (by decide)) (by rfl) pass0 (pa_cons (pe_ix ix_tup (pv 0) pe_int (fun _ _ => rfl)) pa_nil)))))))) (pss_one (ps_ret pe_bl)) pss_nil)
      (pss_cons (ps_par3 (i := 2) (j := 3) (l := 4) (by rfl) sc_shows_payload.nd rfl rfl rfl (by decide) (by decide) (by decide) rfl rfl rfl (pa_cons (pe_callP (ok_stack_told T) (hr.mono (by decide)) (by rfl) pass0 (pa_cons (pe_ix ix_tup (pv 0) pe_int (fun _ _ => rfl)) pa_nil)) (pa_cons (pe_ix ix_tup (pv 0) pe_int (fun _ _ => rfl)) (pa_cons (pe_ix ix_tup (pv 0) pe_int (fun _ _ => rfl)) pa_nil))) (by rfl))
      (pss_cons (ps_if (PW.pt (pw_or (pt_cmpR op_isN (pv 2) pe_non (nomark _)) (pw_or1 (pt_cmp (pc_gt (pe_methP (ok_Stack_grown T) (hr.mono (by decide)) pass0 (pv 2) (pa_cons (pv 4) pa_nil)) (pv 3)))))) (pss_one (ps_ret pe_bl)) pss_nil)
      (pss_cons (ps_if (pt_cmp (pc_eqI (pv 4) (pe_gint T.c_LAST_LENGTH))) (pss_one (ps_ret (pe_and (pe_callP (ok_are_integers T) (hr.mono (by decide)) (by rfl) pass0 (pa_cons (pv 1) (pa_cons pe_int pa_nil))) (pe_one (pe_cmp (pc_eqI (pe_ix ix_tup (pv 1) pe_int (fun _ _ => rfl)) (pe_methP (ok_Stack_grown T) (hr.mono (by decide)) pass0 (pv 2) (pa_cons (pv 4) pa_nil)))))))) pss_nil)
      (pss_cons (ps_if (PW.pt (pw_or (pt_not (pt_val (pe_callP (ok_are_integers T) (hr.mono (by decide)) (by rfl) pass0 (pa_cons (pv 1) (pa_cons pe_int pa_nil))))) (pw_or1 (pt_cmpR (op_neD hr.units) (pv 1) (pe_tup (pa_cons (pe_methP (ok_Stack_grown T) (hr.mono (by decide)) pass0 (pv 2) (pa_cons (pv 4) pa_nil)) (pa_cons (pe_methP (ok_Stack_grown T) (hr.mono (by decide)) pass0 (pv 2) (pa_cons (pe_op op_add (pv 4) pe_int) pa_nil)) pa_nil))) (nomark _))))) (pss_one (ps_ret pe_bl)) pss_nil)
      (pss_one (ps_ret (pe_cmp (pc_lt (pv 3) (pe_ix ix_tup (pv 1) pe_int (fun _ _ => rfl))))))))))), ?_⟩
    have fin : ∀ H', Same H H' → ¬ PayP ds e → Q (.bl false) H' := fun H' s n => k _ _ (nb n) s
    have xl := DpAll.len hD
    repeat (first | (refine And.intro ?_ ?_; · (first | exact rfl | (show (_ : Int) ≤ _; omega) | (show (_ : Int) < _; omega) | assumption | exact SqL.of upd_same | exact SqT.of upd_same | exact upd_same | exact Drew.at_ (by assumption) | exact at_of (j := 0) rfl rfl | exact at_of (j := 1) rfl rfl | exact at_of (j := 2) rfl rfl | exact at_of (j := 3) rfl rfl | exact .inr (by assumption) | exact .inl (by assumption) | exact .ty _ | exact dp_ty (by assumption) | exact kit_strD _ | exact kit_tupD _ | exact kit_intD _ | exact kit_boolD _ | exact ⟨_, rfl⟩ | decide | omega | exact (show 0 ≤ sizeLine by decide) | exact (show 1 ≤ sizeLine by decide) | exact (show 2 ≤ sizeLine by decide) | exact (show 3 ≤ sizeLine by decide) | exact (show 4 ≤ sizeLine by decide) | exact (show 5 ≤ sizeLine by decide) | exact (show 6 ≤ sizeLine by decide) | decide +kernel)) | apply Exists.intro | refine iteT ?_ | refine iteF ?_)
    refine ifn (fun c => ?_) (fun c => ?_)
    · have c : ¬ (xs.length : Int) = 3 := c
      repeat (first | (refine And.intro ?_ ?_; · (first | exact rfl | (show (_ : Int) ≤ _; omega) | (show (_ : Int) < _; omega) | assumption | exact SqL.of upd_same | exact SqT.of upd_same | exact upd_same | exact Drew.at_ (by assumption) | exact at_of (j := 0) rfl rfl | exact at_of (j := 1) rfl rfl | exact at_of (j := 2) rfl rfl | exact at_of (j := 3) rfl rfl | exact .inr (by assumption) | exact .inl (by assumption) | exact .ty _ | exact dp_ty (by assumption) | exact kit_strD _ | exact kit_tupD _ | exact kit_intD _ | exact kit_boolD _ | exact ⟨_, rfl⟩ | decide | omega | exact (show 0 ≤ sizeLine by decide) | exact (show 1 ≤ sizeLine by decide) | exact (show 2 ≤ sizeLine by decide) | exact (show 3 ≤ sizeLine by decide) | exact (show 4 ≤ sizeLine by decide) | exact (show 5 ≤ sizeLine by decide) | exact (show 6 ≤ sizeLine by decide) | decide +kernel)) | apply Exists.intro | refine iteT ?_ | refine iteF ?_)
      refine fin _ (Same.refl H) fun ⟨t, bd, n, b, ws, h, _⟩ => c ?_
      rw [xl, h]
      rfl
    obtain ⟨x0, x1, x2, rfl⟩ := three c
    obtain ⟨d0, es, rfl, hx0, hD⟩ := DpAll.one hD
    obtain ⟨d1, es, rfl, hx1, hD⟩ := DpAll.one hD
    obtain ⟨d2, es, rfl, hx2, hD⟩ := DpAll.one hD
    obtain rfl := DpAll.zero hD
    clear xl c hD
    repeat (first | (refine And.intro ?_ ?_; · (first | exact rfl | (show (_ : Int) ≤ _; omega) | (show (_ : Int) < _; omega) | assumption | exact SqL.of upd_same | exact SqT.of upd_same | exact upd_same | exact Drew.at_ (by assumption) | exact at_of (j := 0) rfl rfl | exact at_of (j := 1) rfl rfl | exact at_of (j := 2) rfl rfl | exact at_of (j := 3) rfl rfl | exact .inr (by assumption) | exact .inl (by assumption) | exact .ty _ | exact dp_ty (by assumption) | exact kit_strD _ | exact kit_tupD _ | exact kit_intD _ | exact kit_boolD _ | exact ⟨_, rfl⟩ | decide | omega | exact (show 0 ≤ sizeLine by decide) | exact (show 1 ≤ sizeLine by decide) | exact (show 2 ≤ sizeLine by decide) | exact (show 3 ≤ sizeLine by decide) | exact (show 4 ≤ sizeLine by decide) | exact (show 5 ≤ sizeLine by decide) | exact (show 6 ≤ sizeLine by decide) | decide +kernel)) | apply Exists.intro | refine iteT ?_ | refine iteF ?_)
    refine iteB (fun c1 => ?_) (fun c1 => ?_)
    · repeat (first | (refine And.intro ?_ ?_; · (first | exact rfl | (show (_ : Int) ≤ _; omega) | (show (_ : Int) < _; omega) | assumption | exact SqL.of upd_same | exact SqT.of upd_same | exact upd_same | exact Drew.at_ (by assumption) | exact at_of (j := 0) rfl rfl | exact at_of (j := 1) rfl rfl | exact at_of (j := 2) rfl rfl | exact at_of (j := 3) rfl rfl | exact .inr (by assumption) | exact .inl (by assumption) | exact .ty _ | exact dp_ty (by assumption) | exact kit_strD _ | exact kit_tupD _ | exact kit_intD _ | exact kit_boolD _ | exact ⟨_, rfl⟩ | decide | omega | exact (show 0 ≤ sizeLine by decide) | exact (show 1 ≤ sizeLine by decide) | exact (show 2 ≤ sizeLine by decide) | exact (show 3 ≤ sizeLine by decide) | exact (show 4 ≤ sizeLine by decide) | exact (show 5 ≤ sizeLine by decide) | exact (show 6 ≤ sizeLine by decide) | decide +kernel)) | apply Exists.intro | refine iteT ?_ | refine iteF ?_)
      refine fin _ (Same.refl H) fun ⟨t, bd, n, b, ws, h, h0, h1, _⟩ => ?_
      cases h
      exact inR_no c1 ⟨h0, h1⟩
    obtain ⟨bd, rfl, b0, b1⟩ := inR_int c1
    cases hx1
    repeat (first | (refine And.intro ?_ ?_; · (first | exact rfl | (show (_ : Int) ≤ _; omega) | (show (_ : Int) < _; omega) | assumption | exact SqL.of upd_same | exact SqT.of upd_same | exact upd_same | exact Drew.at_ (by assumption) | exact at_of (j := 0) rfl rfl | exact at_of (j := 1) rfl rfl | exact at_of (j := 2) rfl rfl | exact at_of (j := 3) rfl rfl | exact .inr (by assumption) | exact .inl (by assumption) | exact .ty _ | exact dp_ty (by assumption) | exact kit_strD _ | exact kit_tupD _ | exact kit_intD _ | exact kit_boolD _ | exact ⟨_, rfl⟩ | decide | omega | exact (show 0 ≤ sizeLine by decide) | exact (show 1 ≤ sizeLine by decide) | exact (show 2 ≤ sizeLine by decide) | exact (show 3 ≤ sizeLine by decide) | exact (show 4 ≤ sizeLine by decide) | exact (show 5 ≤ sizeLine by decide) | exact (show 6 ≤ sizeLine by decide) | decide +kernel)) | apply Exists.intro | refine iteT ?_ | refine iteF ?_)
    refine iteB (fun c2 => ?_) (fun c2 => ?_)
    · repeat (first | (refine And.intro ?_ ?_; · (first | exact rfl | (show (_ : Int) ≤ _; omega) | (show (_ : Int) < _; omega) | assumption | exact SqL.of upd_same | exact SqT.of upd_same | exact upd_same | exact Drew.at_ (by assumption) | exact at_of (j := 0) rfl rfl | exact at_of (j := 1) rfl rfl | exact at_of (j := 2) rfl rfl | exact at_of (j := 3) rfl rfl | exact .inr (by assumption) | exact .inl (by assumption) | exact .ty _ | exact dp_ty (by assumption) | exact kit_strD _ | exact kit_tupD _ | exact kit_intD _ | exact kit_boolD _ | exact ⟨_, rfl⟩ | decide | omega | exact (show 0 ≤ sizeLine by decide) | exact (show 1 ≤ sizeLine by decide) | exact (show 2 ≤ sizeLine by decide) | exact (show 3 ≤ sizeLine by decide) | exact (show 4 ≤ sizeLine by decide) | exact (show 5 ≤ sizeLine by decide) | exact (show 6 ≤ sizeLine by decide) | decide +kernel)) | apply Exists.intro | refine iteT ?_ | refine iteF ?_)
      refine fin _ (Same.refl H) fun ⟨t, bd, n, b, ws, h, h0, h1, h2, h3, _⟩ => ?_
      cases h
      exact inR_no c2 ⟨h2, h3⟩
    obtain ⟨n, rfl, n0, n1⟩ := inR_int c2
    cases hx2
    have t0 := ht _ (.head _)
    repeat (first | (refine And.intro ?_ ?_; · (first | exact rfl | (show (_ : Int) ≤ _; omega) | (show (_ : Int) < _; omega) | assumption | exact SqL.of upd_same | exact SqT.of upd_same | exact upd_same | exact Drew.at_ (by assumption) | exact at_of (j := 0) rfl rfl | exact at_of (j := 1) rfl rfl | exact at_of (j := 2) rfl rfl | exact at_of (j := 3) rfl rfl | exact .inr (by assumption) | exact .inl (by assumption) | exact .ty _ | exact dp_ty (by assumption) | exact kit_strD _ | exact kit_tupD _ | exact kit_intD _ | exact kit_boolD _ | exact ⟨_, rfl⟩ | decide | omega | exact (show 0 ≤ sizeLine by decide) | exact (show 1 ≤ sizeLine by decide) | exact (show 2 ≤ sizeLine by decide) | exact (show 3 ≤ sizeLine by decide) | exact (show 4 ≤ sizeLine by decide) | exact (show 5 ≤ sizeLine by decide) | exact (show 6 ≤ sizeLine by decide) | decide +kernel)) | apply Exists.intro | refine iteT ?_ | refine iteF ?_)
    intro v1 H1 s1 t1
    have hS1 := sqT_same s1 hS
    rcases t1 with ⟨en, rfl⟩ | ⟨q, b, ws, es, rfl, sa, so⟩
    · repeat (first | (refine And.intro ?_ ?_; · (first | exact rfl | (show (_ : Int) ≤ _; omega) | (show (_ : Int) < _; omega) | assumption | exact SqL.of upd_same | exact SqT.of upd_same | exact upd_same | exact Drew.at_ (by assumption) | exact at_of (j := 0) rfl rfl | exact at_of (j := 1) rfl rfl | exact at_of (j := 2) rfl rfl | exact at_of (j := 3) rfl rfl | exact .inr (by assumption) | exact .inl (by assumption) | exact .ty _ | exact dp_ty (by assumption) | exact kit_strD _ | exact kit_tupD _ | exact kit_intD _ | exact kit_boolD _ | exact ⟨_, rfl⟩ | decide | omega | exact (show 0 ≤ sizeLine by decide) | exact (show 1 ≤ sizeLine by decide) | exact (show 2 ≤ sizeLine by decide) | exact (show 3 ≤ sizeLine by decide) | exact (show 4 ≤ sizeLine by decide) | exact (show 5 ≤ sizeLine by decide) | exact (show 6 ≤ sizeLine by decide) | decide +kernel)) | apply Exists.intro | refine iteT ?_ | refine iteF ?_)
      refine fin _ s1 fun ⟨t, bd, n, b, ws, h, h0, h1, h2, h3, h4, _⟩ => ?_
      cases h
      rw [en] at h4
      cases h4
    obtain ⟨dx, tt, us, hq, _⟩ := id sa
    have n2 : n < 10 ^ 60 := Int.lt_of_le_of_lt n1 (by decide)
    have key : ∀ {Z : Prop}, (∀ b' ws', rdT d0 = some (b', ws') → b' = b ∧ ws' = ws) → ((grS b ws n ≤ bd ∧ ((n = 10 ^ 60 - 1 ∧ e = .tuple [.int (grS b ws n)]) ∨ (n ≠ 10 ^ 60 - 1 ∧ e = .tuple [.int (grS b ws n), .int (grS b ws (n + 1))] ∧ bd < grS b ws (n + 1)))) ↔ Z) → (PayP [d0, .int bd, .int n] e ↔ Z) := fun {Z} u h => by
      rw [← h]
      refine ⟨fun ⟨t, bd', n', b', ws', z, _, _, _, _, h4, h5⟩ => ?_, fun h5 => ⟨d0, bd, n, b, ws, rfl, b0, b1, n0, n1, es, h5⟩⟩
      cases z
      obtain ⟨rfl, rfl⟩ := u _ _ h4
      exact h5
    have key := fun {Z : Prop} => key (Z := Z) (fun b' ws' h => by rw [es] at h; cases h; exact ⟨rfl, rfl⟩)
    repeat (first | (refine And.intro ?_ ?_; · (first | exact rfl | (show (_ : Int) ≤ _; omega) | (show (_ : Int) < _; omega) | assumption | exact SqL.of upd_same | exact SqT.of upd_same | exact upd_same | exact Drew.at_ (by assumption) | exact at_of (j := 0) rfl rfl | exact at_of (j := 1) rfl rfl | exact at_of (j := 2) rfl rfl | exact at_of (j := 3) rfl rfl | exact .inr (by assumption) | exact .inl (by assumption) | exact .ty _ | exact dp_ty (by assumption) | exact kit_strD _ | exact kit_tupD _ | exact kit_intD _ | exact kit_boolD _ | exact ⟨_, rfl⟩ | decide | omega | exact (show 0 ≤ sizeLine by decide) | exact (show 1 ≤ sizeLine by decide) | exact (show 2 ≤ sizeLine by decide) | exact (show 3 ≤ sizeLine by decide) | exact (show 4 ≤ sizeLine by decide) | exact (show 5 ≤ sizeLine by decide) | exact (show 6 ≤ sizeLine by decide) | decide +kernel)) | apply Exists.intro | refine iteT ?_ | refine iteF ?_)
    refine ifd (fun c3 => ?_) (fun c3 => ?_)
    · have c3 : grS b ws n > bd := c3
      refine fin _ s1 fun z => ?_
      have z := ((key Iff.rfl).mp z).1
      omega
    have c3 : ¬ grS b ws n > bd := c3
    have c3' : grS b ws n ≤ bd := by omega
    have he1 := Dp.same s1 he
    have k10 : ∀ {x : Nat}, x ≤ 2 → x ≤ 10 := fun h => Nat.le_trans h (by decide)
    repeat (first | (refine And.intro ?_ ?_; · (first | exact rfl | (show (_ : Int) ≤ _; omega) | (show (_ : Int) < _; omega) | assumption | exact SqL.of upd_same | exact SqT.of upd_same | exact upd_same | exact Drew.at_ (by assumption) | exact at_of (j := 0) rfl rfl | exact at_of (j := 1) rfl rfl | exact at_of (j := 2) rfl rfl | exact at_of (j := 3) rfl rfl | exact .inr (by assumption) | exact .inl (by assumption) | exact .ty _ | exact dp_ty (by assumption) | exact kit_strD _ | exact kit_tupD _ | exact kit_intD _ | exact kit_boolD _ | exact ⟨_, rfl⟩ | decide | omega | exact (show 0 ≤ sizeLine by decide) | exact (show 1 ≤ sizeLine by decide) | exact (show 2 ≤ sizeLine by decide) | exact (show 3 ≤ sizeLine by decide) | exact (show 4 ≤ sizeLine by decide) | exact (show 5 ≤ sizeLine by decide) | exact (show 6 ≤ sizeLine by decide) | decide +kernel)) | apply Exists.intro | refine iteT ?_ | refine iteF ?_)
    refine ifd (fun c4 => ?_) (fun c4 => ?_)
    · refine ⟨_, rfl, u, e, 1, rfl, he1, by decide, fun r H2 hr2 s2 => ?_⟩
      have s12 : Same H H2 := fun x o y => s2 _ _ (s1 _ _ y)
      cases r with
      | false =>
        repeat (first | (refine And.intro ?_ ?_; · (first | exact rfl | (show (_ : Int) ≤ _; omega) | (show (_ : Int) < _; omega) | assumption | exact SqL.of upd_same | exact SqT.of upd_same | exact upd_same | exact Drew.at_ (by assumption) | exact at_of (j := 0) rfl rfl | exact at_of (j := 1) rfl rfl | exact at_of (j := 2) rfl rfl | exact at_of (j := 3) rfl rfl | exact .inr (by assumption) | exact .inl (by assumption) | exact .ty _ | exact dp_ty (by assumption) | exact kit_strD _ | exact kit_tupD _ | exact kit_intD _ | exact kit_boolD _ | exact ⟨_, rfl⟩ | decide | omega | exact (show 0 ≤ sizeLine by decide) | exact (show 1 ≤ sizeLine by decide) | exact (show 2 ≤ sizeLine by decide) | exact (show 3 ≤ sizeLine by decide) | exact (show 4 ≤ sizeLine by decide) | exact (show 5 ≤ sizeLine by decide) | exact (show 6 ≤ sizeLine by decide) | decide +kernel)) | apply Exists.intro | refine iteT ?_ | refine iteF ?_)
        refine fin _ s12 fun z => ?_
        rcases ((key Iff.rfl).mp z).2 with ⟨_, z⟩ | ⟨z, _⟩
        · exact absurd (hr2.mpr ⟨[grS b ws n], z, rfl⟩) (by decide)
        · exact z c4
      | true =>
        obtain ⟨ns, rfl, nl⟩ := hr2.mp rfl
        obtain ⟨x, rfl⟩ := List.length_eq_one_iff.mp nl
        obtain ⟨p, ys, rfl, g1, g2⟩ : ∃ p ys, u = .ref p ∧ SqT K H p ys ∧ DpAll K H ys [.int x] := by
          cases he with
          | tup h1 h2 => exact ⟨_, _, rfl, h1, h2⟩
        obtain ⟨y, _, rfl, hy, g2⟩ := DpAll.oneR g2
        cases g2
        cases hy
        have g3 := sqT_same s12 g1
        have hq2 := s2 _ _ hq
        have sa2 := sa.same s2
        repeat (first | (refine And.intro ?_ ?_; · (first | exact rfl | (show (_ : Int) ≤ _; omega) | (show (_ : Int) < _; omega) | assumption | exact SqL.of upd_same | exact SqT.of upd_same | exact upd_same | exact Drew.at_ (by assumption) | exact at_of (j := 0) rfl rfl | exact at_of (j := 1) rfl rfl | exact at_of (j := 2) rfl rfl | exact at_of (j := 3) rfl rfl | exact .inr (by assumption) | exact .inl (by assumption) | exact .ty _ | exact dp_ty (by assumption) | exact kit_strD _ | exact kit_tupD _ | exact kit_intD _ | exact kit_boolD _ | exact ⟨_, rfl⟩ | decide | omega | exact (show 0 ≤ sizeLine by decide) | exact (show 1 ≤ sizeLine by decide) | exact (show 2 ≤ sizeLine by decide) | exact (show 3 ≤ sizeLine by decide) | exact (show 4 ≤ sizeLine by decide) | exact (show 5 ≤ sizeLine by decide) | exact (show 6 ≤ sizeLine by decide) | decide +kernel)) | apply Exists.intro | refine iteT ?_ | refine iteF ?_)
        refine k _ _ (Iff.trans ?_ (key Iff.rfl).symm) s12
        refine ⟨fun z => ⟨c3', .inl ⟨c4, ?_⟩⟩, fun z => ?_⟩
        · have z : x = grS b ws n := of_decide_eq_true z
          rw [z]
          rfl
        · rcases z.2 with ⟨_, z⟩ | ⟨z, _⟩
          · cases z
            exact decide_eq_true rfl
          · exact absurd c4 z
    refine ⟨_, rfl, u, e, 2, rfl, he1, by decide, fun r H2 hr2 s2 => ?_⟩
    have s12 : Same H H2 := fun x o y => s2 _ _ (s1 _ _ y)
    cases r with
    | false =>
      repeat (first | (refine And.intro ?_ ?_; · (first | exact rfl | (show (_ : Int) ≤ _; omega) | (show (_ : Int) < _; omega) | assumption | exact SqL.of upd_same | exact SqT.of upd_same | exact upd_same | exact Drew.at_ (by assumption) | exact at_of (j := 0) rfl rfl | exact at_of (j := 1) rfl rfl | exact at_of (j := 2) rfl rfl | exact at_of (j := 3) rfl rfl | exact .inr (by assumption) | exact .inl (by assumption) | exact .ty _ | exact dp_ty (by assumption) | exact kit_strD _ | exact kit_tupD _ | exact kit_intD _ | exact kit_boolD _ | exact ⟨_, rfl⟩ | decide | omega | exact (show 0 ≤ sizeLine by decide) | exact (show 1 ≤ sizeLine by decide) | exact (show 2 ≤ sizeLine by decide) | exact (show 3 ≤ sizeLine by decide) | exact (show 4 ≤ sizeLine by decide) | exact (show 5 ≤ sizeLine by decide) | exact (show 6 ≤ sizeLine by decide) | decide +kernel)) | apply Exists.intro | refine iteT ?_ | refine iteF ?_)
      refine fin _ s12 fun z => ?_
      rcases ((key Iff.rfl).mp z).2 with ⟨z, _⟩ | ⟨_, z, _⟩
      · exact c4 z
      · exact absurd (hr2.mpr ⟨[grS b ws n, grS b ws (n + 1)], z, rfl⟩) (by decide)
    | true =>
      obtain ⟨ns, rfl, nl⟩ := hr2.mp rfl
      obtain ⟨x, y, rfl⟩ : ∃ x y, ns = [x, y] := by
        match ns, nl with
        | [x, y], _ => exact ⟨x, y, rfl⟩
      obtain ⟨p, ys, rfl, g1, g2⟩ : ∃ p ys, u = .ref p ∧ SqT K H p ys ∧ DpAll K H ys [.int x, .int y] := by
        cases he with
        | tup h1 h2 => exact ⟨_, _, rfl, h1, h2⟩
      obtain ⟨y1, _, rfl, hy1, g4⟩ := DpAll.oneR g2
      obtain ⟨y2, _, rfl, hy2, g5⟩ := DpAll.oneR g4
      cases g5
      cases hy1
      cases hy2
      have g3 := sqT_same s12 g1
      have hq2 := s2 _ _ hq
      have sa2 := sa.same s2
      have he2 := Dp.same s12 he
      have n3 : n + 1 < 10 ^ 60 := by
        have c4 : ¬ n = 10 ^ 60 - 1 := c4
        omega
      have n4 : 0 ≤ n + 1 := by omega
      refine ⟨_, rfl, ?_⟩
      refine iteF ?_
      have sq := (shp_ints_t [x, y]).shaped
      repeat (first | (refine And.intro ?_ ?_; · (first | exact rfl | (show (_ : Int) ≤ _; omega) | (show (_ : Int) < _; omega) | assumption | exact SqL.of upd_same | exact SqT.of upd_same | exact upd_same | exact Drew.at_ (by assumption) | exact at_of (j := 0) rfl rfl | exact at_of (j := 1) rfl rfl | exact at_of (j := 2) rfl rfl | exact at_of (j := 3) rfl rfl | exact .inr (by assumption) | exact .inl (by assumption) | exact .ty _ | exact dp_ty (by assumption) | exact kit_strD _ | exact kit_tupD _ | exact kit_intD _ | exact kit_boolD _ | exact ⟨_, rfl⟩ | decide | omega | exact (show 0 ≤ sizeLine by decide) | exact (show 1 ≤ sizeLine by decide) | exact (show 2 ≤ sizeLine by decide) | exact (show 3 ≤ sizeLine by decide) | exact (show 4 ≤ sizeLine by decide) | exact (show 5 ≤ sizeLine by decide) | exact (show 6 ≤ sizeLine by decide) | decide +kernel)) | apply Exists.intro | refine iteT ?_ | refine iteF ?_)
      intro p3 hp3
      have zH3 : Same H2 (upd H2 p3 (.tup [.int (grS b ws n), .int (grS b ws (n + 1))])) := up hp3
      have sH3 : Same H2 (upd H2 p3 (.tup [.int (grS b ws n), .int (grS b ws (n + 1))])) := fun x o e => zH3 _ _ ((Same.refl H2) _ _ e)
      have gp3 : upd H2 p3 (.tup [.int (grS b ws n), .int (grS b ws (n + 1))]) p3 = some (.tup [.int (grS b ws n), .int (grS b ws (n + 1))]) := upd_same
      generalize upd H2 p3 (.tup [.int (grS b ws n), .int (grS b ws (n + 1))]) = H3 at *
      have s13 : Same H H3 := fun x o e => zH3 _ _ (s12 _ _ e)
      have g6 := sqT_same zH3 g3
      have he3 := Dp.same zH3 he2
      refine ⟨_, .tuple [.int (grS b ws n), .int (grS b ws (n + 1))], dp_l2 (ns := [x, y]) he3, .tup (SqT.of gp3) (.cons (.int _) (.cons (.int _) .nil)), sq, (shp_ints_t [_, _]).shaped, ?_⟩
      clear he2 he3 he1 g1 g3 gp3
      refine ⟨!decide (x = grS b ws n ∧ y = grS b ws (n + 1)), congrArg (fun b => V.bl (!b)) eqv_two, ifn (fun c5 => ?_) (fun c5 => ?_)⟩
      · refine fin _ s13 fun z => ?_
        rcases ((key Iff.rfl).mp z).2 with ⟨z, _⟩ | ⟨_, z, _⟩
        · exact c4 z
        · cases z
          exact c5 ⟨rfl, rfl⟩
      obtain ⟨rfl, rfl⟩ := c5
      repeat (first | (refine And.intro ?_ ?_; · (first | exact rfl | (show (_ : Int) ≤ _; omega) | (show (_ : Int) < _; omega) | assumption | exact SqL.of upd_same | exact SqT.of upd_same | exact upd_same | exact Drew.at_ (by assumption) | exact at_of (j := 0) rfl rfl | exact at_of (j := 1) rfl rfl | exact at_of (j := 2) rfl rfl | exact at_of (j := 3) rfl rfl | exact .inr (by assumption) | exact .inl (by assumption) | exact .ty _ | exact dp_ty (by assumption) | exact kit_strD _ | exact kit_tupD _ | exact kit_intD _ | exact kit_boolD _ | exact ⟨_, rfl⟩ | decide | omega | exact (show 0 ≤ sizeLine by decide) | exact (show 1 ≤ sizeLine by decide) | exact (show 2 ≤ sizeLine by decide) | exact (show 3 ≤ sizeLine by decide) | exact (show 4 ≤ sizeLine by decide) | exact (show 5 ≤ sizeLine by decide) | exact (show 6 ≤ sizeLine by decide) | decide +kernel)) | apply Exists.intro | refine iteT ?_ | refine iteF ?_)
      refine k _ _ (Iff.trans ?_ (key Iff.rfl).symm) s13
      refine ⟨fun z => ⟨c3', .inr ⟨c4, rfl, of_decide_eq_true z⟩⟩, fun z => ?_⟩
      rcases z.2 with ⟨z, _⟩ | ⟨_, _, z⟩
      · exact absurd z c4
      · exact decide_eq_true z
end
/-! ### a size that is missed -/
def MisP (ds : List PyData) (e : PyData) : Prop := ∃ (t : PyData) (sz b : Int) (ws : List Wr), ds = [t, .int sz] ∧ 0 ≤ sz ∧ sz ≤ 10 ^ 60 - 1 ∧ rdT t = some (b, ws) ∧
  ((e = .tuple [] ∧ sz < grS b ws 0) ∨ ∃ n : Int, e = .int n ∧ 0 ≤ n ∧ n < 10 ^ 60 - 1 ∧ grS b ws n < sz ∧ sz < grS b ws (n + 1))
def spMis (K : PySem.W.Frag) : Sp := fun vs H Q _ => ∃ (a : Addr) (u : V) (xs : List V) (ds : List PyData) (e : PyData), vs = [.ref a, u] ∧ SqT K H a xs ∧ DpAll K H xs ds ∧ Dp K H u e ∧ (∀ d ∈ ds, TextOk d) ∧ ∀ r H', (r = true ↔ MisP ds e) → Same H H' → Q (.bl r) H'
section
variable {P : Program} {w : World} {K : PySem.W.Frag} {mg : Str → Option Value} {base : Heap}
theorem ok_shows_missed (T : Tx w K mg) : Prom P w K mg base CX0 10 "shows_missed" s_shows_missed ["rest", "paper"] (spMis K) := by
  refine Prom.of T.d_shows_missed sc_shows_missed (fun vs H Q E h => ?_) (fun _ _ _ _ _ _ us hl => match us, hl with | [_, _], _ => rfl) (fun f cdv A outer s H vs Q E hr h => ?_)
  · obtain ⟨a, u, xs, ds, e, rfl, _⟩ := h
    rfl
  · obtain ⟨a, u, xs, ds, e, rfl, hS, hD, he, ht, k⟩ := h
    refine ⟨_, (pss_cons (ps_if (PW.pt (pw_or (pt_cmp (pc_neI (pe_callB call_len_seq (by rfl) T.b_len (by decide +kernel) (pa_cons (pv 0) pa_nil)) pe_int)) (pw_or1 (pt_not (pt_val (pe_callP (ok_is_lengthX T) (hr.mono (by decide)) (by rfl) pass0 (pa_cons (pe_ix ix_tup (pv 0) pe_int (fun _ _ => rfl)) pa_nil))))))) (pss_one (ps_ret pe_bl)) pss_nil)
      (pss_cons (ps_par (i := 2) (j := 3) (by rfl) sc_shows_missed.nd rfl rfl (by decide) rfl rfl (pa_cons (pe_callP (ok_stack_told T) (hr.mono (by decide)) (by rfl) pass0 (pa_cons (pe_ix ix_tup (pv 0) pe_int (fun _ _ => rfl)) pa_nil)) (pa_cons (pe_ix ix_tup (pv 0) pe_int (fun _ _ => rfl)) pa_nil)) (by rfl))
      (pss_cons (ps_if (pt_cmpR op_isN (pv 2) pe_non (nomark _)) (pss_one (ps_ret pe_bl)) pss_nil)
      (pss_cons (ps_if (pt_val (pe_callB call_isi (by rfl) T.b_isinstance (by decide +kernel) (pa_cons (pv 1) (pa_cons (pe_bltn (v := .ty "tuple") (by rfl) T.b_tuple (by decide +kernel) rfl) pa_nil)))) (pss_one (ps_ret (pe_and (pe_cmp (pc_eqI (pe_callB call_len_seq (by rfl) T.b_len (by decide +kernel) (pa_cons (pv 1) pa_nil)) pe_int)) (pe_one (pe_cmp (pc_gt (pe_methP (ok_Stack_grown T) (hr.mono (by decide)) pass0 (pv 2) (pa_cons pe_int pa_nil)) (pv 3))))))) pss_nil)
      (pss_one (ps_ret (pe_and (pe_callP (ok_is_lengthX T) (hr.mono (by decide)) (by rfl) pass0 (pa_cons (pv 1) pa_nil)) (pe_and (pe_cmpR op_lt (pv 1) (pe_gint T.c_LAST_LENGTH) (nomark _)) (pe_one (pe_chain op_lt op_lt (pe_methP (ok_Stack_grown T) (hr.mono (by decide)) pass0 (pv 2) (pa_cons (pv 1) pa_nil)) (pv 3) (pe_methP (ok_Stack_grown T) (hr.mono (by decide)) pass0 (pv 2) (pa_cons (pe_op op_add (pv 1) pe_int) pa_nil)))))))))))), ?_⟩
    have fin : ∀ H', Same H H' → ¬ MisP ds e → Q (.bl false) H' := fun H' s n => k _ _ (nb n) s
    have xl := DpAll.len hD
    repeat (first | (refine And.intro ?_ ?_; · (first | exact rfl | (show (_ : Int) ≤ _; omega) | (show (_ : Int) < _; omega) | assumption | exact SqL.of upd_same | exact SqT.of upd_same | exact upd_same | exact Drew.at_ (by assumption) | exact at_of (j := 0) rfl rfl | exact at_of (j := 1) rfl rfl | exact at_of (j := 2) rfl rfl | exact at_of (j := 3) rfl rfl | exact .inr (by assumption) | exact .inl (by assumption) | exact .ty _ | exact dp_ty (by assumption) | exact kit_strD _ | exact kit_tupD _ | exact kit_intD _ | exact kit_boolD _ | exact ⟨_, rfl⟩ | decide | omega | exact (show 0 ≤ sizeLine by decide) | exact (show 1 ≤ sizeLine by decide) | exact (show 2 ≤ sizeLine by decide) | exact (show 3 ≤ sizeLine by decide) | exact (show 4 ≤ sizeLine by decide) | exact (show 5 ≤ sizeLine by decide) | exact (show 6 ≤ sizeLine by decide) | decide +kernel)) | apply Exists.intro | refine iteT ?_ | refine iteF ?_)
    refine ifn (fun c => ?_) (fun c => ?_)
    · have c : ¬ (xs.length : Int) = 2 := c
      repeat (first | (refine And.intro ?_ ?_; · (first | exact rfl | (show (_ : Int) ≤ _; omega) | (show (_ : Int) < _; omega) | assumption | exact SqL.of upd_same | exact SqT.of upd_same | exact upd_same | exact Drew.at_ (by assumption) | exact at_of (j := 0) rfl rfl | exact at_of (j := 1) rfl rfl | exact at_of (j := 2) rfl rfl | exact at_of (j := 3) rfl rfl | exact .inr (by assumption) | exact .inl (by assumption) | exact .ty _ | exact dp_ty (by assumption) | exact kit_strD _ | exact kit_tupD _ | exact kit_intD _ | exact kit_boolD _ | exact ⟨_, rfl⟩ | decide | omega | exact (show 0 ≤ sizeLine by decide) | exact (show 1 ≤ sizeLine by decide) | exact (show 2 ≤ sizeLine by decide) | exact (show 3 ≤ sizeLine by decide) | exact (show 4 ≤ sizeLine by decide) | exact (show 5 ≤ sizeLine by decide) | exact (show 6 ≤ sizeLine by decide) | decide +kernel)) | apply Exists.intro | refine iteT ?_ | refine iteF ?_)
      refine fin _ (Same.refl H) fun ⟨t, sz, b, ws, h, _⟩ => c ?_
      rw [xl, h]
      rfl
    obtain ⟨x0, x1, rfl⟩ := two c
    obtain ⟨d0, es, rfl, hx0, hD⟩ := DpAll.one hD
    obtain ⟨d1, es, rfl, hx1, hD⟩ := DpAll.one hD
    obtain rfl := DpAll.zero hD
    clear xl c hD
    repeat (first | (refine And.intro ?_ ?_; · (first | exact rfl | (show (_ : Int) ≤ _; omega) | (show (_ : Int) < _; omega) | assumption | exact SqL.of upd_same | exact SqT.of upd_same | exact upd_same | exact Drew.at_ (by assumption) | exact at_of (j := 0) rfl rfl | exact at_of (j := 1) rfl rfl | exact at_of (j := 2) rfl rfl | exact at_of (j := 3) rfl rfl | exact .inr (by assumption) | exact .inl (by assumption) | exact .ty _ | exact dp_ty (by assumption) | exact kit_strD _ | exact kit_tupD _ | exact kit_intD _ | exact kit_boolD _ | exact ⟨_, rfl⟩ | decide | omega | exact (show 0 ≤ sizeLine by decide) | exact (show 1 ≤ sizeLine by decide) | exact (show 2 ≤ sizeLine by decide) | exact (show 3 ≤ sizeLine by decide) | exact (show 4 ≤ sizeLine by decide) | exact (show 5 ≤ sizeLine by decide) | exact (show 6 ≤ sizeLine by decide) | decide +kernel)) | apply Exists.intro | refine iteT ?_ | refine iteF ?_)
    refine iteB (fun c1 => ?_) (fun c1 => ?_)
    · repeat (first | (refine And.intro ?_ ?_; · (first | exact rfl | (show (_ : Int) ≤ _; omega) | (show (_ : Int) < _; omega) | assumption | exact SqL.of upd_same | exact SqT.of upd_same | exact upd_same | exact Drew.at_ (by assumption) | exact at_of (j := 0) rfl rfl | exact at_of (j := 1) rfl rfl | exact at_of (j := 2) rfl rfl | exact at_of (j := 3) rfl rfl | exact .inr (by assumption) | exact .inl (by assumption) | exact .ty _ | exact dp_ty (by assumption) | exact kit_strD _ | exact kit_tupD _ | exact kit_intD _ | exact kit_boolD _ | exact ⟨_, rfl⟩ | decide | omega | exact (show 0 ≤ sizeLine by decide) | exact (show 1 ≤ sizeLine by decide) | exact (show 2 ≤ sizeLine by decide) | exact (show 3 ≤ sizeLine by decide) | exact (show 4 ≤ sizeLine by decide) | exact (show 5 ≤ sizeLine by decide) | exact (show 6 ≤ sizeLine by decide) | decide +kernel)) | apply Exists.intro | refine iteT ?_ | refine iteF ?_)
      refine fin _ (Same.refl H) fun ⟨t, sz, b, ws, h, h0, h1, _⟩ => ?_
      cases h
      exact inR_no c1 ⟨h0, h1⟩
    obtain ⟨sz, rfl, b0, b1⟩ := inR_int c1
    cases hx1
    have t0 := ht _ (.head _)
    repeat (first | (refine And.intro ?_ ?_; · (first | exact rfl | (show (_ : Int) ≤ _; omega) | (show (_ : Int) < _; omega) | assumption | exact SqL.of upd_same | exact SqT.of upd_same | exact upd_same | exact Drew.at_ (by assumption) | exact at_of (j := 0) rfl rfl | exact at_of (j := 1) rfl rfl | exact at_of (j := 2) rfl rfl | exact at_of (j := 3) rfl rfl | exact .inr (by assumption) | exact .inl (by assumption) | exact .ty _ | exact dp_ty (by assumption) | exact kit_strD _ | exact kit_tupD _ | exact kit_intD _ | exact kit_boolD _ | exact ⟨_, rfl⟩ | decide | omega | exact (show 0 ≤ sizeLine by decide) | exact (show 1 ≤ sizeLine by decide) | exact (show 2 ≤ sizeLine by decide) | exact (show 3 ≤ sizeLine by decide) | exact (show 4 ≤ sizeLine by decide) | exact (show 5 ≤ sizeLine by decide) | exact (show 6 ≤ sizeLine by decide) | decide +kernel)) | apply Exists.intro | refine iteT ?_ | refine iteF ?_)
    intro v1 H1 s1 t1
    have hS1 := sqT_same s1 hS
    repeat (first | (refine And.intro ?_ ?_; · (first | exact rfl | (show (_ : Int) ≤ _; omega) | (show (_ : Int) < _; omega) | assumption | exact SqL.of upd_same | exact SqT.of upd_same | exact upd_same | exact Drew.at_ (by assumption) | exact at_of (j := 0) rfl rfl | exact at_of (j := 1) rfl rfl | exact at_of (j := 2) rfl rfl | exact at_of (j := 3) rfl rfl | exact .inr (by assumption) | exact .inl (by assumption) | exact .ty _ | exact dp_ty (by assumption) | exact kit_strD _ | exact kit_tupD _ | exact kit_intD _ | exact kit_boolD _ | exact ⟨_, rfl⟩ | decide | omega | exact (show 0 ≤ sizeLine by decide) | exact (show 1 ≤ sizeLine by decide) | exact (show 2 ≤ sizeLine by decide) | exact (show 3 ≤ sizeLine by decide) | exact (show 4 ≤ sizeLine by decide) | exact (show 5 ≤ sizeLine by decide) | exact (show 6 ≤ sizeLine by decide) | decide +kernel)) | apply Exists.intro | refine iteT ?_ | refine iteF ?_)
    rcases t1 with ⟨en, rfl⟩ | ⟨q, b, ws, es, rfl, sa, so⟩
    · repeat (first | (refine And.intro ?_ ?_; · (first | exact rfl | (show (_ : Int) ≤ _; omega) | (show (_ : Int) < _; omega) | assumption | exact SqL.of upd_same | exact SqT.of upd_same | exact upd_same | exact Drew.at_ (by assumption) | exact at_of (j := 0) rfl rfl | exact at_of (j := 1) rfl rfl | exact at_of (j := 2) rfl rfl | exact at_of (j := 3) rfl rfl | exact .inr (by assumption) | exact .inl (by assumption) | exact .ty _ | exact dp_ty (by assumption) | exact kit_strD _ | exact kit_tupD _ | exact kit_intD _ | exact kit_boolD _ | exact ⟨_, rfl⟩ | decide | omega | exact (show 0 ≤ sizeLine by decide) | exact (show 1 ≤ sizeLine by decide) | exact (show 2 ≤ sizeLine by decide) | exact (show 3 ≤ sizeLine by decide) | exact (show 4 ≤ sizeLine by decide) | exact (show 5 ≤ sizeLine by decide) | exact (show 6 ≤ sizeLine by decide) | decide +kernel)) | apply Exists.intro | refine iteT ?_ | refine iteF ?_)
      refine fin _ s1 fun ⟨t, sz, b, ws, h, h0, h1, h4, _⟩ => ?_
      cases h
      rw [en] at h4
      cases h4
    obtain ⟨dx, tt, us, hq, _⟩ := id sa
    have key : ∀ {Z : Prop}, (((e = .tuple [] ∧ sz < grS b ws 0) ∨ ∃ n : Int, e = .int n ∧ 0 ≤ n ∧ n < 10 ^ 60 - 1 ∧ grS b ws n < sz ∧ sz < grS b ws (n + 1)) ↔ Z) → (MisP [d0, .int sz] e ↔ Z) := fun {Z} h => by
      rw [← h]
      refine ⟨fun ⟨t, sz', b', ws', z, _, _, h4, h5⟩ => ?_, fun h5 => ⟨d0, sz, b, ws, rfl, b0, b1, es, h5⟩⟩
      cases z
      rw [es] at h4
      cases h4
      exact h5
    have he1 := Dp.same s1 he
    have zz : (0 : Int) ≤ 0 := Int.le_refl 0
    have zl : (0 : Int) < 10 ^ 60 := by decide
    repeat (first | (refine And.intro ?_ ?_; · (first | exact rfl | (show (_ : Int) ≤ _; omega) | (show (_ : Int) < _; omega) | assumption | exact SqL.of upd_same | exact SqT.of upd_same | exact upd_same | exact Drew.at_ (by assumption) | exact at_of (j := 0) rfl rfl | exact at_of (j := 1) rfl rfl | exact at_of (j := 2) rfl rfl | exact at_of (j := 3) rfl rfl | exact .inr (by assumption) | exact .inl (by assumption) | exact .ty _ | exact dp_ty (by assumption) | exact kit_strD _ | exact kit_tupD _ | exact kit_intD _ | exact kit_boolD _ | exact ⟨_, rfl⟩ | decide | omega | exact (show 0 ≤ sizeLine by decide) | exact (show 1 ≤ sizeLine by decide) | exact (show 2 ≤ sizeLine by decide) | exact (show 3 ≤ sizeLine by decide) | exact (show 4 ≤ sizeLine by decide) | exact (show 5 ≤ sizeLine by decide) | exact (show 6 ≤ sizeLine by decide) | decide +kernel)) | apply Exists.intro | refine iteT ?_ | refine iteF ?_)
    cases ct : isTupD e with
    | true =>
      obtain ⟨es', rfl⟩ := tupD_of ct
      obtain ⟨p, ys, rfl, g1, g2⟩ : ∃ p ys, u = .ref p ∧ SqT K H1 p ys ∧ DpAll K H1 ys es' := by
        cases he1 with
        | tup h1 h2 => exact ⟨_, _, rfl, h1, h2⟩
      have yl := DpAll.len g2
      repeat (first | (refine And.intro ?_ ?_; · (first | exact rfl | (show (_ : Int) ≤ _; omega) | (show (_ : Int) < _; omega) | assumption | exact SqL.of upd_same | exact SqT.of upd_same | exact upd_same | exact Drew.at_ (by assumption) | exact at_of (j := 0) rfl rfl | exact at_of (j := 1) rfl rfl | exact at_of (j := 2) rfl rfl | exact at_of (j := 3) rfl rfl | exact .inr (by assumption) | exact .inl (by assumption) | exact .ty _ | exact dp_ty (by assumption) | exact kit_strD _ | exact kit_tupD _ | exact kit_intD _ | exact kit_boolD _ | exact ⟨_, rfl⟩ | decide | omega | exact (show 0 ≤ sizeLine by decide) | exact (show 1 ≤ sizeLine by decide) | exact (show 2 ≤ sizeLine by decide) | exact (show 3 ≤ sizeLine by decide) | exact (show 4 ≤ sizeLine by decide) | exact (show 5 ≤ sizeLine by decide) | exact (show 6 ≤ sizeLine by decide) | decide +kernel)) | apply Exists.intro | refine iteT ?_ | refine iteF ?_)
      refine ifd (fun c2 => ?_) (fun c2 => ?_)
      · have c2 : (ys.length : Int) = 0 := c2
        have e0 : es' = [] := List.length_eq_zero_iff.mp (by omega)
        subst e0
        repeat (first | (refine And.intro ?_ ?_; · (first | exact rfl | (show (_ : Int) ≤ _; omega) | (show (_ : Int) < _; omega) | assumption | exact SqL.of upd_same | exact SqT.of upd_same | exact upd_same | exact Drew.at_ (by assumption) | exact at_of (j := 0) rfl rfl | exact at_of (j := 1) rfl rfl | exact at_of (j := 2) rfl rfl | exact at_of (j := 3) rfl rfl | exact .inr (by assumption) | exact .inl (by assumption) | exact .ty _ | exact dp_ty (by assumption) | exact kit_strD _ | exact kit_tupD _ | exact kit_intD _ | exact kit_boolD _ | exact ⟨_, rfl⟩ | decide | omega | exact (show 0 ≤ sizeLine by decide) | exact (show 1 ≤ sizeLine by decide) | exact (show 2 ≤ sizeLine by decide) | exact (show 3 ≤ sizeLine by decide) | exact (show 4 ≤ sizeLine by decide) | exact (show 5 ≤ sizeLine by decide) | exact (show 6 ≤ sizeLine by decide) | decide +kernel)) | apply Exists.intro | refine iteT ?_ | refine iteF ?_)
        refine k _ _ (Iff.trans ?_ (key Iff.rfl).symm) s1
        refine ⟨fun z => .inl ⟨rfl, of_decide_eq_true z⟩, fun z => ?_⟩
        rcases z with ⟨_, z⟩ | ⟨n, z, _⟩
        · exact decide_eq_true z
        · cases z
      · repeat (first | (refine And.intro ?_ ?_; · (first | exact rfl | (show (_ : Int) ≤ _; omega) | (show (_ : Int) < _; omega) | assumption | exact SqL.of upd_same | exact SqT.of upd_same | exact upd_same | exact Drew.at_ (by assumption) | exact at_of (j := 0) rfl rfl | exact at_of (j := 1) rfl rfl | exact at_of (j := 2) rfl rfl | exact at_of (j := 3) rfl rfl | exact .inr (by assumption) | exact .inl (by assumption) | exact .ty _ | exact dp_ty (by assumption) | exact kit_strD _ | exact kit_tupD _ | exact kit_intD _ | exact kit_boolD _ | exact ⟨_, rfl⟩ | decide | omega | exact (show 0 ≤ sizeLine by decide) | exact (show 1 ≤ sizeLine by decide) | exact (show 2 ≤ sizeLine by decide) | exact (show 3 ≤ sizeLine by decide) | exact (show 4 ≤ sizeLine by decide) | exact (show 5 ≤ sizeLine by decide) | exact (show 6 ≤ sizeLine by decide) | decide +kernel)) | apply Exists.intro | refine iteT ?_ | refine iteF ?_)
        refine fin _ s1 fun z => ?_
        rcases (key Iff.rfl).mp z with ⟨z, _⟩ | ⟨n, z, _⟩
        · cases z
          exact c2 (by show (ys.length : Int) = 0; rw [yl]; rfl)
        · cases z
    | false =>
      repeat (first | (refine And.intro ?_ ?_; · (first | exact rfl | (show (_ : Int) ≤ _; omega) | (show (_ : Int) < _; omega) | assumption | exact SqL.of upd_same | exact SqT.of upd_same | exact upd_same | exact Drew.at_ (by assumption) | exact at_of (j := 0) rfl rfl | exact at_of (j := 1) rfl rfl | exact at_of (j := 2) rfl rfl | exact at_of (j := 3) rfl rfl | exact .inr (by assumption) | exact .inl (by assumption) | exact .ty _ | exact dp_ty (by assumption) | exact kit_strD _ | exact kit_tupD _ | exact kit_intD _ | exact kit_boolD _ | exact ⟨_, rfl⟩ | decide | omega | exact (show 0 ≤ sizeLine by decide) | exact (show 1 ≤ sizeLine by decide) | exact (show 2 ≤ sizeLine by decide) | exact (show 3 ≤ sizeLine by decide) | exact (show 4 ≤ sizeLine by decide) | exact (show 5 ≤ sizeLine by decide) | exact (show 6 ≤ sizeLine by decide) | decide +kernel)) | apply Exists.intro | refine iteT ?_ | refine iteF ?_)
      cases ci : inR 0 (10 ^ 60 - 1) e with
      | false =>
        repeat (first | (refine And.intro ?_ ?_; · (first | exact rfl | (show (_ : Int) ≤ _; omega) | (show (_ : Int) < _; omega) | assumption | exact SqL.of upd_same | exact SqT.of upd_same | exact upd_same | exact Drew.at_ (by assumption) | exact at_of (j := 0) rfl rfl | exact at_of (j := 1) rfl rfl | exact at_of (j := 2) rfl rfl | exact at_of (j := 3) rfl rfl | exact .inr (by assumption) | exact .inl (by assumption) | exact .ty _ | exact dp_ty (by assumption) | exact kit_strD _ | exact kit_tupD _ | exact kit_intD _ | exact kit_boolD _ | exact ⟨_, rfl⟩ | decide | omega | exact (show 0 ≤ sizeLine by decide) | exact (show 1 ≤ sizeLine by decide) | exact (show 2 ≤ sizeLine by decide) | exact (show 3 ≤ sizeLine by decide) | exact (show 4 ≤ sizeLine by decide) | exact (show 5 ≤ sizeLine by decide) | exact (show 6 ≤ sizeLine by decide) | decide +kernel)) | apply Exists.intro | refine iteT ?_ | refine iteF ?_)
        refine fin _ s1 fun z => ?_
        rcases (key Iff.rfl).mp z with ⟨z, _⟩ | ⟨n, z, n0, n1, _⟩
        · rw [z] at ct
          cases ct
        · rw [z] at ci
          exact inR_no ci ⟨n0, by omega⟩
      | true =>
        obtain ⟨n, rfl, n0, n1⟩ := inR_int ci
        cases he1
        repeat (first | (refine And.intro ?_ ?_; · (first | exact rfl | (show (_ : Int) ≤ _; omega) | (show (_ : Int) < _; omega) | assumption | exact SqL.of upd_same | exact SqT.of upd_same | exact upd_same | exact Drew.at_ (by assumption) | exact at_of (j := 0) rfl rfl | exact at_of (j := 1) rfl rfl | exact at_of (j := 2) rfl rfl | exact at_of (j := 3) rfl rfl | exact .inr (by assumption) | exact .inl (by assumption) | exact .ty _ | exact dp_ty (by assumption) | exact kit_strD _ | exact kit_tupD _ | exact kit_intD _ | exact kit_boolD _ | exact ⟨_, rfl⟩ | decide | omega | exact (show 0 ≤ sizeLine by decide) | exact (show 1 ≤ sizeLine by decide) | exact (show 2 ≤ sizeLine by decide) | exact (show 3 ≤ sizeLine by decide) | exact (show 4 ≤ sizeLine by decide) | exact (show 5 ≤ sizeLine by decide) | exact (show 6 ≤ sizeLine by decide) | decide +kernel)) | apply Exists.intro | refine iteT ?_ | refine iteF ?_)
        refine ifd (fun c2 => ?_) (fun c2 => ?_)
        · have c2 : n < 10 ^ 60 - 1 := c2
          have n2 : n < 10 ^ 60 := by omega
          have n3 : n + 1 < 10 ^ 60 := by omega
          have n4 : 0 ≤ n + 1 := by omega
          repeat (first | (refine And.intro ?_ ?_; · (first | exact rfl | (show (_ : Int) ≤ _; omega) | (show (_ : Int) < _; omega) | assumption | exact SqL.of upd_same | exact SqT.of upd_same | exact upd_same | exact Drew.at_ (by assumption) | exact at_of (j := 0) rfl rfl | exact at_of (j := 1) rfl rfl | exact at_of (j := 2) rfl rfl | exact at_of (j := 3) rfl rfl | exact .inr (by assumption) | exact .inl (by assumption) | exact .ty _ | exact dp_ty (by assumption) | exact kit_strD _ | exact kit_tupD _ | exact kit_intD _ | exact kit_boolD _ | exact ⟨_, rfl⟩ | decide | omega | exact (show 0 ≤ sizeLine by decide) | exact (show 1 ≤ sizeLine by decide) | exact (show 2 ≤ sizeLine by decide) | exact (show 3 ≤ sizeLine by decide) | exact (show 4 ≤ sizeLine by decide) | exact (show 5 ≤ sizeLine by decide) | exact (show 6 ≤ sizeLine by decide) | decide +kernel)) | apply Exists.intro | refine iteT ?_ | refine iteF ?_)
          refine ifd (fun c3 => ?_) (fun c3 => ?_)
          · repeat (first | (refine And.intro ?_ ?_; · (first | exact rfl | (show (_ : Int) ≤ _; omega) | (show (_ : Int) < _; omega) | assumption | exact SqL.of upd_same | exact SqT.of upd_same | exact upd_same | exact Drew.at_ (by assumption) | exact at_of (j := 0) rfl rfl | exact at_of (j := 1) rfl rfl | exact at_of (j := 2) rfl rfl | exact at_of (j := 3) rfl rfl | exact .inr (by assumption) | exact .inl (by assumption) | exact .ty _ | exact dp_ty (by assumption) | exact kit_strD _ | exact kit_tupD _ | exact kit_intD _ | exact kit_boolD _ | exact ⟨_, rfl⟩ | decide | omega | exact (show 0 ≤ sizeLine by decide) | exact (show 1 ≤ sizeLine by decide) | exact (show 2 ≤ sizeLine by decide) | exact (show 3 ≤ sizeLine by decide) | exact (show 4 ≤ sizeLine by decide) | exact (show 5 ≤ sizeLine by decide) | exact (show 6 ≤ sizeLine by decide) | decide +kernel)) | apply Exists.intro | refine iteT ?_ | refine iteF ?_)
            refine k _ _ (Iff.trans ?_ (key Iff.rfl).symm) s1
            refine ⟨fun z => .inr ⟨n, rfl, n0, c2, c3, of_decide_eq_true z⟩, fun z => ?_⟩
            rcases z with ⟨z, _⟩ | ⟨m, z, _, _, _, h⟩
            · cases z
            · cases z
              exact decide_eq_true h
          · repeat (first | (refine And.intro ?_ ?_; · (first | exact rfl | (show (_ : Int) ≤ _; omega) | (show (_ : Int) < _; omega) | assumption | exact SqL.of upd_same | exact SqT.of upd_same | exact upd_same | exact Drew.at_ (by assumption) | exact at_of (j := 0) rfl rfl | exact at_of (j := 1) rfl rfl | exact at_of (j := 2) rfl rfl | exact at_of (j := 3) rfl rfl | exact .inr (by assumption) | exact .inl (by assumption) | exact .ty _ | exact dp_ty (by assumption) | exact kit_strD _ | exact kit_tupD _ | exact kit_intD _ | exact kit_boolD _ | exact ⟨_, rfl⟩ | decide | omega | exact (show 0 ≤ sizeLine by decide) | exact (show 1 ≤ sizeLine by decide) | exact (show 2 ≤ sizeLine by decide) | exact (show 3 ≤ sizeLine by decide) | exact (show 4 ≤ sizeLine by decide) | exact (show 5 ≤ sizeLine by decide) | exact (show 6 ≤ sizeLine by decide) | decide +kernel)) | apply Exists.intro | refine iteT ?_ | refine iteF ?_)
            refine fin _ s1 fun z => ?_
            rcases (key Iff.rfl).mp z with ⟨z, _⟩ | ⟨m, z, _, _, h, _⟩
            · cases z
            · cases z
              exact c3 h
        · repeat (first | (refine And.intro ?_ ?_; · (first | exact rfl | (show (_ : Int) ≤ _; omega) | (show (_ : Int) < _; omega) | assumption | exact SqL.of upd_same | exact SqT.of upd_same | exact upd_same | exact Drew.at_ (by assumption) | exact at_of (j := 0) rfl rfl | exact at_of (j := 1) rfl rfl | exact at_of (j := 2) rfl rfl | exact at_of (j := 3) rfl rfl | exact .inr (by assumption) | exact .inl (by assumption) | exact .ty _ | exact dp_ty (by assumption) | exact kit_strD _ | exact kit_tupD _ | exact kit_intD _ | exact kit_boolD _ | exact ⟨_, rfl⟩ | decide | omega | exact (show 0 ≤ sizeLine by decide) | exact (show 1 ≤ sizeLine by decide) | exact (show 2 ≤ sizeLine by decide) | exact (show 3 ≤ sizeLine by decide) | exact (show 4 ≤ sizeLine by decide) | exact (show 5 ≤ sizeLine by decide) | exact (show 6 ≤ sizeLine by decide) | decide +kernel)) | apply Exists.intro | refine iteT ?_ | refine iteF ?_)
          refine fin _ s1 fun z => ?_
          rcases (key Iff.rfl).mp z with ⟨z, _⟩ | ⟨m, z, _, h, _⟩
          · cases z
          · cases z
            exact c2 h
end
/-! ### doubled -/
def DblP (ds : List PyData) (d2 : PyData) : Prop := ∃ b c n x y : Int, ds = [.int b, .int c, .int n] ∧ d2 = .tuple [.int x, .int y] ∧ 2 ≤ b ∧ b ≤ 256 ∧ 0 ≤ c ∧ c ≤ 1000 ∧ 0 ≤ n ∧ n ≤ 10 ^ 60 - 1 ∧ 0 ≤ x ∧ x < y ∧ x = n + c + figF b x ∧ y = n + c + figF b y
def Small (d : PyData) : Prop := ∀ x y : Int, d = .tuple [.int x, .int y] → x < 10 ^ 63 ∧ y < 10 ^ 63
def spDbl (K : PySem.W.Frag) : Sp := fun vs H Q _ => ∃ (a : Addr) (u : V) (xs : List V) (ds : List PyData) (d : PyData), vs = [.ref a, u] ∧ SqT K H a xs ∧ DpAll K H xs ds ∧ Dp K H u d ∧ Small d ∧ ∀ r H', (r = true ↔ DblP ds d) → Same H H' → Q (.bl r) H'
section
variable {P : Program} {w : World} {K : PySem.W.Frag} {mg : Str → Option Value} {base : Heap}
theorem ok_shows_doubled (T : Tx w K mg) : Prom P w K mg base CX0 4 "shows_doubled" s_shows_doubled ["rest", "paper"] (spDbl K) := by
  refine Prom.of T.d_shows_doubled sc_shows_doubled (fun vs H Q E h => ?_) (fun _ _ _ _ _ _ us hl => match us, hl with | [_, _], _ => rfl) (fun f cdv A outer s H vs Q E hr h => ?_)
  · obtain ⟨a, u, xs, ds, d, rfl, _⟩ := h
    rfl
  · obtain ⟨a, u, xs, ds, d, rfl, hS, hD, hd, sm, k⟩ := h
    have xl := DpAll.len hD
    refine ⟨_, (pss_cons (ps_if (PW.pt (pw_or (pt_cmp (pc_neI (pe_callB call_len_seq (by rfl) T.b_len (by decide +kernel) (pa_cons (pv 0) pa_nil)) pe_int)) (pw_or (pt_not (pt_val (pe_callP (ok_is_betweenX T) (hr.mono (by decide)) (by rfl) pass0 (pa_cons (pe_ix ix_tup (pv 0) pe_int (fun _ _ => rfl)) (pa_cons pe_int (pa_cons pe_int pa_nil)))))) (pw_or1 (pt_not (pt_val (pe_callP (ok_is_betweenX T) (hr.mono (by decide)) (by rfl) pass0 (pa_cons (pe_ix ix_tup (pv 0) pe_int (fun _ _ => rfl)) (pa_cons pe_int (pa_cons (pe_gint T.c_MOST_CONSTANT) pa_nil)))))))))) (pss_one (ps_ret pe_bl)) pss_nil)
      (pss_cons (ps_if (PW.pt (pw_or (pt_not (pt_val (pe_callP (ok_is_lengthX T) (hr.mono (by decide)) (by rfl) pass0 (pa_cons (pe_ix ix_tup (pv 0) pe_int (fun _ _ => rfl)) pa_nil)))) (pw_or (pt_not (pt_val (pe_callP (ok_are_integers T) (hr.mono (by decide)) (by rfl) pass0 (pa_cons (pv 1) (pa_cons pe_int pa_nil))))) (pw_or1 (pt_not (pt_chain op_le op_lt pe_int (pe_ix ix_tup (pv 1) pe_int (fun _ _ => rfl)) (pe_ix ix_tup (pv 1) pe_int (fun _ _ => rfl)))))))) (pss_one (ps_ret pe_bl)) pss_nil)
      (pss_one (ps_ret (pe_callB (cr_all rfl) (by rfl) T.b_all (by decide +kernel) (pa_cons (pe_lc (own := [("total", 2)]) (g := (gName 2)) (tt := tYes) (by rfl) sc_shows_doubled.nd (pi_tup (pv 1)) (blkOk_by (own := [("total", 2)]) (N := ["rest", "paper", "total"]) (sc := defScope s_shows_doubled) (by decide +kernel)) (fun _ _ _ _ _ => (pg_name (i := 2) sc_shows_doubled.nd rfl (Or.inl rfl))) (fun _ _ _ _ _ => pts_nil) (fun _ _ _ _ _ => (pe_cmp (pc_eqI (pv 2) (pe_op op_add (pe_op op_add (pe_ix (show IxR _ (rIxT K) from ix_tup) (pv 0) pe_int (fun _ _ => rfl)) (pe_ix (show IxR _ (rIxT K) from ix_tup) (pv 0) pe_int (fun _ _ => rfl))) (pe_callP (ok_figures_of T) (hr.mono (by decide)) (by rfl) pass0 (pa_cons (pv 2) (pa_cons (pe_ix (show IxR _ (rIxT K) from ix_tup) (pv 0) pe_int (fun _ _ => rfl)) pa_nil)))))))) pa_nil)))))), ?_⟩
    refine ⟨_, rfl, a, xs, rfl, .inr hS, _, _, rfl, rfl, _, rfl, ifn (fun c => ?_) (fun c => ?_)⟩
    · refine k _ _ (nb fun ⟨_, _, _, _, _, e, _⟩ => c ?_) (Same.refl H)
      rw [xl, e]
      rfl
    obtain ⟨x0, x1, x2, rfl⟩ := three c
    obtain ⟨e0, es, rfl, hx0, hD⟩ := DpAll.one hD
    obtain ⟨e1, es, rfl, hx1, hD⟩ := DpAll.one hD
    obtain ⟨e2, es, rfl, hx2, hD⟩ := DpAll.one hD
    obtain rfl := DpAll.zero hD
    clear xl c
    have fin : ∀ H', Same H H' → ¬ DblP [e0, e1, e2] d → Q (.bl false) H' := fun H' s n => k _ _ (nb n) s
    refine ⟨_, rfl, a, _, _, x0, rfl, rfl, hS, at_of (j := 0) rfl rfl, x0, e0, _, _, rfl, hx0, _, rfl, iteB (fun c0 => ?_) (fun c0 => ?_)⟩
    · refine fin _ (Same.refl H) fun ⟨b, c, n, x, y, e, _, h1, h2, _⟩ => ?_
      cases e
      exact inR_no c0 ⟨h1, h2⟩
    obtain ⟨b, rfl, b1, b2⟩ := inR_int c0
    refine ⟨_, rfl, a, _, _, x1, rfl, rfl, hS, at_of (j := 1) rfl rfl, x1, e1, _, _, rfl, hx1, _, rfl, iteB (fun c1 => ?_) (fun c1 => ?_)⟩
    · refine fin _ (Same.refl H) fun ⟨b, c, n, x, y, e, _, h1, h2, h3, h4, _⟩ => ?_
      cases e
      exact inR_no c1 ⟨h3, h4⟩
    obtain ⟨c, rfl, b3, b4⟩ := inR_int c1
    refine ⟨_, rfl, a, _, _, x2, rfl, rfl, hS, at_of (j := 2) rfl rfl, x2, e2, rfl, hx2, _, rfl, iteB (fun c2 => ?_) (fun c2 => ?_)⟩
    · refine fin _ (Same.refl H) fun ⟨b, c, n, x, y, e, _, h1, h2, h3, h4, h5, h6, _⟩ => ?_
      cases e
      exact inR_no c2 ⟨h5, h6⟩
    obtain ⟨n, rfl, b5, b6⟩ := inR_int c2
    refine ⟨_, rfl, u, d, 2, rfl, hd, by decide, fun r H1 hr1 s1 => ⟨_, rfl, iteB (fun c3 => ?_) (fun c3 => ?_)⟩⟩
    · refine fin _ s1 fun ⟨b, c, n, x, y, _, e, _⟩ => ?_
      have z := hr1.mpr ⟨[x, y], e, rfl⟩
      rw [c3] at z
      cases z
    obtain ⟨ns, rfl, nl⟩ := hr1.mp c3
    obtain ⟨x, y, rfl⟩ : ∃ x y, ns = [x, y] := by
      match ns, nl with
      | [x, y], _ => exact ⟨x, y, rfl⟩
    cases hd with
    | tup hP hI =>
    rename_i p xs
    obtain ⟨sx, sy⟩ := sm x y rfl
    obtain ⟨y0, y1, rfl⟩ := two (xs := xs) (by rw [DpAll.len hI]; rfl)
    obtain ⟨_, _, z, h0, hI⟩ := DpAll.one hI
    cases z
    obtain ⟨_, _, z, h1, hI⟩ := DpAll.one hI
    cases z
    clear hr1 nl hI c0 c1 c2 hD
    cases hx0
    cases hx1
    cases hx2
    cases h0
    cases h1
    have hP1 := sqT_same s1 hP
    have hS1 := sqT_same s1 hS
    refine ⟨_, rfl, p, _, _, _, rfl, rfl, hP1, at_of (j := 0) rfl rfl, _, _, rfl, rfl, _, rfl, ifd (fun c4 => ?_) (fun c4 => ?_)⟩
    · have c4 : 0 ≤ x := c4
      refine ⟨_, rfl, p, _, _, _, rfl, rfl, hP1, at_of (j := 1) rfl rfl, _, _, rfl, rfl, _, rfl, ifn (fun c5 => ?_) (fun c5 => ?_)⟩
      · refine fin _ s1 fun ⟨b, c, n, x, y, _, e, _, _, _, _, _, _, _, h, _⟩ => c5 ?_
        cases e
        exact h
      have c5 : x < y := c5
      refine ⟨_, rfl, p, rfl, ⟨_, hP1⟩, fun D hD => ?_⟩
      refine lc_tup (K := K) (a := p) (xs := [.int x, .int y]) (Pv := fun j H' => Same H1 H' ∧ H' D = some (.lst ((([x, y].take j).map fun t => decide (t = n + c + figF b t)).map V.bl))) ⟨up hD, upd_same⟩ (fun j H' _ h => sqT_same h.1 hP1) ?_ ?_
      · rintro j v H2 hj ⟨hs, hd⟩
        obtain ⟨t, rfl, ht, tb⟩ : ∃ t : Int, v = .int t ∧ [x, y][j]? = some t ∧ t < 10 ^ 63 := by
          match j, hj with
          | 0, h => cases h; exact ⟨x, rfl, rfl, sx⟩
          | 1, h => cases h; exact ⟨y, rfl, rfl, sy⟩
        have hS2 := sqT_same hs hS1
        refine ⟨rfl, _, rfl, ?_⟩
        refine ⟨_, rfl, a, _, _, _, rfl, rfl, hS2, at_of (j := 2) rfl rfl, _, rfl, a, _, _, _, rfl, rfl, hS2, at_of (j := 1) rfl rfl, _, _, rfl, rfl, _, rfl, _, rfl, a, _, _, _, rfl, rfl, hS2, at_of (j := 0) rfl rfl, ?_⟩
        refine ⟨t, b, rfl, b1, b2, Int.lt_trans tb (by decide), fun k0 hk => ⟨_, _, rfl, rfl, _, _, rfl, rfl, _, hd, ?_, fun q o e => ?_, ?_⟩⟩
        · rw [List.length_map, List.length_map, List.length_take, sizeLine_eq]
          show min j 2 < _
          omega
        · rw [upd_ne (ne_of_none e hD)]
          exact hs _ _ e
        · rw [upd_same, List.take_succ, ht, List.map_append, List.map_append, figF_eq b1 hk]
          rfl
      rintro H2 ⟨hs, hd⟩
      refine ⟨D, [x, y].map fun t => decide (t = n + c + figF b t), rfl, SqL.of hd, k _ _ ⟨fun z => ?_, fun ⟨b', c', n', x', y', e1, e2, _, _, _, _, _, _, _, _, e3, e4⟩ => ?_⟩ (fun q o e => hs _ _ (s1 _ _ e))⟩
      · simp only [List.map_cons, List.map_nil, List.all_cons, List.all_nil, Bool.and_eq_true, decide_eq_true_eq, id] at z
        exact ⟨b, c, n, x, y, rfl, rfl, b1, b2, b3, b4, b5, b6, c4, c5, z.1, z.2.1⟩
      · cases e1
        cases e2
        simp only [List.map_cons, List.map_nil, List.all_cons, List.all_nil, Bool.and_eq_true, decide_eq_true_eq, id]
        exact ⟨e3, e4, trivial⟩
    · refine ⟨_, rfl, fin _ s1 fun ⟨b, c, n, x, y, _, e, _, _, _, _, _, _, h, _⟩ => c4 ?_⟩
      cases e
      exact h
end
/-! ### steps that a claim tells -/
def rdStp (ws : List Wr) : PyData → Option (Stp × List Wr)
  | .tuple [.str z, d] => if z = "push" then (match d with
      | .str t => match rdW t with
        | some a => if ws.length < 6 ∧ fineL (ws ++ [a]) ≤ 120 then some (.push a, ws ++ [a]) else none
        | none => none
      | _ => none)
    else if z = "bound" then (match d with
      | .int n => if 0 ≤ n ∧ n ≤ 10 ^ 60 - 1 then some (.bound n, ws) else none
      | _ => none)
    else none
  | .tuple [.str z] => if z = "pop" ∧ ws ≠ [] then some (.pop, ws.dropLast) else none
  | _ => none
def rdStps : List Wr → List PyData → Option (List Stp)
  | _, [] => some []
  | ws, d :: ds => match rdStp ws d with
    | some (s, us) => (rdStps us ds).map (s :: ·)
    | none => none
def StepV (K : PySem.W.Frag) (H : Hp) (v : V) : Stp → Prop
  | .push a => ∃ p q, v = .ref p ∧ SqT K H p [.str "push", .ref q] ∧ WrapAt K H q a
  | .pop => ∃ p, v = .ref p ∧ SqT K H p [.str "pop"]
  | .bound n => ∃ p, v = .ref p ∧ SqT K H p [.str "bound", .int n] ∧ 0 ≤ n ∧ n ≤ 10 ^ 60 - 1
inductive StepsV (K : PySem.W.Frag) (H : Hp) : List V → List Stp → Prop where
  | nil : StepsV K H [] []
  | cons {v : V} {vs : List V} {s : Stp} {ss : List Stp} (h : StepV K H v s) (r : StepsV K H vs ss) : StepsV K H (v :: vs) (s :: ss)
theorem WrapAt.put {K : PySem.W.Frag} {H : Hp} {D : Addr} {zs : List V} {o : HO} (g : H D = some (.lst zs)) {a : Addr} {x : Wr} (h : WrapAt K H a x) : WrapAt K (L2.upd H D o) a x := by
  obtain ⟨dx, p, h1, h2⟩ := h
  refine ⟨dx, p, ?_, ?_⟩
  · rw [upd_ne (fun e => by rw [e, g] at h1; cases h1)]
    exact h1
  · rw [upd_ne (fun e => by rw [e, g] at h2; cases h2)]
    exact h2
theorem WrapsAt.put {K : PySem.W.Frag} {H : Hp} {D : Addr} {zs : List V} {o : HO} (g : H D = some (.lst zs)) {xs : List V} {ws : List Wr} (h : WrapsAt K H xs ws) : WrapsAt K (L2.upd H D o) xs ws := by
  induction h with
  | nil => exact .nil
  | cons h _ ih => exact .cons (h.put g) ih
theorem WrapsAt.dropLast {K : PySem.W.Frag} {H : Hp} {xs : List V} {ws : List Wr} (h : WrapsAt K H xs ws) : WrapsAt K H xs.dropLast ws.dropLast := by
  induction h with
  | nil => exact .nil
  | cons h r ih =>
    cases r with
    | nil => exact .nil
    | cons h2 r2 => exact .cons h ih
theorem sqT_put {K : PySem.W.Frag} {H : Hp} {D p : Addr} {zs xs : List V} {o : HO} (g : H D = some (.lst zs)) (h : SqT K H p xs) : SqT K (L2.upd H D o) p xs := by
  rcases h with (h | ⟨ob, h⟩) | h
  · refine .inl (.inl ?_)
    rw [upd_ne (fun e => by rw [e, g] at h; cases h)]
    exact h
  · refine .inl (.inr ⟨ob, ?_⟩)
    rw [upd_ne (fun e => by rw [e, g] at h; cases h)]
    exact h
  · exact .inr h
theorem StepV.put {K : PySem.W.Frag} {H : Hp} {D : Addr} {zs : List V} {o : HO} (g : H D = some (.lst zs)) {v : V} : ∀ {s : Stp}, StepV K H v s → StepV K (L2.upd H D o) v s
  | .push _, ⟨p, q, e, h1, h2⟩ => ⟨p, q, e, sqT_put g h1, h2.put g⟩
  | .pop, ⟨p, e, h1⟩ => ⟨p, e, sqT_put g h1⟩
  | .bound _, ⟨p, e, h1, h2⟩ => ⟨p, e, sqT_put g h1, h2⟩
theorem StepV.same {K : PySem.W.Frag} {H H' : Hp} (e : Same H H') {v : V} : ∀ {s : Stp}, StepV K H v s → StepV K H' v s
  | .push _, ⟨p, q, z, h1, h2⟩ => ⟨p, q, z, sqT_same e h1, h2.same e⟩
  | .pop, ⟨p, z, h1⟩ => ⟨p, z, sqT_same e h1⟩
  | .bound _, ⟨p, z, h1, h2⟩ => ⟨p, z, sqT_same e h1, h2⟩
theorem StepsV.put {K : PySem.W.Frag} {H : Hp} {D : Addr} {zs : List V} {o : HO} (g : H D = some (.lst zs)) {vs : List V} {ss : List Stp} (h : StepsV K H vs ss) : StepsV K (L2.upd H D o) vs ss := by
  induction h with
  | nil => exact .nil
  | cons h _ ih => exact .cons (h.put g) ih
theorem StepsV.same {K : PySem.W.Frag} {H H' : Hp} (e : Same H H') {vs : List V} {ss : List Stp} (h : StepsV K H vs ss) : StepsV K H' vs ss := by
  induction h with
  | nil => exact .nil
  | cons h _ ih => exact .cons (h.same e) ih
theorem StepsV.snoc {K : PySem.W.Frag} {H : Hp} {vs : List V} {ss : List Stp} {v : V} {s : Stp} (h : StepsV K H vs ss) (hv : StepV K H v s) : StepsV K H (vs ++ [v]) (ss ++ [s]) := by
  induction h with
  | nil => exact .cons hv .nil
  | cons h _ ih => exact .cons h ih
theorem StepsV.len {K : PySem.W.Frag} {H : Hp} {vs : List V} {ss : List Stp} (h : StepsV K H vs ss) : vs.length = ss.length := by
  induction h with
  | nil => rfl
  | cons _ _ ih => exact congrArg (· + 1) ih
def rdAll : PyData → Option (List Stp)
  | .tuple ds => rdStps [] ds
  | _ => none
def StepTexts (d : PyData) : Prop := ∀ ds, d = .tuple ds → ds.length ≤ 1000 ∧ ∀ x ∈ ds, ∀ es, x = .tuple es → ∀ y ∈ es, TextOk y
def StepsR (K : PySem.W.Frag) (H : Hp) (v : V) (o : Option (List Stp)) : Prop := (o = none ∧ v = .non) ∨ ∃ l vs ss, o = some ss ∧ v = .ref l ∧ H l = some (.lst vs) ∧ StepsV K H vs ss
def spSteps (K : PySem.W.Frag) : Sp := fun vs H Q _ => ∃ (v : V) (d : PyData), vs = [v] ∧ Dp K H v d ∧ StepTexts d ∧ ∀ v' H', Same H H' → StepsR K H' v' (rdAll d) → Q v' H'
/-- reading is step by step -/
inductive Rd : List Wr → List PyData → List Stp → List Wr → Prop where
  | nil (ws : List Wr) : Rd ws [] [] ws
  | snoc {ws us ts : List Wr} {ds : List PyData} {ss : List Stp} {d : PyData} {s : Stp} (r : Rd ws ds ss us) (h : rdStp us d = some (s, ts)) : Rd ws (ds ++ [d]) (ss ++ [s]) ts
theorem rd_app {ws us : List Wr} {ds : List PyData} {ss : List Stp} (r : Rd ws ds ss us) : ∀ es, rdStps ws (ds ++ es) = (rdStps us es).map (ss ++ ·) := by
  induction r with
  | nil => intro es; simp
  | snoc r h ih =>
    intro es
    rw [List.append_assoc, ih]
    show ((rdStps _ (_ :: es)).map _) = _
    rw [rdStps, h]
    simp only [Option.map_map]
    congr 1
    funext x
    simp
theorem eqw_neg {x y : Str} {A B : Prop} (h : x ≠ y) (a : B) : if decide (V.str x = V.str y) = true then A else B := by
  rw [decide_eq_false fun z => h (by cases z; rfl), if_neg Bool.false_ne_true]
  exact a
theorem rd_two (ws : List Wr) (z : Str) (d e : PyData) (es : List PyData) : rdStp ws (.tuple (.str z :: d :: e :: es)) = none := rfl
theorem rd_one_none {ws : List Wr} {z : Str} {d : PyData} (h1 : z = "push" → ∀ t, d = .str t → ∀ a, rdW t = some a → ¬ (ws.length < 6 ∧ fineL (ws ++ [a]) ≤ 120)) (h2 : z = "bound" → inR 0 (10 ^ 60 - 1) d = false) : rdStp ws (.tuple [.str z, d]) = none := by
  dsimp only [rdStp]
  by_cases c1 : z = "push"
  · rw [if_pos c1]
    cases d with
    | str t =>
      dsimp only
      cases e : rdW t with
      | none => rfl
      | some a => exact if_neg (h1 c1 t rfl a e)
    | _ => rfl
  · rw [if_neg c1]
    by_cases c2 : z = "bound"
    · rw [if_pos c2]
      cases d with
      | int n => exact if_neg (inR_no (h2 c2))
      | _ => rfl
    · rw [if_neg c2]
theorem rd_nil_none {ws : List Wr} {z : Str} (h : ¬ (z = "pop" ∧ ws ≠ [])) : rdStp ws (.tuple [.str z]) = none := if_neg h
theorem rd_push {ws : List Wr} {t : Str} {a : Wr} (h : rdW t = some a) (c : ws.length < 6 ∧ fineL (ws ++ [a]) ≤ 120) : rdStp ws (.tuple [.str "push", .str t]) = some (.push a, ws ++ [a]) := by
  dsimp only [rdStp]
  rw [if_pos rfl, h]
  exact if_pos c
theorem rd_bound {ws : List Wr} {n : Int} (c : 0 ≤ n ∧ n ≤ 10 ^ 60 - 1) : rdStp ws (.tuple [.str "bound", .int n]) = some (.bound n, ws) := by
  dsimp only [rdStp]
  rw [if_neg (by decide), if_pos rfl]
  exact if_pos c
theorem rd_pop {ws : List Wr} (c : ws ≠ []) : rdStp ws (.tuple [.str "pop"]) = some (.pop, ws.dropLast) := if_pos ⟨rfl, c⟩
theorem Rd.len {ws us : List Wr} {ds : List PyData} {ss : List Stp} (r : Rd ws ds ss us) : ss.length = ds.length := by
  induction r with
  | nil => rfl
  | snoc _ _ ih => rw [List.length_append, List.length_append, ih]; rfl
section
variable {P : Program} {w : World} {K : PySem.W.Frag} {mg : Str → Option Value} {base : Heap}
theorem ok_steps_told (T : Tx w K mg) : Prom P w K mg base CX0 8 "steps_told" s_steps_told ["steps"] (spSteps K) := by
  refine Prom.of T.d_steps_told sc_steps_told (fun vs H Q E h => ?_) (fun _ _ _ _ _ _ us hl => match us, hl with | [_], _ => rfl) (fun f cdv A outer s H vs Q E hr h => ?_)
  · obtain ⟨v, d, rfl, _⟩ := h
    rfl
  · obtain ⟨v, d, rfl, hd, ht, k⟩ := h
    refine ⟨_, (pss_cons (ps_if (pt_not (pt_val (pe_callB call_isi (by rfl) T.b_isinstance (by decide +kernel) (pa_cons (pv 0) (pa_cons (pe_bltn (v := .ty "tuple") (by rfl) T.b_tuple (by decide +kernel) rfl) pa_nil))))) (pss_one (ps_ret pe_non)) pss_nil)
      (pss_cons (ps_par (i := 1) (j := 2) (by rfl) sc_steps_told.nd rfl rfl (by decide) rfl rfl (pa_cons (pe_lst pa_nil) (pa_cons (pe_lst pa_nil) pa_nil)) (by rfl))
      (pss_cons (ps_for PassesOwn.never (by rfl) (pi_tup (pv 0)) (pg_name (i := 3) sc_steps_told.nd rfl (Or.inl rfl)) (pss_cons (ps_if (PW.pt (pw_or (pt_not (pt_val (pe_callB call_isi (by rfl) T.b_isinstance (by decide +kernel) (pa_cons (pv 3) (pa_cons (pe_bltn (v := .ty "tuple") (by rfl) T.b_tuple (by decide +kernel) rfl) pa_nil))))) (pw_or (pt_cmp (pc_eqI (pe_callB call_len_seq (by rfl) T.b_len (by decide +kernel) (pa_cons (pv 3) pa_nil)) pe_int)) (pw_or1 (pt_not (pt_val (pe_callB call_isi (by rfl) T.b_isinstance (by decide +kernel) (pa_cons (pe_ix ix_tup (pv 3) pe_int (fun _ _ => rfl)) (pa_cons (pe_bltn (v := .ty "str") (by rfl) T.b_str (by decide +kernel) rfl) pa_nil))))))))) (pss_one (ps_ret pe_non)) pss_nil)
      (pss_cons (ps_if (PW.pt (pw_and (pt_cmpR op_eq (pe_ix ix_tup (pv 3) pe_int (fun _ _ => rfl)) pe_str (nomark _)) (pw_and (pt_cmp (pc_eqI (pe_callB call_len_seq (by rfl) T.b_len (by decide +kernel) (pa_cons (pv 3) pa_nil)) pe_int)) (pw_and1 (pt_val (pe_callB call_isi (by rfl) T.b_isinstance (by decide +kernel) (pa_cons (pe_ix ix_tup (pv 3) pe_int (fun _ _ => rfl)) (pa_cons (pe_bltn (v := .ty "str") (by rfl) T.b_str (by decide +kernel) rfl) pa_nil)))))))) (pss_cons (ps_expr (pe_bm PySem.F.plainAttrs_list PySem.F.slot_list_append PySem.F.type_list_append mt_append (pv 2) (pa_cons (pe_callP (ok_wrap_in T) (hr.mono (by decide)) (by rfl) pass0 (pa_cons (pe_ix ix_tup (pv 3) pe_int (fun _ _ => rfl)) pa_nil)) pa_nil)))
      (pss_cons (ps_if (PW.pt (pw_or (pt_cmpR op_isN (pe_ix ix_list (pv 2) (pe_un un_neg pe_int) (fun _ _ => rfl)) pe_non (nomark _)) (pw_or (pt_cmp (pc_gt (pe_callB call_len_seq (by rfl) T.b_len (by decide +kernel) (pa_cons (pv 2) pa_nil)) (pe_gint T.c_MOST_WRAPS))) (pw_or1 (pt_cmp (pc_gt (pe_callP (ok_fineness_of T) (hr.mono (by decide)) (by rfl) pass0 (pa_cons (pv 2) pa_nil)) (pe_gint T.c_MOST_FINENESS))))))) (pss_one (ps_ret pe_non)) pss_nil)
      (pss_one (ps_set (i := 3) sc_steps_told.nd rfl (Or.inl rfl) (pe_tup (pa_cons pe_str (pa_cons (pe_ix ix_list (pv 2) (pe_un un_neg pe_int) (fun _ _ => rfl)) pa_nil))))))) (pss_one (ps_if (PW.pt (pw_and (pt_cmpR op_eq (pe_ix ix_tup (pv 3) pe_int (fun _ _ => rfl)) pe_str (nomark _)) (pw_and (pt_cmp (pc_eqI (pe_callB call_len_seq (by rfl) T.b_len (by decide +kernel) (pa_cons (pv 3) pa_nil)) pe_int)) (pw_and1 (pt_cmp (pc_gt (pe_callB call_len_seq (by rfl) T.b_len (by decide +kernel) (pa_cons (pv 2) pa_nil)) pe_int)))))) (pss_one (ps_expr (pe_bm0 PySem.F.plainAttrs_list PySem.F.slot_list_pop PySem.F.type_list_pop mt_pop (pv 2)))) (pss_one (ps_if (PW.pt (pw_or (pt_cmpR op_ne (pe_ix ix_tup (pv 3) pe_int (fun _ _ => rfl)) pe_str (nomark _)) (pw_or (pt_cmp (pc_neI (pe_callB call_len_seq (by rfl) T.b_len (by decide +kernel) (pa_cons (pv 3) pa_nil)) pe_int)) (pw_or1 (pt_not (pt_val (pe_callP (ok_is_lengthX T) (hr.mono (by decide)) (by rfl) pass0 (pa_cons (pe_ix ix_tup (pv 3) pe_int (fun _ _ => rfl)) pa_nil)))))))) (pss_one (ps_ret pe_non)) pss_nil)))))
      (pss_one (ps_expr (pe_bm PySem.F.plainAttrs_list PySem.F.slot_list_append PySem.F.type_list_append mt_append (pv 1) (pa_cons (pv 3) pa_nil)))))))
      (pss_one (ps_ret (pv 1)))))), ?_⟩
    repeat (first | (refine And.intro ?_ ?_; · (first | exact rfl | (show (_ : Int) ≤ _; omega) | (show (_ : Int) < _; omega) | assumption | exact SqL.of upd_same | exact SqT.of upd_same | exact upd_same | exact Drew.at_ (by assumption) | exact at_of (j := 0) rfl rfl | exact at_of (j := 1) rfl rfl | exact at_of (j := 2) rfl rfl | exact at_of (j := 3) rfl rfl | exact .inr (by assumption) | exact .inl (by assumption) | exact .ty _ | exact dp_ty (by assumption) | exact kit_strD _ | exact kit_tupD _ | exact kit_intD _ | exact kit_boolD _ | exact ⟨_, rfl⟩ | decide | omega | exact (show 0 ≤ sizeLine by decide) | exact (show 1 ≤ sizeLine by decide) | exact (show 2 ≤ sizeLine by decide) | exact (show 3 ≤ sizeLine by decide) | exact (show 4 ≤ sizeLine by decide) | exact (show 5 ≤ sizeLine by decide) | exact (show 6 ≤ sizeLine by decide) | decide +kernel)) | apply Exists.intro | refine iteT ?_ | refine iteF ?_)
    refine iteB (fun hb => ?_) (fun hb => ?_)
    · repeat (first | (refine And.intro ?_ ?_; · (first | exact rfl | (show (_ : Int) ≤ _; omega) | (show (_ : Int) < _; omega) | assumption | exact SqL.of upd_same | exact SqT.of upd_same | exact upd_same | exact Drew.at_ (by assumption) | exact at_of (j := 0) rfl rfl | exact at_of (j := 1) rfl rfl | exact at_of (j := 2) rfl rfl | exact at_of (j := 3) rfl rfl | exact .inr (by assumption) | exact .inl (by assumption) | exact .ty _ | exact dp_ty (by assumption) | exact kit_strD _ | exact kit_tupD _ | exact kit_intD _ | exact kit_boolD _ | exact ⟨_, rfl⟩ | decide | omega | exact (show 0 ≤ sizeLine by decide) | exact (show 1 ≤ sizeLine by decide) | exact (show 2 ≤ sizeLine by decide) | exact (show 3 ≤ sizeLine by decide) | exact (show 4 ≤ sizeLine by decide) | exact (show 5 ≤ sizeLine by decide) | exact (show 6 ≤ sizeLine by decide) | decide +kernel)) | apply Exists.intro | refine iteT ?_ | refine iteF ?_)
      refine k _ _ (Same.refl H) (.inl ⟨?_, rfl⟩)
      cases d with
      | tuple _ => cases hb
      | _ => rfl
    obtain ⟨ds, rfl⟩ := tupD_of hb
    obtain ⟨a, xs, rfl, h1, h2⟩ : ∃ a xs, v = .ref a ∧ SqT K H a xs ∧ DpAll K H xs ds := by
      cases hd with
      | tup h1 h2 => exact ⟨_, _, rfl, h1, h2⟩
    have xl := DpAll.len h2
    obtain ⟨dl, tx⟩ := ht _ rfl
    repeat (first | (refine And.intro ?_ ?_; · (first | exact rfl | (show (_ : Int) ≤ _; omega) | (show (_ : Int) < _; omega) | assumption | exact SqL.of upd_same | exact SqT.of upd_same | exact upd_same | exact Drew.at_ (by assumption) | exact at_of (j := 0) rfl rfl | exact at_of (j := 1) rfl rfl | exact at_of (j := 2) rfl rfl | exact at_of (j := 3) rfl rfl | exact .inr (by assumption) | exact .inl (by assumption) | exact .ty _ | exact dp_ty (by assumption) | exact kit_strD _ | exact kit_tupD _ | exact kit_intD _ | exact kit_boolD _ | exact ⟨_, rfl⟩ | decide | omega | exact (show 0 ≤ sizeLine by decide) | exact (show 1 ≤ sizeLine by decide) | exact (show 2 ≤ sizeLine by decide) | exact (show 3 ≤ sizeLine by decide) | exact (show 4 ≤ sizeLine by decide) | exact (show 5 ≤ sizeLine by decide) | exact (show 6 ≤ sizeLine by decide) | decide +kernel)) | apply Exists.intro | refine iteT ?_ | refine iteF ?_)
    intro l1 hl1
    have zH1 : Same H (upd H l1 (.lst [])) := up hl1
    have sH1 : Same H (upd H l1 (.lst [])) := fun x o e => zH1 _ _ ((Same.refl H) _ _ e)
    have gl1 : upd H l1 (.lst []) l1 = some (.lst []) := upd_same
    generalize upd H l1 (.lst []) = H1 at *
    repeat (first | (refine And.intro ?_ ?_; · (first | exact rfl | (show (_ : Int) ≤ _; omega) | (show (_ : Int) < _; omega) | assumption | exact SqL.of upd_same | exact SqT.of upd_same | exact upd_same | exact Drew.at_ (by assumption) | exact at_of (j := 0) rfl rfl | exact at_of (j := 1) rfl rfl | exact at_of (j := 2) rfl rfl | exact at_of (j := 3) rfl rfl | exact .inr (by assumption) | exact .inl (by assumption) | exact .ty _ | exact dp_ty (by assumption) | exact kit_strD _ | exact kit_tupD _ | exact kit_intD _ | exact kit_boolD _ | exact ⟨_, rfl⟩ | decide | omega | exact (show 0 ≤ sizeLine by decide) | exact (show 1 ≤ sizeLine by decide) | exact (show 2 ≤ sizeLine by decide) | exact (show 3 ≤ sizeLine by decide) | exact (show 4 ≤ sizeLine by decide) | exact (show 5 ≤ sizeLine by decide) | exact (show 6 ≤ sizeLine by decide) | decide +kernel)) | apply Exists.intro | refine iteT ?_ | refine iteF ?_)
    intro l2 hl2
    have zH2 : Same H1 (upd H1 l2 (.lst [])) := up hl2
    have sH2 : Same H (upd H1 l2 (.lst [])) := fun x o e => zH2 _ _ (sH1 _ _ e)
    have gl2 : upd H1 l2 (.lst []) l2 = some (.lst []) := upd_same
    generalize upd H1 l2 (.lst []) = H2 at *
    have gl1 := zH2 _ _ gl1
    have ne : l2 ≠ l1 := (ne_of_none (show H1 l1 = some _ from by assumption) hl2).symm
    have hS2 := sqT_same sH2 h1
    refine ⟨_, _, rfl, ?_⟩
    refine ⟨_, rfl, a, rfl, ⟨_, hS2⟩, for_tup (K := K) (a := a) (xs := xs) (fun i σ H' => Same H H' ∧ ∃ (ys us : List V) (ss : List Stp) (ws : List Wr) (v3 : Option V), H' l1 = some (.lst ys) ∧ H' l2 = some (.lst us) ∧ StepsV K H' ys ss ∧ WrapsAt K H' us ws ∧ (∀ x ∈ ws, x.ok) ∧ ws.length ≤ 6 ∧ Rd [] (ds.take i) ss ws ∧ σ = [some (.ref a), some (.ref l1), some (.ref l2), v3]) ⟨sH2, [], [], [], [], none, gl1, gl2, .nil, .nil, fun _ h => (by cases h), Nat.zero_le _, .nil _, rfl⟩ (fun i σ H' _ h => sqT_same h.1 h1) ?_ ?_⟩
    · rintro i x σ G hi ⟨sG, ys, us, ss, ws, v3, g1, g2, hss, hws, wok, w6, rd, rfl⟩
      obtain ⟨d, edi, hx⟩ := DpAll.get h2 hi
      have hx := Dp.same sG hx
      have txd := tx d (List.mem_of_getElem? edi)
      have et : ds.take (i + 1) = ds.take i ++ [d] := by
        rw [List.take_succ, edi]
        rfl
      have ed : ds = ds.take i ++ (d :: ds.drop (i + 1)) := by
        have := List.getElem?_eq_some_iff.mp edi
        obtain ⟨h, e⟩ := this
        rw [← e, ← List.drop_eq_getElem_cons, List.take_append_drop]
      have bad : ∀ G', Same H G' → rdStp ws d = none → Q .non G' := fun G' s e => k _ _ s (.inl ⟨by
        show rdStps [] ds = none
        rw [ed, rd_app rd, rdStps, e]
        rfl, rfl⟩)
      have sl : ss.length ≤ 1000 := by
        rw [rd.len, List.length_take]
        omega

      repeat (first | (refine And.intro ?_ ?_; · (first | exact rfl | (show (_ : Int) ≤ _; omega) | (show (_ : Int) < _; omega) | assumption | exact SqL.of upd_same | exact SqT.of upd_same | exact upd_same | exact Drew.at_ (by assumption) | exact at_of (j := 0) rfl rfl | exact at_of (j := 1) rfl rfl | exact at_of (j := 2) rfl rfl | exact at_of (j := 3) rfl rfl | exact .inr (by assumption) | exact .inl (by assumption) | exact .ty _ | exact dp_ty (by assumption) | exact kit_strD _ | exact kit_tupD _ | exact kit_intD _ | exact kit_boolD _ | exact ⟨_, rfl⟩ | decide | omega | exact (show 0 ≤ sizeLine by decide) | exact (show 1 ≤ sizeLine by decide) | exact (show 2 ≤ sizeLine by decide) | exact (show 3 ≤ sizeLine by decide) | exact (show 4 ≤ sizeLine by decide) | exact (show 5 ≤ sizeLine by decide) | exact (show 6 ≤ sizeLine by decide) | decide +kernel)) | apply Exists.intro | refine iteT ?_ | refine iteF ?_)
      refine iteB (fun c1 => ?_) (fun c1 => ?_)
      · repeat (first | (refine And.intro ?_ ?_; · (first | exact rfl | (show (_ : Int) ≤ _; omega) | (show (_ : Int) < _; omega) | assumption | exact SqL.of upd_same | exact SqT.of upd_same | exact upd_same | exact Drew.at_ (by assumption) | exact at_of (j := 0) rfl rfl | exact at_of (j := 1) rfl rfl | exact at_of (j := 2) rfl rfl | exact at_of (j := 3) rfl rfl | exact .inr (by assumption) | exact .inl (by assumption) | exact .ty _ | exact dp_ty (by assumption) | exact kit_strD _ | exact kit_tupD _ | exact kit_intD _ | exact kit_boolD _ | exact ⟨_, rfl⟩ | decide | omega | exact (show 0 ≤ sizeLine by decide) | exact (show 1 ≤ sizeLine by decide) | exact (show 2 ≤ sizeLine by decide) | exact (show 3 ≤ sizeLine by decide) | exact (show 4 ≤ sizeLine by decide) | exact (show 5 ≤ sizeLine by decide) | exact (show 6 ≤ sizeLine by decide) | decide +kernel)) | apply Exists.intro | refine iteT ?_ | refine iteF ?_)
        refine bad _ sG ?_
        cases d with
        | tuple _ => cases c1
        | _ => rfl
      obtain ⟨es, rfl⟩ := tupD_of c1
      obtain ⟨p, zs, rfl, q1, q2⟩ : ∃ p zs, x = .ref p ∧ SqT K G p zs ∧ DpAll K G zs es := by
        cases hx with
        | tup h1 h2 => exact ⟨_, _, rfl, h1, h2⟩
      have zl := DpAll.len q2
      repeat (first | (refine And.intro ?_ ?_; · (first | exact rfl | (show (_ : Int) ≤ _; omega) | (show (_ : Int) < _; omega) | assumption | exact SqL.of upd_same | exact SqT.of upd_same | exact upd_same | exact Drew.at_ (by assumption) | exact at_of (j := 0) rfl rfl | exact at_of (j := 1) rfl rfl | exact at_of (j := 2) rfl rfl | exact at_of (j := 3) rfl rfl | exact .inr (by assumption) | exact .inl (by assumption) | exact .ty _ | exact dp_ty (by assumption) | exact kit_strD _ | exact kit_tupD _ | exact kit_intD _ | exact kit_boolD _ | exact ⟨_, rfl⟩ | decide | omega | exact (show 0 ≤ sizeLine by decide) | exact (show 1 ≤ sizeLine by decide) | exact (show 2 ≤ sizeLine by decide) | exact (show 3 ≤ sizeLine by decide) | exact (show 4 ≤ sizeLine by decide) | exact (show 5 ≤ sizeLine by decide) | exact (show 6 ≤ sizeLine by decide) | decide +kernel)) | apply Exists.intro | refine iteT ?_ | refine iteF ?_)
      refine ifd (fun c2 => ?_) (fun c2 => ?_)
      · have c2 : (zs.length : Int) = 0 := c2
        have e0 : es = [] := List.length_eq_zero_iff.mp (by omega)
        subst e0
        repeat (first | (refine And.intro ?_ ?_; · (first | exact rfl | (show (_ : Int) ≤ _; omega) | (show (_ : Int) < _; omega) | assumption | exact SqL.of upd_same | exact SqT.of upd_same | exact upd_same | exact Drew.at_ (by assumption) | exact at_of (j := 0) rfl rfl | exact at_of (j := 1) rfl rfl | exact at_of (j := 2) rfl rfl | exact at_of (j := 3) rfl rfl | exact .inr (by assumption) | exact .inl (by assumption) | exact .ty _ | exact dp_ty (by assumption) | exact kit_strD _ | exact kit_tupD _ | exact kit_intD _ | exact kit_boolD _ | exact ⟨_, rfl⟩ | decide | omega | exact (show 0 ≤ sizeLine by decide) | exact (show 1 ≤ sizeLine by decide) | exact (show 2 ≤ sizeLine by decide) | exact (show 3 ≤ sizeLine by decide) | exact (show 4 ≤ sizeLine by decide) | exact (show 5 ≤ sizeLine by decide) | exact (show 6 ≤ sizeLine by decide) | decide +kernel)) | apply Exists.intro | refine iteT ?_ | refine iteF ?_)
        exact bad _ sG rfl
      have c2 : ¬ (zs.length : Int) = 0 := c2
      obtain ⟨z0, zr, rfl⟩ : ∃ z0 zr, zs = z0 :: zr := by
        match zs, c2 with
        | z0 :: zr, _ => exact ⟨z0, zr, rfl⟩
        | [], c => exact absurd rfl c
      obtain ⟨e0, er, rfl, hz0, q3⟩ := DpAll.one q2
      clear c2 zl hx c1
      repeat (first | (refine And.intro ?_ ?_; · (first | exact rfl | (show (_ : Int) ≤ _; omega) | (show (_ : Int) < _; omega) | assumption | exact SqL.of upd_same | exact SqT.of upd_same | exact upd_same | exact Drew.at_ (by assumption) | exact at_of (j := 0) rfl rfl | exact at_of (j := 1) rfl rfl | exact at_of (j := 2) rfl rfl | exact at_of (j := 3) rfl rfl | exact .inr (by assumption) | exact .inl (by assumption) | exact .ty _ | exact dp_ty (by assumption) | exact kit_strD _ | exact kit_tupD _ | exact kit_intD _ | exact kit_boolD _ | exact ⟨_, rfl⟩ | decide | omega | exact (show 0 ≤ sizeLine by decide) | exact (show 1 ≤ sizeLine by decide) | exact (show 2 ≤ sizeLine by decide) | exact (show 3 ≤ sizeLine by decide) | exact (show 4 ≤ sizeLine by decide) | exact (show 5 ≤ sizeLine by decide) | exact (show 6 ≤ sizeLine by decide) | decide +kernel)) | apply Exists.intro | refine iteT ?_ | refine iteF ?_)
      refine iteB (fun c3 => ?_) (fun c3 => ?_)
      · repeat (first | (refine And.intro ?_ ?_; · (first | exact rfl | (show (_ : Int) ≤ _; omega) | (show (_ : Int) < _; omega) | assumption | exact SqL.of upd_same | exact SqT.of upd_same | exact upd_same | exact Drew.at_ (by assumption) | exact at_of (j := 0) rfl rfl | exact at_of (j := 1) rfl rfl | exact at_of (j := 2) rfl rfl | exact at_of (j := 3) rfl rfl | exact .inr (by assumption) | exact .inl (by assumption) | exact .ty _ | exact dp_ty (by assumption) | exact kit_strD _ | exact kit_tupD _ | exact kit_intD _ | exact kit_boolD _ | exact ⟨_, rfl⟩ | decide | omega | exact (show 0 ≤ sizeLine by decide) | exact (show 1 ≤ sizeLine by decide) | exact (show 2 ≤ sizeLine by decide) | exact (show 3 ≤ sizeLine by decide) | exact (show 4 ≤ sizeLine by decide) | exact (show 5 ≤ sizeLine by decide) | exact (show 6 ≤ sizeLine by decide) | decide +kernel)) | apply Exists.intro | refine iteT ?_ | refine iteF ?_)
        refine bad _ sG ?_
        cases e0 with
        | str _ => cases c3
        | _ => match er with | [] => rfl | [_] => rfl | _ :: _ :: _ => rfl
      obtain ⟨z, rfl⟩ := strD_of c3
      cases hz0
      have zl2 : ((.str z :: zr).length : Int) = (er.length : Int) + 1 := by
        rw [List.length_cons, DpAll.len q3]
        rfl
      by_cases zp : z = "push"
      · subst zp
        repeat (first | (refine And.intro ?_ ?_; · (first | exact rfl | (show (_ : Int) ≤ _; omega) | (show (_ : Int) < _; omega) | assumption | exact SqL.of upd_same | exact SqT.of upd_same | exact upd_same | exact Drew.at_ (by assumption) | exact at_of (j := 0) rfl rfl | exact at_of (j := 1) rfl rfl | exact at_of (j := 2) rfl rfl | exact at_of (j := 3) rfl rfl | exact .inr (by assumption) | exact .inl (by assumption) | exact .ty _ | exact dp_ty (by assumption) | exact kit_strD _ | exact kit_tupD _ | exact kit_intD _ | exact kit_boolD _ | exact ⟨_, rfl⟩ | decide | omega | exact (show 0 ≤ sizeLine by decide) | exact (show 1 ≤ sizeLine by decide) | exact (show 2 ≤ sizeLine by decide) | exact (show 3 ≤ sizeLine by decide) | exact (show 4 ≤ sizeLine by decide) | exact (show 5 ≤ sizeLine by decide) | exact (show 6 ≤ sizeLine by decide) | decide +kernel)) | apply Exists.intro | refine iteT ?_ | refine iteF ?_)
        refine ifd (fun c4 => ?_) (fun c4 => ?_)
        · have c4 : ((.str "push" :: zr).length : Int) = 2 := c4
          obtain ⟨e1, rfl⟩ : ∃ e1, er = [e1] := List.length_eq_one_iff.mp (by omega)
          obtain ⟨z1, zr', rfl, hz1, q4⟩ := DpAll.oneR q3
          cases q4
          clear c4 zl2 q3
          repeat (first | (refine And.intro ?_ ?_; · (first | exact rfl | (show (_ : Int) ≤ _; omega) | (show (_ : Int) < _; omega) | assumption | exact SqL.of upd_same | exact SqT.of upd_same | exact upd_same | exact Drew.at_ (by assumption) | exact at_of (j := 0) rfl rfl | exact at_of (j := 1) rfl rfl | exact at_of (j := 2) rfl rfl | exact at_of (j := 3) rfl rfl | exact .inr (by assumption) | exact .inl (by assumption) | exact .ty _ | exact dp_ty (by assumption) | exact kit_strD _ | exact kit_tupD _ | exact kit_intD _ | exact kit_boolD _ | exact ⟨_, rfl⟩ | decide | omega | exact (show 0 ≤ sizeLine by decide) | exact (show 1 ≤ sizeLine by decide) | exact (show 2 ≤ sizeLine by decide) | exact (show 3 ≤ sizeLine by decide) | exact (show 4 ≤ sizeLine by decide) | exact (show 5 ≤ sizeLine by decide) | exact (show 6 ≤ sizeLine by decide) | decide +kernel)) | apply Exists.intro | refine iteT ?_ | refine iteF ?_)
          cases c5 : isStrD e1 with
          | false =>
            repeat (first | (refine And.intro ?_ ?_; · (first | exact rfl | (show (_ : Int) ≤ _; omega) | (show (_ : Int) < _; omega) | assumption | exact SqL.of upd_same | exact SqT.of upd_same | exact upd_same | exact Drew.at_ (by assumption) | exact at_of (j := 0) rfl rfl | exact at_of (j := 1) rfl rfl | exact at_of (j := 2) rfl rfl | exact at_of (j := 3) rfl rfl | exact .inr (by assumption) | exact .inl (by assumption) | exact .ty _ | exact dp_ty (by assumption) | exact kit_strD _ | exact kit_tupD _ | exact kit_intD _ | exact kit_boolD _ | exact ⟨_, rfl⟩ | decide | omega | exact (show 0 ≤ sizeLine by decide) | exact (show 1 ≤ sizeLine by decide) | exact (show 2 ≤ sizeLine by decide) | exact (show 3 ≤ sizeLine by decide) | exact (show 4 ≤ sizeLine by decide) | exact (show 5 ≤ sizeLine by decide) | exact (show 6 ≤ sizeLine by decide) | decide +kernel)) | apply Exists.intro | refine iteT ?_ | refine iteF ?_)
            refine bad _ sG (rd_one_none (fun _ t e => ?_) (fun e => by cases e))
            rw [e] at c5
            cases c5
          | true =>
            obtain ⟨tt, rfl⟩ := strD_of c5
            cases hz1
            have tl := txd _ rfl (.str tt) (.tail _ (.head _)) tt rfl
            have ul := hws.len
            have ul2 : us.length < sizeLine := by rw [sizeLine_eq]; omega
            repeat (first | (refine And.intro ?_ ?_; · (first | exact rfl | (show (_ : Int) ≤ _; omega) | (show (_ : Int) < _; omega) | assumption | exact SqL.of upd_same | exact SqT.of upd_same | exact upd_same | exact Drew.at_ (by assumption) | exact at_of (j := 0) rfl rfl | exact at_of (j := 1) rfl rfl | exact at_of (j := 2) rfl rfl | exact at_of (j := 3) rfl rfl | exact .inr (by assumption) | exact .inl (by assumption) | exact .ty _ | exact dp_ty (by assumption) | exact kit_strD _ | exact kit_tupD _ | exact kit_intD _ | exact kit_boolD _ | exact ⟨_, rfl⟩ | decide | omega | exact (show 0 ≤ sizeLine by decide) | exact (show 1 ≤ sizeLine by decide) | exact (show 2 ≤ sizeLine by decide) | exact (show 3 ≤ sizeLine by decide) | exact (show 4 ≤ sizeLine by decide) | exact (show 5 ≤ sizeLine by decide) | exact (show 6 ≤ sizeLine by decide) | decide +kernel)) | apply Exists.intro | refine iteT ?_ | refine iteF ?_)
            refine ⟨.inl ⟨rfl, _, SqL.of g2⟩, ?_⟩
            repeat (first | (refine And.intro ?_ ?_; · (first | exact rfl | (show (_ : Int) ≤ _; omega) | (show (_ : Int) < _; omega) | assumption | exact SqL.of upd_same | exact SqT.of upd_same | exact upd_same | exact Drew.at_ (by assumption) | exact at_of (j := 0) rfl rfl | exact at_of (j := 1) rfl rfl | exact at_of (j := 2) rfl rfl | exact at_of (j := 3) rfl rfl | exact .inr (by assumption) | exact .inl (by assumption) | exact .ty _ | exact dp_ty (by assumption) | exact kit_strD _ | exact kit_tupD _ | exact kit_intD _ | exact kit_boolD _ | exact ⟨_, rfl⟩ | decide | omega | exact (show 0 ≤ sizeLine by decide) | exact (show 1 ≤ sizeLine by decide) | exact (show 2 ≤ sizeLine by decide) | exact (show 3 ≤ sizeLine by decide) | exact (show 4 ≤ sizeLine by decide) | exact (show 5 ≤ sizeLine by decide) | exact (show 6 ≤ sizeLine by decide) | decide +kernel)) | apply Exists.intro | refine iteT ?_ | refine iteF ?_)
            refine ⟨fun H3 s3 en => ?_, fun b q H3 eb nq s3 wb => ?_⟩
            · have g23 := s3 _ _ g2
              have hq3 := sqT_same s3 q1
              refine ⟨l2, us, .non, rfl, rfl, g23, ul2, ?_⟩
              have sX : Same H (upd H3 l2 (.lst (us ++ [.non]))) := fun x o e => by
                rw [upd_ne (ne_of_none (sH1 _ _ e) hl2)]
                exact s3 _ _ (sG _ _ e)
              have hL : SqL K (upd H3 l2 (.lst (us ++ [.non]))) l2 (us ++ [.non]) := SqL.of upd_same
              have a1 : atI (us ++ [V.non]) (-1) = some .non := atI_last _ _
              repeat (first | (refine And.intro ?_ ?_; · (first | exact rfl | (show (_ : Int) ≤ _; omega) | (show (_ : Int) < _; omega) | assumption | exact SqL.of upd_same | exact SqT.of upd_same | exact upd_same | exact Drew.at_ (by assumption) | exact at_of (j := 0) rfl rfl | exact at_of (j := 1) rfl rfl | exact at_of (j := 2) rfl rfl | exact at_of (j := 3) rfl rfl | exact .inr (by assumption) | exact .inl (by assumption) | exact .ty _ | exact dp_ty (by assumption) | exact kit_strD _ | exact kit_tupD _ | exact kit_intD _ | exact kit_boolD _ | exact ⟨_, rfl⟩ | decide | omega | exact (show 0 ≤ sizeLine by decide) | exact (show 1 ≤ sizeLine by decide) | exact (show 2 ≤ sizeLine by decide) | exact (show 3 ≤ sizeLine by decide) | exact (show 4 ≤ sizeLine by decide) | exact (show 5 ≤ sizeLine by decide) | exact (show 6 ≤ sizeLine by decide) | decide +kernel)) | apply Exists.intro | refine iteT ?_ | refine iteF ?_)
              refine bad _ sX (rd_one_none (fun _ t e a ea => ?_) (fun e => by cases e))
              cases e
              rw [en] at ea
              cases ea
            · have g23 := s3 _ _ g2
              have hq3 := sqT_same s3 q1
              refine ⟨l2, us, .ref q, rfl, rfl, g23, ul2, ?_⟩
              have sX : Same H (upd H3 l2 (.lst (us ++ [.ref q]))) := fun x o e => by
                rw [upd_ne (ne_of_none (sH1 _ _ e) hl2)]
                exact s3 _ _ (sG _ _ e)
              have hL : SqL K (upd H3 l2 (.lst (us ++ [.ref q]))) l2 (us ++ [.ref q]) := SqL.of upd_same
              have gX2 : upd H3 l2 (.lst (us ++ [.ref q])) l2 = some (.lst (us ++ [.ref q])) := upd_same
              have gX1 : upd H3 l2 (.lst (us ++ [.ref q])) l1 = some (.lst ys) := by
                rw [upd_ne ne.symm]
                exact s3 _ _ g1
              have hssX : StepsV K (upd H3 l2 (.lst (us ++ [.ref q]))) ys ss := (hss.same s3).put g23
              have hwX : WrapsAt K (upd H3 l2 (.lst (us ++ [.ref q]))) (us ++ [.ref q]) (ws ++ [b]) := ((hws.same s3).put g23).snoc (wb.put g23)
              have wbX : WrapAt K (upd H3 l2 (.lst (us ++ [.ref q]))) q b := wb.put g23
              have hqX := sqT_put (o := .lst (us ++ [.ref q])) g23 hq3
              have wokX : ∀ a ∈ ws ++ [b], a.ok := fun a ha => by
                rcases List.mem_append.mp ha with h | h
                · exact wok a h
                · rw [List.mem_singleton.mp h]
                  exact rd_ok eb
              generalize upd H3 l2 (.lst (us ++ [.ref q])) = X at *
              have a1 : atI (us ++ [V.ref q]) (-1) = some (.ref q) := atI_last _ _
              repeat (first | (refine And.intro ?_ ?_; · (first | exact rfl | (show (_ : Int) ≤ _; omega) | (show (_ : Int) < _; omega) | assumption | exact SqL.of upd_same | exact SqT.of upd_same | exact upd_same | exact Drew.at_ (by assumption) | exact at_of (j := 0) rfl rfl | exact at_of (j := 1) rfl rfl | exact at_of (j := 2) rfl rfl | exact at_of (j := 3) rfl rfl | exact .inr (by assumption) | exact .inl (by assumption) | exact .ty _ | exact dp_ty (by assumption) | exact kit_strD _ | exact kit_tupD _ | exact kit_intD _ | exact kit_boolD _ | exact ⟨_, rfl⟩ | decide | omega | exact (show 0 ≤ sizeLine by decide) | exact (show 1 ≤ sizeLine by decide) | exact (show 2 ≤ sizeLine by decide) | exact (show 3 ≤ sizeLine by decide) | exact (show 4 ≤ sizeLine by decide) | exact (show 5 ≤ sizeLine by decide) | exact (show 6 ≤ sizeLine by decide) | decide +kernel)) | apply Exists.intro | refine iteT ?_ | refine iteF ?_)
              refine ifd (fun c6 => ?_) (fun c6 => ?_)
              · have c6 : ((us ++ [V.ref q]).length : Int) > 6 := c6
                rw [List.length_append] at c6
                repeat (first | (refine And.intro ?_ ?_; · (first | exact rfl | (show (_ : Int) ≤ _; omega) | (show (_ : Int) < _; omega) | assumption | exact SqL.of upd_same | exact SqT.of upd_same | exact upd_same | exact Drew.at_ (by assumption) | exact at_of (j := 0) rfl rfl | exact at_of (j := 1) rfl rfl | exact at_of (j := 2) rfl rfl | exact at_of (j := 3) rfl rfl | exact .inr (by assumption) | exact .inl (by assumption) | exact .ty _ | exact dp_ty (by assumption) | exact kit_strD _ | exact kit_tupD _ | exact kit_intD _ | exact kit_boolD _ | exact ⟨_, rfl⟩ | decide | omega | exact (show 0 ≤ sizeLine by decide) | exact (show 1 ≤ sizeLine by decide) | exact (show 2 ≤ sizeLine by decide) | exact (show 3 ≤ sizeLine by decide) | exact (show 4 ≤ sizeLine by decide) | exact (show 5 ≤ sizeLine by decide) | exact (show 6 ≤ sizeLine by decide) | decide +kernel)) | apply Exists.intro | refine iteT ?_ | refine iteF ?_)
                refine bad _ sX (rd_one_none (fun _ t e a ea h => ?_) (fun e => by cases e))
                have := h.1
                simp only [List.length_cons, List.length_nil] at c6
                omega
              have c6 : ¬ ((us ++ [V.ref q]).length : Int) > 6 := c6
              rw [List.length_append] at c6
              simp only [List.length_cons, List.length_nil] at c6
              repeat (first | (refine And.intro ?_ ?_; · (first | exact rfl | (show (_ : Int) ≤ _; omega) | (show (_ : Int) < _; omega) | assumption | exact SqL.of upd_same | exact SqT.of upd_same | exact upd_same | exact Drew.at_ (by assumption) | exact at_of (j := 0) rfl rfl | exact at_of (j := 1) rfl rfl | exact at_of (j := 2) rfl rfl | exact at_of (j := 3) rfl rfl | exact .inr (by assumption) | exact .inl (by assumption) | exact .ty _ | exact dp_ty (by assumption) | exact kit_strD _ | exact kit_tupD _ | exact kit_intD _ | exact kit_boolD _ | exact ⟨_, rfl⟩ | decide | omega | exact (show 0 ≤ sizeLine by decide) | exact (show 1 ≤ sizeLine by decide) | exact (show 2 ≤ sizeLine by decide) | exact (show 3 ≤ sizeLine by decide) | exact (show 4 ≤ sizeLine by decide) | exact (show 5 ≤ sizeLine by decide) | exact (show 6 ≤ sizeLine by decide) | decide +kernel)) | apply Exists.intro | refine iteT ?_ | refine iteF ?_)
              intro X2 sX2
              have sXX : Same H X2 := fun x o e => sX2 _ _ (sX _ _ e)
              repeat (first | (refine And.intro ?_ ?_; · (first | exact rfl | (show (_ : Int) ≤ _; omega) | (show (_ : Int) < _; omega) | assumption | exact SqL.of upd_same | exact SqT.of upd_same | exact upd_same | exact Drew.at_ (by assumption) | exact at_of (j := 0) rfl rfl | exact at_of (j := 1) rfl rfl | exact at_of (j := 2) rfl rfl | exact at_of (j := 3) rfl rfl | exact .inr (by assumption) | exact .inl (by assumption) | exact .ty _ | exact dp_ty (by assumption) | exact kit_strD _ | exact kit_tupD _ | exact kit_intD _ | exact kit_boolD _ | exact ⟨_, rfl⟩ | decide | omega | exact (show 0 ≤ sizeLine by decide) | exact (show 1 ≤ sizeLine by decide) | exact (show 2 ≤ sizeLine by decide) | exact (show 3 ≤ sizeLine by decide) | exact (show 4 ≤ sizeLine by decide) | exact (show 5 ≤ sizeLine by decide) | exact (show 6 ≤ sizeLine by decide) | decide +kernel)) | apply Exists.intro | refine iteT ?_ | refine iteF ?_)
              refine ifd (fun c7 => ?_) (fun c7 => ?_)
              · have c7 : fineL (ws ++ [b]) > 120 := c7
                repeat (first | (refine And.intro ?_ ?_; · (first | exact rfl | (show (_ : Int) ≤ _; omega) | (show (_ : Int) < _; omega) | assumption | exact SqL.of upd_same | exact SqT.of upd_same | exact upd_same | exact Drew.at_ (by assumption) | exact at_of (j := 0) rfl rfl | exact at_of (j := 1) rfl rfl | exact at_of (j := 2) rfl rfl | exact at_of (j := 3) rfl rfl | exact .inr (by assumption) | exact .inl (by assumption) | exact .ty _ | exact dp_ty (by assumption) | exact kit_strD _ | exact kit_tupD _ | exact kit_intD _ | exact kit_boolD _ | exact ⟨_, rfl⟩ | decide | omega | exact (show 0 ≤ sizeLine by decide) | exact (show 1 ≤ sizeLine by decide) | exact (show 2 ≤ sizeLine by decide) | exact (show 3 ≤ sizeLine by decide) | exact (show 4 ≤ sizeLine by decide) | exact (show 5 ≤ sizeLine by decide) | exact (show 6 ≤ sizeLine by decide) | decide +kernel)) | apply Exists.intro | refine iteT ?_ | refine iteF ?_)
                refine bad _ sXX (rd_one_none (fun _ t e a ea h => ?_) (fun e => by cases e))
                cases e
                rw [eb] at ea
                cases ea
                omega
              have c7 : ¬ fineL (ws ++ [b]) > 120 := c7
              have hL2 := sqL_same sX2 hL
              repeat (first | (refine And.intro ?_ ?_; · (first | exact rfl | (show (_ : Int) ≤ _; omega) | (show (_ : Int) < _; omega) | assumption | exact SqL.of upd_same | exact SqT.of upd_same | exact upd_same | exact Drew.at_ (by assumption) | exact at_of (j := 0) rfl rfl | exact at_of (j := 1) rfl rfl | exact at_of (j := 2) rfl rfl | exact at_of (j := 3) rfl rfl | exact .inr (by assumption) | exact .inl (by assumption) | exact .ty _ | exact dp_ty (by assumption) | exact kit_strD _ | exact kit_tupD _ | exact kit_intD _ | exact kit_boolD _ | exact ⟨_, rfl⟩ | decide | omega | exact (show 0 ≤ sizeLine by decide) | exact (show 1 ≤ sizeLine by decide) | exact (show 2 ≤ sizeLine by decide) | exact (show 3 ≤ sizeLine by decide) | exact (show 4 ≤ sizeLine by decide) | exact (show 5 ≤ sizeLine by decide) | exact (show 6 ≤ sizeLine by decide) | decide +kernel)) | apply Exists.intro | refine iteT ?_ | refine iteF ?_)
              intro pt hpt
              have zX3 : Same X2 (upd X2 pt (.tup [.str "push", .ref q])) := up hpt
              have sX3 : Same H (upd X2 pt (.tup [.str "push", .ref q])) := fun x o e => zX3 _ _ (sXX _ _ e)
              have gpt : upd X2 pt (.tup [.str "push", .ref q]) pt = some (.tup [.str "push", .ref q]) := upd_same
              generalize upd X2 pt (.tup [.str "push", .ref q]) = X3 at *
              have gY1 := zX3 _ _ (sX2 _ _ gX1)
              have gY2 := zX3 _ _ (sX2 _ _ gX2)
              have hsY := (hssX.same sX2).same zX3
              have hwY := (hwX.same sX2).same zX3
              have wbY : WrapAt K X3 q b := (wbX.same sX2).same zX3
              have hV : StepV K X3 (.ref pt) (.push b) := ⟨pt, q, rfl, SqT.of gpt, wbY⟩
              have rs := rd_push (ws := ws) eb ⟨by omega, by omega⟩
              have l6 : (ws ++ [b]).length ≤ 6 := by rw [List.length_append]; simp only [List.length_cons, List.length_nil]; omega
              repeat (first | (refine And.intro ?_ ?_; · (first | exact rfl | (show (_ : Int) ≤ _; omega) | (show (_ : Int) < _; omega) | assumption | exact SqL.of upd_same | exact SqT.of upd_same | exact upd_same | exact Drew.at_ (by assumption) | exact at_of (j := 0) rfl rfl | exact at_of (j := 1) rfl rfl | exact at_of (j := 2) rfl rfl | exact at_of (j := 3) rfl rfl | exact .inr (by assumption) | exact .inl (by assumption) | exact .ty _ | exact dp_ty (by assumption) | exact kit_strD _ | exact kit_tupD _ | exact kit_intD _ | exact kit_boolD _ | exact ⟨_, rfl⟩ | decide | omega | exact (show 0 ≤ sizeLine by decide) | exact (show 1 ≤ sizeLine by decide) | exact (show 2 ≤ sizeLine by decide) | exact (show 3 ≤ sizeLine by decide) | exact (show 4 ≤ sizeLine by decide) | exact (show 5 ≤ sizeLine by decide) | exact (show 6 ≤ sizeLine by decide) | decide +kernel)) | apply Exists.intro | refine iteT ?_ | refine iteF ?_)
              have yl : ys.length < sizeLine := by
                rw [hss.len, sizeLine_eq]
                omega
              refine ⟨.inl ⟨rfl, _, SqL.of gY1⟩, ?_⟩
              repeat (first | (refine And.intro ?_ ?_; · (first | exact rfl | (show (_ : Int) ≤ _; omega) | (show (_ : Int) < _; omega) | assumption | exact SqL.of upd_same | exact SqT.of upd_same | exact upd_same | exact Drew.at_ (by assumption) | exact at_of (j := 0) rfl rfl | exact at_of (j := 1) rfl rfl | exact at_of (j := 2) rfl rfl | exact at_of (j := 3) rfl rfl | exact .inr (by assumption) | exact .inl (by assumption) | exact .ty _ | exact dp_ty (by assumption) | exact kit_strD _ | exact kit_tupD _ | exact kit_intD _ | exact kit_boolD _ | exact ⟨_, rfl⟩ | decide | omega | exact (show 0 ≤ sizeLine by decide) | exact (show 1 ≤ sizeLine by decide) | exact (show 2 ≤ sizeLine by decide) | exact (show 3 ≤ sizeLine by decide) | exact (show 4 ≤ sizeLine by decide) | exact (show 5 ≤ sizeLine by decide) | exact (show 6 ≤ sizeLine by decide) | decide +kernel)) | apply Exists.intro | refine iteT ?_ | refine iteF ?_)
              refine ⟨fun x o e => ?_, ys ++ [.ref pt], (us ++ [.ref q]), ss ++ [.push b], (ws ++ [b]), _, upd_same, ?_, ?_, ?_, wokX, l6, ?_, rfl⟩
              · rw [upd_ne (ne_of_none e hl1)]
                exact sX3 _ _ e
              · rw [upd_ne ne]
                exact gY2
              · exact StepsV.snoc (StepsV.put gY1 hsY) (StepV.put gY1 hV)
              · exact WrapsAt.put gY1 hwY
              · rw [et]
                exact .snoc rd rs
        · have c4 : ¬ ((.str "push" :: zr).length : Int) = 2 := c4
          repeat (first | (refine And.intro ?_ ?_; · (first | exact rfl | (show (_ : Int) ≤ _; omega) | (show (_ : Int) < _; omega) | assumption | exact SqL.of upd_same | exact SqT.of upd_same | exact upd_same | exact Drew.at_ (by assumption) | exact at_of (j := 0) rfl rfl | exact at_of (j := 1) rfl rfl | exact at_of (j := 2) rfl rfl | exact at_of (j := 3) rfl rfl | exact .inr (by assumption) | exact .inl (by assumption) | exact .ty _ | exact dp_ty (by assumption) | exact kit_strD _ | exact kit_tupD _ | exact kit_intD _ | exact kit_boolD _ | exact ⟨_, rfl⟩ | decide | omega | exact (show 0 ≤ sizeLine by decide) | exact (show 1 ≤ sizeLine by decide) | exact (show 2 ≤ sizeLine by decide) | exact (show 3 ≤ sizeLine by decide) | exact (show 4 ≤ sizeLine by decide) | exact (show 5 ≤ sizeLine by decide) | exact (show 6 ≤ sizeLine by decide) | decide +kernel)) | apply Exists.intro | refine iteT ?_ | refine iteF ?_)
          refine bad _ sG ?_
          match er, zl2 with
          | [], _ => exact rd_nil_none fun z => by cases z.1
          | [_], zl2 => exact absurd zl2 (fun z => c4 z)
          | _ :: _ :: _, _ => rfl
      · repeat (first | (refine And.intro ?_ ?_; · (first | exact rfl | (show (_ : Int) ≤ _; omega) | (show (_ : Int) < _; omega) | assumption | exact SqL.of upd_same | exact SqT.of upd_same | exact upd_same | exact Drew.at_ (by assumption) | exact at_of (j := 0) rfl rfl | exact at_of (j := 1) rfl rfl | exact at_of (j := 2) rfl rfl | exact at_of (j := 3) rfl rfl | exact .inr (by assumption) | exact .inl (by assumption) | exact .ty _ | exact dp_ty (by assumption) | exact kit_strD _ | exact kit_tupD _ | exact kit_intD _ | exact kit_boolD _ | exact ⟨_, rfl⟩ | decide | omega | exact (show 0 ≤ sizeLine by decide) | exact (show 1 ≤ sizeLine by decide) | exact (show 2 ≤ sizeLine by decide) | exact (show 3 ≤ sizeLine by decide) | exact (show 4 ≤ sizeLine by decide) | exact (show 5 ≤ sizeLine by decide) | exact (show 6 ≤ sizeLine by decide) | decide +kernel)) | apply Exists.intro | refine iteT ?_ | refine iteF ?_)
        by_cases zo : z = "pop"
        · subst zo
          repeat (first | (refine And.intro ?_ ?_; · (first | exact rfl | (show (_ : Int) ≤ _; omega) | (show (_ : Int) < _; omega) | assumption | exact SqL.of upd_same | exact SqT.of upd_same | exact upd_same | exact Drew.at_ (by assumption) | exact at_of (j := 0) rfl rfl | exact at_of (j := 1) rfl rfl | exact at_of (j := 2) rfl rfl | exact at_of (j := 3) rfl rfl | exact .inr (by assumption) | exact .inl (by assumption) | exact .ty _ | exact dp_ty (by assumption) | exact kit_strD _ | exact kit_tupD _ | exact kit_intD _ | exact kit_boolD _ | exact ⟨_, rfl⟩ | decide | omega | exact (show 0 ≤ sizeLine by decide) | exact (show 1 ≤ sizeLine by decide) | exact (show 2 ≤ sizeLine by decide) | exact (show 3 ≤ sizeLine by decide) | exact (show 4 ≤ sizeLine by decide) | exact (show 5 ≤ sizeLine by decide) | exact (show 6 ≤ sizeLine by decide) | decide +kernel)) | apply Exists.intro | refine iteT ?_ | refine iteF ?_)
          refine ifd (fun c4 => ?_) (fun c4 => ?_)
          · have c4 : ((.str "pop" :: zr).length : Int) = 1 := c4
            have e0 : er = [] := List.length_eq_zero_iff.mp (by omega)
            subst e0
            obtain rfl : zr = [] := by cases q3; rfl
            have hL : SqL K G l2 us := SqL.of g2
            have ul := hws.len
            repeat (first | (refine And.intro ?_ ?_; · (first | exact rfl | (show (_ : Int) ≤ _; omega) | (show (_ : Int) < _; omega) | assumption | exact SqL.of upd_same | exact SqT.of upd_same | exact upd_same | exact Drew.at_ (by assumption) | exact at_of (j := 0) rfl rfl | exact at_of (j := 1) rfl rfl | exact at_of (j := 2) rfl rfl | exact at_of (j := 3) rfl rfl | exact .inr (by assumption) | exact .inl (by assumption) | exact .ty _ | exact dp_ty (by assumption) | exact kit_strD _ | exact kit_tupD _ | exact kit_intD _ | exact kit_boolD _ | exact ⟨_, rfl⟩ | decide | omega | exact (show 0 ≤ sizeLine by decide) | exact (show 1 ≤ sizeLine by decide) | exact (show 2 ≤ sizeLine by decide) | exact (show 3 ≤ sizeLine by decide) | exact (show 4 ≤ sizeLine by decide) | exact (show 5 ≤ sizeLine by decide) | exact (show 6 ≤ sizeLine by decide) | decide +kernel)) | apply Exists.intro | refine iteT ?_ | refine iteF ?_)
            refine ifd (fun c5 => ?_) (fun c5 => ?_)
            · have c5 : (us.length : Int) > 0 := c5
              obtain ⟨y, ey⟩ : ∃ y, us[us.length - 1]? = some y := ⟨_, List.getElem?_eq_getElem (by omega)⟩
              have wne : ws ≠ [] := fun e => by rw [e] at ul; simp only [List.length_nil] at ul; omega
              refine ⟨_, rfl, .inl ⟨rfl, _, hL⟩, l2, us, y, rfl, rfl, g2, ey, ?_⟩
              have sX : Same H (upd G l2 (.lst us.dropLast)) := fun x o e => by
                rw [upd_ne (ne_of_none (sH1 _ _ e) hl2)]
                exact sG _ _ e
              have gX2 : upd G l2 (.lst us.dropLast) l2 = some (.lst us.dropLast) := upd_same
              have gX1 : upd G l2 (.lst us.dropLast) l1 = some (.lst ys) := by
                rw [upd_ne ne.symm]
                exact g1
              have hssX : StepsV K (upd G l2 (.lst us.dropLast)) ys ss := hss.put g2
              have hwX : WrapsAt K (upd G l2 (.lst us.dropLast)) us.dropLast ws.dropLast := (WrapsAt.dropLast hws).put g2
              have hqX := sqT_put (o := .lst us.dropLast) g2 q1
              generalize upd G l2 (.lst us.dropLast) = X at *
              have hV : StepV K X (.ref p) .pop := ⟨p, rfl, hqX⟩
              have rs := rd_pop wne
              have wokX : ∀ a ∈ ws.dropLast, a.ok := fun a ha => wok a (List.mem_of_mem_take (List.dropLast_eq_take ▸ ha))
              have l6 : ws.dropLast.length ≤ 6 := by rw [List.length_dropLast]; omega
              repeat (first | (refine And.intro ?_ ?_; · (first | exact rfl | (show (_ : Int) ≤ _; omega) | (show (_ : Int) < _; omega) | assumption | exact SqL.of upd_same | exact SqT.of upd_same | exact upd_same | exact Drew.at_ (by assumption) | exact at_of (j := 0) rfl rfl | exact at_of (j := 1) rfl rfl | exact at_of (j := 2) rfl rfl | exact at_of (j := 3) rfl rfl | exact .inr (by assumption) | exact .inl (by assumption) | exact .ty _ | exact dp_ty (by assumption) | exact kit_strD _ | exact kit_tupD _ | exact kit_intD _ | exact kit_boolD _ | exact ⟨_, rfl⟩ | decide | omega | exact (show 0 ≤ sizeLine by decide) | exact (show 1 ≤ sizeLine by decide) | exact (show 2 ≤ sizeLine by decide) | exact (show 3 ≤ sizeLine by decide) | exact (show 4 ≤ sizeLine by decide) | exact (show 5 ≤ sizeLine by decide) | exact (show 6 ≤ sizeLine by decide) | decide +kernel)) | apply Exists.intro | refine iteT ?_ | refine iteF ?_)
              have yl : ys.length < sizeLine := by
                rw [hss.len, sizeLine_eq]
                omega
              refine ⟨.inl ⟨rfl, _, SqL.of gX1⟩, ?_⟩
              repeat (first | (refine And.intro ?_ ?_; · (first | exact rfl | (show (_ : Int) ≤ _; omega) | (show (_ : Int) < _; omega) | assumption | exact SqL.of upd_same | exact SqT.of upd_same | exact upd_same | exact Drew.at_ (by assumption) | exact at_of (j := 0) rfl rfl | exact at_of (j := 1) rfl rfl | exact at_of (j := 2) rfl rfl | exact at_of (j := 3) rfl rfl | exact .inr (by assumption) | exact .inl (by assumption) | exact .ty _ | exact dp_ty (by assumption) | exact kit_strD _ | exact kit_tupD _ | exact kit_intD _ | exact kit_boolD _ | exact ⟨_, rfl⟩ | decide | omega | exact (show 0 ≤ sizeLine by decide) | exact (show 1 ≤ sizeLine by decide) | exact (show 2 ≤ sizeLine by decide) | exact (show 3 ≤ sizeLine by decide) | exact (show 4 ≤ sizeLine by decide) | exact (show 5 ≤ sizeLine by decide) | exact (show 6 ≤ sizeLine by decide) | decide +kernel)) | apply Exists.intro | refine iteT ?_ | refine iteF ?_)
              refine ⟨fun x o e => ?_, ys ++ [.ref p], us.dropLast, ss ++ [.pop], ws.dropLast, _, upd_same, ?_, ?_, ?_, wokX, l6, ?_, rfl⟩
              · rw [upd_ne (ne_of_none e hl1)]
                exact sX _ _ e
              · rw [upd_ne ne]
                exact gX2
              · exact StepsV.snoc (StepsV.put gX1 hssX) (StepV.put gX1 hV)
              · exact WrapsAt.put gX1 hwX
              · rw [et]
                exact .snoc rd rs
            · have c5 : ¬ (us.length : Int) > 0 := c5
              repeat (first | (refine And.intro ?_ ?_; · (first | exact rfl | (show (_ : Int) ≤ _; omega) | (show (_ : Int) < _; omega) | assumption | exact SqL.of upd_same | exact SqT.of upd_same | exact upd_same | exact Drew.at_ (by assumption) | exact at_of (j := 0) rfl rfl | exact at_of (j := 1) rfl rfl | exact at_of (j := 2) rfl rfl | exact at_of (j := 3) rfl rfl | exact .inr (by assumption) | exact .inl (by assumption) | exact .ty _ | exact dp_ty (by assumption) | exact kit_strD _ | exact kit_tupD _ | exact kit_intD _ | exact kit_boolD _ | exact ⟨_, rfl⟩ | decide | omega | exact (show 0 ≤ sizeLine by decide) | exact (show 1 ≤ sizeLine by decide) | exact (show 2 ≤ sizeLine by decide) | exact (show 3 ≤ sizeLine by decide) | exact (show 4 ≤ sizeLine by decide) | exact (show 5 ≤ sizeLine by decide) | exact (show 6 ≤ sizeLine by decide) | decide +kernel)) | apply Exists.intro | refine iteT ?_ | refine iteF ?_)
              refine bad _ sG (rd_nil_none fun h => h.2 ?_)
              exact List.length_eq_zero_iff.mp (by omega)
          · have c4 : ¬ ((.str "pop" :: zr).length : Int) = 1 := c4
            repeat (first | (refine And.intro ?_ ?_; · (first | exact rfl | (show (_ : Int) ≤ _; omega) | (show (_ : Int) < _; omega) | assumption | exact SqL.of upd_same | exact SqT.of upd_same | exact upd_same | exact Drew.at_ (by assumption) | exact at_of (j := 0) rfl rfl | exact at_of (j := 1) rfl rfl | exact at_of (j := 2) rfl rfl | exact at_of (j := 3) rfl rfl | exact .inr (by assumption) | exact .inl (by assumption) | exact .ty _ | exact dp_ty (by assumption) | exact kit_strD _ | exact kit_tupD _ | exact kit_intD _ | exact kit_boolD _ | exact ⟨_, rfl⟩ | decide | omega | exact (show 0 ≤ sizeLine by decide) | exact (show 1 ≤ sizeLine by decide) | exact (show 2 ≤ sizeLine by decide) | exact (show 3 ≤ sizeLine by decide) | exact (show 4 ≤ sizeLine by decide) | exact (show 5 ≤ sizeLine by decide) | exact (show 6 ≤ sizeLine by decide) | decide +kernel)) | apply Exists.intro | refine iteT ?_ | refine iteF ?_)
            refine bad _ sG ?_
            match er, zl2 with
            | [], zl2 => exact absurd zl2 (fun z => c4 z)
            | [_], _ => exact rd_one_none (fun e => by cases e) (fun e => by cases e)
            | _ :: _ :: _, _ => rfl
        · refine eqw_neg zp ?_
          repeat (first | (refine And.intro ?_ ?_; · (first | exact rfl | (show (_ : Int) ≤ _; omega) | (show (_ : Int) < _; omega) | assumption | exact SqL.of upd_same | exact SqT.of upd_same | exact upd_same | exact Drew.at_ (by assumption) | exact at_of (j := 0) rfl rfl | exact at_of (j := 1) rfl rfl | exact at_of (j := 2) rfl rfl | exact at_of (j := 3) rfl rfl | exact .inr (by assumption) | exact .inl (by assumption) | exact .ty _ | exact dp_ty (by assumption) | exact kit_strD _ | exact kit_tupD _ | exact kit_intD _ | exact kit_boolD _ | exact ⟨_, rfl⟩ | decide | omega | exact (show 0 ≤ sizeLine by decide) | exact (show 1 ≤ sizeLine by decide) | exact (show 2 ≤ sizeLine by decide) | exact (show 3 ≤ sizeLine by decide) | exact (show 4 ≤ sizeLine by decide) | exact (show 5 ≤ sizeLine by decide) | exact (show 6 ≤ sizeLine by decide) | decide +kernel)) | apply Exists.intro | refine iteT ?_ | refine iteF ?_)
          refine eqw_neg zo ?_
          repeat (first | (refine And.intro ?_ ?_; · (first | exact rfl | (show (_ : Int) ≤ _; omega) | (show (_ : Int) < _; omega) | assumption | exact SqL.of upd_same | exact SqT.of upd_same | exact upd_same | exact Drew.at_ (by assumption) | exact at_of (j := 0) rfl rfl | exact at_of (j := 1) rfl rfl | exact at_of (j := 2) rfl rfl | exact at_of (j := 3) rfl rfl | exact .inr (by assumption) | exact .inl (by assumption) | exact .ty _ | exact dp_ty (by assumption) | exact kit_strD _ | exact kit_tupD _ | exact kit_intD _ | exact kit_boolD _ | exact ⟨_, rfl⟩ | decide | omega | exact (show 0 ≤ sizeLine by decide) | exact (show 1 ≤ sizeLine by decide) | exact (show 2 ≤ sizeLine by decide) | exact (show 3 ≤ sizeLine by decide) | exact (show 4 ≤ sizeLine by decide) | exact (show 5 ≤ sizeLine by decide) | exact (show 6 ≤ sizeLine by decide) | decide +kernel)) | apply Exists.intro | refine iteT ?_ | refine iteF ?_)
          by_cases zb : z = "bound"
          · subst zb
            repeat (first | (refine And.intro ?_ ?_; · (first | exact rfl | (show (_ : Int) ≤ _; omega) | (show (_ : Int) < _; omega) | assumption | exact SqL.of upd_same | exact SqT.of upd_same | exact upd_same | exact Drew.at_ (by assumption) | exact at_of (j := 0) rfl rfl | exact at_of (j := 1) rfl rfl | exact at_of (j := 2) rfl rfl | exact at_of (j := 3) rfl rfl | exact .inr (by assumption) | exact .inl (by assumption) | exact .ty _ | exact dp_ty (by assumption) | exact kit_strD _ | exact kit_tupD _ | exact kit_intD _ | exact kit_boolD _ | exact ⟨_, rfl⟩ | decide | omega | exact (show 0 ≤ sizeLine by decide) | exact (show 1 ≤ sizeLine by decide) | exact (show 2 ≤ sizeLine by decide) | exact (show 3 ≤ sizeLine by decide) | exact (show 4 ≤ sizeLine by decide) | exact (show 5 ≤ sizeLine by decide) | exact (show 6 ≤ sizeLine by decide) | decide +kernel)) | apply Exists.intro | refine iteT ?_ | refine iteF ?_)
            refine ifn (fun c4 => ?_) (fun c4 => ?_)
            · have c4 : ¬ ((.str "bound" :: zr).length : Int) = 2 := c4
              repeat (first | (refine And.intro ?_ ?_; · (first | exact rfl | (show (_ : Int) ≤ _; omega) | (show (_ : Int) < _; omega) | assumption | exact SqL.of upd_same | exact SqT.of upd_same | exact upd_same | exact Drew.at_ (by assumption) | exact at_of (j := 0) rfl rfl | exact at_of (j := 1) rfl rfl | exact at_of (j := 2) rfl rfl | exact at_of (j := 3) rfl rfl | exact .inr (by assumption) | exact .inl (by assumption) | exact .ty _ | exact dp_ty (by assumption) | exact kit_strD _ | exact kit_tupD _ | exact kit_intD _ | exact kit_boolD _ | exact ⟨_, rfl⟩ | decide | omega | exact (show 0 ≤ sizeLine by decide) | exact (show 1 ≤ sizeLine by decide) | exact (show 2 ≤ sizeLine by decide) | exact (show 3 ≤ sizeLine by decide) | exact (show 4 ≤ sizeLine by decide) | exact (show 5 ≤ sizeLine by decide) | exact (show 6 ≤ sizeLine by decide) | decide +kernel)) | apply Exists.intro | refine iteT ?_ | refine iteF ?_)
              refine bad _ sG ?_
              match er, zl2 with
              | [], _ => exact rd_nil_none fun z => by cases z.1
              | [_], zl2 => exact absurd zl2 (fun z => c4 z)
              | _ :: _ :: _, _ => rfl
            have c4 : ((.str "bound" :: zr).length : Int) = 2 := c4
            obtain ⟨e1, rfl⟩ : ∃ e1, er = [e1] := List.length_eq_one_iff.mp (by omega)
            obtain ⟨z1, zr', rfl, hz1, q4⟩ := DpAll.oneR q3
            cases q4
            clear c4 zl2 q3
            repeat (first | (refine And.intro ?_ ?_; · (first | exact rfl | (show (_ : Int) ≤ _; omega) | (show (_ : Int) < _; omega) | assumption | exact SqL.of upd_same | exact SqT.of upd_same | exact upd_same | exact Drew.at_ (by assumption) | exact at_of (j := 0) rfl rfl | exact at_of (j := 1) rfl rfl | exact at_of (j := 2) rfl rfl | exact at_of (j := 3) rfl rfl | exact .inr (by assumption) | exact .inl (by assumption) | exact .ty _ | exact dp_ty (by assumption) | exact kit_strD _ | exact kit_tupD _ | exact kit_intD _ | exact kit_boolD _ | exact ⟨_, rfl⟩ | decide | omega | exact (show 0 ≤ sizeLine by decide) | exact (show 1 ≤ sizeLine by decide) | exact (show 2 ≤ sizeLine by decide) | exact (show 3 ≤ sizeLine by decide) | exact (show 4 ≤ sizeLine by decide) | exact (show 5 ≤ sizeLine by decide) | exact (show 6 ≤ sizeLine by decide) | decide +kernel)) | apply Exists.intro | refine iteT ?_ | refine iteF ?_)
            refine iteB (fun c5 => ?_) (fun c5 => ?_)
            · repeat (first | (refine And.intro ?_ ?_; · (first | exact rfl | (show (_ : Int) ≤ _; omega) | (show (_ : Int) < _; omega) | assumption | exact SqL.of upd_same | exact SqT.of upd_same | exact upd_same | exact Drew.at_ (by assumption) | exact at_of (j := 0) rfl rfl | exact at_of (j := 1) rfl rfl | exact at_of (j := 2) rfl rfl | exact at_of (j := 3) rfl rfl | exact .inr (by assumption) | exact .inl (by assumption) | exact .ty _ | exact dp_ty (by assumption) | exact kit_strD _ | exact kit_tupD _ | exact kit_intD _ | exact kit_boolD _ | exact ⟨_, rfl⟩ | decide | omega | exact (show 0 ≤ sizeLine by decide) | exact (show 1 ≤ sizeLine by decide) | exact (show 2 ≤ sizeLine by decide) | exact (show 3 ≤ sizeLine by decide) | exact (show 4 ≤ sizeLine by decide) | exact (show 5 ≤ sizeLine by decide) | exact (show 6 ≤ sizeLine by decide) | decide +kernel)) | apply Exists.intro | refine iteT ?_ | refine iteF ?_)
              exact bad _ sG (rd_one_none (fun e => by cases e) (fun _ => c5))
            obtain ⟨n, rfl, n0, n1⟩ := inR_int c5
            cases hz1
            have hV : StepV K G (.ref p) (.bound n) := ⟨p, rfl, q1, n0, n1⟩
            have rs := rd_bound (ws := ws) ⟨n0, n1⟩
            repeat (first | (refine And.intro ?_ ?_; · (first | exact rfl | (show (_ : Int) ≤ _; omega) | (show (_ : Int) < _; omega) | assumption | exact SqL.of upd_same | exact SqT.of upd_same | exact upd_same | exact Drew.at_ (by assumption) | exact at_of (j := 0) rfl rfl | exact at_of (j := 1) rfl rfl | exact at_of (j := 2) rfl rfl | exact at_of (j := 3) rfl rfl | exact .inr (by assumption) | exact .inl (by assumption) | exact .ty _ | exact dp_ty (by assumption) | exact kit_strD _ | exact kit_tupD _ | exact kit_intD _ | exact kit_boolD _ | exact ⟨_, rfl⟩ | decide | omega | exact (show 0 ≤ sizeLine by decide) | exact (show 1 ≤ sizeLine by decide) | exact (show 2 ≤ sizeLine by decide) | exact (show 3 ≤ sizeLine by decide) | exact (show 4 ≤ sizeLine by decide) | exact (show 5 ≤ sizeLine by decide) | exact (show 6 ≤ sizeLine by decide) | decide +kernel)) | apply Exists.intro | refine iteT ?_ | refine iteF ?_)
            have yl : ys.length < sizeLine := by
              rw [hss.len, sizeLine_eq]
              omega
            refine ⟨.inl ⟨rfl, _, SqL.of g1⟩, ?_⟩
            repeat (first | (refine And.intro ?_ ?_; · (first | exact rfl | (show (_ : Int) ≤ _; omega) | (show (_ : Int) < _; omega) | assumption | exact SqL.of upd_same | exact SqT.of upd_same | exact upd_same | exact Drew.at_ (by assumption) | exact at_of (j := 0) rfl rfl | exact at_of (j := 1) rfl rfl | exact at_of (j := 2) rfl rfl | exact at_of (j := 3) rfl rfl | exact .inr (by assumption) | exact .inl (by assumption) | exact .ty _ | exact dp_ty (by assumption) | exact kit_strD _ | exact kit_tupD _ | exact kit_intD _ | exact kit_boolD _ | exact ⟨_, rfl⟩ | decide | omega | exact (show 0 ≤ sizeLine by decide) | exact (show 1 ≤ sizeLine by decide) | exact (show 2 ≤ sizeLine by decide) | exact (show 3 ≤ sizeLine by decide) | exact (show 4 ≤ sizeLine by decide) | exact (show 5 ≤ sizeLine by decide) | exact (show 6 ≤ sizeLine by decide) | decide +kernel)) | apply Exists.intro | refine iteT ?_ | refine iteF ?_)
            refine ⟨fun x o e => ?_, ys ++ [.ref p], us, ss ++ [.bound n], ws, _, upd_same, ?_, ?_, ?_, wok, w6, ?_, rfl⟩
            · rw [upd_ne (ne_of_none e hl1)]
              exact sG _ _ e
            · rw [upd_ne ne]
              exact g2
            · exact StepsV.snoc (StepsV.put g1 hss) (StepV.put g1 hV)
            · exact WrapsAt.put g1 hws
            · rw [et]
              exact .snoc rd rs
          · refine ifn (fun _ => ?_) (fun c => absurd (by cases c; rfl) zb)
            repeat (first | (refine And.intro ?_ ?_; · (first | exact rfl | (show (_ : Int) ≤ _; omega) | (show (_ : Int) < _; omega) | assumption | exact SqL.of upd_same | exact SqT.of upd_same | exact upd_same | exact Drew.at_ (by assumption) | exact at_of (j := 0) rfl rfl | exact at_of (j := 1) rfl rfl | exact at_of (j := 2) rfl rfl | exact at_of (j := 3) rfl rfl | exact .inr (by assumption) | exact .inl (by assumption) | exact .ty _ | exact dp_ty (by assumption) | exact kit_strD _ | exact kit_tupD _ | exact kit_intD _ | exact kit_boolD _ | exact ⟨_, rfl⟩ | decide | omega | exact (show 0 ≤ sizeLine by decide) | exact (show 1 ≤ sizeLine by decide) | exact (show 2 ≤ sizeLine by decide) | exact (show 3 ≤ sizeLine by decide) | exact (show 4 ≤ sizeLine by decide) | exact (show 5 ≤ sizeLine by decide) | exact (show 6 ≤ sizeLine by decide) | decide +kernel)) | apply Exists.intro | refine iteT ?_ | refine iteF ?_)
            refine bad _ sG ?_
            match er, zl2 with
            | [], _ => exact rd_nil_none fun h => zo h.1
            | [_], _ => exact rd_one_none (fun e => absurd e zp) (fun e => absurd e zb)
            | _ :: _ :: _, _ => rfl
    · rintro σ G ⟨sG, ys, us, ss, ws, v3, g1, g2, hss, hws, wok, w6, rd, rfl⟩
      repeat (first | (refine And.intro ?_ ?_; · (first | exact rfl | (show (_ : Int) ≤ _; omega) | (show (_ : Int) < _; omega) | assumption | exact SqL.of upd_same | exact SqT.of upd_same | exact upd_same | exact Drew.at_ (by assumption) | exact at_of (j := 0) rfl rfl | exact at_of (j := 1) rfl rfl | exact at_of (j := 2) rfl rfl | exact at_of (j := 3) rfl rfl | exact .inr (by assumption) | exact .inl (by assumption) | exact .ty _ | exact dp_ty (by assumption) | exact kit_strD _ | exact kit_tupD _ | exact kit_intD _ | exact kit_boolD _ | exact ⟨_, rfl⟩ | decide | omega | exact (show 0 ≤ sizeLine by decide) | exact (show 1 ≤ sizeLine by decide) | exact (show 2 ≤ sizeLine by decide) | exact (show 3 ≤ sizeLine by decide) | exact (show 4 ≤ sizeLine by decide) | exact (show 5 ≤ sizeLine by decide) | exact (show 6 ≤ sizeLine by decide) | decide +kernel)) | apply Exists.intro | refine iteT ?_ | refine iteF ?_)
      refine k _ _ sG (.inr ⟨l1, ys, ss, ?_, rfl, g1, hss⟩)
      rw [xl, List.take_length] at rd
      have := rd_app rd []
      rw [List.append_nil] at this
      show rdStps [] ds = _
      rw [this]
      simp [rdStps]
end
/-! ### the first bound that a size does not get through -/
def StopAt (b : Int) (ss : List Stp) (n : Int) (i : Nat) : Prop := ∃ m, ss[i]? = some (.bound m) ∧ m < grS b (onL (ss.take i)) n
/-- what first_stop tells -/
def FirstStop (b : Int) (ss : List Stp) (n : Int) (v : V) : Prop := (v = .non ∧ ∀ i, ¬ StopAt b ss n i) ∨ ∃ i : Nat, v = .int (i : Nat) ∧ StopAt b ss n i ∧ ∀ j, j < i → ¬ StopAt b ss n j
def spFStop (K : PySem.W.Frag) : Sp := fun vs H Q _ => ∃ (l : Addr) (ys : List V) (ss : List Stp) (b n : Int), vs = [.int b, .ref l, .int n] ∧ H l = some (.lst ys) ∧ StepsV K H ys ss ∧ RoadB b ss ∧ ss.length ≤ 1000 ∧ 2 ≤ b ∧ b ≤ 256 ∧ 0 ≤ n ∧ n ≤ 10 ^ 60 ∧ ∀ v H', Same H H' → FirstStop b ss n v → Q v H'
theorem gn0 {i : Nat} {x : V} {σ : L2.St} {H : Hp} {k : L2.St → Hp → Prop} (h : k (σ.set i (some x)) H) : gName i x σ H k := h
theorem StepsV.get {K : PySem.W.Frag} {H : Hp} {vs : List V} {ss : List Stp} (h : StepsV K H vs ss) : ∀ {i : Nat} {x : V}, vs[i]? = some x → ∃ s, ss[i]? = some s ∧ StepV K H x s := by
  induction h with
  | nil =>
    intro i x e
    simp at e
  | cons h _ ih =>
    intro i x e
    cases i with
    | zero =>
      simp at e
      subst e
      exact ⟨_, rfl, h⟩
    | succ i => exact ih (by simpa using e)
section
variable {P : Program} {w : World} {K : PySem.W.Frag} {mg : Str → Option Value} {base : Heap}
theorem ok_first_stop (T : Tx w K mg) : Prom P w K mg base CX0 6 "first_stop" s_first_stop ["base", "steps", "length"] (spFStop K) := by
  refine Prom.of T.d_first_stop sc_first_stop (fun vs H Q E h => ?_) (fun _ _ _ _ _ _ us hl => match us, hl with | [_, _, _], _ => rfl) (fun f cdv A outer s H vs Q E hr h => ?_)
  · obtain ⟨l, ys, ss, b, n, rfl, _⟩ := h
    rfl
  · obtain ⟨l, ys, ss, b, n, rfl, hl, hs, rb, sl, b0, b1, n0, n1, k⟩ := h
    refine ⟨_, (pss_cons (ps_set (i := 3) sc_first_stop.nd rfl (Or.inl rfl) (pe_lst pa_nil))
      (pss_cons (ps_for PassesOwn.never (by rfl) (pi_enum (by rfl) T.b_enumerate (pa_cons (pv 1) pa_nil)) (pg_tup rfl (pgs_cons (pg_name (i := 4) sc_first_stop.nd rfl (Or.inl rfl)) (pgs_cons (pg_name (i := 5) sc_first_stop.nd rfl (Or.inl rfl)) pgs_nil))) (pss_one (ps_if (pt_cmpR op_eq (pe_ix ix_tup (pv 5) pe_int (fun _ _ => rfl)) pe_str (nomark _)) (pss_cons (ps_expr (pe_bm PySem.F.plainAttrs_list PySem.F.slot_list_append PySem.F.type_list_append mt_append (pv 3) (pa_cons (pv 2) pa_nil)))
      (pss_one (ps_set (i := 2) sc_first_stop.nd rfl (Or.inl rfl) (pe_methP (ok_Wrap_grown T) (hr.mono (by decide)) pass0 (pe_ix ix_tup (pv 5) pe_int (fun _ _ => rfl)) (pa_cons (pv 2) (pa_cons (pv 0) pa_nil)))))) (pss_one (ps_if (pt_cmpR op_eq (pe_ix ix_tup (pv 5) pe_int (fun _ _ => rfl)) pe_str (nomark _)) (pss_one (ps_set (i := 2) sc_first_stop.nd rfl (Or.inl rfl) (pe_bm0 PySem.F.plainAttrs_list PySem.F.slot_list_pop PySem.F.type_list_pop mt_pop (pv 3)))) (pss_one (ps_if (pt_cmpR op_gt (pv 2) (pe_ix ix_tup (pv 5) pe_int (fun _ _ => rfl)) (nomark _)) (pss_one (ps_ret (pv 4))) pss_nil)))))))
      (pss_one (ps_ret pe_non)))), ?_⟩
    repeat (first | (refine And.intro ?_ ?_; · (first | exact rfl | (show (_ : Int) ≤ _; omega) | (show (_ : Int) < _; omega) | assumption | exact SqL.of upd_same | exact SqT.of upd_same | exact upd_same | exact Drew.at_ (by assumption) | exact at_of (j := 0) rfl rfl | exact at_of (j := 1) rfl rfl | exact at_of (j := 2) rfl rfl | exact at_of (j := 3) rfl rfl | exact .inr (by assumption) | exact .inl (by assumption) | exact .ty _ | exact dp_ty (by assumption) | exact kit_strD _ | exact kit_tupD _ | exact kit_intD _ | exact kit_boolD _ | exact ⟨_, rfl⟩ | decide | omega | exact (show 0 ≤ sizeLine by decide) | exact (show 1 ≤ sizeLine by decide) | exact (show 2 ≤ sizeLine by decide) | exact (show 3 ≤ sizeLine by decide) | exact (show 4 ≤ sizeLine by decide) | exact (show 5 ≤ sizeLine by decide) | exact (show 6 ≤ sizeLine by decide) | decide +kernel)) | apply Exists.intro | refine iteT ?_ | refine iteF ?_)
    intro l2 hl2
    have zH1 : Same H (upd H l2 (.lst [])) := up hl2
    have sH1 : Same H (upd H l2 (.lst [])) := fun x o e => zH1 _ _ ((Same.refl H) _ _ e)
    have gl2 : upd H l2 (.lst []) l2 = some (.lst []) := upd_same
    generalize upd H l2 (.lst []) = H1 at *
    have ne : l ≠ l2 := ne_of_none hl hl2
    have hl1 := sH1 _ _ hl
    refine gn0 ?_
    refine st_eq [some (.int b), some (.ref l), some (.int n), some (.ref l2), none, none] rfl ?_
    refine ⟨_, rfl, l, ys, rfl, SqL.of hl1, for_it (walk_enum (K := K) (a := l) (xs := ys)) (fun i σ H' => Same H H' ∧ H' l2 = some (.lst ((trS b (ss.take i) n).2.map V.int)) ∧ (∀ j, j < i → ¬ StopAt b ss n j) ∧ ∃ (v4 v5 : Option V), σ = [some (.int b), some (.ref l), some (.int (trS b (ss.take i) n).1), some (.ref l2), v4, v5])
      ⟨sH1, gl2, fun j hj => absurd hj (Nat.not_lt_zero j), none, none, rfl⟩ (fun _ _ H' _ h => SqL.of (h.1 _ _ hl)) ?_ ?_⟩
    · rintro i x σ G G2 hi ⟨sG, g2, hno, v4, v5, rfl⟩ ⟨T2, x1, x2, rfl, hT2, rfl, e1, e2⟩
      cases e1
      obtain ⟨st, hst, hv⟩ := hs.get e2
      have hil : i < ss.length := (List.getElem?_eq_some_iff.mp hst).1
      have z2 := up (o := .tup [.int (i : Nat), x2]) hT2
      have s2 : Same H _ := fun x o e => z2 _ _ (sG _ _ e)
      have hl3 := z2 _ _ g2
      have hv := hv.same s2
      refine ⟨T2, _, rfl, SqT.of upd_same, rfl, _, _, rfl, _, _, rfl, rfl, ?_⟩
      have et : ss.take (i + 1) = ss.take i ++ [st] := by
        rw [List.take_succ, hst]
        rfl
      have ettr : trS b (ss.take (i + 1)) n = goT b (trS b (ss.take i) n) st := by rw [et, trS_snoc]
      have rbi := rb.take i
      have etr := trS_on rbi n
      have so := rbi.stk b0 b1
      have wl := so.len
      have gp := grS_pow (b := b) b0 (onL (ss.take i)) so.ok (k := 200) (by decide) n0 (Int.lt_of_le_of_lt n1 (by decide))
      have e1' : (trS b (ss.take i) n).1 = grS b (onL (ss.take i)) n := by rw [etr]
      have tr0 : 0 ≤ (trS b (ss.take i) n).1 := by rw [e1']; exact gp.1
      have tr1 : (trS b (ss.take i) n).1 < 2 ^ 3000 := by
        rw [e1']
        exact Int.lt_of_lt_of_le gp.2 (pow_mono (by decide) (by omega))
      have nst : (∀ m, st ≠ .bound m) → ∀ j, j < i + 1 → ¬ StopAt b ss n j := fun h j hj hS => by
        by_cases c : j < i
        · exact hno j c hS
        · have : j = i := by omega
          subst this
          obtain ⟨m, em, _⟩ := hS
          rw [hst] at em
          injection em with em
          exact h m em
      generalize upd G T2 (.tup [.int (i : Nat), x2]) = G3 at *
      cases st with
      | push a =>
        obtain ⟨p, q, rfl, k1, k2⟩ := hv
        obtain ⟨dx, pn, hq, _⟩ := id k2
        have hL3 : SqL K G3 l2 ((trS b (ss.take i) n).2.map V.int) := SqL.of hl3
        repeat (first | (refine And.intro ?_ ?_; · (first | exact rfl | (show (_ : Int) ≤ _; omega) | (show (_ : Int) < _; omega) | assumption | exact SqL.of upd_same | exact SqT.of upd_same | exact upd_same | exact Drew.at_ (by assumption) | exact at_of (j := 0) rfl rfl | exact at_of (j := 1) rfl rfl | exact at_of (j := 2) rfl rfl | exact at_of (j := 3) rfl rfl | exact .inr (by assumption) | exact .inl (by assumption) | exact .ty _ | exact dp_ty (by assumption) | exact kit_strD _ | exact kit_tupD _ | exact kit_intD _ | exact kit_boolD _ | exact ⟨_, rfl⟩ | decide | omega | exact (show 0 ≤ sizeLine by decide) | exact (show 1 ≤ sizeLine by decide) | exact (show 2 ≤ sizeLine by decide) | exact (show 3 ≤ sizeLine by decide) | exact (show 4 ≤ sizeLine by decide) | exact (show 5 ≤ sizeLine by decide) | exact (show 6 ≤ sizeLine by decide) | decide +kernel)) | apply Exists.intro | refine iteT ?_ | refine iteF ?_)
        refine ⟨.inl ⟨rfl, _, hL3⟩, ?_⟩
        repeat (first | (refine And.intro ?_ ?_; · (first | exact rfl | (show (_ : Int) ≤ _; omega) | (show (_ : Int) < _; omega) | assumption | exact SqL.of upd_same | exact SqT.of upd_same | exact upd_same | exact Drew.at_ (by assumption) | exact at_of (j := 0) rfl rfl | exact at_of (j := 1) rfl rfl | exact at_of (j := 2) rfl rfl | exact at_of (j := 3) rfl rfl | exact .inr (by assumption) | exact .inl (by assumption) | exact .ty _ | exact dp_ty (by assumption) | exact kit_strD _ | exact kit_tupD _ | exact kit_intD _ | exact kit_boolD _ | exact ⟨_, rfl⟩ | decide | omega | exact (show 0 ≤ sizeLine by decide) | exact (show 1 ≤ sizeLine by decide) | exact (show 2 ≤ sizeLine by decide) | exact (show 3 ≤ sizeLine by decide) | exact (show 4 ≤ sizeLine by decide) | exact (show 5 ≤ sizeLine by decide) | exact (show 6 ≤ sizeLine by decide) | decide +kernel)) | apply Exists.intro | refine iteT ?_ | refine iteF ?_)
        refine ⟨by rw [List.length_map, etr]; show (inner b _ n).length < _; unfold inner; rw [List.length_map, List.length_range, sizeLine_eq]; omega, ?_⟩
        have kX := k2.put (o := .lst ((trS b (ss.take i) n).2.map V.int ++ [V.int (trS b (ss.take i) n).1])) hl3
        have q1X := sqT_put (o := .lst ((trS b (ss.take i) n).2.map V.int ++ [V.int (trS b (ss.take i) n).1])) hl3 k1
        have gX2 : upd G3 l2 (.lst ((trS b (ss.take i) n).2.map V.int ++ [V.int (trS b (ss.take i) n).1])) l2 = some (.lst ((trS b (ss.take i) n).2.map V.int ++ [V.int (trS b (ss.take i) n).1])) := upd_same
        have sX : Same H (upd G3 l2 (.lst ((trS b (ss.take i) n).2.map V.int ++ [V.int (trS b (ss.take i) n).1]))) := fun x o e => by
          rw [upd_ne (ne_of_none e hl2)]
          exact s2 _ _ e
        generalize upd G3 l2 (.lst ((trS b (ss.take i) n).2.map V.int ++ [V.int (trS b (ss.take i) n).1])) = X at *
        obtain ⟨dx', pn', hqX, _⟩ := id kX
        have aok : a.ok := (rb.at_ hst : StkOk b (onL (ss.take i) ++ [a])).ok a (by simp)
        clear gp
        repeat (first | (refine And.intro ?_ ?_; · (first | exact rfl | (show (_ : Int) ≤ _; omega) | (show (_ : Int) < _; omega) | assumption | exact SqL.of upd_same | exact SqT.of upd_same | exact upd_same | exact Drew.at_ (by assumption) | exact at_of (j := 0) rfl rfl | exact at_of (j := 1) rfl rfl | exact at_of (j := 2) rfl rfl | exact at_of (j := 3) rfl rfl | exact .inr (by assumption) | exact .inl (by assumption) | exact .ty _ | exact dp_ty (by assumption) | exact kit_strD _ | exact kit_tupD _ | exact kit_intD _ | exact kit_boolD _ | exact ⟨_, rfl⟩ | decide | omega | exact (show 0 ≤ sizeLine by decide) | exact (show 1 ≤ sizeLine by decide) | exact (show 2 ≤ sizeLine by decide) | exact (show 3 ≤ sizeLine by decide) | exact (show 4 ≤ sizeLine by decide) | exact (show 5 ≤ sizeLine by decide) | exact (show 6 ≤ sizeLine by decide) | decide +kernel)) | apply Exists.intro | refine iteT ?_ | refine iteF ?_)
        refine ⟨?_, nst (fun m e => by cases e), some (.int (i : Nat)), some (.ref p), ?_⟩
        · rw [gX2, ettr]
          show some (HO.lst _) = some (HO.lst (((trS b (ss.take i) n).2 ++ [(trS b (ss.take i) n).1]).map V.int))
          rw [List.map_append]
          rfl
        · rw [ettr]
          rfl
      | pop =>
        obtain ⟨p, rfl, k1⟩ := hv
        have hL3 : SqL K G3 l2 ((trS b (ss.take i) n).2.map V.int) := SqL.of hl3
        have wne : onL (ss.take i) ≠ [] := rb.at_ hst
        obtain ⟨inn, y, ein⟩ : ∃ inn y, (trS b (ss.take i) n).2 = inn ++ [y] := by
          have : (trS b (ss.take i) n).2 ≠ [] := fun e => by
            rw [etr] at e
            have e : inner b (onL (ss.take i)) n = [] := e
            have := congrArg List.length e
            unfold inner at this
            rw [List.length_map, List.length_range] at this
            exact wne (List.length_eq_zero_iff.mp this)
          exact ⟨_, _, (List.dropLast_concat_getLast this).symm⟩
        clear gp
        rw [ein] at hl3 hL3
        repeat (first | (refine And.intro ?_ ?_; · (first | exact rfl | (show (_ : Int) ≤ _; omega) | (show (_ : Int) < _; omega) | assumption | exact SqL.of upd_same | exact SqT.of upd_same | exact upd_same | exact Drew.at_ (by assumption) | exact at_of (j := 0) rfl rfl | exact at_of (j := 1) rfl rfl | exact at_of (j := 2) rfl rfl | exact at_of (j := 3) rfl rfl | exact .inr (by assumption) | exact .inl (by assumption) | exact .ty _ | exact dp_ty (by assumption) | exact kit_strD _ | exact kit_tupD _ | exact kit_intD _ | exact kit_boolD _ | exact ⟨_, rfl⟩ | decide | omega | exact (show 0 ≤ sizeLine by decide) | exact (show 1 ≤ sizeLine by decide) | exact (show 2 ≤ sizeLine by decide) | exact (show 3 ≤ sizeLine by decide) | exact (show 4 ≤ sizeLine by decide) | exact (show 5 ≤ sizeLine by decide) | exact (show 6 ≤ sizeLine by decide) | decide +kernel)) | apply Exists.intro | refine iteT ?_ | refine iteF ?_)
        have hy : ((inn ++ [y]).map V.int)[((inn ++ [y]).map V.int).length - 1]? = some (.int y) := by
          rw [List.map_append, List.length_append]
          simp
        refine ⟨.inl ⟨rfl, _, hL3⟩, l2, _, _, rfl, rfl, hl3, hy, ?_⟩
        refine ⟨fun x o e => ?_, ?_, nst (fun m e => by cases e), some (.int (i : Nat)), some (.ref p), ?_⟩
        · rw [upd_ne (ne_of_none e hl2)]
          exact s2 _ _ e
        · rw [upd_same, ettr]
          show some (HO.lst _) = some (HO.lst ((trS b (ss.take i) n).2.dropLast.map V.int))
          rw [ein]
          simp
        · rw [ettr]
          show _ = [some (V.int b), some (V.ref l), some (V.int ((trS b (ss.take i) n).2.getLast?.getD 0)), some (V.ref l2), some (.int (i : Nat)), some (.ref p)]
          rw [ein]
          simp
      | bound m =>
        obtain ⟨p, rfl, k1, m0, m1⟩ := hv
        clear gp
        repeat (first | (refine And.intro ?_ ?_; · (first | exact rfl | (show (_ : Int) ≤ _; omega) | (show (_ : Int) < _; omega) | assumption | exact SqL.of upd_same | exact SqT.of upd_same | exact upd_same | exact Drew.at_ (by assumption) | exact at_of (j := 0) rfl rfl | exact at_of (j := 1) rfl rfl | exact at_of (j := 2) rfl rfl | exact at_of (j := 3) rfl rfl | exact .inr (by assumption) | exact .inl (by assumption) | exact .ty _ | exact dp_ty (by assumption) | exact kit_strD _ | exact kit_tupD _ | exact kit_intD _ | exact kit_boolD _ | exact ⟨_, rfl⟩ | decide | omega | exact (show 0 ≤ sizeLine by decide) | exact (show 1 ≤ sizeLine by decide) | exact (show 2 ≤ sizeLine by decide) | exact (show 3 ≤ sizeLine by decide) | exact (show 4 ≤ sizeLine by decide) | exact (show 5 ≤ sizeLine by decide) | exact (show 6 ≤ sizeLine by decide) | decide +kernel)) | apply Exists.intro | refine iteT ?_ | refine iteF ?_)
        refine ifd (fun c => ?_) (fun c => ?_)
        · have c : (trS b (ss.take i) n).1 > m := c
          rw [e1'] at c
          repeat (first | (refine And.intro ?_ ?_; · (first | exact rfl | (show (_ : Int) ≤ _; omega) | (show (_ : Int) < _; omega) | assumption | exact SqL.of upd_same | exact SqT.of upd_same | exact upd_same | exact Drew.at_ (by assumption) | exact at_of (j := 0) rfl rfl | exact at_of (j := 1) rfl rfl | exact at_of (j := 2) rfl rfl | exact at_of (j := 3) rfl rfl | exact .inr (by assumption) | exact .inl (by assumption) | exact .ty _ | exact dp_ty (by assumption) | exact kit_strD _ | exact kit_tupD _ | exact kit_intD _ | exact kit_boolD _ | exact ⟨_, rfl⟩ | decide | omega | exact (show 0 ≤ sizeLine by decide) | exact (show 1 ≤ sizeLine by decide) | exact (show 2 ≤ sizeLine by decide) | exact (show 3 ≤ sizeLine by decide) | exact (show 4 ≤ sizeLine by decide) | exact (show 5 ≤ sizeLine by decide) | exact (show 6 ≤ sizeLine by decide) | decide +kernel)) | apply Exists.intro | refine iteT ?_ | refine iteF ?_)
          exact k _ _ s2 (.inr ⟨i, rfl, ⟨m, hst, c⟩, hno⟩)
        · have c : ¬ (trS b (ss.take i) n).1 > m := c
          rw [e1'] at c
          have eg : trS b (ss.take (i + 1)) n = trS b (ss.take i) n := ettr
          repeat (first | (refine And.intro ?_ ?_; · (first | exact rfl | (show (_ : Int) ≤ _; omega) | (show (_ : Int) < _; omega) | assumption | exact SqL.of upd_same | exact SqT.of upd_same | exact upd_same | exact Drew.at_ (by assumption) | exact at_of (j := 0) rfl rfl | exact at_of (j := 1) rfl rfl | exact at_of (j := 2) rfl rfl | exact at_of (j := 3) rfl rfl | exact .inr (by assumption) | exact .inl (by assumption) | exact .ty _ | exact dp_ty (by assumption) | exact kit_strD _ | exact kit_tupD _ | exact kit_intD _ | exact kit_boolD _ | exact ⟨_, rfl⟩ | decide | omega | exact (show 0 ≤ sizeLine by decide) | exact (show 1 ≤ sizeLine by decide) | exact (show 2 ≤ sizeLine by decide) | exact (show 3 ≤ sizeLine by decide) | exact (show 4 ≤ sizeLine by decide) | exact (show 5 ≤ sizeLine by decide) | exact (show 6 ≤ sizeLine by decide) | decide +kernel)) | apply Exists.intro | refine iteT ?_ | refine iteF ?_)
          refine ⟨by rw [eg]; exact hl3, fun j hj hS => ?_, some (.int (i : Nat)), some (.ref p), by rw [eg]; rfl⟩
          by_cases cj : j < i
          · exact hno j cj hS
          · have : j = i := by omega
            subst this
            obtain ⟨m', em, hm⟩ := hS
            rw [hst] at em
            cases em
            omega
    · rintro σ G ⟨sG, g2, hno, v4, v5, rfl⟩
      repeat (first | (refine And.intro ?_ ?_; · (first | exact rfl | (show (_ : Int) ≤ _; omega) | (show (_ : Int) < _; omega) | assumption | exact SqL.of upd_same | exact SqT.of upd_same | exact upd_same | exact Drew.at_ (by assumption) | exact at_of (j := 0) rfl rfl | exact at_of (j := 1) rfl rfl | exact at_of (j := 2) rfl rfl | exact at_of (j := 3) rfl rfl | exact .inr (by assumption) | exact .inl (by assumption) | exact .ty _ | exact dp_ty (by assumption) | exact kit_strD _ | exact kit_tupD _ | exact kit_intD _ | exact kit_boolD _ | exact ⟨_, rfl⟩ | decide | omega | exact (show 0 ≤ sizeLine by decide) | exact (show 1 ≤ sizeLine by decide) | exact (show 2 ≤ sizeLine by decide) | exact (show 3 ≤ sizeLine by decide) | exact (show 4 ≤ sizeLine by decide) | exact (show 5 ≤ sizeLine by decide) | exact (show 6 ≤ sizeLine by decide) | decide +kernel)) | apply Exists.intro | refine iteT ?_ | refine iteF ?_)
      refine k _ _ sG (.inl ⟨rfl, fun i hi => ?_⟩)
      obtain ⟨m, em, _⟩ := id hi
      have : i < ss.length := by
        rcases List.getElem?_eq_some_iff.mp em with ⟨z, _⟩
        exact z
      exact hno i (by rw [hs.len]; exact this) hi
end
/-! ### a stopper: the checker -/
theorem FirstStop.eq {b n : Int} {ss : List Stp} {u v : V} (h : FirstStop b ss n u) (g : FirstStop b ss n v) : u = v := by
  rcases h with ⟨h1, h2⟩ | ⟨i, h1, h2, h3⟩
  · rcases g with ⟨g1, g2⟩ | ⟨j, g1, g2, g3⟩
    · rw [h1, g1]
    · exact absurd g2 (h2 j)
  · rcases g with ⟨g1, g2⟩ | ⟨j, g1, g2, g3⟩
    · exact absurd h2 (g2 i)
    · rcases Nat.lt_trichotomy i j with z | z | z
      · exact absurd h2 (g3 i z)
      · rw [h1, g1, z]
      · exact absurd g2 (h3 j z)
theorem rd_step {b : Int} {ws us : List Wr} {d : PyData} {s : Stp} (so : StkOk b ws) (h : rdStp ws d = some (s, us)) : stepOk b ws s ∧ stepOn ws s = us := by
  unfold rdStp at h
  split at h
  · split at h
    · split at h
      · split at h
        · rename_i a ea
          split at h
          · rename_i c
            cases h
            refine ⟨⟨so.b0, so.b1, fun x hx => ?_, ?_, c.2⟩, rfl⟩
            · rcases List.mem_append.mp hx with h | h
              · exact so.ok x h
              · rw [List.mem_singleton.mp h]
                exact rd_ok ea
            · rw [List.length_append]
              have := c.1
              show ws.length + 1 ≤ 6
              omega
          · cases h
        · cases h
      · cases h
    · split at h
      · split at h
        · split at h
          · rename_i c
            cases h
            exact ⟨c, rfl⟩
          · cases h
        · cases h
      · cases h
  · split at h
    · rename_i c
      cases h
      exact ⟨c.2, rfl⟩
    · cases h
  · cases h
theorem rd_road {b : Int} (b0 : 2 ≤ b) (b1 : b ≤ 256) : ∀ {ds : List PyData} {ws : List Wr} {ss pre : List Stp}, rdStps ws ds = some ss → RoadB b pre → onL pre = ws → RoadB b (pre ++ ss)
  | [], ws, ss, pre, h, hr, ho => by
    cases h
    rw [List.append_nil]
    exact hr
  | d :: ds, ws, ss, pre, h, hr, ho => by
    rw [rdStps] at h
    cases e : rdStp ws d with
    | none => rw [e] at h; cases h
    | some z =>
      obtain ⟨s, us⟩ := z
      rw [e] at h
      dsimp only at h
      cases e2 : rdStps us ds with
      | none => rw [e2] at h; cases h
      | some ts =>
        rw [e2] at h
        cases h
        have so := hr.stk b0 b1
        rw [ho] at so
        obtain ⟨h1, h2⟩ := rd_step so e
        have := rd_road b0 b1 (pre := pre ++ [s]) e2 (.snoc hr (by rw [ho]; exact h1)) (by rw [onL_snoc, ho, h2])
        rw [List.append_assoc] at this
        exact this
theorem rd_len : ∀ {ds : List PyData} {ws : List Wr} {ss : List Stp}, rdStps ws ds = some ss → ss.length = ds.length
  | [], ws, ss, h => by cases h; rfl
  | d :: ds, ws, ss, h => by
    rw [rdStps] at h
    cases e : rdStp ws d with
    | none => rw [e] at h; cases h
    | some z =>
      obtain ⟨s, us⟩ := z
      rw [e] at h
      dsimp only at h
      cases e2 : rdStps us ds with
      | none => rw [e2] at h; cases h
      | some ts =>
        rw [e2] at h
        cases h
        exact congrArg (· + 1) (rd_len e2)
theorem ifnn {x : V} {A B : Prop} (h : x ≠ .non) (a : A) : if (!decide (x = V.non)) = true then A else B := by
  rw [decide_eq_false h]
  exact a
def StpP (ds : List PyData) (e : PyData) : Prop := ∃ (b : Int) (t : PyData) (at_ : Int) (ss : List Stp) (m : PyData) (n : Int), ds = [.int b, t, .int at_] ∧ 2 ≤ b ∧ b ≤ 256 ∧ rdAll t = some ss ∧ e = .tuple [m, .int n] ∧ 0 ≤ n ∧ n ≤ 10 ^ 60 - 1 ∧
  ((m = .none ∧ n = 0) ∨ ∃ k : Int, m = .int k ∧ 0 ≤ k ∧ n = k + 1 ∧ ∀ i, ¬ StopAt b ss k i) ∧ FirstStop b ss n (.int at_)
def spStp (K : PySem.W.Frag) : Sp := fun vs H Q _ => ∃ (a : Addr) (u : V) (xs : List V) (ds : List PyData) (e : PyData), vs = [.ref a, u] ∧ SqT K H a xs ∧ DpAll K H xs ds ∧ Dp K H u e ∧ (∀ d ∈ ds, StepTexts d) ∧ ∀ r H', (r = true ↔ StpP ds e) → Same H H' → Q (.bl r) H'
section
variable {P : Program} {w : World} {K : PySem.W.Frag} {mg : Str → Option Value} {base : Heap}
theorem ok_shows_stopped (T : Tx w K mg) : Prom P w K mg base CX0 9 "shows_stopped" s_shows_stopped ["rest", "paper"] (spStp K) := by
  refine Prom.of T.d_shows_stopped sc_shows_stopped (fun vs H Q E h => ?_) (fun _ _ _ _ _ _ us hl => match us, hl with | [_, _], _ => rfl) (fun f cdv A outer s H vs Q E hr h => ?_)
  · obtain ⟨a, u, xs, ds, e, rfl, _⟩ := h
    rfl
  · obtain ⟨a, u, xs, ds, e, rfl, hS, hD, he, ht, k⟩ := h
    refine ⟨_, (pss_cons (ps_if (PW.pt (pw_or (pt_cmp (pc_neI (pe_callB call_len_seq (by rfl) T.b_len (by decide +kernel) (pa_cons (pv 0) pa_nil)) pe_int)) (pw_or (pt_not (pt_val (pe_callP (ok_is_betweenX T) (hr.mono (by decide)) (by rfl) pass0 (pa_cons (pe_ix ix_tup (pv 0) pe_int (fun _ _ => rfl)) (pa_cons pe_int (pa_cons pe_int pa_nil)))))) (pw_or1 (pt_not (pt_val (pe_callP (ok_is_integerX T) (hr.mono (by decide)) (by rfl) pass0 (pa_cons (pe_ix ix_tup (pv 0) pe_int (fun _ _ => rfl)) pa_nil)))))))) (pss_one (ps_ret pe_bl)) pss_nil)
      (pss_cons (ps_set (i := 2) sc_shows_stopped.nd rfl (Or.inl rfl) (pe_callP (ok_steps_told T) (hr.mono (by decide)) (by rfl) pass0 (pa_cons (pe_ix ix_tup (pv 0) pe_int (fun _ _ => rfl)) pa_nil)))
      (pss_cons (ps_if (PW.pt (pw_or (pt_cmpR op_isN (pv 2) pe_non (nomark _)) (pw_or (pt_not (pt_val (pe_callB call_isi (by rfl) T.b_isinstance (by decide +kernel) (pa_cons (pv 1) (pa_cons (pe_bltn (v := .ty "tuple") (by rfl) T.b_tuple (by decide +kernel) rfl) pa_nil))))) (pw_or1 (pt_cmp (pc_neI (pe_callB call_len_seq (by rfl) T.b_len (by decide +kernel) (pa_cons (pv 1) pa_nil)) pe_int)))))) (pss_one (ps_ret pe_bl)) pss_nil)
      (pss_cons (ps_asg (pv 1) (pg_tup rfl (pgs_cons (pg_name (i := 3) sc_shows_stopped.nd rfl (Or.inl rfl)) (pgs_cons (pg_name (i := 4) sc_shows_stopped.nd rfl (Or.inl rfl)) pgs_nil))))
      (pss_cons (ps_if (PW.pt (pw_or (pt_not (pt_val (pe_callP (ok_is_lengthX T) (hr.mono (by decide)) (by rfl) pass0 (pa_cons (pv 4) pa_nil)))) (pw_or1 (PW.pt (pw_and (pt_cmpR op_notN (pv 3) pe_non (nomark _)) (pw_and1 (pt_not (pt_val (pe_callP (ok_is_lengthX T) (hr.mono (by decide)) (by rfl) pass0 (pa_cons (pv 3) pa_nil)))))))))) (pss_one (ps_ret pe_bl)) pss_nil)
      (pss_cons (ps_if (pt_cmp (pc_neI (pv 4) (pe_ifExp (pt_cmpR op_isN (pv 3) pe_non (nomark _)) pe_int (pe_op op_add (pv 3) pe_int)))) (pss_one (ps_ret pe_bl)) pss_nil)
      (pss_cons (ps_if (PW.pt (pw_and (pt_cmpR op_notN (pv 3) pe_non (nomark _)) (pw_and1 (pt_cmpR op_notN (pe_callP (ok_first_stop T) (hr.mono (by decide)) (by rfl) pass0 (pa_cons (pe_ix ix_tup (pv 0) pe_int (fun _ _ => rfl)) (pa_cons (pv 2) (pa_cons (pv 3) pa_nil)))) pe_non (nomark _))))) (pss_one (ps_ret pe_bl)) pss_nil)
      (pss_cons (ps_set (i := 5) sc_shows_stopped.nd rfl (Or.inl rfl) (pe_callP (ok_first_stop T) (hr.mono (by decide)) (by rfl) pass0 (pa_cons (pe_ix ix_tup (pv 0) pe_int (fun _ _ => rfl)) (pa_cons (pv 2) (pa_cons (pv 4) pa_nil)))))
      (pss_one (ps_ret (pe_and (pe_cmpR op_notN (pv 5) pe_non (nomark _)) (pe_one (pe_cmp (pc_eqI (pv 5) (pe_ix ix_tup (pv 0) pe_int (fun _ _ => rfl)))))))))))))))), ?_⟩
    have fin : ∀ H', Same H H' → ¬ StpP ds e → Q (.bl false) H' := fun H' s n => k _ _ (nb n) s
    have xl := DpAll.len hD
    repeat (first | (refine And.intro ?_ ?_; · (first | exact rfl | (show (_ : Int) ≤ _; omega) | (show (_ : Int) < _; omega) | assumption | exact SqL.of upd_same | exact SqT.of upd_same | exact upd_same | exact Drew.at_ (by assumption) | exact at_of (j := 0) rfl rfl | exact at_of (j := 1) rfl rfl | exact at_of (j := 2) rfl rfl | exact at_of (j := 3) rfl rfl | exact .inr (by assumption) | exact .inl (by assumption) | exact .ty _ | exact dp_ty (by assumption) | exact kit_strD _ | exact kit_tupD _ | exact kit_intD _ | exact kit_boolD _ | exact ⟨_, rfl⟩ | decide | omega | exact (show 0 ≤ sizeLine by decide) | exact (show 1 ≤ sizeLine by decide) | exact (show 2 ≤ sizeLine by decide) | exact (show 3 ≤ sizeLine by decide) | exact (show 4 ≤ sizeLine by decide) | exact (show 5 ≤ sizeLine by decide) | exact (show 6 ≤ sizeLine by decide) | decide +kernel)) | apply Exists.intro | refine iteT ?_ | refine iteF ?_)
    refine ifn (fun c => ?_) (fun c => ?_)
    · have c : ¬ (xs.length : Int) = 3 := c
      repeat (first | (refine And.intro ?_ ?_; · (first | exact rfl | (show (_ : Int) ≤ _; omega) | (show (_ : Int) < _; omega) | assumption | exact SqL.of upd_same | exact SqT.of upd_same | exact upd_same | exact Drew.at_ (by assumption) | exact at_of (j := 0) rfl rfl | exact at_of (j := 1) rfl rfl | exact at_of (j := 2) rfl rfl | exact at_of (j := 3) rfl rfl | exact .inr (by assumption) | exact .inl (by assumption) | exact .ty _ | exact dp_ty (by assumption) | exact kit_strD _ | exact kit_tupD _ | exact kit_intD _ | exact kit_boolD _ | exact ⟨_, rfl⟩ | decide | omega | exact (show 0 ≤ sizeLine by decide) | exact (show 1 ≤ sizeLine by decide) | exact (show 2 ≤ sizeLine by decide) | exact (show 3 ≤ sizeLine by decide) | exact (show 4 ≤ sizeLine by decide) | exact (show 5 ≤ sizeLine by decide) | exact (show 6 ≤ sizeLine by decide) | decide +kernel)) | apply Exists.intro | refine iteT ?_ | refine iteF ?_)
      refine fin _ (Same.refl H) fun ⟨b, t, at_, ss, m, n, h, _⟩ => c ?_
      rw [xl, h]
      rfl
    obtain ⟨x0, x1, x2, rfl⟩ := three c
    obtain ⟨d0, es, rfl, hx0, hD⟩ := DpAll.one hD
    obtain ⟨d1, es, rfl, hx1, hD⟩ := DpAll.one hD
    obtain ⟨d2, es, rfl, hx2, hD⟩ := DpAll.one hD
    obtain rfl := DpAll.zero hD
    clear xl c hD
    repeat (first | (refine And.intro ?_ ?_; · (first | exact rfl | (show (_ : Int) ≤ _; omega) | (show (_ : Int) < _; omega) | assumption | exact SqL.of upd_same | exact SqT.of upd_same | exact upd_same | exact Drew.at_ (by assumption) | exact at_of (j := 0) rfl rfl | exact at_of (j := 1) rfl rfl | exact at_of (j := 2) rfl rfl | exact at_of (j := 3) rfl rfl | exact .inr (by assumption) | exact .inl (by assumption) | exact .ty _ | exact dp_ty (by assumption) | exact kit_strD _ | exact kit_tupD _ | exact kit_intD _ | exact kit_boolD _ | exact ⟨_, rfl⟩ | decide | omega | exact (show 0 ≤ sizeLine by decide) | exact (show 1 ≤ sizeLine by decide) | exact (show 2 ≤ sizeLine by decide) | exact (show 3 ≤ sizeLine by decide) | exact (show 4 ≤ sizeLine by decide) | exact (show 5 ≤ sizeLine by decide) | exact (show 6 ≤ sizeLine by decide) | decide +kernel)) | apply Exists.intro | refine iteT ?_ | refine iteF ?_)
    refine iteB (fun c1 => ?_) (fun c1 => ?_)
    · repeat (first | (refine And.intro ?_ ?_; · (first | exact rfl | (show (_ : Int) ≤ _; omega) | (show (_ : Int) < _; omega) | assumption | exact SqL.of upd_same | exact SqT.of upd_same | exact upd_same | exact Drew.at_ (by assumption) | exact at_of (j := 0) rfl rfl | exact at_of (j := 1) rfl rfl | exact at_of (j := 2) rfl rfl | exact at_of (j := 3) rfl rfl | exact .inr (by assumption) | exact .inl (by assumption) | exact .ty _ | exact dp_ty (by assumption) | exact kit_strD _ | exact kit_tupD _ | exact kit_intD _ | exact kit_boolD _ | exact ⟨_, rfl⟩ | decide | omega | exact (show 0 ≤ sizeLine by decide) | exact (show 1 ≤ sizeLine by decide) | exact (show 2 ≤ sizeLine by decide) | exact (show 3 ≤ sizeLine by decide) | exact (show 4 ≤ sizeLine by decide) | exact (show 5 ≤ sizeLine by decide) | exact (show 6 ≤ sizeLine by decide) | decide +kernel)) | apply Exists.intro | refine iteT ?_ | refine iteF ?_)
      refine fin _ (Same.refl H) fun ⟨b, t, at_, ss, m, n, h, h0, h1, _⟩ => ?_
      cases h
      exact inR_no c1 ⟨h0, h1⟩
    obtain ⟨b, rfl, b0, b1⟩ := inR_int c1
    cases hx0
    repeat (first | (refine And.intro ?_ ?_; · (first | exact rfl | (show (_ : Int) ≤ _; omega) | (show (_ : Int) < _; omega) | assumption | exact SqL.of upd_same | exact SqT.of upd_same | exact upd_same | exact Drew.at_ (by assumption) | exact at_of (j := 0) rfl rfl | exact at_of (j := 1) rfl rfl | exact at_of (j := 2) rfl rfl | exact at_of (j := 3) rfl rfl | exact .inr (by assumption) | exact .inl (by assumption) | exact .ty _ | exact dp_ty (by assumption) | exact kit_strD _ | exact kit_tupD _ | exact kit_intD _ | exact kit_boolD _ | exact ⟨_, rfl⟩ | decide | omega | exact (show 0 ≤ sizeLine by decide) | exact (show 1 ≤ sizeLine by decide) | exact (show 2 ≤ sizeLine by decide) | exact (show 3 ≤ sizeLine by decide) | exact (show 4 ≤ sizeLine by decide) | exact (show 5 ≤ sizeLine by decide) | exact (show 6 ≤ sizeLine by decide) | decide +kernel)) | apply Exists.intro | refine iteT ?_ | refine iteF ?_)
    refine iteB (fun c2 => ?_) (fun c2 => ?_)
    · repeat (first | (refine And.intro ?_ ?_; · (first | exact rfl | (show (_ : Int) ≤ _; omega) | (show (_ : Int) < _; omega) | assumption | exact SqL.of upd_same | exact SqT.of upd_same | exact upd_same | exact Drew.at_ (by assumption) | exact at_of (j := 0) rfl rfl | exact at_of (j := 1) rfl rfl | exact at_of (j := 2) rfl rfl | exact at_of (j := 3) rfl rfl | exact .inr (by assumption) | exact .inl (by assumption) | exact .ty _ | exact dp_ty (by assumption) | exact kit_strD _ | exact kit_tupD _ | exact kit_intD _ | exact kit_boolD _ | exact ⟨_, rfl⟩ | decide | omega | exact (show 0 ≤ sizeLine by decide) | exact (show 1 ≤ sizeLine by decide) | exact (show 2 ≤ sizeLine by decide) | exact (show 3 ≤ sizeLine by decide) | exact (show 4 ≤ sizeLine by decide) | exact (show 5 ≤ sizeLine by decide) | exact (show 6 ≤ sizeLine by decide) | decide +kernel)) | apply Exists.intro | refine iteT ?_ | refine iteF ?_)
      refine fin _ (Same.refl H) fun ⟨b, t, at_, ss, m, n, h, _⟩ => ?_
      cases h
      cases c2
    obtain ⟨at_, rfl⟩ := isI_int c2
    cases hx2
    have t1 := ht _ (.tail _ (.head _))
    repeat (first | (refine And.intro ?_ ?_; · (first | exact rfl | (show (_ : Int) ≤ _; omega) | (show (_ : Int) < _; omega) | assumption | exact SqL.of upd_same | exact SqT.of upd_same | exact upd_same | exact Drew.at_ (by assumption) | exact at_of (j := 0) rfl rfl | exact at_of (j := 1) rfl rfl | exact at_of (j := 2) rfl rfl | exact at_of (j := 3) rfl rfl | exact .inr (by assumption) | exact .inl (by assumption) | exact .ty _ | exact dp_ty (by assumption) | exact kit_strD _ | exact kit_tupD _ | exact kit_intD _ | exact kit_boolD _ | exact ⟨_, rfl⟩ | decide | omega | exact (show 0 ≤ sizeLine by decide) | exact (show 1 ≤ sizeLine by decide) | exact (show 2 ≤ sizeLine by decide) | exact (show 3 ≤ sizeLine by decide) | exact (show 4 ≤ sizeLine by decide) | exact (show 5 ≤ sizeLine by decide) | exact (show 6 ≤ sizeLine by decide) | decide +kernel)) | apply Exists.intro | refine iteT ?_ | refine iteF ?_)
    intro v1 H1 s1 r1
    have hS1 := sqT_same s1 hS
    have he1 := Dp.same s1 he
    repeat (first | (refine And.intro ?_ ?_; · (first | exact rfl | (show (_ : Int) ≤ _; omega) | (show (_ : Int) < _; omega) | assumption | exact SqL.of upd_same | exact SqT.of upd_same | exact upd_same | exact Drew.at_ (by assumption) | exact at_of (j := 0) rfl rfl | exact at_of (j := 1) rfl rfl | exact at_of (j := 2) rfl rfl | exact at_of (j := 3) rfl rfl | exact .inr (by assumption) | exact .inl (by assumption) | exact .ty _ | exact dp_ty (by assumption) | exact kit_strD _ | exact kit_tupD _ | exact kit_intD _ | exact kit_boolD _ | exact ⟨_, rfl⟩ | decide | omega | exact (show 0 ≤ sizeLine by decide) | exact (show 1 ≤ sizeLine by decide) | exact (show 2 ≤ sizeLine by decide) | exact (show 3 ≤ sizeLine by decide) | exact (show 4 ≤ sizeLine by decide) | exact (show 5 ≤ sizeLine by decide) | exact (show 6 ≤ sizeLine by decide) | decide +kernel)) | apply Exists.intro | refine iteT ?_ | refine iteF ?_)
    rcases r1 with ⟨en, rfl⟩ | ⟨l, vs, ss, es, rfl, hl, hs⟩
    · repeat (first | (refine And.intro ?_ ?_; · (first | exact rfl | (show (_ : Int) ≤ _; omega) | (show (_ : Int) < _; omega) | assumption | exact SqL.of upd_same | exact SqT.of upd_same | exact upd_same | exact Drew.at_ (by assumption) | exact at_of (j := 0) rfl rfl | exact at_of (j := 1) rfl rfl | exact at_of (j := 2) rfl rfl | exact at_of (j := 3) rfl rfl | exact .inr (by assumption) | exact .inl (by assumption) | exact .ty _ | exact dp_ty (by assumption) | exact kit_strD _ | exact kit_tupD _ | exact kit_intD _ | exact kit_boolD _ | exact ⟨_, rfl⟩ | decide | omega | exact (show 0 ≤ sizeLine by decide) | exact (show 1 ≤ sizeLine by decide) | exact (show 2 ≤ sizeLine by decide) | exact (show 3 ≤ sizeLine by decide) | exact (show 4 ≤ sizeLine by decide) | exact (show 5 ≤ sizeLine by decide) | exact (show 6 ≤ sizeLine by decide) | decide +kernel)) | apply Exists.intro | refine iteT ?_ | refine iteF ?_)
      refine fin _ s1 fun ⟨b, t, at_, ss, m, n, h, _, _, h3, _⟩ => ?_
      cases h
      rw [en] at h3
      cases h3
    obtain ⟨ds1, ed1⟩ : ∃ ds1, d1 = .tuple ds1 := by
      cases d1 with
      | tuple ds1 => exact ⟨ds1, rfl⟩
      | _ => cases es
    subst ed1
    have rb : RoadB b ss := by
      have := rd_road b0 b1 (pre := []) es .nil rfl
      exact this
    have sl : ss.length ≤ 1000 := by
      rw [rd_len es]
      exact (t1 _ rfl).1
    have key : ∀ {Z : Prop}, ((∃ (m : PyData) (n : Int), e = .tuple [m, .int n] ∧ 0 ≤ n ∧ n ≤ 10 ^ 60 - 1 ∧ ((m = .none ∧ n = 0) ∨ ∃ k : Int, m = .int k ∧ 0 ≤ k ∧ n = k + 1 ∧ ∀ i, ¬ StopAt b ss k i) ∧ FirstStop b ss n (.int at_)) ↔ Z) → (StpP [.int b, .tuple ds1, .int at_] e ↔ Z) := fun {Z} h => by
      rw [← h]
      refine ⟨fun ⟨b', t, at', ss', m, n, z, _, _, h3, h4⟩ => ?_, fun ⟨m, n, h4⟩ => ⟨b, _, at_, ss, m, n, rfl, b0, b1, es, h4⟩⟩
      cases z
      rw [es] at h3
      cases h3
      exact ⟨m, n, h4⟩
    repeat (first | (refine And.intro ?_ ?_; · (first | exact rfl | (show (_ : Int) ≤ _; omega) | (show (_ : Int) < _; omega) | assumption | exact SqL.of upd_same | exact SqT.of upd_same | exact upd_same | exact Drew.at_ (by assumption) | exact at_of (j := 0) rfl rfl | exact at_of (j := 1) rfl rfl | exact at_of (j := 2) rfl rfl | exact at_of (j := 3) rfl rfl | exact .inr (by assumption) | exact .inl (by assumption) | exact .ty _ | exact dp_ty (by assumption) | exact kit_strD _ | exact kit_tupD _ | exact kit_intD _ | exact kit_boolD _ | exact ⟨_, rfl⟩ | decide | omega | exact (show 0 ≤ sizeLine by decide) | exact (show 1 ≤ sizeLine by decide) | exact (show 2 ≤ sizeLine by decide) | exact (show 3 ≤ sizeLine by decide) | exact (show 4 ≤ sizeLine by decide) | exact (show 5 ≤ sizeLine by decide) | exact (show 6 ≤ sizeLine by decide) | decide +kernel)) | apply Exists.intro | refine iteT ?_ | refine iteF ?_)
    refine iteB (fun c3 => ?_) (fun c3 => ?_)
    · repeat (first | (refine And.intro ?_ ?_; · (first | exact rfl | (show (_ : Int) ≤ _; omega) | (show (_ : Int) < _; omega) | assumption | exact SqL.of upd_same | exact SqT.of upd_same | exact upd_same | exact Drew.at_ (by assumption) | exact at_of (j := 0) rfl rfl | exact at_of (j := 1) rfl rfl | exact at_of (j := 2) rfl rfl | exact at_of (j := 3) rfl rfl | exact .inr (by assumption) | exact .inl (by assumption) | exact .ty _ | exact dp_ty (by assumption) | exact kit_strD _ | exact kit_tupD _ | exact kit_intD _ | exact kit_boolD _ | exact ⟨_, rfl⟩ | decide | omega | exact (show 0 ≤ sizeLine by decide) | exact (show 1 ≤ sizeLine by decide) | exact (show 2 ≤ sizeLine by decide) | exact (show 3 ≤ sizeLine by decide) | exact (show 4 ≤ sizeLine by decide) | exact (show 5 ≤ sizeLine by decide) | exact (show 6 ≤ sizeLine by decide) | decide +kernel)) | apply Exists.intro | refine iteT ?_ | refine iteF ?_)
      refine fin _ s1 fun z => ?_
      obtain ⟨m, n, z, _⟩ := (key Iff.rfl).mp z
      rw [z] at c3
      cases c3
    obtain ⟨es', rfl⟩ := tupD_of c3
    obtain ⟨p, ys, rfl, g1, g2⟩ : ∃ p ys, u = .ref p ∧ SqT K H1 p ys ∧ DpAll K H1 ys es' := by
      cases he1 with
      | tup h1 h2 => exact ⟨_, _, rfl, h1, h2⟩
    have yl := DpAll.len g2
    repeat (first | (refine And.intro ?_ ?_; · (first | exact rfl | (show (_ : Int) ≤ _; omega) | (show (_ : Int) < _; omega) | assumption | exact SqL.of upd_same | exact SqT.of upd_same | exact upd_same | exact Drew.at_ (by assumption) | exact at_of (j := 0) rfl rfl | exact at_of (j := 1) rfl rfl | exact at_of (j := 2) rfl rfl | exact at_of (j := 3) rfl rfl | exact .inr (by assumption) | exact .inl (by assumption) | exact .ty _ | exact dp_ty (by assumption) | exact kit_strD _ | exact kit_tupD _ | exact kit_intD _ | exact kit_boolD _ | exact ⟨_, rfl⟩ | decide | omega | exact (show 0 ≤ sizeLine by decide) | exact (show 1 ≤ sizeLine by decide) | exact (show 2 ≤ sizeLine by decide) | exact (show 3 ≤ sizeLine by decide) | exact (show 4 ≤ sizeLine by decide) | exact (show 5 ≤ sizeLine by decide) | exact (show 6 ≤ sizeLine by decide) | decide +kernel)) | apply Exists.intro | refine iteT ?_ | refine iteF ?_)
    refine ifn (fun c4 => ?_) (fun c4 => ?_)
    · have c4 : ¬ (ys.length : Int) = 2 := c4
      repeat (first | (refine And.intro ?_ ?_; · (first | exact rfl | (show (_ : Int) ≤ _; omega) | (show (_ : Int) < _; omega) | assumption | exact SqL.of upd_same | exact SqT.of upd_same | exact upd_same | exact Drew.at_ (by assumption) | exact at_of (j := 0) rfl rfl | exact at_of (j := 1) rfl rfl | exact at_of (j := 2) rfl rfl | exact at_of (j := 3) rfl rfl | exact .inr (by assumption) | exact .inl (by assumption) | exact .ty _ | exact dp_ty (by assumption) | exact kit_strD _ | exact kit_tupD _ | exact kit_intD _ | exact kit_boolD _ | exact ⟨_, rfl⟩ | decide | omega | exact (show 0 ≤ sizeLine by decide) | exact (show 1 ≤ sizeLine by decide) | exact (show 2 ≤ sizeLine by decide) | exact (show 3 ≤ sizeLine by decide) | exact (show 4 ≤ sizeLine by decide) | exact (show 5 ≤ sizeLine by decide) | exact (show 6 ≤ sizeLine by decide) | decide +kernel)) | apply Exists.intro | refine iteT ?_ | refine iteF ?_)
      refine fin _ s1 fun z => ?_
      obtain ⟨m, n, z, _⟩ := (key Iff.rfl).mp z
      cases z
      exact c4 (by rw [yl]; rfl)
    obtain ⟨y0, y1, rfl⟩ := two c4
    obtain ⟨m, q1, rfl, hm, g2⟩ := DpAll.one g2
    obtain ⟨nn, q2, rfl, hn, g2⟩ := DpAll.one g2
    obtain rfl := DpAll.zero g2
    clear yl c4 g2 c3 he1
    repeat (first | (refine And.intro ?_ ?_; · (first | exact rfl | (show (_ : Int) ≤ _; omega) | (show (_ : Int) < _; omega) | assumption | exact SqL.of upd_same | exact SqT.of upd_same | exact upd_same | exact Drew.at_ (by assumption) | exact at_of (j := 0) rfl rfl | exact at_of (j := 1) rfl rfl | exact at_of (j := 2) rfl rfl | exact at_of (j := 3) rfl rfl | exact .inr (by assumption) | exact .inl (by assumption) | exact .ty _ | exact dp_ty (by assumption) | exact kit_strD _ | exact kit_tupD _ | exact kit_intD _ | exact kit_boolD _ | exact ⟨_, rfl⟩ | decide | omega | exact (show 0 ≤ sizeLine by decide) | exact (show 1 ≤ sizeLine by decide) | exact (show 2 ≤ sizeLine by decide) | exact (show 3 ≤ sizeLine by decide) | exact (show 4 ≤ sizeLine by decide) | exact (show 5 ≤ sizeLine by decide) | exact (show 6 ≤ sizeLine by decide) | decide +kernel)) | apply Exists.intro | refine iteT ?_ | refine iteF ?_)
    refine iteB (fun c5 => ?_) (fun c5 => ?_)
    · repeat (first | (refine And.intro ?_ ?_; · (first | exact rfl | (show (_ : Int) ≤ _; omega) | (show (_ : Int) < _; omega) | assumption | exact SqL.of upd_same | exact SqT.of upd_same | exact upd_same | exact Drew.at_ (by assumption) | exact at_of (j := 0) rfl rfl | exact at_of (j := 1) rfl rfl | exact at_of (j := 2) rfl rfl | exact at_of (j := 3) rfl rfl | exact .inr (by assumption) | exact .inl (by assumption) | exact .ty _ | exact dp_ty (by assumption) | exact kit_strD _ | exact kit_tupD _ | exact kit_intD _ | exact kit_boolD _ | exact ⟨_, rfl⟩ | decide | omega | exact (show 0 ≤ sizeLine by decide) | exact (show 1 ≤ sizeLine by decide) | exact (show 2 ≤ sizeLine by decide) | exact (show 3 ≤ sizeLine by decide) | exact (show 4 ≤ sizeLine by decide) | exact (show 5 ≤ sizeLine by decide) | exact (show 6 ≤ sizeLine by decide) | decide +kernel)) | apply Exists.intro | refine iteT ?_ | refine iteF ?_)
      refine fin _ s1 fun z => ?_
      obtain ⟨m, n, z, h0, h1, _⟩ := (key Iff.rfl).mp z
      cases z
      exact inR_no c5 ⟨h0, h1⟩
    obtain ⟨n, rfl, n0, n1⟩ := inR_int c5
    cases hn
    have n2 : n ≤ 10 ^ 60 := by omega
    have zz : (0 : Int) ≤ 0 := Int.le_refl 0
    have zl : (0 : Int) ≤ 10 ^ 60 := by decide
    by_cases cm : m = .none
    · subst cm
      cases hm
      repeat (first | (refine And.intro ?_ ?_; · (first | exact rfl | (show (_ : Int) ≤ _; omega) | (show (_ : Int) < _; omega) | assumption | exact SqL.of upd_same | exact SqT.of upd_same | exact upd_same | exact Drew.at_ (by assumption) | exact at_of (j := 0) rfl rfl | exact at_of (j := 1) rfl rfl | exact at_of (j := 2) rfl rfl | exact at_of (j := 3) rfl rfl | exact .inr (by assumption) | exact .inl (by assumption) | exact .ty _ | exact dp_ty (by assumption) | exact kit_strD _ | exact kit_tupD _ | exact kit_intD _ | exact kit_boolD _ | exact ⟨_, rfl⟩ | decide | omega | exact (show 0 ≤ sizeLine by decide) | exact (show 1 ≤ sizeLine by decide) | exact (show 2 ≤ sizeLine by decide) | exact (show 3 ≤ sizeLine by decide) | exact (show 4 ≤ sizeLine by decide) | exact (show 5 ≤ sizeLine by decide) | exact (show 6 ≤ sizeLine by decide) | decide +kernel)) | apply Exists.intro | refine iteT ?_ | refine iteF ?_)
      refine ifn (fun c6 => ?_) (fun c6 => ?_)
      · have c6 : ¬ n = 0 := c6
        repeat (first | (refine And.intro ?_ ?_; · (first | exact rfl | (show (_ : Int) ≤ _; omega) | (show (_ : Int) < _; omega) | assumption | exact SqL.of upd_same | exact SqT.of upd_same | exact upd_same | exact Drew.at_ (by assumption) | exact at_of (j := 0) rfl rfl | exact at_of (j := 1) rfl rfl | exact at_of (j := 2) rfl rfl | exact at_of (j := 3) rfl rfl | exact .inr (by assumption) | exact .inl (by assumption) | exact .ty _ | exact dp_ty (by assumption) | exact kit_strD _ | exact kit_tupD _ | exact kit_intD _ | exact kit_boolD _ | exact ⟨_, rfl⟩ | decide | omega | exact (show 0 ≤ sizeLine by decide) | exact (show 1 ≤ sizeLine by decide) | exact (show 2 ≤ sizeLine by decide) | exact (show 3 ≤ sizeLine by decide) | exact (show 4 ≤ sizeLine by decide) | exact (show 5 ≤ sizeLine by decide) | exact (show 6 ≤ sizeLine by decide) | decide +kernel)) | apply Exists.intro | refine iteT ?_ | refine iteF ?_)
        refine fin _ s1 fun z => ?_
        obtain ⟨m, n', z, h0, h1, h2, _⟩ := (key Iff.rfl).mp z
        cases z
        rcases h2 with ⟨_, h2⟩ | ⟨k, h2, _⟩
        · exact c6 h2
        · cases h2
      · have c6 : n = 0 := c6
        subst c6
        repeat (first | (refine And.intro ?_ ?_; · (first | exact rfl | (show (_ : Int) ≤ _; omega) | (show (_ : Int) < _; omega) | assumption | exact SqL.of upd_same | exact SqT.of upd_same | exact upd_same | exact Drew.at_ (by assumption) | exact at_of (j := 0) rfl rfl | exact at_of (j := 1) rfl rfl | exact at_of (j := 2) rfl rfl | exact at_of (j := 3) rfl rfl | exact .inr (by assumption) | exact .inl (by assumption) | exact .ty _ | exact dp_ty (by assumption) | exact kit_strD _ | exact kit_tupD _ | exact kit_intD _ | exact kit_boolD _ | exact ⟨_, rfl⟩ | decide | omega | exact (show 0 ≤ sizeLine by decide) | exact (show 1 ≤ sizeLine by decide) | exact (show 2 ≤ sizeLine by decide) | exact (show 3 ≤ sizeLine by decide) | exact (show 4 ≤ sizeLine by decide) | exact (show 5 ≤ sizeLine by decide) | exact (show 6 ≤ sizeLine by decide) | decide +kernel)) | apply Exists.intro | refine iteT ?_ | refine iteF ?_)
        intro v H2 s2 fs
        have s2 : Same H H2 := fun x o y => s2 _ _ (s1 _ _ y)
        have hS2 := sqT_same s2 hS
        refine gn0 ?_
        rcases id fs with ⟨rfl, _⟩ | ⟨i, rfl, _⟩
        · repeat (first | (refine And.intro ?_ ?_; · (first | exact rfl | (show (_ : Int) ≤ _; omega) | (show (_ : Int) < _; omega) | assumption | exact SqL.of upd_same | exact SqT.of upd_same | exact upd_same | exact Drew.at_ (by assumption) | exact at_of (j := 0) rfl rfl | exact at_of (j := 1) rfl rfl | exact at_of (j := 2) rfl rfl | exact at_of (j := 3) rfl rfl | exact .inr (by assumption) | exact .inl (by assumption) | exact .ty _ | exact dp_ty (by assumption) | exact kit_strD _ | exact kit_tupD _ | exact kit_intD _ | exact kit_boolD _ | exact ⟨_, rfl⟩ | decide | omega | exact (show 0 ≤ sizeLine by decide) | exact (show 1 ≤ sizeLine by decide) | exact (show 2 ≤ sizeLine by decide) | exact (show 3 ≤ sizeLine by decide) | exact (show 4 ≤ sizeLine by decide) | exact (show 5 ≤ sizeLine by decide) | exact (show 6 ≤ sizeLine by decide) | decide +kernel)) | apply Exists.intro | refine iteT ?_ | refine iteF ?_)
          refine fin _ s2 fun z => ?_
          obtain ⟨m, n', z, _, _, _, f2⟩ := (key Iff.rfl).mp z
          cases z
          have := fs.eq f2
          cases this
        · repeat (first | (refine And.intro ?_ ?_; · (first | exact rfl | (show (_ : Int) ≤ _; omega) | (show (_ : Int) < _; omega) | assumption | exact SqL.of upd_same | exact SqT.of upd_same | exact upd_same | exact Drew.at_ (by assumption) | exact at_of (j := 0) rfl rfl | exact at_of (j := 1) rfl rfl | exact at_of (j := 2) rfl rfl | exact at_of (j := 3) rfl rfl | exact .inr (by assumption) | exact .inl (by assumption) | exact .ty _ | exact dp_ty (by assumption) | exact kit_strD _ | exact kit_tupD _ | exact kit_intD _ | exact kit_boolD _ | exact ⟨_, rfl⟩ | decide | omega | exact (show 0 ≤ sizeLine by decide) | exact (show 1 ≤ sizeLine by decide) | exact (show 2 ≤ sizeLine by decide) | exact (show 3 ≤ sizeLine by decide) | exact (show 4 ≤ sizeLine by decide) | exact (show 5 ≤ sizeLine by decide) | exact (show 6 ≤ sizeLine by decide) | decide +kernel)) | apply Exists.intro | refine iteT ?_ | refine iteF ?_)
          refine k _ _ (Iff.trans ?_ (key Iff.rfl).symm) s2
          refine ⟨fun z => ⟨_, _, rfl, n0, n1, .inl ⟨rfl, rfl⟩, ?_⟩, fun ⟨m, n', z, _, _, _, f2⟩ => ?_⟩
          · rw [← of_decide_eq_true z]
            exact fs
          · cases z
            have e := fs.eq f2
            injection e with e
            exact decide_eq_true e
    · have nn : y0 ≠ .non := fun e => by
        subst e
        cases hm
        exact cm rfl
      repeat (first | (refine And.intro ?_ ?_; · (first | exact rfl | (show (_ : Int) ≤ _; omega) | (show (_ : Int) < _; omega) | assumption | exact SqL.of upd_same | exact SqT.of upd_same | exact upd_same | exact Drew.at_ (by assumption) | exact at_of (j := 0) rfl rfl | exact at_of (j := 1) rfl rfl | exact at_of (j := 2) rfl rfl | exact at_of (j := 3) rfl rfl | exact .inr (by assumption) | exact .inl (by assumption) | exact .ty _ | exact dp_ty (by assumption) | exact kit_strD _ | exact kit_tupD _ | exact kit_intD _ | exact kit_boolD _ | exact ⟨_, rfl⟩ | decide | omega | exact (show 0 ≤ sizeLine by decide) | exact (show 1 ≤ sizeLine by decide) | exact (show 2 ≤ sizeLine by decide) | exact (show 3 ≤ sizeLine by decide) | exact (show 4 ≤ sizeLine by decide) | exact (show 5 ≤ sizeLine by decide) | exact (show 6 ≤ sizeLine by decide) | decide +kernel)) | apply Exists.intro | refine iteT ?_ | refine iteF ?_)
      refine ifnn nn ?_
      repeat (first | (refine And.intro ?_ ?_; · (first | exact rfl | (show (_ : Int) ≤ _; omega) | (show (_ : Int) < _; omega) | assumption | exact SqL.of upd_same | exact SqT.of upd_same | exact upd_same | exact Drew.at_ (by assumption) | exact at_of (j := 0) rfl rfl | exact at_of (j := 1) rfl rfl | exact at_of (j := 2) rfl rfl | exact at_of (j := 3) rfl rfl | exact .inr (by assumption) | exact .inl (by assumption) | exact .ty _ | exact dp_ty (by assumption) | exact kit_strD _ | exact kit_tupD _ | exact kit_intD _ | exact kit_boolD _ | exact ⟨_, rfl⟩ | decide | omega | exact (show 0 ≤ sizeLine by decide) | exact (show 1 ≤ sizeLine by decide) | exact (show 2 ≤ sizeLine by decide) | exact (show 3 ≤ sizeLine by decide) | exact (show 4 ≤ sizeLine by decide) | exact (show 5 ≤ sizeLine by decide) | exact (show 6 ≤ sizeLine by decide) | decide +kernel)) | apply Exists.intro | refine iteT ?_ | refine iteF ?_)
      refine iteB (fun c6 => ?_) (fun c6 => ?_)
      · repeat (first | (refine And.intro ?_ ?_; · (first | exact rfl | (show (_ : Int) ≤ _; omega) | (show (_ : Int) < _; omega) | assumption | exact SqL.of upd_same | exact SqT.of upd_same | exact upd_same | exact Drew.at_ (by assumption) | exact at_of (j := 0) rfl rfl | exact at_of (j := 1) rfl rfl | exact at_of (j := 2) rfl rfl | exact at_of (j := 3) rfl rfl | exact .inr (by assumption) | exact .inl (by assumption) | exact .ty _ | exact dp_ty (by assumption) | exact kit_strD _ | exact kit_tupD _ | exact kit_intD _ | exact kit_boolD _ | exact ⟨_, rfl⟩ | decide | omega | exact (show 0 ≤ sizeLine by decide) | exact (show 1 ≤ sizeLine by decide) | exact (show 2 ≤ sizeLine by decide) | exact (show 3 ≤ sizeLine by decide) | exact (show 4 ≤ sizeLine by decide) | exact (show 5 ≤ sizeLine by decide) | exact (show 6 ≤ sizeLine by decide) | decide +kernel)) | apply Exists.intro | refine iteT ?_ | refine iteF ?_)
        refine fin _ s1 fun z => ?_
        obtain ⟨m, n', z, h0, h1, h2, _⟩ := (key Iff.rfl).mp z
        cases z
        rcases h2 with ⟨h2, _⟩ | ⟨k, h2, h3, h4, _⟩
        · exact cm h2
        · cases h2
          exact inR_no c6 ⟨h3, by omega⟩
      obtain ⟨k1, rfl, k0, k2⟩ := inR_int c6
      cases hm
      have k3 : k1 ≤ 10 ^ 60 := by omega
      clear nn cm
      repeat (first | (refine And.intro ?_ ?_; · (first | exact rfl | (show (_ : Int) ≤ _; omega) | (show (_ : Int) < _; omega) | assumption | exact SqL.of upd_same | exact SqT.of upd_same | exact upd_same | exact Drew.at_ (by assumption) | exact at_of (j := 0) rfl rfl | exact at_of (j := 1) rfl rfl | exact at_of (j := 2) rfl rfl | exact at_of (j := 3) rfl rfl | exact .inr (by assumption) | exact .inl (by assumption) | exact .ty _ | exact dp_ty (by assumption) | exact kit_strD _ | exact kit_tupD _ | exact kit_intD _ | exact kit_boolD _ | exact ⟨_, rfl⟩ | decide | omega | exact (show 0 ≤ sizeLine by decide) | exact (show 1 ≤ sizeLine by decide) | exact (show 2 ≤ sizeLine by decide) | exact (show 3 ≤ sizeLine by decide) | exact (show 4 ≤ sizeLine by decide) | exact (show 5 ≤ sizeLine by decide) | exact (show 6 ≤ sizeLine by decide) | decide +kernel)) | apply Exists.intro | refine iteT ?_ | refine iteF ?_)
      refine ifn (fun c7 => ?_) (fun c7 => ?_)
      · have c7 : ¬ n = k1 + 1 := c7
        repeat (first | (refine And.intro ?_ ?_; · (first | exact rfl | (show (_ : Int) ≤ _; omega) | (show (_ : Int) < _; omega) | assumption | exact SqL.of upd_same | exact SqT.of upd_same | exact upd_same | exact Drew.at_ (by assumption) | exact at_of (j := 0) rfl rfl | exact at_of (j := 1) rfl rfl | exact at_of (j := 2) rfl rfl | exact at_of (j := 3) rfl rfl | exact .inr (by assumption) | exact .inl (by assumption) | exact .ty _ | exact dp_ty (by assumption) | exact kit_strD _ | exact kit_tupD _ | exact kit_intD _ | exact kit_boolD _ | exact ⟨_, rfl⟩ | decide | omega | exact (show 0 ≤ sizeLine by decide) | exact (show 1 ≤ sizeLine by decide) | exact (show 2 ≤ sizeLine by decide) | exact (show 3 ≤ sizeLine by decide) | exact (show 4 ≤ sizeLine by decide) | exact (show 5 ≤ sizeLine by decide) | exact (show 6 ≤ sizeLine by decide) | decide +kernel)) | apply Exists.intro | refine iteT ?_ | refine iteF ?_)
        refine fin _ s1 fun z => ?_
        obtain ⟨m, n', z, h0, h1, h2, _⟩ := (key Iff.rfl).mp z
        cases z
        rcases h2 with ⟨h2, _⟩ | ⟨k, h2, h3, h4, _⟩
        · cases h2
        · cases h2
          exact c7 h4
      have c7 : n = k1 + 1 := c7
      repeat (first | (refine And.intro ?_ ?_; · (first | exact rfl | (show (_ : Int) ≤ _; omega) | (show (_ : Int) < _; omega) | assumption | exact SqL.of upd_same | exact SqT.of upd_same | exact upd_same | exact Drew.at_ (by assumption) | exact at_of (j := 0) rfl rfl | exact at_of (j := 1) rfl rfl | exact at_of (j := 2) rfl rfl | exact at_of (j := 3) rfl rfl | exact .inr (by assumption) | exact .inl (by assumption) | exact .ty _ | exact dp_ty (by assumption) | exact kit_strD _ | exact kit_tupD _ | exact kit_intD _ | exact kit_boolD _ | exact ⟨_, rfl⟩ | decide | omega | exact (show 0 ≤ sizeLine by decide) | exact (show 1 ≤ sizeLine by decide) | exact (show 2 ≤ sizeLine by decide) | exact (show 3 ≤ sizeLine by decide) | exact (show 4 ≤ sizeLine by decide) | exact (show 5 ≤ sizeLine by decide) | exact (show 6 ≤ sizeLine by decide) | decide +kernel)) | apply Exists.intro | refine iteT ?_ | refine iteF ?_)
      intro v H2 s12 fs
      have s2 : Same H H2 := fun x o y => s12 _ _ (s1 _ _ y)
      have hS2 := sqT_same s2 hS
      have hl2 := s12 _ _ hl
      have hs2 := hs.same s12
      rcases fs with ⟨rfl, fno⟩ | ⟨i, rfl, fs⟩
      · repeat (first | (refine And.intro ?_ ?_; · (first | exact rfl | (show (_ : Int) ≤ _; omega) | (show (_ : Int) < _; omega) | assumption | exact SqL.of upd_same | exact SqT.of upd_same | exact upd_same | exact Drew.at_ (by assumption) | exact at_of (j := 0) rfl rfl | exact at_of (j := 1) rfl rfl | exact at_of (j := 2) rfl rfl | exact at_of (j := 3) rfl rfl | exact .inr (by assumption) | exact .inl (by assumption) | exact .ty _ | exact dp_ty (by assumption) | exact kit_strD _ | exact kit_tupD _ | exact kit_intD _ | exact kit_boolD _ | exact ⟨_, rfl⟩ | decide | omega | exact (show 0 ≤ sizeLine by decide) | exact (show 1 ≤ sizeLine by decide) | exact (show 2 ≤ sizeLine by decide) | exact (show 3 ≤ sizeLine by decide) | exact (show 4 ≤ sizeLine by decide) | exact (show 5 ≤ sizeLine by decide) | exact (show 6 ≤ sizeLine by decide) | decide +kernel)) | apply Exists.intro | refine iteT ?_ | refine iteF ?_)
        intro v H3 s23 fs
        have s3 : Same H H3 := fun x o y => s23 _ _ (s2 _ _ y)
        have hS3 := sqT_same s3 hS
        refine gn0 ?_
        rcases id fs with ⟨rfl, _⟩ | ⟨i, rfl, _⟩
        · repeat (first | (refine And.intro ?_ ?_; · (first | exact rfl | (show (_ : Int) ≤ _; omega) | (show (_ : Int) < _; omega) | assumption | exact SqL.of upd_same | exact SqT.of upd_same | exact upd_same | exact Drew.at_ (by assumption) | exact at_of (j := 0) rfl rfl | exact at_of (j := 1) rfl rfl | exact at_of (j := 2) rfl rfl | exact at_of (j := 3) rfl rfl | exact .inr (by assumption) | exact .inl (by assumption) | exact .ty _ | exact dp_ty (by assumption) | exact kit_strD _ | exact kit_tupD _ | exact kit_intD _ | exact kit_boolD _ | exact ⟨_, rfl⟩ | decide | omega | exact (show 0 ≤ sizeLine by decide) | exact (show 1 ≤ sizeLine by decide) | exact (show 2 ≤ sizeLine by decide) | exact (show 3 ≤ sizeLine by decide) | exact (show 4 ≤ sizeLine by decide) | exact (show 5 ≤ sizeLine by decide) | exact (show 6 ≤ sizeLine by decide) | decide +kernel)) | apply Exists.intro | refine iteT ?_ | refine iteF ?_)
          refine fin _ s3 fun z => ?_
          obtain ⟨m, n', z, _, _, _, f2⟩ := (key Iff.rfl).mp z
          cases z
          have := fs.eq f2
          cases this
        · repeat (first | (refine And.intro ?_ ?_; · (first | exact rfl | (show (_ : Int) ≤ _; omega) | (show (_ : Int) < _; omega) | assumption | exact SqL.of upd_same | exact SqT.of upd_same | exact upd_same | exact Drew.at_ (by assumption) | exact at_of (j := 0) rfl rfl | exact at_of (j := 1) rfl rfl | exact at_of (j := 2) rfl rfl | exact at_of (j := 3) rfl rfl | exact .inr (by assumption) | exact .inl (by assumption) | exact .ty _ | exact dp_ty (by assumption) | exact kit_strD _ | exact kit_tupD _ | exact kit_intD _ | exact kit_boolD _ | exact ⟨_, rfl⟩ | decide | omega | exact (show 0 ≤ sizeLine by decide) | exact (show 1 ≤ sizeLine by decide) | exact (show 2 ≤ sizeLine by decide) | exact (show 3 ≤ sizeLine by decide) | exact (show 4 ≤ sizeLine by decide) | exact (show 5 ≤ sizeLine by decide) | exact (show 6 ≤ sizeLine by decide) | decide +kernel)) | apply Exists.intro | refine iteT ?_ | refine iteF ?_)
          refine k _ _ (Iff.trans ?_ (key Iff.rfl).symm) s3
          refine ⟨fun z => ⟨_, _, rfl, n0, n1, .inr ⟨k1, rfl, k0, c7, fno⟩, ?_⟩, fun ⟨m, n', z, _, _, _, f2⟩ => ?_⟩
          · rw [← of_decide_eq_true z]
            exact fs
          · cases z
            have e := fs.eq f2
            injection e with e
            exact decide_eq_true e
      · repeat (first | (refine And.intro ?_ ?_; · (first | exact rfl | (show (_ : Int) ≤ _; omega) | (show (_ : Int) < _; omega) | assumption | exact SqL.of upd_same | exact SqT.of upd_same | exact upd_same | exact Drew.at_ (by assumption) | exact at_of (j := 0) rfl rfl | exact at_of (j := 1) rfl rfl | exact at_of (j := 2) rfl rfl | exact at_of (j := 3) rfl rfl | exact .inr (by assumption) | exact .inl (by assumption) | exact .ty _ | exact dp_ty (by assumption) | exact kit_strD _ | exact kit_tupD _ | exact kit_intD _ | exact kit_boolD _ | exact ⟨_, rfl⟩ | decide | omega | exact (show 0 ≤ sizeLine by decide) | exact (show 1 ≤ sizeLine by decide) | exact (show 2 ≤ sizeLine by decide) | exact (show 3 ≤ sizeLine by decide) | exact (show 4 ≤ sizeLine by decide) | exact (show 5 ≤ sizeLine by decide) | exact (show 6 ≤ sizeLine by decide) | decide +kernel)) | apply Exists.intro | refine iteT ?_ | refine iteF ?_)
        refine fin _ s2 fun z => ?_
        obtain ⟨m, n', z, _, _, h2, _⟩ := (key Iff.rfl).mp z
        cases z
        rcases h2 with ⟨h2, _⟩ | ⟨k, h2, h3, h4, h5⟩
        · cases h2
        · cases h2
          exact h5 _ fs.1
end
/-! ### the checker, of all seven words -/
def HoldsAll (d e : PyData) : Prop := ∃ ds, (d = .tuple (.str "size" :: ds) ∧ e = .tuple [] ∧ SizeP ds) ∨ (d = .tuple (.str "other" :: ds) ∧ e = .tuple [] ∧ UnlP false ds) ∨ (d = .tuple (.str "longer" :: ds) ∧ e = .tuple [] ∧ UnlP true ds) ∨ (d = .tuple (.str "payload" :: ds) ∧ PayP ds e) ∨ (d = .tuple (.str "missed" :: ds) ∧ MisP ds e) ∨ (d = .tuple (.str "doubled" :: ds) ∧ DblP ds e) ∨ (d = .tuple (.str "stopped" :: ds) ∧ StpP ds e)
def TextsOk (d : PyData) : Prop := ∀ ds, d = .tuple ds → ∀ x ∈ ds, TextOk x ∧ StepTexts x
def spHolds (K : PySem.W.Frag) : Sp := fun vs H Q _ => ∃ (v u : V) (d e : PyData), vs = [v, u] ∧ Dp K H v d ∧ Dp K H u e ∧ Small e ∧ TextsOk d ∧ ∀ r H', (r = true ↔ HoldsAll d e) → Same H H' → Q (.bl r) H'
theorem ifw_neg {b : Bool} {A B : Prop} (h : b = false) (a : B) : if b = true then A else B := by
  rw [h, if_neg Bool.false_ne_true]
  exact a
theorem ifw_pos {b : Bool} {A B : Prop} (h : b = true) (a : A) : if b = true then A else B := by
  rw [h, if_pos rfl]
  exact a
theorem hol_word {w : Str} {ds : List PyData} {e : PyData} (h : HoldsAll (.tuple (.str w :: ds)) e) : w = "size" ∧ e = .tuple [] ∧ SizeP ds ∨ w = "other" ∧ e = .tuple [] ∧ UnlP false ds ∨ w = "longer" ∧ e = .tuple [] ∧ UnlP true ds ∨ w = "payload" ∧ PayP ds e ∨ w = "missed" ∧ MisP ds e ∨ w = "doubled" ∧ DblP ds e ∨ w = "stopped" ∧ StpP ds e := by
  obtain ⟨ds', h⟩ := h
  rcases h with ⟨z, h⟩ | ⟨z, h⟩ | ⟨z, h⟩ | ⟨z, h⟩ | ⟨z, h⟩ | ⟨z, h⟩ | ⟨z, h⟩ <;> cases z
  · exact .inl ⟨rfl, h⟩
  · exact .inr (.inl ⟨rfl, h⟩)
  · exact .inr (.inr (.inl ⟨rfl, h⟩))
  · exact .inr (.inr (.inr (.inl ⟨rfl, h⟩)))
  · exact .inr (.inr (.inr (.inr (.inl ⟨rfl, h⟩))))
  · exact .inr (.inr (.inr (.inr (.inr (.inl ⟨rfl, h⟩)))))
  · exact .inr (.inr (.inr (.inr (.inr (.inr ⟨rfl, h⟩)))))
theorem hol_tup {d e : PyData} (h : HoldsAll d e) : ∃ w ds, d = .tuple (.str w :: ds) := by
  obtain ⟨ds', h⟩ := h
  rcases h with ⟨z, h⟩ | ⟨z, h⟩ | ⟨z, h⟩ | ⟨z, h⟩ | ⟨z, h⟩ | ⟨z, h⟩ | ⟨z, h⟩ <;> exact ⟨_, _, z⟩
section
variable {P : Program} {w : World} {K : PySem.W.Frag} {mg : Str → Option Value} {base : Heap}
theorem ok_holds (T : Tx w K mg) : Prom P w K mg base CX0 11 "holds" s_holds ["claim", "paper"] (spHolds K) := by
  refine Prom.of T.d_holds sc_holds (fun vs H Q E h => ?_) (fun _ _ _ _ _ _ us hl => match us, hl with | [_, _], _ => rfl) (fun f cdv A outer s H vs Q E hr h => ?_)
  · obtain ⟨v, u, d, e, rfl, _⟩ := h
    rfl
  · obtain ⟨v, u, d, e, rfl, hd, he, sm, tx, k⟩ := h
    refine ⟨_, (pss_cons (ps_if (PW.pt (pw_or (pt_not (pt_val (pe_callB call_isi (by rfl) T.b_isinstance (by decide +kernel) (pa_cons (pv 0) (pa_cons (pe_bltn (v := .ty "tuple") (by rfl) T.b_tuple (by decide +kernel) rfl) pa_nil))))) (pw_or (pt_cmp (pc_eqI (pe_callB call_len_seq (by rfl) T.b_len (by decide +kernel) (pa_cons (pv 0) pa_nil)) pe_int)) (pw_or1 (pt_not (pt_val (pe_callB call_isi (by rfl) T.b_isinstance (by decide +kernel) (pa_cons (pe_ix ix_tup (pv 0) pe_int (fun _ _ => rfl)) (pa_cons (pe_bltn (v := .ty "str") (by rfl) T.b_str (by decide +kernel) rfl) pa_nil))))))))) (pss_one (ps_ret pe_bl)) pss_nil)
      (pss_cons (ps_par (i := 2) (j := 3) (by rfl) sc_holds.nd rfl rfl (by decide) rfl rfl (pa_cons (pe_ix ix_tup (pv 0) pe_int (fun _ _ => rfl)) (pa_cons (pe_slice sl_tup (pv 0) (po_some pe_int) po_none) pa_nil)) (by rfl))
      (pss_cons (ps_if (pt_cmpR op_in_seq (pv 2) (pe_tup (pa_cons pe_str (pa_cons pe_str (pa_cons pe_str pa_nil)))) (by rfl)) (pss_cons (ps_if (PW.pt (pw_or (pt_not (pt_val (pe_callB call_isi (by rfl) T.b_isinstance (by decide +kernel) (pa_cons (pv 1) (pa_cons (pe_bltn (v := .ty "tuple") (by rfl) T.b_tuple (by decide +kernel) rfl) pa_nil))))) (pw_or1 (pt_cmp (pc_gt (pe_callB call_len_seq (by rfl) T.b_len (by decide +kernel) (pa_cons (pv 1) pa_nil)) pe_int))))) (pss_one (ps_ret pe_bl)) pss_nil)
      (pss_one (ps_ret (pe_ifExp (pt_cmpR op_eq (pv 2) pe_str (nomark _)) (pe_callP (ok_has_size T) (hr.mono (by decide)) (by rfl) pass0 (pa_cons (pv 3) pa_nil)) (pe_callP (ok_unlike_sizes T) (hr.mono (by decide)) (by rfl) pass0 (pa_cons (pv 3) (pa_cons (pe_cmpR op_eq (pv 2) pe_str (nomark _)) pa_nil))))))) pss_nil)
      (pss_cons (ps_if (pt_cmpR op_eq (pv 2) pe_str (nomark _)) (pss_one (ps_ret (pe_callP (ok_shows_payload T) (hr.mono (by decide)) (by rfl) pass0 (pa_cons (pv 3) (pa_cons (pv 1) pa_nil))))) pss_nil)
      (pss_cons (ps_if (pt_cmpR op_eq (pv 2) pe_str (nomark _)) (pss_one (ps_ret (pe_callP (ok_shows_missed T) (hr.mono (by decide)) (by rfl) pass0 (pa_cons (pv 3) (pa_cons (pv 1) pa_nil))))) pss_nil)
      (pss_cons (ps_if (pt_cmpR op_eq (pv 2) pe_str (nomark _)) (pss_one (ps_ret (pe_callP (ok_shows_doubled T) (hr.mono (by decide)) (by rfl) pass0 (pa_cons (pv 3) (pa_cons (pv 1) pa_nil))))) pss_nil)
      (pss_one (ps_ret (pe_and (pe_cmpR op_eq (pv 2) pe_str (nomark _)) (pe_one (pe_callP (ok_shows_stopped T) (hr.mono (by decide)) (by rfl) pass0 (pa_cons (pv 3) (pa_cons (pv 1) pa_nil))))))))))))), ?_⟩
    have fin : ∀ H', Same H H' → ¬ HoldsAll d e → Q (.bl false) H' := fun H' s n => k _ _ (nb n) s
    repeat (first | (refine And.intro ?_ ?_; · (first | exact rfl | (show (_ : Int) ≤ _; omega) | (show (_ : Int) < _; omega) | assumption | exact SqL.of upd_same | exact SqT.of upd_same | exact upd_same | exact Drew.at_ (by assumption) | exact at_of (j := 0) rfl rfl | exact at_of (j := 1) rfl rfl | exact at_of (j := 2) rfl rfl | exact at_of (j := 3) rfl rfl | exact .inr (by assumption) | exact .inl (by assumption) | exact .ty _ | exact dp_ty (by assumption) | exact kit_strD _ | exact kit_tupD _ | exact kit_intD _ | exact kit_boolD _ | exact ⟨_, rfl⟩ | decide | omega | exact (show 0 ≤ sizeLine by decide) | exact (show 1 ≤ sizeLine by decide) | exact (show 2 ≤ sizeLine by decide) | exact (show 3 ≤ sizeLine by decide) | exact (show 4 ≤ sizeLine by decide) | exact (show 5 ≤ sizeLine by decide) | exact (show 6 ≤ sizeLine by decide) | decide +kernel)) | apply Exists.intro | refine iteT ?_ | refine iteF ?_)
    refine iteB (fun hb => ?_) (fun hb => ?_)
    · repeat (first | (refine And.intro ?_ ?_; · (first | exact rfl | (show (_ : Int) ≤ _; omega) | (show (_ : Int) < _; omega) | assumption | exact SqL.of upd_same | exact SqT.of upd_same | exact upd_same | exact Drew.at_ (by assumption) | exact at_of (j := 0) rfl rfl | exact at_of (j := 1) rfl rfl | exact at_of (j := 2) rfl rfl | exact at_of (j := 3) rfl rfl | exact .inr (by assumption) | exact .inl (by assumption) | exact .ty _ | exact dp_ty (by assumption) | exact kit_strD _ | exact kit_tupD _ | exact kit_intD _ | exact kit_boolD _ | exact ⟨_, rfl⟩ | decide | omega | exact (show 0 ≤ sizeLine by decide) | exact (show 1 ≤ sizeLine by decide) | exact (show 2 ≤ sizeLine by decide) | exact (show 3 ≤ sizeLine by decide) | exact (show 4 ≤ sizeLine by decide) | exact (show 5 ≤ sizeLine by decide) | exact (show 6 ≤ sizeLine by decide) | decide +kernel)) | apply Exists.intro | refine iteT ?_ | refine iteF ?_)
      refine fin _ (Same.refl H) fun z => ?_
      obtain ⟨w, ds, z⟩ := hol_tup z
      rw [z] at hb
      cases hb
    obtain ⟨ds, rfl⟩ := tupD_of hb
    obtain ⟨a, xs, rfl, h1, h2⟩ : ∃ a xs, v = .ref a ∧ SqT K H a xs ∧ DpAll K H xs ds := by
      cases hd with
      | tup h1 h2 => exact ⟨_, _, rfl, h1, h2⟩
    repeat (first | (refine And.intro ?_ ?_; · (first | exact rfl | (show (_ : Int) ≤ _; omega) | (show (_ : Int) < _; omega) | assumption | exact SqL.of upd_same | exact SqT.of upd_same | exact upd_same | exact Drew.at_ (by assumption) | exact at_of (j := 0) rfl rfl | exact at_of (j := 1) rfl rfl | exact at_of (j := 2) rfl rfl | exact at_of (j := 3) rfl rfl | exact .inr (by assumption) | exact .inl (by assumption) | exact .ty _ | exact dp_ty (by assumption) | exact kit_strD _ | exact kit_tupD _ | exact kit_intD _ | exact kit_boolD _ | exact ⟨_, rfl⟩ | decide | omega | exact (show 0 ≤ sizeLine by decide) | exact (show 1 ≤ sizeLine by decide) | exact (show 2 ≤ sizeLine by decide) | exact (show 3 ≤ sizeLine by decide) | exact (show 4 ≤ sizeLine by decide) | exact (show 5 ≤ sizeLine by decide) | exact (show 6 ≤ sizeLine by decide) | decide +kernel)) | apply Exists.intro | refine iteT ?_ | refine iteF ?_)
    refine ifd (fun c => ?_) (fun c => ?_)
    · have c : xs = [] := List.length_eq_zero_iff.mp (by have : (xs.length : Int) = 0 := c; omega)
      subst c
      obtain rfl := DpAll.zero h2
      repeat (first | (refine And.intro ?_ ?_; · (first | exact rfl | (show (_ : Int) ≤ _; omega) | (show (_ : Int) < _; omega) | assumption | exact SqL.of upd_same | exact SqT.of upd_same | exact upd_same | exact Drew.at_ (by assumption) | exact at_of (j := 0) rfl rfl | exact at_of (j := 1) rfl rfl | exact at_of (j := 2) rfl rfl | exact at_of (j := 3) rfl rfl | exact .inr (by assumption) | exact .inl (by assumption) | exact .ty _ | exact dp_ty (by assumption) | exact kit_strD _ | exact kit_tupD _ | exact kit_intD _ | exact kit_boolD _ | exact ⟨_, rfl⟩ | decide | omega | exact (show 0 ≤ sizeLine by decide) | exact (show 1 ≤ sizeLine by decide) | exact (show 2 ≤ sizeLine by decide) | exact (show 3 ≤ sizeLine by decide) | exact (show 4 ≤ sizeLine by decide) | exact (show 5 ≤ sizeLine by decide) | exact (show 6 ≤ sizeLine by decide) | decide +kernel)) | apply Exists.intro | refine iteT ?_ | refine iteF ?_)
      refine fin _ (Same.refl H) fun z => ?_
      obtain ⟨w, ds, z⟩ := hol_tup z
      cases z
    cases h2 with
    | nil => exact absurd rfl c
    | cons hx h2 =>
    rename_i x xs d0 ds
    clear c hb
    repeat (first | (refine And.intro ?_ ?_; · (first | exact rfl | (show (_ : Int) ≤ _; omega) | (show (_ : Int) < _; omega) | assumption | exact SqL.of upd_same | exact SqT.of upd_same | exact upd_same | exact Drew.at_ (by assumption) | exact at_of (j := 0) rfl rfl | exact at_of (j := 1) rfl rfl | exact at_of (j := 2) rfl rfl | exact at_of (j := 3) rfl rfl | exact .inr (by assumption) | exact .inl (by assumption) | exact .ty _ | exact dp_ty (by assumption) | exact kit_strD _ | exact kit_tupD _ | exact kit_intD _ | exact kit_boolD _ | exact ⟨_, rfl⟩ | decide | omega | exact (show 0 ≤ sizeLine by decide) | exact (show 1 ≤ sizeLine by decide) | exact (show 2 ≤ sizeLine by decide) | exact (show 3 ≤ sizeLine by decide) | exact (show 4 ≤ sizeLine by decide) | exact (show 5 ≤ sizeLine by decide) | exact (show 6 ≤ sizeLine by decide) | decide +kernel)) | apply Exists.intro | refine iteT ?_ | refine iteF ?_)
    refine iteB (fun hb => ?_) (fun hb => ?_)
    · repeat (first | (refine And.intro ?_ ?_; · (first | exact rfl | (show (_ : Int) ≤ _; omega) | (show (_ : Int) < _; omega) | assumption | exact SqL.of upd_same | exact SqT.of upd_same | exact upd_same | exact Drew.at_ (by assumption) | exact at_of (j := 0) rfl rfl | exact at_of (j := 1) rfl rfl | exact at_of (j := 2) rfl rfl | exact at_of (j := 3) rfl rfl | exact .inr (by assumption) | exact .inl (by assumption) | exact .ty _ | exact dp_ty (by assumption) | exact kit_strD _ | exact kit_tupD _ | exact kit_intD _ | exact kit_boolD _ | exact ⟨_, rfl⟩ | decide | omega | exact (show 0 ≤ sizeLine by decide) | exact (show 1 ≤ sizeLine by decide) | exact (show 2 ≤ sizeLine by decide) | exact (show 3 ≤ sizeLine by decide) | exact (show 4 ≤ sizeLine by decide) | exact (show 5 ≤ sizeLine by decide) | exact (show 6 ≤ sizeLine by decide) | decide +kernel)) | apply Exists.intro | refine iteT ?_ | refine iteF ?_)
      refine fin _ (Same.refl H) fun z => ?_
      obtain ⟨w, ds, z⟩ := hol_tup z
      cases z
      cases hb
    obtain ⟨word, rfl⟩ := strD_of hb
    cases hx
    repeat (first | (refine And.intro ?_ ?_; · (first | exact rfl | (show (_ : Int) ≤ _; omega) | (show (_ : Int) < _; omega) | assumption | exact SqL.of upd_same | exact SqT.of upd_same | exact upd_same | exact Drew.at_ (by assumption) | exact at_of (j := 0) rfl rfl | exact at_of (j := 1) rfl rfl | exact at_of (j := 2) rfl rfl | exact at_of (j := 3) rfl rfl | exact .inr (by assumption) | exact .inl (by assumption) | exact .ty _ | exact dp_ty (by assumption) | exact kit_strD _ | exact kit_tupD _ | exact kit_intD _ | exact kit_boolD _ | exact ⟨_, rfl⟩ | decide | omega | exact (show 0 ≤ sizeLine by decide) | exact (show 1 ≤ sizeLine by decide) | exact (show 2 ≤ sizeLine by decide) | exact (show 3 ≤ sizeLine by decide) | exact (show 4 ≤ sizeLine by decide) | exact (show 5 ≤ sizeLine by decide) | exact (show 6 ≤ sizeLine by decide) | decide +kernel)) | apply Exists.intro | refine iteT ?_ | refine iteF ?_)
    refine ⟨cut1_no, fun q hq => ?_⟩
    have s1 : Same H (upd H q (.tup xs)) := up hq
    have hS : SqT K (upd H q (.tup xs)) q xs := SqT.of upd_same
    rw [cut1]
    repeat (first | (refine And.intro ?_ ?_; · (first | exact rfl | (show (_ : Int) ≤ _; omega) | (show (_ : Int) < _; omega) | assumption | exact SqL.of upd_same | exact SqT.of upd_same | exact upd_same | exact Drew.at_ (by assumption) | exact at_of (j := 0) rfl rfl | exact at_of (j := 1) rfl rfl | exact at_of (j := 2) rfl rfl | exact at_of (j := 3) rfl rfl | exact .inr (by assumption) | exact .inl (by assumption) | exact .ty _ | exact dp_ty (by assumption) | exact kit_strD _ | exact kit_tupD _ | exact kit_intD _ | exact kit_boolD _ | exact ⟨_, rfl⟩ | decide | omega | exact (show 0 ≤ sizeLine by decide) | exact (show 1 ≤ sizeLine by decide) | exact (show 2 ≤ sizeLine by decide) | exact (show 3 ≤ sizeLine by decide) | exact (show 4 ≤ sizeLine by decide) | exact (show 5 ≤ sizeLine by decide) | exact (show 6 ≤ sizeLine by decide) | decide +kernel)) | apply Exists.intro | refine iteT ?_ | refine iteF ?_)
    intro p hp
    have s2 := up (o := .tup [.str "other", .str "longer", .str "size"]) hp
    have s3 : Same H _ := fun x o e => s2 _ _ (s1 _ _ e)
    have hT : SqT K (upd (upd H q (.tup xs)) p (.tup [.str "other", .str "longer", .str "size"])) p [.str "other", .str "longer", .str "size"] := SqT.of upd_same
    have hS := sqT_same s2 hS
    generalize upd (upd H q (.tup xs)) p (.tup [.str "other", .str "longer", .str "size"]) = G at *
    have h2 := DpAll.same s3 h2
    have he := Dp.same s3 he
    have fin : ∀ H', Same G H' → ¬ HoldsAll (.tuple (.str word :: ds)) e → Q (.bl false) H' := fun H' s n => fin _ (fun x o y => s _ _ (s3 _ _ y)) n
    repeat (first | (refine And.intro ?_ ?_; · (first | exact rfl | (show (_ : Int) ≤ _; omega) | (show (_ : Int) < _; omega) | assumption | exact SqL.of upd_same | exact SqT.of upd_same | exact upd_same | exact Drew.at_ (by assumption) | exact at_of (j := 0) rfl rfl | exact at_of (j := 1) rfl rfl | exact at_of (j := 2) rfl rfl | exact at_of (j := 3) rfl rfl | exact .inr (by assumption) | exact .inl (by assumption) | exact .ty _ | exact dp_ty (by assumption) | exact kit_strD _ | exact kit_tupD _ | exact kit_intD _ | exact kit_boolD _ | exact ⟨_, rfl⟩ | decide | omega | exact (show 0 ≤ sizeLine by decide) | exact (show 1 ≤ sizeLine by decide) | exact (show 2 ≤ sizeLine by decide) | exact (show 3 ≤ sizeLine by decide) | exact (show 4 ≤ sizeLine by decide) | exact (show 5 ≤ sizeLine by decide) | exact (show 6 ≤ sizeLine by decide) | decide +kernel)) | apply Exists.intro | refine iteT ?_ | refine iteF ?_)
    have tx2 : ∀ x ∈ ds, StepTexts x := fun x hx => (tx _ rfl x (.tail _ hx)).2
    have tx : ∀ x ∈ ds, TextOk x := fun x hx => (tx _ rfl x (.tail _ hx)).1
    refine ifs (fun c => ?_) (fun c => ?_)
    · repeat (first | (refine And.intro ?_ ?_; · (first | exact rfl | (show (_ : Int) ≤ _; omega) | (show (_ : Int) < _; omega) | assumption | exact SqL.of upd_same | exact SqT.of upd_same | exact upd_same | exact Drew.at_ (by assumption) | exact at_of (j := 0) rfl rfl | exact at_of (j := 1) rfl rfl | exact at_of (j := 2) rfl rfl | exact at_of (j := 3) rfl rfl | exact .inr (by assumption) | exact .inl (by assumption) | exact .ty _ | exact dp_ty (by assumption) | exact kit_strD _ | exact kit_tupD _ | exact kit_intD _ | exact kit_boolD _ | exact ⟨_, rfl⟩ | decide | omega | exact (show 0 ≤ sizeLine by decide) | exact (show 1 ≤ sizeLine by decide) | exact (show 2 ≤ sizeLine by decide) | exact (show 3 ≤ sizeLine by decide) | exact (show 4 ≤ sizeLine by decide) | exact (show 5 ≤ sizeLine by decide) | exact (show 6 ≤ sizeLine by decide) | decide +kernel)) | apply Exists.intro | refine iteT ?_ | refine iteF ?_)
      refine iteB (fun hb => ?_) (fun hb => ?_)
      · repeat (first | (refine And.intro ?_ ?_; · (first | exact rfl | (show (_ : Int) ≤ _; omega) | (show (_ : Int) < _; omega) | assumption | exact SqL.of upd_same | exact SqT.of upd_same | exact upd_same | exact Drew.at_ (by assumption) | exact at_of (j := 0) rfl rfl | exact at_of (j := 1) rfl rfl | exact at_of (j := 2) rfl rfl | exact at_of (j := 3) rfl rfl | exact .inr (by assumption) | exact .inl (by assumption) | exact .ty _ | exact dp_ty (by assumption) | exact kit_strD _ | exact kit_tupD _ | exact kit_intD _ | exact kit_boolD _ | exact ⟨_, rfl⟩ | decide | omega | exact (show 0 ≤ sizeLine by decide) | exact (show 1 ≤ sizeLine by decide) | exact (show 2 ≤ sizeLine by decide) | exact (show 3 ≤ sizeLine by decide) | exact (show 4 ≤ sizeLine by decide) | exact (show 5 ≤ sizeLine by decide) | exact (show 6 ≤ sizeLine by decide) | decide +kernel)) | apply Exists.intro | refine iteT ?_ | refine iteF ?_)
        refine fin _ (Same.refl G) fun z => ?_
        rcases hol_word z with z | z | z | ⟨z, _⟩ | ⟨z, _⟩ | ⟨z, _⟩ | ⟨z, _⟩
        · rw [z.2.1] at hb
          cases hb
        · rw [z.2.1] at hb
          cases hb
        · rw [z.2.1] at hb
          cases hb
        all_goals
          subst z
          rcases c with c | c | c <;> exact absurd c (by decide)
      obtain ⟨es, rfl⟩ := tupD_of hb
      cases he with
      | tup g1 g2 =>
      rename_i b ys
      repeat (first | (refine And.intro ?_ ?_; · (first | exact rfl | (show (_ : Int) ≤ _; omega) | (show (_ : Int) < _; omega) | assumption | exact SqL.of upd_same | exact SqT.of upd_same | exact upd_same | exact Drew.at_ (by assumption) | exact at_of (j := 0) rfl rfl | exact at_of (j := 1) rfl rfl | exact at_of (j := 2) rfl rfl | exact at_of (j := 3) rfl rfl | exact .inr (by assumption) | exact .inl (by assumption) | exact .ty _ | exact dp_ty (by assumption) | exact kit_strD _ | exact kit_tupD _ | exact kit_intD _ | exact kit_boolD _ | exact ⟨_, rfl⟩ | decide | omega | exact (show 0 ≤ sizeLine by decide) | exact (show 1 ≤ sizeLine by decide) | exact (show 2 ≤ sizeLine by decide) | exact (show 3 ≤ sizeLine by decide) | exact (show 4 ≤ sizeLine by decide) | exact (show 5 ≤ sizeLine by decide) | exact (show 6 ≤ sizeLine by decide) | decide +kernel)) | apply Exists.intro | refine iteT ?_ | refine iteF ?_)
      refine ifd (fun c0 => ?_) (fun c0 => ?_)
      · repeat (first | (refine And.intro ?_ ?_; · (first | exact rfl | (show (_ : Int) ≤ _; omega) | (show (_ : Int) < _; omega) | assumption | exact SqL.of upd_same | exact SqT.of upd_same | exact upd_same | exact Drew.at_ (by assumption) | exact at_of (j := 0) rfl rfl | exact at_of (j := 1) rfl rfl | exact at_of (j := 2) rfl rfl | exact at_of (j := 3) rfl rfl | exact .inr (by assumption) | exact .inl (by assumption) | exact .ty _ | exact dp_ty (by assumption) | exact kit_strD _ | exact kit_tupD _ | exact kit_intD _ | exact kit_boolD _ | exact ⟨_, rfl⟩ | decide | omega | exact (show 0 ≤ sizeLine by decide) | exact (show 1 ≤ sizeLine by decide) | exact (show 2 ≤ sizeLine by decide) | exact (show 3 ≤ sizeLine by decide) | exact (show 4 ≤ sizeLine by decide) | exact (show 5 ≤ sizeLine by decide) | exact (show 6 ≤ sizeLine by decide) | decide +kernel)) | apply Exists.intro | refine iteT ?_ | refine iteF ?_)
        refine fin _ (Same.refl G) fun z => ?_
        have l : ys.length = es.length := DpAll.len g2
        have c0 : (ys.length : Int) > 0 := c0
        rcases hol_word z with z | z | z | ⟨z, _⟩ | ⟨z, _⟩ | ⟨z, _⟩ | ⟨z, _⟩
        · cases z.2.1
          have l : ys.length = 0 := l
          omega
        · cases z.2.1
          have l : ys.length = 0 := l
          omega
        · cases z.2.1
          have l : ys.length = 0 := l
          omega
        all_goals
          subst z
          rcases c with c | c | c <;> exact absurd c (by decide)
      have y0 : ys = [] := List.length_eq_zero_iff.mp (by have : ¬ (ys.length : Int) > 0 := c0; omega)
      subst y0
      obtain rfl := DpAll.zero g2
      clear g2 c0 hb
      repeat (first | (refine And.intro ?_ ?_; · (first | exact rfl | (show (_ : Int) ≤ _; omega) | (show (_ : Int) < _; omega) | assumption | exact SqL.of upd_same | exact SqT.of upd_same | exact upd_same | exact Drew.at_ (by assumption) | exact at_of (j := 0) rfl rfl | exact at_of (j := 1) rfl rfl | exact at_of (j := 2) rfl rfl | exact at_of (j := 3) rfl rfl | exact .inr (by assumption) | exact .inl (by assumption) | exact .ty _ | exact dp_ty (by assumption) | exact kit_strD _ | exact kit_tupD _ | exact kit_intD _ | exact kit_boolD _ | exact ⟨_, rfl⟩ | decide | omega | exact (show 0 ≤ sizeLine by decide) | exact (show 1 ≤ sizeLine by decide) | exact (show 2 ≤ sizeLine by decide) | exact (show 3 ≤ sizeLine by decide) | exact (show 4 ≤ sizeLine by decide) | exact (show 5 ≤ sizeLine by decide) | exact (show 6 ≤ sizeLine by decide) | decide +kernel)) | apply Exists.intro | refine iteT ?_ | refine iteF ?_)
      by_cases cz : word = "size"
      · subst cz
        repeat (first | (refine And.intro ?_ ?_; · (first | exact rfl | (show (_ : Int) ≤ _; omega) | (show (_ : Int) < _; omega) | assumption | exact SqL.of upd_same | exact SqT.of upd_same | exact upd_same | exact Drew.at_ (by assumption) | exact at_of (j := 0) rfl rfl | exact at_of (j := 1) rfl rfl | exact at_of (j := 2) rfl rfl | exact at_of (j := 3) rfl rfl | exact .inr (by assumption) | exact .inl (by assumption) | exact .ty _ | exact dp_ty (by assumption) | exact kit_strD _ | exact kit_tupD _ | exact kit_intD _ | exact kit_boolD _ | exact ⟨_, rfl⟩ | decide | omega | exact (show 0 ≤ sizeLine by decide) | exact (show 1 ≤ sizeLine by decide) | exact (show 2 ≤ sizeLine by decide) | exact (show 3 ≤ sizeLine by decide) | exact (show 4 ≤ sizeLine by decide) | exact (show 5 ≤ sizeLine by decide) | exact (show 6 ≤ sizeLine by decide) | decide +kernel)) | apply Exists.intro | refine iteT ?_ | refine iteF ?_)
        intro r H' hr s4
        refine k r H' (hr.trans ⟨fun z => ⟨ds, .inl ⟨rfl, rfl, z⟩⟩, fun z => ?_⟩) (fun x o e => s4 _ _ (s3 _ _ e))
        rcases hol_word z with ⟨_, _, z⟩ | ⟨y, _⟩ | ⟨y, _⟩ | ⟨y, _⟩ | ⟨y, _⟩ | ⟨y, _⟩ | ⟨y, _⟩
        · exact z
        all_goals exact absurd y (by decide)
      · refine eqw_neg cz ?_
        repeat (first | (refine And.intro ?_ ?_; · (first | exact rfl | (show (_ : Int) ≤ _; omega) | (show (_ : Int) < _; omega) | assumption | exact SqL.of upd_same | exact SqT.of upd_same | exact upd_same | exact Drew.at_ (by assumption) | exact at_of (j := 0) rfl rfl | exact at_of (j := 1) rfl rfl | exact at_of (j := 2) rfl rfl | exact at_of (j := 3) rfl rfl | exact .inr (by assumption) | exact .inl (by assumption) | exact .ty _ | exact dp_ty (by assumption) | exact kit_strD _ | exact kit_tupD _ | exact kit_intD _ | exact kit_boolD _ | exact ⟨_, rfl⟩ | decide | omega | exact (show 0 ≤ sizeLine by decide) | exact (show 1 ≤ sizeLine by decide) | exact (show 2 ≤ sizeLine by decide) | exact (show 3 ≤ sizeLine by decide) | exact (show 4 ≤ sizeLine by decide) | exact (show 5 ≤ sizeLine by decide) | exact (show 6 ≤ sizeLine by decide) | decide +kernel)) | apply Exists.intro | refine iteT ?_ | refine iteF ?_)
        intro r H' hr s4
        by_cases cl : word = "longer"
        · subst cl
          refine k r H' (hr.trans ⟨fun z => ⟨ds, .inr (.inr (.inl ⟨rfl, rfl, z⟩))⟩, fun z => ?_⟩) (fun x o e => s4 _ _ (s3 _ _ e))
          rcases hol_word z with ⟨y, _⟩ | ⟨y, _⟩ | ⟨_, _, z⟩ | ⟨y, _⟩ | ⟨y, _⟩ | ⟨y, _⟩ | ⟨y, _⟩
          rotate_left 2
          · exact z
          all_goals exact absurd y (by decide)
        · have co : word = "other" := by
            rcases c with c | c | c
            · exact c
            · exact absurd c cl
            · exact absurd c cz
          subst co
          refine k r H' (hr.trans ⟨fun z => ⟨ds, .inr (.inl ⟨rfl, rfl, z⟩)⟩, fun z => ?_⟩) (fun x o e => s4 _ _ (s3 _ _ e))
          rcases hol_word z with ⟨y, _⟩ | ⟨_, _, z⟩ | ⟨y, _⟩ | ⟨y, _⟩ | ⟨y, _⟩ | ⟨y, _⟩ | ⟨y, _⟩
          rotate_left 1
          · exact z
          all_goals exact absurd y (by decide)
    have no : ∀ z : HoldsAll (.tuple (.str word :: ds)) e, word = "payload" ∧ PayP ds e ∨ word = "missed" ∧ MisP ds e ∨ word = "doubled" ∧ DblP ds e ∨ word = "stopped" ∧ StpP ds e := fun z => by
      rcases hol_word z with ⟨y, _⟩ | ⟨y, _⟩ | ⟨y, _⟩ | z
      · exact absurd (.inr (.inr y)) c
      · exact absurd (.inl y) c
      · exact absurd (.inr (.inl y)) c
      · exact z
    by_cases cp : word = "payload"
    · subst cp
      repeat (first | (refine And.intro ?_ ?_; · (first | exact rfl | (show (_ : Int) ≤ _; omega) | (show (_ : Int) < _; omega) | assumption | exact SqL.of upd_same | exact SqT.of upd_same | exact upd_same | exact Drew.at_ (by assumption) | exact at_of (j := 0) rfl rfl | exact at_of (j := 1) rfl rfl | exact at_of (j := 2) rfl rfl | exact at_of (j := 3) rfl rfl | exact .inr (by assumption) | exact .inl (by assumption) | exact .ty _ | exact dp_ty (by assumption) | exact kit_strD _ | exact kit_tupD _ | exact kit_intD _ | exact kit_boolD _ | exact ⟨_, rfl⟩ | decide | omega | exact (show 0 ≤ sizeLine by decide) | exact (show 1 ≤ sizeLine by decide) | exact (show 2 ≤ sizeLine by decide) | exact (show 3 ≤ sizeLine by decide) | exact (show 4 ≤ sizeLine by decide) | exact (show 5 ≤ sizeLine by decide) | exact (show 6 ≤ sizeLine by decide) | decide +kernel)) | apply Exists.intro | refine iteT ?_ | refine iteF ?_)
      intro r H' hr s4
      refine k r H' (hr.trans ⟨fun z => ⟨ds, .inr (.inr (.inr (.inl ⟨rfl, z⟩)))⟩, fun z => ?_⟩) (fun x o e => s4 _ _ (s3 _ _ e))
      rcases no z with ⟨_, z⟩ | ⟨y, _⟩ | ⟨y, _⟩ | ⟨y, _⟩
      · exact z
      all_goals exact absurd y (by decide)
    refine ⟨_, rfl, rfl, _, rfl, eqw_neg cp ?_⟩
    by_cases cm : word = "missed"
    · subst cm
      repeat (first | (refine And.intro ?_ ?_; · (first | exact rfl | (show (_ : Int) ≤ _; omega) | (show (_ : Int) < _; omega) | assumption | exact SqL.of upd_same | exact SqT.of upd_same | exact upd_same | exact Drew.at_ (by assumption) | exact at_of (j := 0) rfl rfl | exact at_of (j := 1) rfl rfl | exact at_of (j := 2) rfl rfl | exact at_of (j := 3) rfl rfl | exact .inr (by assumption) | exact .inl (by assumption) | exact .ty _ | exact dp_ty (by assumption) | exact kit_strD _ | exact kit_tupD _ | exact kit_intD _ | exact kit_boolD _ | exact ⟨_, rfl⟩ | decide | omega | exact (show 0 ≤ sizeLine by decide) | exact (show 1 ≤ sizeLine by decide) | exact (show 2 ≤ sizeLine by decide) | exact (show 3 ≤ sizeLine by decide) | exact (show 4 ≤ sizeLine by decide) | exact (show 5 ≤ sizeLine by decide) | exact (show 6 ≤ sizeLine by decide) | decide +kernel)) | apply Exists.intro | refine iteT ?_ | refine iteF ?_)
      intro r H' hr s4
      refine k r H' (hr.trans ⟨fun z => ⟨ds, .inr (.inr (.inr (.inr (.inl ⟨rfl, z⟩))))⟩, fun z => ?_⟩) (fun x o e => s4 _ _ (s3 _ _ e))
      rcases no z with ⟨y, _⟩ | ⟨_, z⟩ | ⟨y, _⟩ | ⟨y, _⟩
      rotate_left 1
      · exact z
      all_goals exact absurd y (by decide)
    refine ⟨_, rfl, rfl, _, rfl, eqw_neg cm ?_⟩
    by_cases cd : word = "doubled"
    · subst cd
      repeat (first | (refine And.intro ?_ ?_; · (first | exact rfl | (show (_ : Int) ≤ _; omega) | (show (_ : Int) < _; omega) | assumption | exact SqL.of upd_same | exact SqT.of upd_same | exact upd_same | exact Drew.at_ (by assumption) | exact at_of (j := 0) rfl rfl | exact at_of (j := 1) rfl rfl | exact at_of (j := 2) rfl rfl | exact at_of (j := 3) rfl rfl | exact .inr (by assumption) | exact .inl (by assumption) | exact .ty _ | exact dp_ty (by assumption) | exact kit_strD _ | exact kit_tupD _ | exact kit_intD _ | exact kit_boolD _ | exact ⟨_, rfl⟩ | decide | omega | exact (show 0 ≤ sizeLine by decide) | exact (show 1 ≤ sizeLine by decide) | exact (show 2 ≤ sizeLine by decide) | exact (show 3 ≤ sizeLine by decide) | exact (show 4 ≤ sizeLine by decide) | exact (show 5 ≤ sizeLine by decide) | exact (show 6 ≤ sizeLine by decide) | decide +kernel)) | apply Exists.intro | refine iteT ?_ | refine iteF ?_)
      intro r H' hr s4
      refine k r H' (hr.trans ⟨fun z => ⟨ds, .inr (.inr (.inr (.inr (.inr (.inl ⟨rfl, z⟩)))))⟩, fun z => ?_⟩) (fun x o e => s4 _ _ (s3 _ _ e))
      rcases no z with ⟨y, _⟩ | ⟨y, _⟩ | ⟨_, z⟩ | ⟨y, _⟩
      rotate_left 2
      · exact z
      all_goals exact absurd y (by decide)
    refine ⟨_, rfl, rfl, _, rfl, eqw_neg cd ?_⟩
    by_cases cs : word = "stopped"
    · subst cs
      repeat (first | (refine And.intro ?_ ?_; · (first | exact rfl | (show (_ : Int) ≤ _; omega) | (show (_ : Int) < _; omega) | assumption | exact SqL.of upd_same | exact SqT.of upd_same | exact upd_same | exact Drew.at_ (by assumption) | exact at_of (j := 0) rfl rfl | exact at_of (j := 1) rfl rfl | exact at_of (j := 2) rfl rfl | exact at_of (j := 3) rfl rfl | exact .inr (by assumption) | exact .inl (by assumption) | exact .ty _ | exact dp_ty (by assumption) | exact kit_strD _ | exact kit_tupD _ | exact kit_intD _ | exact kit_boolD _ | exact ⟨_, rfl⟩ | decide | omega | exact (show 0 ≤ sizeLine by decide) | exact (show 1 ≤ sizeLine by decide) | exact (show 2 ≤ sizeLine by decide) | exact (show 3 ≤ sizeLine by decide) | exact (show 4 ≤ sizeLine by decide) | exact (show 5 ≤ sizeLine by decide) | exact (show 6 ≤ sizeLine by decide) | decide +kernel)) | apply Exists.intro | refine iteT ?_ | refine iteF ?_)
      intro r H' hr s4
      refine k r H' (hr.trans ⟨fun z => ⟨ds, .inr (.inr (.inr (.inr (.inr (.inr ⟨rfl, z⟩)))))⟩, fun z => ?_⟩) (fun x o e => s4 _ _ (s3 _ _ e))
      rcases no z with ⟨y, _⟩ | ⟨y, _⟩ | ⟨y, _⟩ | ⟨_, z⟩
      rotate_left 3
      · exact z
      all_goals exact absurd y (by decide)
    refine ⟨_, rfl, rfl, _, rfl, eqw_neg cs ?_⟩
    refine fin _ (Same.refl G) fun z => ?_
    rcases no z with ⟨y, _⟩ | ⟨y, _⟩ | ⟨y, _⟩ | ⟨y, _⟩
    · exact cp y
    · exact cm y
    · exact cd y
    · exact cs y
end
/-! ### what a claim and its paper must be, computed -/
def figGo (b n : Int) : Nat → Int → Int → Int
  | 0, _, k => k
  | f + 1, p, k => if n < p then k else figGo b n f (p * b) (k + 1)
def figC (b n : Int) : Int := if 2 ≤ b then figGo b n (n.toNat.log2 + 2) b 1 else 0
theorem figGo_is {b n : Int} (hb : 2 ≤ b) : ∀ (f j : Nat), n < b ^ (j + 1 + f) → (j = 0 ∨ b ^ j ≤ n) → IsF b n (figGo b n f (b ^ (j + 1)) ((j : Int) + 1))
  | 0, j, h, l => ⟨j, rfl, h, l⟩
  | f + 1, j, h, l => by
    unfold figGo
    split
    · rename_i c
      exact ⟨j, rfl, c, l⟩
    · rename_i c
      have := figGo_is hb f (j + 1) (by rw [show j + 1 + 1 + f = j + 1 + (f + 1) by omega]; exact h) (.inr (by omega))
      rw [Int.pow_succ b (j + 1)] at this
      exact this
theorem pow_base {b : Int} (hb : 2 ≤ b) : ∀ k : Nat, (2 : Int) ^ k ≤ b ^ k
  | 0 => by rw [Int.pow_zero, Int.pow_zero]; exact Int.le_refl _
  | k + 1 => by
    rw [Int.pow_succ, Int.pow_succ]
    exact Int.mul_le_mul (pow_base hb k) hb (by decide) (Int.le_trans (Int.pow_nonneg (by decide)) (pow_base hb k))
theorem figC_eq (b n : Int) : figC b n = figF b n := by
  unfold figC
  by_cases hb : 2 ≤ b
  · rw [if_pos hb]
    refine figF_eq hb ?_
    have h := figGo_is (n := n) hb (n.toNat.log2 + 2) 0 ?_ (.inl rfl)
    · rw [show b ^ (0 + 1) = b from by rw [Int.pow_succ, Int.pow_zero, Int.one_mul]] at h
      exact h
    · have h1 : (2 : Int) ^ (0 + 1 + (n.toNat.log2 + 2)) ≤ b ^ (0 + 1 + (n.toNat.log2 + 2)) := pow_base hb _
      have h2 : n.toNat < 2 ^ (n.toNat.log2 + 1) := Nat.lt_log2_self
      have h3 : n ≤ (n.toNat : Int) := Int.self_le_toNat n
      have h4 : 2 ^ (n.toNat.log2 + 1) ≤ 2 ^ (0 + 1 + (n.toNat.log2 + 2)) := Nat.pow_le_pow_right (by decide) (by omega)
      have h5 : ((2 ^ (0 + 1 + (n.toNat.log2 + 2)) : Nat) : Int) = (2 : Int) ^ (0 + 1 + (n.toNat.log2 + 2)) := by
        rw [Int.natCast_pow]
        rfl
      omega
  · rw [if_neg hb]
    unfold figF
    rw [dif_neg hb]
def totC (b n : Int) : Int := if 2 ≤ b ∧ 0 ≤ n then (let f := figC b n; if figC b (n + f) = f then n + f else n + f + 1) else 0
theorem totC_eq (b n : Int) : totC b n = totF b n := by
  unfold totC
  by_cases h : 2 ≤ b ∧ 0 ≤ n
  · rw [if_pos h]
    refine totF_eq h.1 h.2 ?_
    show IsTot b n (if figC b (n + figC b n) = figC b n then n + figC b n else n + figC b n + 1)
    rw [figC_eq, figC_eq]
    have hf := figF_is (n := n) h.1
    have hg := figF_is (n := n + figF b n) h.1
    rcases fig_grow h.1 h.2 hf hg with e | e
    · rw [if_pos e]
      rw [e] at hg
      exact isTot_first h.1 hf hg
    · rw [if_neg (by omega)]
      rw [e] at hg
      exact isTot_second h.1 h.2 hf hg
  · rw [if_neg h]
    unfold totF
    rw [dif_neg h]
def grC (b : Int) : Wr → Int → Int
  | .plus c, n => n + c
  | .told c, n => n + c + figC b n
  | .whole c, n => totC b (n + c)
  | .pieces m c, n => n / m * (m + c + figC b m) + (if 0 < n % m then n % m + c + figC b (n % m) else 0) + c + 1
  | .cut m c, n => n + beg n m * c
  | .coded m c, n => beg n m * c
  | .filled m, n => beg n m * m
theorem grC_eq (b : Int) (a : Wr) (n : Int) : grC b a n = a.gr b n := by
  cases a <;> simp only [grC, Wr.gr, figC_eq, totC_eq]
def grSC (b : Int) (ws : List Wr) (n : Int) : Int := ws.foldl (fun m a => grC b a m) n
theorem grSC_eq (b : Int) (ws : List Wr) (n : Int) : grSC b ws n = grS b ws n := by
  unfold grSC grS
  congr 1
  funext m a
  exact grC_eq b a m
def lenB (n : Int) : Bool := decide (0 ≤ n) && decide (n ≤ 10 ^ 60 - 1)
theorem lenB_iff {n : Int} : lenB n = true ↔ 0 ≤ n ∧ n ≤ 10 ^ 60 - 1 := by
  unfold lenB
  rw [Bool.and_eq_true, decide_eq_true_iff, decide_eq_true_iff]
def sizeB : List PyData → Bool
  | [e, .int n, .int m] => lenB n && (match rdT e with
    | some (b, ws) => decide (grSC b ws n = m)
    | none => false)
  | _ => false
theorem sizeB_iff (ds : List PyData) : sizeB ds = true ↔ SizeP ds := by
  constructor
  · intro h
    unfold sizeB at h
    split at h
    · rename_i e n m
      rw [Bool.and_eq_true, lenB_iff] at h
      obtain ⟨h1, h⟩ := h
      split at h
      · rename_i b ws hr
        refine ⟨e, n, b, ws, ?_, h1.1, h1.2, hr⟩
        rw [← grSC_eq, of_decide_eq_true h]
      · cases h
    · cases h
  · rintro ⟨e, n, b, ws, rfl, h1, h2, hr⟩
    unfold sizeB
    rw [Bool.and_eq_true, lenB_iff]
    refine ⟨⟨h1, h2⟩, ?_⟩
    rw [hr]
    exact decide_eq_true (grSC_eq b ws n)
def unlB (lg : Bool) : List PyData → Bool
  | [e1, e2, .int n] => lenB n && (match rdT e1, rdT e2 with
    | some (b, ws), some (b', ws') => if lg then decide (grSC b ws n > grSC b' ws' n) else decide (grSC b ws n ≠ grSC b' ws' n)
    | _, _ => false)
  | _ => false
theorem unlB_iff (lg : Bool) (ds : List PyData) : unlB lg ds = true ↔ UnlP lg ds := by
  constructor
  · intro h
    unfold unlB at h
    split at h
    · rename_i e1 e2 n
      rw [Bool.and_eq_true, lenB_iff] at h
      obtain ⟨h1, h⟩ := h
      split at h
      · rename_i b ws b' ws' hr hr'
        refine ⟨e1, e2, n, b, b', ws, ws', rfl, h1.1, h1.2, hr, hr', ?_⟩
        rw [grSC_eq, grSC_eq] at h
        unfold unlS
        cases lg with
        | false => exact of_decide_eq_true h
        | true => exact of_decide_eq_true h
      · cases h
    · cases h
  · rintro ⟨e1, e2, n, b, b', ws, ws', rfl, h1, h2, hr, hr', u⟩
    unfold unlB
    rw [Bool.and_eq_true, lenB_iff]
    refine ⟨⟨h1, h2⟩, ?_⟩
    rw [hr, hr']
    show (if lg = true then decide (grSC b ws n > grSC b' ws' n) else decide (grSC b ws n ≠ grSC b' ws' n)) = true
    rw [grSC_eq, grSC_eq]
    unfold unlS at u
    cases lg with
    | false => exact decide_eq_true u
    | true => exact decide_eq_true u
def payB : List PyData → PyData → Bool
  | [t, .int bd, .int n], e => lenB bd && lenB n && (match rdT t with
    | some (b, ws) => decide (grSC b ws n ≤ bd) && (if n = 10 ^ 60 - 1 then (match e with
        | .tuple [.int x] => decide (x = grSC b ws n)
        | _ => false) else (match e with
        | .tuple [.int x, .int y] => decide (x = grSC b ws n) && decide (y = grSC b ws (n + 1)) && decide (bd < y)
        | _ => false))
    | none => false)
  | _, _ => false
theorem payB_iff (ds : List PyData) (e : PyData) : payB ds e = true ↔ PayP ds e := by
  constructor
  · intro h
    unfold payB at h
    split at h
    · rename_i t bd n
      rw [Bool.and_eq_true, Bool.and_eq_true, lenB_iff, lenB_iff] at h
      obtain ⟨⟨h1, h2⟩, h⟩ := h
      split at h
      · rename_i b ws hr
        rw [Bool.and_eq_true, decide_eq_true_iff, grSC_eq] at h
        obtain ⟨h3, h⟩ := h
        refine ⟨t, bd, n, b, ws, rfl, h1.1, h1.2, h2.1, h2.2, hr, h3, ?_⟩
        split at h
        · rename_i c
          split at h
          · rename_i x
            rw [decide_eq_true_iff] at h
            exact .inl ⟨c, by rw [h]⟩
          · cases h
        · rename_i c
          split at h
          · rename_i x y
            rw [Bool.and_eq_true, Bool.and_eq_true, decide_eq_true_iff, decide_eq_true_iff, decide_eq_true_iff, grSC_eq] at h
            exact .inr ⟨c, by rw [h.1.1, h.1.2], by rw [← h.1.2]; exact h.2⟩
          · cases h
      · cases h
    · cases h
  · rintro ⟨t, bd, n, b, ws, rfl, h1, h2, h3, h4, hr, h5, h⟩
    rcases h with ⟨c, rfl⟩ | ⟨c, rfl, l⟩
    · show (lenB bd && lenB n && (match rdT t with
        | some (b, ws) => decide (grSC b ws n ≤ bd) && (if n = 10 ^ 60 - 1 then decide (grS _ _ n = grSC b ws n) else false)
        | none => false)) = true
      rw [hr]
      show (lenB bd && lenB n && (decide (grSC b ws n ≤ bd) && (if n = 10 ^ 60 - 1 then decide (grS b ws n = grSC b ws n) else false))) = true
      rw [if_pos c, grSC_eq]
      simp only [Bool.and_eq_true, decide_eq_true_iff, lenB_iff]
      exact ⟨⟨⟨h1, h2⟩, h3, h4⟩, h5, trivial⟩
    · show (lenB bd && lenB n && (match rdT t with
        | some (b, ws) => decide (grSC b ws n ≤ bd) && (if n = 10 ^ 60 - 1 then false else (decide (grS _ _ n = grSC b ws n) && decide (grS _ _ (n + 1) = grSC b ws (n + 1)) && decide (bd < grS _ _ (n + 1))))
        | none => false)) = true
      rw [hr]
      show (lenB bd && lenB n && (decide (grSC b ws n ≤ bd) && (if n = 10 ^ 60 - 1 then false else (decide (grS b ws n = grSC b ws n) && decide (grS b ws (n + 1) = grSC b ws (n + 1)) && decide (bd < grS b ws (n + 1)))))) = true
      rw [if_neg c, grSC_eq, grSC_eq]
      simp only [Bool.and_eq_true, decide_eq_true_iff, lenB_iff]
      exact ⟨⟨⟨h1, h2⟩, h3, h4⟩, h5, ⟨trivial, trivial⟩, l⟩
def misB : List PyData → PyData → Bool
  | [t, .int sz], e => lenB sz && (match rdT t with
    | some (b, ws) => (match e with
      | .tuple [] => decide (sz < grSC b ws 0)
      | .int n => decide (0 ≤ n) && decide (n < 10 ^ 60 - 1) && decide (grSC b ws n < sz) && decide (sz < grSC b ws (n + 1))
      | _ => false)
    | none => false)
  | _, _ => false
theorem misB_iff (ds : List PyData) (e : PyData) : misB ds e = true ↔ MisP ds e := by
  constructor
  · intro h
    unfold misB at h
    split at h
    · rename_i t sz
      rw [Bool.and_eq_true, lenB_iff] at h
      obtain ⟨h1, h⟩ := h
      split at h
      · rename_i b ws hr
        refine ⟨t, sz, b, ws, rfl, h1.1, h1.2, hr, ?_⟩
        split at h
        · rw [decide_eq_true_iff, grSC_eq] at h
          exact .inl ⟨rfl, h⟩
        · rename_i n
          rw [Bool.and_eq_true, Bool.and_eq_true, Bool.and_eq_true, decide_eq_true_iff, decide_eq_true_iff, decide_eq_true_iff, decide_eq_true_iff, grSC_eq, grSC_eq] at h
          exact .inr ⟨n, rfl, h.1.1.1, h.1.1.2, h.1.2, h.2⟩
        · cases h
      · cases h
    · cases h
  · rintro ⟨t, sz, b, ws, rfl, h1, h2, hr, h⟩
    unfold misB
    rw [Bool.and_eq_true, lenB_iff]
    refine ⟨⟨h1, h2⟩, ?_⟩
    rw [hr]
    rcases h with ⟨rfl, l⟩ | ⟨n, rfl, l1, l2, l3, l4⟩
    · exact decide_eq_true (by rw [grSC_eq]; exact l)
    · show (decide (0 ≤ n) && decide (n < 10 ^ 60 - 1) && decide (grSC b ws n < sz) && decide (sz < grSC b ws (n + 1))) = true
      rw [Bool.and_eq_true, Bool.and_eq_true, Bool.and_eq_true, grSC_eq, grSC_eq]
      exact ⟨⟨⟨decide_eq_true l1, decide_eq_true l2⟩, decide_eq_true l3⟩, decide_eq_true l4⟩
def dblB : List PyData → PyData → Bool
  | [.int b, .int c, .int n], .tuple [.int x, .int y] => decide (2 ≤ b) && decide (b ≤ 256) && decide (0 ≤ c) && decide (c ≤ 1000) && lenB n && decide (0 ≤ x) && decide (x < y) && decide (x = n + c + figC b x) && decide (y = n + c + figC b y)
  | _, _ => false
theorem dblB_iff (ds : List PyData) (e : PyData) : dblB ds e = true ↔ DblP ds e := by
  constructor
  · intro h
    unfold dblB at h
    split at h
    · rename_i b c n x y
      simp only [Bool.and_eq_true, decide_eq_true_iff, lenB_iff, figC_eq] at h
      obtain ⟨⟨⟨⟨⟨⟨⟨⟨h1, h2⟩, h3⟩, h4⟩, h5⟩, h6⟩, h7⟩, h8⟩, h9⟩ := h
      exact ⟨b, c, n, x, y, rfl, rfl, h1, h2, h3, h4, h5.1, h5.2, h6, h7, h8, h9⟩
    · cases h
  · rintro ⟨b, c, n, x, y, rfl, rfl, h1, h2, h3, h4, h5, h5', h6, h7, h8, h9⟩
    unfold dblB
    simp only [Bool.and_eq_true, decide_eq_true_iff, lenB_iff, figC_eq]
    exact ⟨⟨⟨⟨⟨⟨⟨⟨h1, h2⟩, h3⟩, h4⟩, h5, h5'⟩, h6⟩, h7⟩, h8⟩, h9⟩
def stopAtB (b : Int) (ss : List Stp) (n : Int) (i : Nat) : Bool := match ss[i]? with
  | some (.bound m) => decide (m < grSC b (onL (ss.take i)) n)
  | _ => false
theorem stopAtB_iff (b : Int) (ss : List Stp) (n : Int) (i : Nat) : stopAtB b ss n i = true ↔ StopAt b ss n i := by
  unfold stopAtB StopAt
  constructor
  · intro h
    split at h
    · rename_i m e
      rw [decide_eq_true_iff, grSC_eq] at h
      exact ⟨m, e, h⟩
    · cases h
  · rintro ⟨m, e, h⟩
    rw [e]
    exact decide_eq_true (by rw [grSC_eq]; exact h)
def noStop (b : Int) (ss : List Stp) (n : Int) (k : Nat) : Bool := (List.range k).all fun i => !stopAtB b ss n i
theorem noStop_iff (b : Int) (ss : List Stp) (n : Int) (k : Nat) : noStop b ss n k = true ↔ ∀ i, i < k → ¬ StopAt b ss n i := by
  unfold noStop
  rw [List.all_eq_true]
  constructor
  · intro h i hi s
    have := h i (List.mem_range.mpr hi)
    rw [(stopAtB_iff b ss n i).mpr s] at this
    cases this
  · intro h i hi
    have := h i (List.mem_range.mp hi)
    cases e : stopAtB b ss n i with
    | false => rfl
    | true => exact absurd ((stopAtB_iff b ss n i).mp e) this
theorem stop_lt {b : Int} {ss : List Stp} {n : Int} {i : Nat} (h : StopAt b ss n i) : i < ss.length := by
  obtain ⟨m, e, _⟩ := h
  exact (List.getElem?_eq_some_iff.mp e).1
def stpB : List PyData → PyData → Bool
  | [.int b, t, .int at_], e => decide (2 ≤ b) && decide (b ≤ 256) && (match rdAll t with
    | some ss => (match e with
      | .tuple [m, .int n] => lenB n && (match m with
          | .none => decide (n = 0)
          | .int k => decide (0 ≤ k) && decide (n = k + 1) && noStop b ss k ss.length
          | _ => false) && decide (0 ≤ at_) && decide (at_ < ss.length) && stopAtB b ss n at_.toNat && noStop b ss n at_.toNat
      | _ => false)
    | none => false)
  | _, _ => false
theorem first_iff (b : Int) (ss : List Stp) (n at_ : Int) : FirstStop b ss n (.int at_) ↔ 0 ≤ at_ ∧ at_ < ss.length ∧ StopAt b ss n at_.toNat ∧ ∀ j, j < at_.toNat → ¬ StopAt b ss n j := by
  constructor
  · rintro (⟨z, _⟩ | ⟨i, z, h1, h2⟩)
    · cases z
    · cases z
      exact ⟨by omega, by have := stop_lt h1; omega, h1, h2⟩
  · rintro ⟨h1, h2, h3, h4⟩
    exact .inr ⟨at_.toNat, by rw [Int.toNat_of_nonneg h1], h3, h4⟩
theorem stpB_iff (ds : List PyData) (e : PyData) : stpB ds e = true ↔ StpP ds e := by
  constructor
  · intro h
    unfold stpB at h
    split at h
    · rename_i b t at_
      rw [Bool.and_eq_true, Bool.and_eq_true, decide_eq_true_iff, decide_eq_true_iff] at h
      obtain ⟨⟨h1, h2⟩, h⟩ := h
      split at h
      · rename_i ss hr
        split at h
        · rename_i m n
          simp only [Bool.and_eq_true, decide_eq_true_iff, lenB_iff, stopAtB_iff, noStop_iff] at h
          obtain ⟨⟨⟨⟨⟨h3, hm⟩, h4⟩, h5⟩, h6⟩, h7⟩ := h
          refine ⟨b, t, at_, ss, m, n, rfl, h1, h2, hr, rfl, h3.1, h3.2, ?_, (first_iff _ _ _ _).mpr ⟨h4, h5, h6, h7⟩⟩
          split at hm
          · exact .inl ⟨rfl, of_decide_eq_true hm⟩
          · rename_i k
            simp only [Bool.and_eq_true, decide_eq_true_iff, noStop_iff] at hm
            exact .inr ⟨k, rfl, hm.1.1, hm.1.2, fun i s => hm.2 i (stop_lt s) s⟩
          · cases hm
        · cases h
      · cases h
    · cases h
  · rintro ⟨b, t, at_, ss, m, n, rfl, h1, h2, hr, rfl, h3, h3', hm, hf⟩
    obtain ⟨h4, h5, h6, h7⟩ := (first_iff _ _ _ _).mp hf
    unfold stpB
    rw [Bool.and_eq_true, Bool.and_eq_true, decide_eq_true_iff, decide_eq_true_iff]
    refine ⟨⟨h1, h2⟩, ?_⟩
    rw [hr]
    simp only [Bool.and_eq_true, decide_eq_true_iff, lenB_iff, stopAtB_iff, noStop_iff]
    refine ⟨⟨⟨⟨⟨⟨h3, h3'⟩, ?_⟩, h4⟩, h5⟩, h6⟩, h7⟩
    rcases hm with ⟨rfl, c⟩ | ⟨k, rfl, k1, k2, k3⟩
    · exact decide_eq_true c
    · simp only [Bool.and_eq_true, decide_eq_true_iff, noStop_iff]
      exact ⟨⟨k1, k2⟩, fun i _ => k3 i⟩
def isNil : PyData → Bool
  | .tuple [] => true
  | _ => false
theorem isNil_iff (e : PyData) : isNil e = true ↔ e = .tuple [] := by
  constructor
  · intro h
    unfold isNil at h
    split at h
    · rfl
    · cases h
  · rintro rfl
    rfl
def holdsB : PyData → PyData → Bool
  | .tuple (.str w :: ds), e => if w = "size" then isNil e && sizeB ds else if w = "other" then isNil e && unlB false ds else if w = "longer" then isNil e && unlB true ds else if w = "payload" then payB ds e else if w = "missed" then misB ds e else if w = "doubled" then dblB ds e else if w = "stopped" then stpB ds e else false
  | _, _ => false
theorem holdsB_iff (d e : PyData) : holdsB d e = true ↔ HoldsAll d e := by
  constructor
  · intro h
    unfold holdsB at h
    split at h
    · rename_i w ds
      split at h
      · rename_i c
        rw [Bool.and_eq_true, isNil_iff, sizeB_iff] at h
        exact ⟨ds, .inl ⟨by rw [c], h⟩⟩
      split at h
      · rename_i c
        rw [Bool.and_eq_true, isNil_iff, unlB_iff] at h
        exact ⟨ds, .inr (.inl ⟨by rw [c], h⟩)⟩
      split at h
      · rename_i c
        rw [Bool.and_eq_true, isNil_iff, unlB_iff] at h
        exact ⟨ds, .inr (.inr (.inl ⟨by rw [c], h⟩))⟩
      split at h
      · rename_i c
        rw [payB_iff] at h
        exact ⟨ds, .inr (.inr (.inr (.inl ⟨by rw [c], h⟩)))⟩
      split at h
      · rename_i c
        rw [misB_iff] at h
        exact ⟨ds, .inr (.inr (.inr (.inr (.inl ⟨by rw [c], h⟩))))⟩
      split at h
      · rename_i c
        rw [dblB_iff] at h
        exact ⟨ds, .inr (.inr (.inr (.inr (.inr (.inl ⟨by rw [c], h⟩)))))⟩
      split at h
      · rename_i c
        rw [stpB_iff] at h
        exact ⟨ds, .inr (.inr (.inr (.inr (.inr (.inr ⟨by rw [c], h⟩)))))⟩
      · cases h
    · cases h
  · rintro ⟨ds, h⟩
    rcases h with ⟨rfl, h⟩ | ⟨rfl, h⟩ | ⟨rfl, h⟩ | ⟨rfl, h⟩ | ⟨rfl, h⟩ | ⟨rfl, h⟩ | ⟨rfl, h⟩
    · show (isNil e && sizeB ds) = true
      rw [Bool.and_eq_true, isNil_iff, sizeB_iff]
      exact h
    · show (isNil e && unlB false ds) = true
      rw [Bool.and_eq_true, isNil_iff, unlB_iff]
      exact h
    · show (isNil e && unlB true ds) = true
      rw [Bool.and_eq_true, isNil_iff, unlB_iff]
      exact h
    · exact (payB_iff ds e).mpr h
    · exact (misB_iff ds e).mpr h
    · exact (dblB_iff ds e).mpr h
    · exact (stpB_iff ds e).mpr h
/-! ### texts of integers -/
theorem digV_digits {cs : List Nat} (h : ∀ c ∈ cs, dig c = true) : ((NumText.digitsVal cs : Nat) : Int) = digV cs := by
  unfold NumText.digitsVal digV
  have key : ∀ (cs : List Nat) (m : Nat), (∀ c ∈ cs, dig c = true) → ((cs.foldl (fun acc c => acc * 10 + (c - 48)) m : Nat) : Int) = cs.foldl (fun (a : Int) (c : Nat) => 10 * a + ((c : Int) - 48)) (m : Int) := by
    intro cs
    induction cs with
    | nil => intro m _; rfl
    | cons c cs ih =>
      intro m h
      have hc := of_decide_eq_true (h c (.head _))
      rw [List.foldl_cons, List.foldl_cons, ih _ fun d hd => h d (.tail _ hd)]
      have e : ((m * 10 + (c - 48) : Nat) : Int) = 10 * (m : Int) + ((c : Int) - 48) := by omega
      rw [e]
  exact key cs 0 h
theorem numL_head : ∀ n : Nat, 0 < n → (TL.numL n)[0]? ≠ some 48 := by
  intro n
  induction n using Nat.strongRecOn with
  | _ n ih =>
    intro h0
    by_cases h : n < 10
    · rw [TL.numL_lt h]
      intro e
      have e : some (48 + n) = some 48 := e
      injection e with e
      omega
    · rw [TL.numL_step (by omega)]
      intro e
      refine ih (n / 10) (by omega) (by omega) ?_
      rwa [List.getElem?_append_left (List.length_pos_iff.mpr (TL.numL_ne (n / 10)))] at e
theorem numV_str {i : Int} (h : 0 ≤ i) : numV (Str.ofString (toString i)) = i := by
  obtain ⟨n, rfl⟩ : ∃ n : Nat, i = (n : Int) := ⟨i.toNat, by omega⟩
  have e : (Str.ofString (toString ((n : Nat) : Int))).cps.toList = TL.numL n := TL.tl_num n
  have ne : Str.ofString (toString ((n : Nat) : Int)) ≠ "" := fun z => by
    rw [z] at e
    exact TL.numL_ne n e.symm
  have all : ∀ c ∈ (Str.ofString (toString ((n : Nat) : Int))).cps.toList, dig c = true := fun c hc => by
    rw [e] at hc
    exact decide_eq_true (TL.numL_digits n c hc)
  rw [numV_all ne ?_ all, ← digV_digits all, e, TL.numL_val]
  rintro ⟨h1, h2⟩
  rw [e] at h1
  rcases Nat.eq_zero_or_pos n with rfl | hn
  · exact h2 (by decide +kernel)
  · exact numL_head n hn h1
/-! ### things: what the checker sees of them, and their text -/
inductive Th where
  | at (d : PyData) (t : Str)
  | tup (xs : List Th)
mutual
def Th.d : Th → PyData
  | .at d _ => d
  | .tup xs => .tuple (Th.ds xs)
def Th.ds : List Th → List PyData
  | [] => []
  | x :: xs => x.d :: Th.ds xs
end
mutual
def Th.t : Th → Str
  | .at _ t => t
  | .tup xs => tupleText (Th.ts xs)
def Th.ts : List Th → List Str
  | [] => []
  | x :: xs => x.t :: Th.ts xs
end
mutual
def ofD : PyData → Th
  | .tuple xs => .tup (ofAll xs)
  | d => .at d d.shown
def ofAll : List PyData → List Th
  | [] => []
  | x :: xs => ofD x :: ofAll xs
end
mutual
/-- the places of a thing: what it is with another thing there, and what stands there -/
def slots : Th → List ((Th → Th) × Th)
  | .at d t => [(fun o => o, .at d t)]
  | .tup xs => (fun o => o, .tup xs) :: (slotsAll xs).map fun q => (fun o => .tup (q.1 o), q.2)
def slotsAll : List Th → List ((Th → List Th) × Th)
  | [] => []
  | x :: xs => (slots x).map (fun q => (fun o => q.1 o :: xs, q.2)) ++ (slotsAll xs).map (fun q => (fun o => x :: q.1 o, q.2))
end
mutual
/-- what comes of a thing with a truth or a list in it -/
def tru : Th → List Th
  | .at (.int i) _ => if i = 0 ∨ i = 1 then [.at (.bool (decide (i = 1))) (PyData.shown (.bool (decide (i = 1))))] else []
  | .at _ _ => []
  | .tup xs => .at (.list []) "" :: (truAll xs).map .tup
def truAll : List Th → List (List Th)
  | [] => []
  | x :: xs => (tru x).map (· :: xs) ++ (truAll xs).map (x :: ·)
end
mutual
/-- how a text begins -/
def pre : Th → List Nat
  | .at _ t => t.cps.toList
  | .tup [] => [40, 41]
  | .tup (.at _ t :: _ :: _) => 40 :: (t.cps.toList ++ [44, 32])
  | .tup (x :: _) => 40 :: pre x
end
def big : Int := 999999999999999999999999999999999999999999999999999999999999
def gd59 : List (PyData × PyData) := [
  (.tuple [.str "other", .str "base 10\nplus 1", .str "base 2", .int 0], .tuple []),
  (.tuple [.str "longer", .str "base 10\ntold 0", .str "base 256\nplus 1", .int 10], .tuple []),
  (.tuple [.str "size", .str "base 10", .int 1, .int 1], .tuple []),
  (.tuple [.str "size", .str "base 16\ncoded 3 4\npieces 5 4", .int 7, .int 32], .tuple []),
  (.tuple [.str "payload", .str "base 10", .int 1, .int 1], .tuple [.int 1, .int 2]),
  (.tuple [.str "payload", .str "base 3\ncoded 1 2", .int 1, .int 0], .tuple [.int 0, .int 2]),
  (.tuple [.str "payload", .str "base 10\ntold 1\npieces 40 2\nwhole 0", .int 100, .int 80], .tuple [.int 99, .int 101]),
  (.tuple [.str "payload", .str "base 7", .int big, .int big], .tuple [.int big]),
  (.tuple [.str "missed", .str "base 10\nplus 1", .int 0], .tuple []),
  (.tuple [.str "missed", .str "base 10\ncoded 1 2", .int 1], .int 0),
  (.tuple [.str "missed", .str "base 10\ncoded 1 2", .int 3], .int 1),
  (.tuple [.str "missed", .str "base 10\ntold 0", .int 11], .int 9),
  (.tuple [.str "doubled", .int 2, .int 0, .int 0], .tuple [.int 1, .int 2]),
  (.tuple [.str "doubled", .int 2, .int 0, .int 1], .tuple [.int 3, .int 4]),
  (.tuple [.str "doubled", .int 10, .int 3, .int 94], .tuple [.int 99, .int 100]),
  (.tuple [.str "stopped", .int 10, .tuple [.tuple [.str "bound", .int 0]], .int 0], .tuple [.int 0, .int 1]),
  (.tuple [.str "stopped", .int 10, .tuple [.tuple [.str "bound", .int 1]], .int 0], .tuple [.int 1, .int 2]),
  (.tuple [.str "stopped", .int 2, .tuple [.tuple [.str "push", .str "plus 1"], .tuple [.str "bound", .int 0]], .int 1], .tuple [.none, .int 0]),
  (.tuple [.str "stopped", .int 256, .tuple [.tuple [.str "bound", .int 9], .tuple [.str "push", .str "told 1"], .tuple [.str "pop"], .tuple [.str "bound", .int 7], .tuple [.str "bound", .int 8]], .int 3], .tuple [.int 7, .int 8])]
theorem gd_holds : gd59.all (fun cp => holdsB cp.1 cp.2) = true := by decide +kernel
def odd59 : List Th := [.at .none "None", .at (.bool true) "True", .at (.bool false) "False", .at (.str "") "''", .at (.str "base") "'base'", .at (.str "Base 10") "'Base 10'", .at (.str "7") "'7'",
  .at (.list []) "[]", .at (.list []) "{}", .at (.list []) "[()]", .at (.list []) "{'size': 1}", .at (.tuple [.list []]) "([],)", .at (.tuple [.none]) "(None,)", .at (.tuple [.tuple [], .tuple []]) "((), ())",
  .at (.tuple [.list []]) "({},)", .at (.list []) "Wrap(plus 1)", .at (.list []) "Stack(base 10, 0 wraps)", .at (.list []) "Road(0 steps)", .at (.tuple [.list [], .int 1]) "(Stack(base 10, 0 wraps), 1)"]
def eqS (x y : Str) : Bool := x.cps.toList == y.cps.toList
theorem eqS_iff {x y : Str} : eqS x y = true ↔ x = y := by
  unfold eqS
  rw [beq_iff_eq]
  constructor
  · intro h
    obtain ⟨x⟩ := x
    obtain ⟨y⟩ := y
    exact congrArg Str.mk (Array.toList_inj.mp h)
  · rintro rfl
    rfl
def same (o x : Th) : Bool := match x with
  | .at _ t => eqS o.t t
  | .tup _ => false
def diff (o x : Th) : Bool := match x with
  | .at _ t => !eqS o.t t
  | .tup xs => !(pre (.tup xs)).isPrefixOf o.t.cps.toList
def okC (c p : PyData) (o : Th) : Bool := (slots (ofD c)).all fun q => if holdsB (q.1 o).d p then same o q.2 else diff o q.2
def okP (c p : PyData) (o : Th) : Bool := (slots (ofD p)).all fun q => if holdsB c (q.1 o).d then same o q.2 else diff o q.2
theorem odd_C : gd59.all (fun cp => odd59.all (okC cp.1 cp.2)) = true := by decide +kernel
theorem odd_P : gd59.all (fun cp => odd59.all (okP cp.1 cp.2)) = true := by decide +kernel
theorem tru_C : gd59.all (fun cp => (tru (ofD cp.1)).all fun y => !holdsB y.d cp.2) = true := by decide +kernel
theorem tru_P : gd59.all (fun cp => (tru (ofD cp.2)).all fun y => !holdsB cp.1 y.d) = true := by decide +kernel
def headS (t : Str) : Bool := (t ++ ", ").cps.toList.take 2 != [40, 39]
theorem odd_head : odd59.all (fun o => headS o.t) = true := by decide +kernel
theorem gd_head : gd59.all (fun cp => cp.1.shown.cps.toList.take 2 == [40, 39]) = true := by decide +kernel
/-! ### what follows of the computed -/
mutual
theorem ofD_d : ∀ d : PyData, (ofD d).d = d
  | .tuple xs => by
    rw [ofD, Th.d, ofAll_d xs]
  | .none => rfl
  | .bool _ => rfl
  | .int _ => rfl
  | .str _ => rfl
  | .list _ => rfl
  | .dict _ => rfl
theorem ofAll_d : ∀ ds : List PyData, Th.ds (ofAll ds) = ds
  | [] => rfl
  | d :: ds => by
    rw [ofAll, Th.ds, ofD_d d, ofAll_d ds]
end
mutual
theorem ofD_t : ∀ d : PyData, (ofD d).t = d.shown
  | .tuple xs => by
    rw [ofD, Th.t, ofAll_t xs]
    simp only [PyData.shown]
  | .none => rfl
  | .bool _ => rfl
  | .int _ => rfl
  | .str _ => rfl
  | .list _ => rfl
  | .dict _ => rfl
theorem ofAll_t : ∀ ds : List PyData, Th.ts (ofAll ds) = PyData.shownAll ds
  | [] => by simp only [ofAll, Th.ts, PyData.shownAll]
  | d :: ds => by
    rw [ofAll, Th.ts, ofD_t d, ofAll_t ds]
    simp only [PyData.shownAll]
end
def tlS (x : Str) : List Nat := x.cps.toList
theorem tlS_app (x y : Str) : tlS (x ++ y) = tlS x ++ tlS y := by
  show (x.cps ++ y.cps).toList = _
  rw [Array.toList_append]
  rfl
theorem tlS_inj {x y : Str} (h : tlS x = tlS y) : x = y := by
  obtain ⟨x⟩ := x
  obtain ⟨y⟩ := y
  exact congrArg Str.mk (Array.toList_inj.mp h)
theorem join_cons {sep x : Str} {xs : List Str} (h : xs ≠ []) : Str.join sep (x :: xs) = x ++ sep ++ Str.join sep xs := by
  cases xs with
  | nil => exact absurd rfl h
  | cons y xs => rfl
theorem join_head (sep a : Str) (r : List Str) : ∃ s, tlS (Str.join sep (a :: r)) = tlS a ++ s := by
  cases r with
  | nil => exact ⟨[], (List.append_nil _).symm⟩
  | cons y r =>
    refine ⟨tlS sep ++ tlS (Str.join sep (y :: r)), ?_⟩
    show tlS (a ++ sep ++ Str.join sep (y :: r)) = _
    rw [tlS_app, tlS_app, List.append_assoc]
theorem join_mid (sep : Str) (bs : List Str) : ∀ as : List Str, ∃ p s : List Nat, ∀ z, tlS (Str.join sep (as ++ z :: bs)) = p ++ tlS z ++ s
  | [] => by
    cases bs with
    | nil => exact ⟨[], [], fun z => by rw [List.nil_append, List.append_nil]; rfl⟩
    | cons b bs =>
      refine ⟨[], tlS sep ++ tlS (Str.join sep (b :: bs)), fun z => ?_⟩
      show tlS (z ++ sep ++ Str.join sep (b :: bs)) = _
      rw [tlS_app, tlS_app, List.nil_append, List.append_assoc]
  | a :: as => by
    obtain ⟨p, s, h⟩ := join_mid sep bs as
    refine ⟨tlS a ++ tlS sep ++ p, s, fun z => ?_⟩
    rw [List.cons_append, join_cons (by simp), tlS_app, tlS_app, h z]
    simp only [List.append_assoc]
theorem tup_mid (as bs : List Str) : ∃ p s : List Nat, ∀ z, tlS (tupleText (as ++ z :: bs)) = p ++ tlS z ++ s := by
  obtain ⟨p, s, h⟩ := join_mid ", " bs as
  refine ⟨tlS "(" ++ p, s ++ tlS (if as.length + (bs.length + 1) == 1 then ",)" else ")" : String), fun z => ?_⟩
  unfold tupleText
  rw [tlS_app, tlS_app, h z, List.length_append, List.length_cons]
  simp only [List.append_assoc]
theorem ts_len : ∀ xs : List Th, (Th.ts xs).length = xs.length
  | [] => by rw [Th.ts]; rfl
  | x :: xs => by rw [Th.ts, List.length_cons, List.length_cons, ts_len xs]
mutual
theorem slot_t : ∀ (c : Th) (q : (Th → Th) × Th), q ∈ slots c → ∃ p s, (∀ o, tlS (q.1 o).t = p ++ tlS o.t ++ s) ∧ tlS c.t = p ++ tlS q.2.t ++ s
  | .at d t, q, h => by
    rw [slots, List.mem_singleton] at h
    subst h
    exact ⟨[], [], fun o => by rw [List.nil_append, List.append_nil], by rw [List.nil_append, List.append_nil]⟩
  | .tup xs, q, h => by
    rw [slots] at h
    rcases List.mem_cons.mp h with h | h
    · subst h
      exact ⟨[], [], fun o => by rw [List.nil_append, List.append_nil], by rw [List.nil_append, List.append_nil]⟩
    · obtain ⟨g, hg, e⟩ := List.mem_map.mp h
      subst e
      obtain ⟨as, bs, p, s, h1, z, h2, h3⟩ := slotsAll_t xs g hg
      obtain ⟨p', s', hm⟩ := tup_mid as bs
      refine ⟨p' ++ p, s ++ s', fun o => ?_, ?_⟩
      · obtain ⟨z, e1, e2⟩ := h1 o
        show tlS (Th.tup (g.1 o)).t = _
        rw [Th.t, e1, hm z, e2]
        simp only [List.append_assoc]
      · rw [Th.t, h2, hm z, h3]
        simp only [List.append_assoc]
theorem slotsAll_t : ∀ (cs : List Th) (q : (Th → List Th) × Th), q ∈ slotsAll cs → ∃ (as bs : List Str) (p s : List Nat), (∀ o, ∃ z, Th.ts (q.1 o) = as ++ z :: bs ∧ tlS z = p ++ tlS o.t ++ s) ∧ ∃ z, Th.ts cs = as ++ z :: bs ∧ tlS z = p ++ tlS q.2.t ++ s
  | [], q, h => by
    rw [slotsAll] at h
    cases h
  | c :: cs, q, h => by
    rw [slotsAll] at h
    rcases List.mem_append.mp h with h | h
    · obtain ⟨g, hg, e⟩ := List.mem_map.mp h
      subst e
      obtain ⟨p, s, h1, h2⟩ := slot_t c g hg
      exact ⟨[], Th.ts cs, p, s, fun o => ⟨(g.1 o).t, by show Th.ts (g.1 o :: cs) = _; rw [Th.ts]; rfl, h1 o⟩, c.t, by rw [Th.ts]; rfl, h2⟩
    · obtain ⟨g, hg, e⟩ := List.mem_map.mp h
      subst e
      obtain ⟨as, bs, p, s, h1, z, h2, h3⟩ := slotsAll_t cs g hg
      refine ⟨c.t :: as, bs, p, s, fun o => ?_, z, by rw [Th.ts, h2]; rfl, h3⟩
      obtain ⟨z, e1, e2⟩ := h1 o
      exact ⟨z, by show Th.ts (c :: g.1 o) = _; rw [Th.ts, e1]; rfl, e2⟩
end
/-- texts are alike just where the parts are -/
theorem slot_same {c : Th} {q : (Th → Th) × Th} (h : q ∈ slots c) (o : Th) : (q.1 o).t = c.t ↔ o.t = q.2.t := by
  obtain ⟨p, s, h1, h2⟩ := slot_t c q h
  constructor
  · intro e
    have e := congrArg tlS e
    rw [h1 o, h2] at e
    exact tlS_inj (List.append_cancel_left (List.append_cancel_right e))
  · intro e
    apply tlS_inj
    rw [h1 o, h2, e]
theorem tup_head (a : Str) (r : List Str) : ∃ s, tlS (tupleText (a :: r)) = 40 :: (tlS a ++ s) := by
  obtain ⟨s, h⟩ := join_head ", " a r
  refine ⟨s ++ tlS (if (a :: r).length == 1 then ",)" else ")" : String), ?_⟩
  unfold tupleText
  rw [tlS_app, tlS_app, h, show tlS "(" = [40] by decide +kernel]
  simp only [List.append_assoc, List.cons_append, List.nil_append]
theorem tup_head2 (a b : Str) (r : List Str) : ∃ s, tlS (tupleText (a :: b :: r)) = 40 :: (tlS a ++ [44, 32] ++ s) := by
  refine ⟨tlS (Str.join ", " (b :: r)) ++ tlS (if (a :: b :: r).length == 1 then ",)" else ")" : String), ?_⟩
  unfold tupleText
  rw [tlS_app, tlS_app, show Str.join ", " (a :: b :: r) = a ++ ", " ++ Str.join ", " (b :: r) from rfl, tlS_app, tlS_app, show tlS "(" = [40] by decide +kernel, show tlS ", " = [44, 32] by decide +kernel]
  simp only [List.append_assoc, List.cons_append, List.nil_append]
theorem pre_le : ∀ x : Th, ∃ s, tlS x.t = pre x ++ s
  | .at d t => ⟨[], by rw [pre, List.append_nil]; rfl⟩
  | .tup [] => ⟨[], by rw [pre, Th.t, Th.ts]; decide +kernel⟩
  | .tup (.at d t :: y :: r) => by
    rw [pre, Th.t, Th.ts, Th.ts]
    obtain ⟨s, h⟩ := tup_head2 (Th.at d t).t y.t (Th.ts r)
    exact ⟨s, by rw [h]; rfl⟩
  | .tup [.at d t] => by
    rw [Th.t, Th.ts]
    obtain ⟨s, h⟩ := tup_head (Th.at d t).t (Th.ts [])
    refine ⟨s, ?_⟩
    rw [h]
    simp only [pre]
    rfl
  | .tup (.tup ys :: r) => by
    rw [Th.t, Th.ts]
    obtain ⟨s1, h1⟩ := pre_le (.tup ys)
    obtain ⟨s, h⟩ := tup_head (Th.tup ys).t (Th.ts r)
    refine ⟨s1 ++ s, ?_⟩
    rw [h, h1]
    cases r <;> simp only [pre, List.append_assoc, List.cons_append]
theorem same_t {o x : Th} (h : same o x = true) : o.t = x.t := by
  unfold same at h
  split at h
  · exact eqS_iff.mp h
  · cases h
theorem diff_t {o x : Th} (h : diff o x = true) : o.t ≠ x.t := by
  intro e
  unfold diff at h
  split at h
  · rename_i d t
    have z : eqS o.t t = true := eqS_iff.mpr e
    rw [z] at h
    cases h
  · rename_i xs
    obtain ⟨s, z⟩ := pre_le (.tup xs)
    rw [← e] at z
    have y : (pre (.tup xs)).isPrefixOf o.t.cps.toList = true := List.isPrefixOf_iff_prefix.mpr ⟨s, z.symm⟩
    rw [y] at h
    cases h
theorem all_in {α : Type} {l : List α} {f : α → Bool} (h : l.all f = true) {x : α} (hx : x ∈ l) : f x = true := List.all_eq_true.mp h x hx
/-- a claim with an odd thing in it -/
theorem odd_c {c p : PyData} {o : Th} {q : (Th → Th) × Th} (hg : (c, p) ∈ gd59) (ho : o ∈ odd59) (hq : q ∈ slots (ofD c)) : HoldsAll (q.1 o).d p ↔ (q.1 o).t = c.shown := by
  have h := all_in (all_in (all_in odd_C hg) ho) hq
  rw [← holdsB_iff, ← ofD_t c, slot_same hq]
  cases e : holdsB (q.1 o).d p with
  | true =>
    have h : (if holdsB (q.1 o).d p = true then same o q.2 else diff o q.2) = true := h
    rw [if_pos e] at h
    exact ⟨fun _ => same_t h, fun _ => rfl⟩
  | false =>
    have h : (if holdsB (q.1 o).d p = true then same o q.2 else diff o q.2) = true := h
    rw [if_neg (by rw [e]; exact Bool.false_ne_true)] at h
    exact ⟨fun z => (by cases z), fun z => absurd z (diff_t h)⟩
theorem odd_p {c p : PyData} {o : Th} {q : (Th → Th) × Th} (hg : (c, p) ∈ gd59) (ho : o ∈ odd59) (hq : q ∈ slots (ofD p)) : HoldsAll c (q.1 o).d ↔ (q.1 o).t = p.shown := by
  have h := all_in (all_in (all_in odd_P hg) ho) hq
  rw [← holdsB_iff, ← ofD_t p, slot_same hq]
  cases e : holdsB c (q.1 o).d with
  | true =>
    have h : (if holdsB c (q.1 o).d = true then same o q.2 else diff o q.2) = true := h
    rw [if_pos e] at h
    exact ⟨fun _ => same_t h, fun _ => rfl⟩
  | false =>
    have h : (if holdsB c (q.1 o).d = true then same o q.2 else diff o q.2) = true := h
    rw [if_neg (by rw [e]; exact Bool.false_ne_true)] at h
    exact ⟨fun z => (by cases z), fun z => absurd z (diff_t h)⟩
/-! ### integers that are too great or below 0 -/
def Bad (i : Int) : Prop := i < 0 ∨ 10 ^ 60 ≤ i
def iTh (i : Int) : Th := .at (.int i) ((toString i : String) : Str)
theorem num_tl (n : Nat) : tlS (Str.ofString (toString ((n : Nat) : Int))) = TL.numL n := TL.tl_num n
theorem neg_tl {i : Int} (h : i < 0) : ∃ s, tlS (Str.ofString (toString i)) = 45 :: s := by
  obtain ⟨m, rfl⟩ : ∃ m : Nat, i = Int.negSucc m := by
    cases i with
    | ofNat m => exact absurd h (by simp)
    | negSucc m => exact ⟨m, rfl⟩
  have e : toString (Int.negSucc m) = "-" ++ toString (m + 1) := rfl
  refine ⟨(toString (m + 1)).toList.map Char.toNat, ?_⟩
  rw [e, tlS, Str.ofString_eq_toList, String.toList_append]
  rfl
theorem nat_tl {i : Int} (h : 0 ≤ i) : ∃ c s, tlS (Str.ofString (toString i)) = c :: s ∧ 48 ≤ c ∧ c ≤ 57 := by
  obtain ⟨n, rfl⟩ : ∃ n : Nat, i = (n : Int) := ⟨i.toNat, by omega⟩
  cases e : TL.numL n with
  | nil => exact absurd e (TL.numL_ne n)
  | cons c s =>
    refine ⟨c, s, by rw [num_tl, e], ?_⟩
    exact TL.numL_digits n c (by rw [e]; exact .head _)
theorem bad_head (i : Int) : ∃ c s, tlS (iTh i).t = c :: s ∧ c ≠ 39 ∧ c ≠ 40 ∧ c ≠ 78 := by
  by_cases h : 0 ≤ i
  · obtain ⟨c, s, e, h1, h2⟩ := nat_tl h
    exact ⟨c, s, e, by omega, by omega, by omega⟩
  · obtain ⟨s, e⟩ := neg_tl (show i < 0 by omega)
    exact ⟨45, s, e, by decide, by decide, by decide⟩
theorem bad_num {i n : Int} (hb : Bad i) (hn : lenB n = true) : (iTh i).t ≠ ((toString n : String) : Str) := by
  have hn := lenB_iff.mp hn
  intro e
  have e : Str.ofString (toString i) = Str.ofString (toString n) := e
  rcases hb with h | h
  · obtain ⟨s, z⟩ := neg_tl h
    obtain ⟨c, s', z', h1, h2⟩ := nat_tl hn.1
    rw [e, z'] at z
    cases z
    omega
  · have e := congrArg numV e
    rw [numV_str (by omega), numV_str hn.1] at e
    omega
/-- the parts of the good ones -/
def partOk : Th → Bool
  | .at (.int n) t => lenB n && eqS t ((toString n : String) : Str)
  | .at _ t => match t.cps.toList with
    | c :: _ => c == 39 || c == 78
    | [] => false
  | .tup _ => true
theorem part_C : gd59.all (fun cp => (slots (ofD cp.1)).all fun q => partOk q.2) = true := by decide +kernel
theorem part_P : gd59.all (fun cp => (slots (ofD cp.2)).all fun q => partOk q.2) = true := by decide +kernel
theorem part_bad {i : Int} {x : Th} (hb : Bad i) (h : partOk x = true) : (iTh i).t ≠ x.t := by
  intro e
  obtain ⟨c, s, hc, n1, n2, n3⟩ := bad_head i
  rw [e] at hc
  unfold partOk at h
  split at h
  · rename_i n t
    rw [Bool.and_eq_true, eqS_iff] at h
    exact bad_num hb h.1 (e.trans h.2)
  · rename_i t _
    have hc : t.cps.toList = c :: s := hc
    rw [hc] at h
    have h : (c == 39 || c == 78) = true := h
    rw [Bool.or_eq_true, beq_iff_eq, beq_iff_eq] at h
    rcases h with h | h
    · exact n1 h
    · exact n3 h
  · rename_i xs
    obtain ⟨s', z⟩ := pre_le (.tup xs)
    have : ∃ r, pre (.tup xs) = 40 :: r := by
      cases xs with
      | nil => exact ⟨[41], by rw [pre]⟩
      | cons y ys =>
        cases y with
        | «at» d t => cases ys <;> simp [pre]
        | tup zs => cases ys <;> simp [pre]
    obtain ⟨r, hr⟩ := this
    rw [hc, hr] at z
    cases z
    exact n2 rfl
/-! ### what is well enough sized to be judged -/
inductive OkD : PyData → Prop
  | int {i : Int} (h : i < 10 ^ 61) : OkD (.int i)
  | str {s : Str} (h : s.length ≤ 1000) : OkD (.str s)
  | tup {xs : List PyData} (l : xs.length ≤ 1000) (h : ∀ x ∈ xs, OkD x) : OkD (.tuple xs)
  | non : OkD .none
  | bl (b : Bool) : OkD (.bool b)
  | oth : OkD (.list [])
theorem OkD.texts {d : PyData} (h : OkD d) : TextsOk d := fun ds e x hx => by
  subst e
  cases h with
  | tup _ h =>
    have hx := h x hx
    refine ⟨fun s e => ?_, fun es e => ?_⟩
    · subst e
      cases hx with
      | str h => exact h
    · subst e
      cases hx with
      | tup l h =>
        refine ⟨l, fun y hy fs e z hz s es => ?_⟩
        have hy := h y hy
        subst e
        cases hy with
        | tup _ h =>
          have := h z hz
          subst es
          cases this with
          | str h => exact h
theorem OkD.small {d : PyData} (h : OkD d) : Small d := fun x y e => by
  subst e
  cases h with
  | tup _ h =>
    have h1 := h (.int x) (.head _)
    have h2 := h (.int y) (.tail _ (.head _))
    cases h1 with
    | int h1 =>
    cases h2 with
    | int h2 => exact ⟨by omega, by omega⟩
mutual
def okB : PyData → Bool
  | .int i => decide (i < 10 ^ 61)
  | .str s => decide (s.length ≤ 1000)
  | .tuple xs => decide (xs.length ≤ 1000) && okAll xs
  | .none => true
  | .bool _ => true
  | .list [] => true
  | _ => false
def okAll : List PyData → Bool
  | [] => true
  | x :: xs => okB x && okAll xs
end
mutual
theorem okB_ok : ∀ d : PyData, okB d = true → OkD d
  | .int i, h => .int (by rw [okB] at h; exact of_decide_eq_true h)
  | .str s, h => .str (by rw [okB] at h; exact of_decide_eq_true h)
  | .tuple xs, h => by
    rw [okB, Bool.and_eq_true] at h
    exact .tup (of_decide_eq_true h.1) (okAll_ok xs h.2)
  | .none, _ => .non
  | .bool b, _ => .bl b
  | .list [], _ => .oth
  | .list (x :: xs), h => by simp [okB] at h
  | .dict _, h => by simp [okB] at h
theorem okAll_ok : ∀ ds : List PyData, okAll ds = true → ∀ x ∈ ds, OkD x
  | [], _, _, hx => nomatch hx
  | d :: ds, h, x, hx => by
    rw [okAll, Bool.and_eq_true] at h
    rcases List.mem_cons.mp hx with e | hx
    · rw [e]
      exact okB_ok d h.1
    · exact okAll_ok ds h.2 x hx
end
theorem gd_ok : gd59.all (fun cp => okB cp.1 && okB cp.2) = true := by decide +kernel
theorem odd_ok : odd59.all (fun o => okB o.d) = true := by decide +kernel
theorem ds_mem {x : PyData} : ∀ {xs : List Th}, x ∈ Th.ds xs ↔ ∃ y ∈ xs, y.d = x
  | [] => by rw [Th.ds]; simp
  | y :: xs => by
    rw [Th.ds, List.mem_cons, ds_mem (xs := xs)]
    constructor
    · rintro (h | ⟨z, h1, h2⟩)
      · exact ⟨y, .head _, h.symm⟩
      · exact ⟨z, .tail _ h1, h2⟩
    · rintro ⟨z, h1, h2⟩
      rcases List.mem_cons.mp h1 with e | h1
      · rw [← h2, e]
        exact .inl rfl
      · exact .inr ⟨z, h1, h2⟩
theorem ds_len : ∀ xs : List Th, (Th.ds xs).length = xs.length
  | [] => by rw [Th.ds]; rfl
  | x :: xs => by rw [Th.ds, List.length_cons, List.length_cons, ds_len xs]
/-- what stands within a thing -/
inductive HasI (i : Int) : PyData → Prop
  | leaf : HasI i (.int i)
  | tup {xs : List PyData} {x : PyData} (h : x ∈ xs) (p : HasI i x) : HasI i (.tuple xs)
mutual
theorem slot_d {o : Th} (ok : OkD o.d) : ∀ (c : Th) (q : (Th → Th) × Th), q ∈ slots c → (OkD c.d → OkD (q.1 o).d) ∧ ∀ i, HasI i o.d → HasI i (q.1 o).d
  | .at d t, q, h => by
    rw [slots, List.mem_singleton] at h
    subst h
    exact ⟨fun _ => ok, fun _ h => h⟩
  | .tup xs, q, h => by
    rw [slots] at h
    rcases List.mem_cons.mp h with h | h
    · subst h
      exact ⟨fun _ => ok, fun _ h => h⟩
    · obtain ⟨g, hg, e⟩ := List.mem_map.mp h
      subst e
      obtain ⟨h1, h2, h3⟩ := slotsAll_d ok xs g hg
      refine ⟨fun k => ?_, fun i hi => ?_⟩
      · rw [Th.d] at k
        cases k with
        | tup l k =>
        show OkD (Th.tup (g.1 o)).d
        rw [Th.d]
        refine .tup ?_ (h2 k)
        rw [ds_len] at l ⊢
        omega
      · show HasI i (Th.tup (g.1 o)).d
        rw [Th.d]
        obtain ⟨x, hx, p⟩ := h3 i hi
        exact .tup hx p
theorem slotsAll_d {o : Th} (ok : OkD o.d) : ∀ (cs : List Th) (q : (Th → List Th) × Th), q ∈ slotsAll cs → (q.1 o).length = cs.length ∧ ((∀ x ∈ Th.ds cs, OkD x) → ∀ x ∈ Th.ds (q.1 o), OkD x) ∧ ∀ i, HasI i o.d → ∃ x ∈ Th.ds (q.1 o), HasI i x
  | [], q, h => by
    rw [slotsAll] at h
    cases h
  | c :: cs, q, h => by
    rw [slotsAll] at h
    rcases List.mem_append.mp h with h | h
    · obtain ⟨g, hg, e⟩ := List.mem_map.mp h
      subst e
      obtain ⟨h1, h2⟩ := slot_d ok c g hg
      refine ⟨rfl, fun k x hx => ?_, fun i hi => ?_⟩
      · have hx : x ∈ Th.ds (g.1 o :: cs) := hx
        rw [Th.ds] at hx k
        rcases List.mem_cons.mp hx with e | hx
        · rw [e]
          exact h1 (k _ (.head _))
        · exact k _ (.tail _ hx)
      · refine ⟨(g.1 o).d, ?_, h2 i hi⟩
        show _ ∈ Th.ds (g.1 o :: cs)
        rw [Th.ds]
        exact .head _
    · obtain ⟨g, hg, e⟩ := List.mem_map.mp h
      subst e
      obtain ⟨h1, h2, h3⟩ := slotsAll_d ok cs g hg
      refine ⟨congrArg (· + 1) h1, fun k x hx => ?_, fun i hi => ?_⟩
      · have hx : x ∈ Th.ds (c :: g.1 o) := hx
        rw [Th.ds] at hx k
        rcases List.mem_cons.mp hx with e | hx
        · rw [e]
          exact k _ (.head _)
        · exact h2 (fun y hy => k _ (.tail _ hy)) x hx
      · obtain ⟨x, hx, p⟩ := h3 i hi
        refine ⟨x, ?_, p⟩
        show _ ∈ Th.ds (c :: g.1 o)
        rw [Th.ds]
        exact .tail _ hx
end
/-! ### no claim and no paper holds with such an integer in it -/
theorem bad_of {i n : Int} (hb : Bad i) (h0 : 0 ≤ n) (h1 : n ≤ 10 ^ 60 - 1) : i ≠ n := by
  rintro rfl
  rcases hb with h | h <;> omega
theorem no_str {i : Int} {s : Str} (h : HasI i (.str s)) : False := by cases h
theorem no_txt {i : Int} {e : PyData} {r : Int × List Wr} (h : HasI i e) (hr : rdT e = some r) : False := by
  cases h with
  | leaf => cases hr
  | tup _ _ => cases hr
theorem has_int {i n : Int} (h : HasI i (.int n)) : i = n := by
  cases h
  rfl
theorem rdStp_no {i : Int} {ws : List Wr} {d : PyData} {r : Stp × List Wr} (hb : Bad i) (h : HasI i d) (hr : rdStp ws d = some r) : False := by
  unfold rdStp at hr
  split at hr
  · rename_i z d
    split at hr
    · split at hr
      · rename_i t
        cases h with
        | tup hx p =>
          rcases List.mem_cons.mp hx with e | hx
          · subst e
            exact no_str p
          · rcases List.mem_cons.mp hx with e | hx
            · subst e
              exact no_str p
            · cases hx
      · cases hr
    · split at hr
      · split at hr
        · rename_i n
          split at hr
          · rename_i c
            cases h with
            | tup hx p =>
              rcases List.mem_cons.mp hx with e | hx
              · subst e
                exact no_str p
              · rcases List.mem_cons.mp hx with e | hx
                · subst e
                  exact bad_of hb c.1 c.2 (has_int p)
                · cases hx
          · cases hr
        · cases hr
      · cases hr
  · rename_i z
    cases h with
    | tup hx p =>
      rcases List.mem_cons.mp hx with e | hx
      · subst e
        exact no_str p
      · cases hx
  · cases hr
theorem rdStps_no {i : Int} (hb : Bad i) : ∀ {ds : List PyData} {ws : List Wr} {ss : List Stp} {d : PyData}, d ∈ ds → HasI i d → rdStps ws ds = some ss → False
  | d0 :: ds, ws, ss, d, hd, h, hr => by
    rw [rdStps] at hr
    split at hr
    · rename_i s us e
      rcases List.mem_cons.mp hd with z | hd
      · rw [z] at h
        exact rdStp_no hb h e
      · cases e2 : rdStps us ds with
        | none => rw [e2] at hr; cases hr
        | some ss' => exact rdStps_no hb hd h e2
    · cases hr
theorem rdStps_len : ∀ {ds : List PyData} {ws : List Wr} {ss : List Stp}, rdStps ws ds = some ss → ss.length = ds.length
  | [], ws, ss, hr => by
    rw [rdStps] at hr
    cases hr
    rfl
  | d0 :: ds, ws, ss, hr => by
    rw [rdStps] at hr
    split at hr
    · rename_i s us e
      cases e2 : rdStps us ds with
      | none => rw [e2] at hr; cases hr
      | some ss' =>
        rw [e2] at hr
        cases hr
        rw [List.length_cons, List.length_cons, rdStps_len e2]
    · cases hr
theorem rdAll_no {i : Int} {t : PyData} {ss : List Stp} (hb : Bad i) (h : HasI i t) (hr : rdAll t = some ss) : False := by
  cases h with
  | leaf => cases hr
  | tup hx p => exact rdStps_no hb hx p hr
theorem has_tup {i : Int} {ds : List PyData} (h : HasI i (.tuple ds)) : ∃ x ∈ ds, HasI i x := by
  cases h with
  | tup h p => exact ⟨_, h, p⟩
theorem bad_claim {i : Int} {d e : PyData} (hb : Bad i) (ok : OkD d) (hi : HasI i d) (h : HoldsAll d e) : ∃ e0 n b ws, d = .tuple [.str "size", e0, .int n, .int i] ∧ 0 ≤ n ∧ n ≤ 10 ^ 60 - 1 ∧ rdT e0 = some (b, ws) ∧ grS b ws n = i := by
  obtain ⟨ds, h⟩ := h
  rcases h with ⟨rfl, _, h⟩ | ⟨rfl, _, h⟩ | ⟨rfl, _, h⟩ | ⟨rfl, h⟩ | ⟨rfl, h⟩ | ⟨rfl, h⟩ | ⟨rfl, h⟩
  · obtain ⟨e0, n, b, ws, rfl, h0, h1, hr⟩ := h
    obtain ⟨x, hx, p⟩ := has_tup hi
    simp only [List.mem_cons, List.not_mem_nil, or_false] at hx
    rcases hx with rfl | rfl | rfl | rfl
    · exact absurd p no_str
    · exact absurd (no_txt p hr) id
    · exact absurd (has_int p) (bad_of hb h0 h1)
    · have := has_int p
      exact ⟨e0, n, b, ws, by rw [this], h0, h1, hr, this.symm⟩
  · obtain ⟨e1, e2, n, b, b', ws, ws', rfl, h0, h1, hr, hr', _⟩ := h
    obtain ⟨x, hx, p⟩ := has_tup hi
    simp only [List.mem_cons, List.not_mem_nil, or_false] at hx
    rcases hx with rfl | rfl | rfl | rfl
    · exact absurd p no_str
    · exact absurd (no_txt p hr) id
    · exact absurd (no_txt p hr') id
    · exact absurd (has_int p) (bad_of hb h0 h1)
  · obtain ⟨e1, e2, n, b, b', ws, ws', rfl, h0, h1, hr, hr', _⟩ := h
    obtain ⟨x, hx, p⟩ := has_tup hi
    simp only [List.mem_cons, List.not_mem_nil, or_false] at hx
    rcases hx with rfl | rfl | rfl | rfl
    · exact absurd p no_str
    · exact absurd (no_txt p hr) id
    · exact absurd (no_txt p hr') id
    · exact absurd (has_int p) (bad_of hb h0 h1)
  · obtain ⟨t, bd, n, b, ws, rfl, h0, h1, h2, h3, hr, _⟩ := h
    obtain ⟨x, hx, p⟩ := has_tup hi
    simp only [List.mem_cons, List.not_mem_nil, or_false] at hx
    rcases hx with rfl | rfl | rfl | rfl
    · exact absurd p no_str
    · exact absurd (no_txt p hr) id
    · exact absurd (has_int p) (bad_of hb h0 h1)
    · exact absurd (has_int p) (bad_of hb h2 h3)
  · obtain ⟨t, sz, b, ws, rfl, h0, h1, hr, _⟩ := h
    obtain ⟨x, hx, p⟩ := has_tup hi
    simp only [List.mem_cons, List.not_mem_nil, or_false] at hx
    rcases hx with rfl | rfl | rfl
    · exact absurd p no_str
    · exact absurd (no_txt p hr) id
    · exact absurd (has_int p) (bad_of hb h0 h1)
  · obtain ⟨b, c, n, x, y, rfl, _, h0, h1, h2, h3, h4, h5, _⟩ := h
    obtain ⟨x, hx, p⟩ := has_tup hi
    simp only [List.mem_cons, List.not_mem_nil, or_false] at hx
    rcases hx with rfl | rfl | rfl | rfl
    · exact absurd p no_str
    · exact absurd (has_int p) (bad_of hb (by omega) (by omega))
    · exact absurd (has_int p) (bad_of hb (by omega) (by omega))
    · exact absurd (has_int p) (bad_of hb h4 h5)
  · obtain ⟨b, t, at_, ss, m, n, rfl, h0, h1, hr, _, h2, h3, _, hf⟩ := h
    obtain ⟨f0, f1, _⟩ := (first_iff _ _ _ _).mp hf
    obtain ⟨x, hx, p⟩ := has_tup hi
    simp only [List.mem_cons, List.not_mem_nil, or_false] at hx
    rcases hx with rfl | rfl | rfl | rfl
    · exact absurd p no_str
    · exact absurd (has_int p) (bad_of hb (by omega) (by omega))
    · exact absurd (rdAll_no hb p hr) id
    · refine absurd (has_int p) (bad_of hb f0 ?_)
      cases t with
      | tuple ts =>
        have l := rdStps_len hr
        cases ok with
        | tup _ ok =>
          have := ok (.tuple ts) (by simp)
          cases this with
          | tup l2 _ => omega
      | _ => cases hr
theorem figF_small {b x : Int} (hb : 2 ≤ b) (h : x < 10 ^ 63) : figF b x ≤ 300 := by
  obtain ⟨j, e, _, h2⟩ := figF_is (n := x) hb
  rw [e]
  by_cases c : j ≤ 250
  · omega
  · rcases h2 with rfl | h2
    · omega
    · have h3 : (2 : Int) ^ 250 ≤ b ^ 250 := pow_base hb 250
      have h4 : b ^ 250 ≤ b ^ j := pow_mono (show 1 ≤ b by omega) (show 250 ≤ j by omega)
      have h5 : (10 : Int) ^ 63 ≤ 2 ^ 250 := by decide +kernel
      omega
theorem bad_page {i : Int} {d e : PyData} (hb : Bad i) (ok : OkD e) (hi : HasI i e) (h : HoldsAll d e) : (∃ ds, d = .tuple (.str "payload" :: ds) ∧ PayP ds e) ∨ ∃ b c n, d = .tuple [.str "doubled", .int b, .int c, .int n] ∧ 0 ≤ i ∧ i ≤ n + c + 300 := by
  obtain ⟨ds, h⟩ := h
  rcases h with ⟨rfl, rfl, h⟩ | ⟨rfl, rfl, h⟩ | ⟨rfl, rfl, h⟩ | ⟨rfl, h⟩ | ⟨rfl, h⟩ | ⟨rfl, h⟩ | ⟨rfl, h⟩
  · obtain ⟨x, hx, p⟩ := has_tup hi
    cases hx
  · obtain ⟨x, hx, p⟩ := has_tup hi
    cases hx
  · obtain ⟨x, hx, p⟩ := has_tup hi
    cases hx
  · exact .inl ⟨ds, rfl, h⟩
  · obtain ⟨t, sz, b, ws, rfl, h0, h1, hr, h⟩ := h
    rcases h with ⟨rfl, _⟩ | ⟨n, rfl, h2, h3, _⟩
    · obtain ⟨x, hx, p⟩ := has_tup hi
      cases hx
    · exact absurd (has_int hi) (bad_of hb h2 (by omega))
  · obtain ⟨b, c, n, x, y, rfl, rfl, h0, h1, h2, h3, h4, h5, h6, h7, h8, h9⟩ := h
    obtain ⟨q1, q2⟩ := ok.small x y rfl
    have f1 := figF_small h0 q1
    have f2 := figF_small h0 q2
    obtain ⟨z, hz, p⟩ := has_tup hi
    simp only [List.mem_cons, List.not_mem_nil, or_false] at hz
    refine .inr ⟨b, c, n, rfl, ?_⟩
    rcases hz with rfl | rfl
    · have := has_int p
      subst this
      omega
    · have := has_int p
      subst this
      omega
  · obtain ⟨b, t, at_, ss, m, n, rfl, h0, h1, hr, rfl, h2, h3, hm, _⟩ := h
    obtain ⟨x, hx, p⟩ := has_tup hi
    simp only [List.mem_cons, List.not_mem_nil, or_false] at hx
    rcases hx with rfl | rfl
    · rcases hm with ⟨rfl, _⟩ | ⟨k, rfl, k0, k1, _⟩
      · cases p
      · exact absurd (has_int p) (bad_of hb k0 (by omega))
    · exact absurd (has_int p) (bad_of hb h2 h3)
mutual
def noBad : PyData → Bool
  | .int i => lenB i
  | .tuple xs => noBadAll xs
  | _ => true
def noBadAll : List PyData → Bool
  | [] => true
  | x :: xs => noBad x && noBadAll xs
end
mutual
theorem noBad_has {i : Int} (hb : Bad i) : ∀ d : PyData, noBad d = true → HasI i d → False
  | .int n, h, p => by
    rw [noBad] at h
    have h := lenB_iff.mp h
    exact bad_of hb h.1 h.2 (has_int p)
  | .tuple xs, h, p => by
    rw [noBad] at h
    obtain ⟨x, hx, p⟩ := has_tup p
    exact noBadAll_has hb xs h x hx p
  | .none, _, p => nomatch p
  | .bool _, _, p => nomatch p
  | .str _, _, p => nomatch p
  | .list _, _, p => nomatch p
  | .dict _, _, p => nomatch p
theorem noBadAll_has {i : Int} (hb : Bad i) : ∀ ds : List PyData, noBadAll ds = true → ∀ x ∈ ds, HasI i x → False
  | [], _, _, hx, _ => nomatch hx
  | d :: ds, h, x, hx, p => by
    rw [noBadAll, Bool.and_eq_true] at h
    rcases List.mem_cons.mp hx with e | hx
    · rw [e] at p
      exact noBad_has hb d h.1 p
    · exact noBadAll_has hb ds h.2 x hx p
end
def dblSm : PyData → Bool
  | .tuple [.str w, .int _, .int c, .int n] => if w = "doubled" then decide (n + c ≤ 2000) else true
  | _ => true
def sizeSm : PyData → Bool
  | .tuple (.str w :: ds) => if w = "size" then (match ds with
    | [.str s, .int n, .int m] => (match rdS s with
      | some (b, ws) => lenB n && lenB m && lenB (grSC b ws n)
      | none => false)
    | _ => false) else true
  | _ => false
theorem gd_sm : gd59.all (fun cp => dblSm cp.1 && sizeSm cp.1 && noBad cp.2) = true := by decide +kernel
theorem pay_det {ds : List PyData} {e e' : PyData} (h : PayP ds e) (h' : PayP ds e') : e = e' := by
  obtain ⟨t, bd, n, b, ws, rfl, _, _, _, _, hr, _, h⟩ := h
  obtain ⟨t', bd', n', b', ws', z, _, _, _, _, hr', _, h'⟩ := h'
  cases z
  rw [hr] at hr'
  cases hr'
  rcases h with ⟨c, rfl⟩ | ⟨c, rfl, _⟩
  · rcases h' with ⟨_, rfl⟩ | ⟨c', _⟩
    · rfl
    · exact absurd c c'
  · rcases h' with ⟨c', _⟩ | ⟨_, rfl, _⟩
    · exact absurd c' c
    · rfl
/-- a paper with such an integer in it -/
theorem bad_p {i : Int} {c p : PyData} {q : (Th → Th) × Th} (hb : Bad i) (hi : i < 10 ^ 61) (hg : (c, p) ∈ gd59) (hq : q ∈ slots (ofD p)) : ¬ HoldsAll c (q.1 (iTh i)).d ∧ (q.1 (iTh i)).t ≠ p.shown := by
  have hok := all_in gd_ok hg
  rw [Bool.and_eq_true] at hok
  have hsm := all_in gd_sm hg
  rw [Bool.and_eq_true, Bool.and_eq_true] at hsm
  have o1 : OkD (iTh i).d := .int hi
  obtain ⟨k1, k2⟩ := slot_d o1 (ofD p) q hq
  rw [ofD_d] at k1
  have k1 := k1 (okB_ok p hok.2)
  have k2 := k2 i .leaf
  refine ⟨fun h => ?_, fun e => ?_⟩
  · rcases bad_page hb k1 k2 h with ⟨ds, e, h⟩ | ⟨b, c', n, e, h0, h1⟩
    · have hh := (holdsB_iff c p).mp (all_in gd_holds hg)
      rw [e] at hh
      have hp : PayP ds p := by
        rcases hol_word hh with ⟨z, _⟩ | ⟨z, _⟩ | ⟨z, _⟩ | ⟨_, z⟩ | ⟨z, _⟩ | ⟨z, _⟩ | ⟨z, _⟩
        rotate_left 3
        · exact z
        all_goals exact absurd z (by decide)
      have := pay_det h hp
      rw [this] at k2
      exact noBad_has hb p hsm.2 k2
    · have := hsm.1.1
      rw [e] at this
      have : decide (n + c' ≤ 2000) = true := this
      rw [decide_eq_true_iff] at this
      rcases hb with hb | hb <;> omega
  · rw [← ofD_t p] at e
    exact part_bad hb (all_in (all_in part_P hg) hq) ((slot_same hq _).mp e)
theorem slot_first {w t : Str} {cs : List Th} {q : (Th → Th) × Th} (h : q ∈ slots (.tup (.at (.str w) t :: cs))) (o : Th) : q.1 o = o ∨ q.1 o = .tup (o :: cs) ∨ ∃ g ∈ slotsAll cs, q.1 o = .tup (.at (.str w) t :: g.1 o) := by
  rw [slots] at h
  rcases List.mem_cons.mp h with h | h
  · subst h
    exact .inl rfl
  · obtain ⟨g, hg, e⟩ := List.mem_map.mp h
    subst e
    rw [slotsAll] at hg
    rcases List.mem_append.mp hg with hg | hg
    · obtain ⟨g', hg', e⟩ := List.mem_map.mp hg
      subst e
      rw [slots, List.mem_singleton] at hg'
      subst hg'
      exact .inr (.inl rfl)
    · obtain ⟨g', hg', e⟩ := List.mem_map.mp hg
      subst e
      exact .inr (.inr ⟨g', hg', rfl⟩)
/-- a claim with such an integer in it -/
theorem bad_c {i : Int} {c p : PyData} {q : (Th → Th) × Th} (hb : Bad i) (hi : i < 10 ^ 61) (hg : (c, p) ∈ gd59) (hq : q ∈ slots (ofD c)) : ¬ HoldsAll (q.1 (iTh i)).d p ∧ (q.1 (iTh i)).t ≠ c.shown := by
  have hok := all_in gd_ok hg
  rw [Bool.and_eq_true] at hok
  have hsm := all_in gd_sm hg
  rw [Bool.and_eq_true, Bool.and_eq_true] at hsm
  have o1 : OkD (iTh i).d := .int hi
  obtain ⟨k1, k2⟩ := slot_d o1 (ofD c) q hq
  rw [ofD_d] at k1
  have k1 := k1 (okB_ok c hok.1)
  have k2 := k2 i .leaf
  refine ⟨fun h => ?_, fun e => ?_⟩
  · obtain ⟨e0, n, b, ws, e, h0, h1, hr, hgr⟩ := bad_claim hb k1 k2 h
    have hz : sizeSm c = true := hsm.1.2
    clear hsm hok
    unfold sizeSm at hz
    split at hz
    · rename_i w ds
      have hq' : q ∈ slots (.tup (.at (.str w) (PyData.shown (.str w)) :: ofAll ds)) := by
        have hq := hq
        rw [ofD, ofAll, ofD] at hq
        · exact hq
        · intro xs z
          cases z
      rcases slot_first hq' (iTh i) with z | z | ⟨g, hg2, z⟩
      · rw [z] at e
        cases e
      · rw [z, Th.d, Th.ds] at e
        cases e
      · rw [z, Th.d, Th.ds] at e
        have e : PyData.tuple (.str w :: Th.ds (g.1 (iTh i))) = PyData.tuple (.str "size" :: [e0, .int n, .int i]) := e
        injection e with e
        injection e with ew e
        injection ew with ew
        rw [if_pos ew] at hz
        split at hz
        · rename_i s n' m'
          split at hz
          · rename_i b' ws' hr'
            rw [Bool.and_eq_true, Bool.and_eq_true] at hz
            have l1 := lenB_iff.mp hz.1.2
            have l2 := lenB_iff.mp hz.2
            simp only [ofAll, ofD, slotsAll, slots, List.map_cons, List.map_nil, List.append_nil, List.mem_append, List.mem_cons, List.not_mem_nil, or_false, List.cons_append, List.nil_append] at hg2
            rcases hg2 with rfl | rfl | rfl
            · simp only [Th.ds, Th.d] at e
              cases e
              exact bad_of hb l1.1 l1.2 rfl
            · simp only [Th.ds, Th.d] at e
              cases e
              exact bad_of hb l1.1 l1.2 rfl
            · simp only [Th.ds, Th.d] at e
              cases e
              have hr : rdS s = some (b, ws) := hr
              rw [hr] at hr'
              cases hr'
              rw [grSC_eq, hgr] at l2
              exact bad_of hb l2.1 l2.2 rfl
          · cases hz
        · cases hz
    · cases hz
  · rw [← ofD_t c] at e
    exact part_bad hb (all_in (all_in part_C hg) hq) ((slot_same hq _).mp e)
/-- what is no list, and no such instance, stays -/
structure Keeps (K : PySem.W.Frag) (H H' : Hp) : Prop where
  tup : ∀ {q xs}, H q = some (.tup xs) → H' q = some (.tup xs)
  wrap : ∀ {q dx fs}, H q = some (.ins (He.ga K "Wrap") dx fs) → H' q = some (.ins (He.ga K "Wrap") dx fs)
  stack : ∀ {q dx fs}, H q = some (.ins (He.ga K "Stack") dx fs) → H' q = some (.ins (He.ga K "Stack") dx fs)
theorem Keeps.same {K : PySem.W.Frag} {H H' : Hp} (s : Same H H') : Keeps K H H' := ⟨fun h => s _ _ h, fun h => s _ _ h, fun h => s _ _ h⟩
theorem Keeps.lst {K : PySem.W.Frag} {H : Hp} {l : Addr} {ys zs : List V} (hl : H l = some (.lst ys)) : Keeps K H (upd H l (.lst zs)) :=
  ⟨fun {q xs} e => by rw [upd_ne (fun z => by rw [z, hl] at e; cases e)]; exact e, fun {q xs fs} e => by rw [upd_ne (fun z => by rw [z, hl] at e; cases e)]; exact e, fun {q xs fs} e => by rw [upd_ne (fun z => by rw [z, hl] at e; cases e)]; exact e⟩
theorem Keeps.trans {K : PySem.W.Frag} {H H1 H2 : Hp} (a : Keeps K H H1) (b : Keeps K H1 H2) : Keeps K H H2 := ⟨fun h => b.tup (a.tup h), fun h => b.wrap (a.wrap h), fun h => b.stack (a.stack h)⟩
/-- only the road at r changes -/
theorem Keeps.road {K : PySem.W.Frag} {H H' : Hp} {r dr : Addr} {fs : List (Str × V)} (n1 : He.ga K "Road" ≠ He.ga K "Wrap") (n2 : He.ga K "Road" ≠ He.ga K "Stack") (hr : H r = some (.ins (He.ga K "Road") dr fs)) (k : Kp r H H') : Keeps K H H' :=
  ⟨fun {q xs} e => k _ _ (fun z => by rw [z, hr] at e; cases e) e, fun {q xs fs} e => k _ _ (fun z => by rw [z, hr] at e; exact n1 (by injection e with e; injection e)) e, fun {q xs fs} e => k _ _ (fun z => by rw [z, hr] at e; exact n2 (by injection e with e; injection e)) e⟩
theorem WrapAt.keeps {K : PySem.W.Frag} {H H' : Hp} {q : Addr} {a : Wr} (h : WrapAt K H q a) (k : Keeps K H H') : WrapAt K H' q a := by
  obtain ⟨dx, p, h1, h2⟩ := h
  exact ⟨dx, p, k.wrap h1, k.tup h2⟩
theorem WrapsAt.keeps {K : PySem.W.Frag} {H H' : Hp} {xs : List V} {ws : List Wr} (h : WrapsAt K H xs ws) (k : Keeps K H H') : WrapsAt K H' xs ws := by
  induction h with
  | nil => exact .nil
  | cons h _ ih => exact .cons (h.keeps k) ih
theorem StkAt.keeps {K : PySem.W.Frag} {H H' : Hp} {q : Addr} {b : Int} {ws : List Wr} (h : StkAt K H q b ws) (k : Keeps K H H') : StkAt K H' q b ws := by
  obtain ⟨dx, t, xs, h1, h2, h3⟩ := h
  exact ⟨dx, t, xs, k.stack h1, k.tup h2, h3.keeps k⟩
theorem nums_two (a : Wr) : a.nums.length ≤ 2 := by cases a <;> simp [Wr.nums]
theorem text_len {a : Wr} (h : a.ok) : a.text.length ≤ 200 := by
  have h1 := join_len (sep := (" " : Str)) (ys := a.kind :: a.nums.map fun i => (toString i : Str))
  have h2 := sum_short a.nums fun z hz => by have := nums_small h z hz; omega
  have h3 := kind_len a
  have h4 := nums_two a
  have h5 : (" " : Str).length = 1 := by decide
  unfold Wr.text
  simp only [List.map_cons, List.sum_cons, List.length_cons, List.length_map] at h1
  rw [h5] at h1
  omega
/-! ### wraps, stacks and roads as things: made, shown -/
def roadFs (b : Int) (t q : Addr) : List (Str × V) := [("base", .int b), ("steps", .ref t), ("stack", .ref q), ("busy", .bl false)]
/-- a road without a step -/
def Rd0 (K : PySem.W.Frag) (H : Hp) (r : Addr) (b : Int) : Prop := ∃ dx t q, H r = some (.ins (He.ga K "Road") dx (roadFs b t q)) ∧ H t = some (.tup []) ∧ StkAt K H q b []
theorem Rd0.same {K : PySem.W.Frag} {H H' : Hp} {r : Addr} {b : Int} (s : Same H H') (h : Rd0 K H r b) : Rd0 K H' r b := by
  obtain ⟨dx, t, q, h1, h2, h3⟩ := h
  exact ⟨dx, t, q, s _ _ h1, s _ _ h2, h3.same s⟩
def spRoad0 (K : PySem.W.Frag) : Sp := fun vs H Q _ => ∃ (x dx : Addr) (b : Int), vs = [.ref x, .int b] ∧ 2 ≤ b ∧ b ≤ 256 ∧ H x = some (.ins (He.ga K "Road") dx []) ∧
  ∀ H' t q, Kp x H H' → H' x = some (.ins (He.ga K "Road") dx (roadFs b t q)) → H' t = some (.tup []) → StkAt K H' q b [] → Q .non H'
def spRoad (K : PySem.W.Frag) : Sp := fun vs H Q _ => ∃ (b : Int), vs = [.int b] ∧ 2 ≤ b ∧ b ≤ 256 ∧ ∀ q H', H q = none → Same H H' → Rd0 K H' q b → Q (.ref q) H'
def stkRepr (b : Int) (n : Nat) : Str := Str.empty ++ "Stack(base " ++ (toString b : Str) ++ ", " ++ (toString (n : Int) : Str) ++ " wraps)"
def spSRepr (K : PySem.W.Frag) : Sp := fun vs H Q _ => ∃ (q : Addr) (b : Int) (ws : List Wr), vs = [.ref q] ∧ StkAt K H q b ws ∧ StkOk b ws ∧ Q (.str (stkRepr b ws.length)) H
def wRepr (a : Wr) : Str := Str.empty ++ "Wrap(" ++ a.text ++ ")"
def spWRepr (K : PySem.W.Frag) : Sp := fun vs H Q _ => ∃ (q : Addr) (a : Wr), vs = [.ref q] ∧ WrapAt K H q a ∧ a.ok ∧ Q (.str (wRepr a)) H
def spRRepr (K : PySem.W.Frag) : Sp := fun vs H Q _ => ∃ (q : Addr) (b : Int), vs = [.ref q] ∧ Rd0 K H q b ∧ Q (.str "Road(0 steps)") H
section
variable {P : Program} {w : World} {K : PySem.W.Frag} {mg : Str → Option Value} {base : Heap}
theorem ok_Road (T : Tx w K mg) : PromC P w K mg base CX0 6 "Road" (spRoad K) := by
  refine PromC.plain (sp0 := spRoad0 K) T.mk_Road T.k_Road T.dm_Road___init__ sc_Road___init__ (fun vs H Q E h => ?_) (fun _ _ _ _ _ _ us hl => match us, hl with | [_, _], _ => rfl) (fun f cdv A outer s H vs Q E hr h => ?_) (fun vs H Q E h x dx hx hdx ne => ?_)
  · obtain ⟨x, dx, b, rfl, _⟩ := h
    rfl
  · obtain ⟨x, dx, b, rfl, b0, b1, hx, k⟩ := h
    refine ⟨_, (pss_cons (ps_expr (pe_callP (ok_check_base T) (hr.mono (by decide)) (by rfl) pass0 (pa_cons (pv 1) pa_nil)))
      (pss_cons (ps_fld (pv 0) (pv 1) rfl)
      (pss_cons (ps_fld (pv 0) (pe_tup pa_nil) rfl)
      (pss_cons (ps_fld (pv 0) (pe_newP (ok_Stack T) (hr.mono (by decide)) (by rfl) pass0 (pa_cons (pv 1) pa_nil)) rfl)
      (pss_one (ps_fld (pv 0) pe_bl rfl)))))), ?_⟩
    refine ⟨_, rfl, b, rfl, b0, b1, ?_⟩
    refine ⟨_, rfl, _, rfl, x, _, dx, _, rfl, hx, T.cl_Road, T.na_Road_base, (show (0 : Nat) < 1000 by decide), ?_⟩
    refine ⟨Nat.zero_le _, fun t ht => ?_⟩
    have nt : t ≠ x := fun z => by
      rw [z, upd_same] at ht
      cases ht
    have hx1 : (upd (upd H x (.ins (He.ga K "Road") dx [("base", .int b)])) t (.tup [])) x = some (.ins (He.ga K "Road") dx [("base", .int b)]) := by
      rw [upd_ne (Ne.symm nt)]
      exact upd_same
    refine ⟨_, rfl, x, _, dx, _, rfl, hx1, T.cl_Road, T.na_Road_steps, (show (1 : Nat) < 1000 by decide), ?_⟩
    have kp1 : ∀ o1 o2, Kp x H (upd (upd (upd H x o1) t (.tup [])) x o2) := fun o1 o2 => Kp.set (Kp.new (Kp.set (Kp.refl x H)) (by rw [upd_ne nt] at ht; rw [upd_ne nt]; exact ht))
    refine ⟨_, rfl, b, [], [], rfl, StkOk.nil b0 b1, .nil, fun q H3 nq s3 st => ?_⟩
    refine ⟨_, rfl, x, _, dx, _, rfl, s3 _ _ upd_same, T.cl_Road, T.na_Road_stack, (show (2 : Nat) < 1000 by decide), ?_⟩
    refine ⟨_, rfl, x, _, dx, _, rfl, upd_same, T.cl_Road, T.na_Road_busy, (show (3 : Nat) < 1000 by decide), ?_⟩
    have ks : Keeps K H3 (upd (upd H3 x (.ins (He.ga K "Road") dx [("base", .int b), ("steps", .ref t), ("stack", .ref q)])) x (.ins (He.ga K "Road") dx (roadFs b t q))) := Keeps.road T.ne_Road_Wrap T.ne_Road_Stack (s3 _ _ upd_same) (Kp.set (Kp.set (Kp.refl x H3)))
    refine k _ t q (Kp.set (Kp.set fun y o n e => s3 _ _ (kp1 _ _ y o n e))) upd_same (ks.tup (s3 _ _ (by rw [upd_ne nt]; exact upd_same))) (st.keeps ks)
  · obtain ⟨b, rfl, b0, b1, k⟩ := h
    have same : Same H (upd (upd H dx (.own x)) x (.ins (He.ga K "Road") dx [])) := fun z o e => by
      rw [upd_ne (ne_of_none e hx), upd_ne (ne_of_none e hdx)]
      exact e
    refine ⟨x, dx, b, rfl, b0, b1, upd_same, fun H' t q kp hx' ht hq => ⟨rfl, ?_⟩⟩
    exact k x H' hx (fun z o e => kp _ _ (ne_of_none e hx) (same _ _ e)) ⟨dx, t, q, hx', ht, hq⟩
theorem ok_Stack___repr__ (T : Tx w K mg) : PromM P w K mg base CX0 1 "Stack" "__repr__" ["self"] (spSRepr K) := by
  refine PromM.of T.cl_Stack T.me_Stack___repr__ T.dm_Stack___repr__ sc_Stack___repr__ (fun vs H Q E h => ?_) (fun _ _ _ _ _ _ us hl => match us, hl with | [_], _ => rfl) (fun f cdv A outer s H vs Q E hr h => ?_)
  · obtain ⟨q, b, ws, rfl, _⟩ := h
    rfl
  · obtain ⟨q, b, ws, rfl, ⟨dx, t, xs, hq, ht, hw⟩, so, k⟩ := h
    have hlx := hw.len
    have l6 := so.len
    have b0 := so.b0
    have b1 := so.b1
    refine ⟨_, (pss_one (ps_ret (pe_joined (PJ.cons pe_str (PJ.cons (pe_fmt (pe_fld (pv 0) rfl)) (PJ.cons pe_str (PJ.cons (pe_fmt (pe_callB call_len_seq (by rfl) T.b_len (by decide +kernel) (pa_cons (pe_fld (pv 0) rfl) pa_nil))) (PJ.cons pe_str PJ.nil)))))))), ?_⟩
    have bl : (toString b : Str).length ≤ 4 := by
      have h := int_text_length_le10 (k := 3) (a := b) (by decide) (by omega)
      have e : (Str.ofString (toString b)).length = (toString b : String).length := PySem.ofString_length _
      show (Str.ofString (toString b)).length ≤ 4
      omega
    have nl : (toString ((xs.length : Nat) : Int) : Str).length ≤ 4 := by
      have h := int_text_length_le10 (k := 3) (a := ((xs.length : Nat) : Int)) (by decide) (by omega)
      have e : (Str.ofString (toString ((xs.length : Nat) : Int))).length = (toString ((xs.length : Nat) : Int) : String).length := PySem.ofString_length _
      show (Str.ofString (toString ((xs.length : Nat) : Int))).length ≤ 4
      omega
    have e1 : (Str.empty ++ ("Stack(base " : Str)).length = 11 := by decide
    have e2 : (", " : Str).length = 2 := by decide
    have e3 : (" wraps)" : Str).length = 7 := by decide
    refine ⟨_, rfl, by rw [e1]; decide, _, rfl, q, _, dx, _, _, rfl, hq, T.cl_Stack, T.na_Stack_base, rfl, .inr ⟨b, rfl, log2_small (by omega) (by omega), _, rfl, ?_, _, rfl, ?_, _, rfl, q, _, dx, _, _, rfl, hq, T.cl_Stack, T.na_Stack_wraps, rfl, t, xs, rfl, .inr (SqT.of ht), .inr ⟨((xs.length : Nat) : Int), rfl, log2_small (by omega) (by omega), _, rfl, ?_, _, rfl, ?_, ?_⟩⟩⟩
    · simp only [PySem.Str.length_append, sizeLine_eq] at e1 ⊢
      omega
    · simp only [PySem.Str.length_append, sizeLine_eq] at e1 ⊢
      omega
    · simp only [PySem.Str.length_append, sizeLine_eq] at e1 ⊢
      omega
    · simp only [PySem.Str.length_append, sizeLine_eq] at e1 ⊢
      omega
    · rw [hlx]
      exact k
theorem ok_Wrap___repr__ (T : Tx w K mg) : PromM P w K mg base CX0 1 "Wrap" "__repr__" ["self"] (spWRepr K) := by
  refine PromM.of T.cl_Wrap T.me_Wrap___repr__ T.dm_Wrap___repr__ sc_Wrap___repr__ (fun vs H Q E h => ?_) (fun _ _ _ _ _ _ us hl => match us, hl with | [_], _ => rfl) (fun f cdv A outer s H vs Q E hr h => ?_)
  · obtain ⟨q, a, rfl, _⟩ := h
    rfl
  · obtain ⟨q, a, rfl, ⟨dx, p, h1, h2⟩, ok, k⟩ := h
    have tl := text_len ok
    have e0 : (Str.empty : Str).length = 0 := rfl
    have e1 : (Str.empty ++ ("Wrap(" : Str)).length = 5 := by decide
    have e3 : ("Wrap(" : Str).length = 5 := by decide
    have e2 : (")" : Str).length = 1 := by decide
    refine ⟨_, (pss_one (ps_ret (pe_joined (PJ.cons pe_str (PJ.cons (pe_fmt (pe_fld (pv 0) rfl)) (PJ.cons pe_str PJ.nil)))))), ?_⟩
    refine ⟨_, rfl, by rw [e1]; decide, _, rfl, q, _, dx, _, _, rfl, h1, T.cl_Wrap, T.na_Wrap_words, rfl, .inl ⟨_, rfl, by rw [sizeLine_eq]; omega, _, rfl, ?_, _, rfl, ?_, k⟩⟩
    · simp only [PySem.Str.length_append, e0, e3, sizeLine_eq]
      omega
    · simp only [PySem.Str.length_append, e0, e2, e3, sizeLine_eq]
      omega
theorem ok_Road___repr__ (T : Tx w K mg) : PromM P w K mg base CX0 1 "Road" "__repr__" ["self"] (spRRepr K) := by
  refine PromM.of T.cl_Road T.me_Road___repr__ T.dm_Road___repr__ sc_Road___repr__ (fun vs H Q E h => ?_) (fun _ _ _ _ _ _ us hl => match us, hl with | [_], _ => rfl) (fun f cdv A outer s H vs Q E hr h => ?_)
  · obtain ⟨q, b, rfl, _⟩ := h
    rfl
  · obtain ⟨q, b, rfl, ⟨dx, t, q2, h1, h2, h3⟩, k⟩ := h
    refine ⟨_, (pss_one (ps_ret (pe_joined (PJ.cons pe_str (PJ.cons (pe_fmt (pe_callB call_len_seq (by rfl) T.b_len (by decide +kernel) (pa_cons (pe_fld (pv 0) rfl) pa_nil))) (PJ.cons pe_str PJ.nil)))))), ?_⟩
    refine ⟨_, rfl, (by decide), _, rfl, q, _, dx, _, _, rfl, h1, T.cl_Road, T.na_Road_steps, rfl, t, [], rfl, .inr (SqT.of h2), .inr ⟨((([] : List V).length : Nat) : Int), rfl, (by decide), _, rfl, (by decide +kernel), _, rfl, (by decide +kernel), ?_⟩⟩
    have e : Str.empty ++ "Road(" ++ (toString ((([] : List V).length : Nat) : Int) : Str) ++ " steps)" = "Road(0 steps)" := by decide +kernel
    have k := k
    rw [← e] at k
    exact k
end
/-- wraps, stacks and roads among the odd things -/
def Own59 (K : PySem.W.Frag) (H : Hp) (a : Addr) (t : Str) : Prop := (t = "Wrap(plus 1)" ∧ WrapAt K H a (.plus 1)) ∨ (t = "Stack(base 10, 0 wraps)" ∧ StkAt K H a 10 []) ∨ (t = "Road(0 steps)" ∧ Rd0 K H a 10)
theorem own_ins {K : PySem.W.Frag} : OwnIns (Own59 K) := fun H a t h => by
  rcases h with ⟨_, dx, p, h, _⟩ | ⟨_, dx, t, xs, h, _⟩ | ⟨_, dx, t, q, h, _⟩
  · exact ⟨_, _, _, h⟩
  · exact ⟨_, _, _, h⟩
  · exact ⟨_, _, _, h⟩
theorem own_same {K : PySem.W.Frag} (H H' : Hp) (s : Ext H H') (a : Addr) (t : Str) (h : Own59 K H a t) : Own59 K H' a t := by
  rcases h with ⟨e, h⟩ | ⟨e, h⟩ | ⟨e, h⟩
  · exact .inl ⟨e, h.same s⟩
  · exact .inr (.inl ⟨e, h.same s⟩)
  · exact .inr (.inr ⟨e, h.same s⟩)
theorem own_rp {X : Cx} (T : Tx X.w X.K X.mg) (H : Hp) (a : Addr) (t : Str) (h : Own59 X.K H a t) : RpI X 1 [] H (.ref a) t := by
  rcases h with ⟨rfl, h⟩ | ⟨rfl, h⟩ | ⟨rfl, h⟩
  · obtain ⟨dx, p, h1, h2⟩ := id h
    refine RpI.ins (ok_Wrap___repr__ T) pass0 h1 fun H2 e => ⟨a, .plus 1, rfl, h.same e, ⟨by decide, by decide⟩, ?_, Ext.rfl'⟩
    exact congrArg V.str (by decide +kernel)
  · obtain ⟨dx, t, xs, h1, h2, h3⟩ := id h
    refine RpI.ins (ok_Stack___repr__ T) pass0 h1 fun H2 e => ⟨a, 10, [], rfl, h.same e, StkOk.nil (by decide) (by decide), ?_, Ext.rfl'⟩
    exact congrArg V.str (by decide +kernel)
  · obtain ⟨dx, t, q, h1, h2, h3⟩ := id h
    exact RpI.ins (ok_Road___repr__ T) pass0 h1 fun H2 e => ⟨a, 10, rfl, h.same e, rfl, Ext.rfl'⟩
/-! ### the law's pool: what is drawn lies in its range, and nothing else is told of it -/
def PurseAt (H : Hp) (p : Addr) : Prop := ∃ d x y : Int, H p = some (.lst [.int d, .int x, .int y]) ∧ 0 ≤ d ∧ 0 ≤ x ∧ x < 2147483648 ∧ 0 ≤ y ∧ y < 2147483648
theorem PurseAt.of {H : Hp} {p : Addr} {d x y : Int} (h : H p = some (.lst [.int d, .int x, .int y])) (h1 : 0 ≤ d) (h2 : 0 ≤ x) (h3 : x < 2147483648) (h4 : 0 ≤ y) (h5 : y < 2147483648) : PurseAt H p := ⟨d, x, y, h, h1, h2, h3, h4, h5⟩
structure Drew (p : Addr) (H H' : Hp) : Prop where
  at_ : PurseAt H' p
  kp : Kp p H H'
theorem Drew.refl {p : Addr} {H : Hp} (h : PurseAt H p) : Drew p H H := ⟨h, Kp.refl p H⟩
theorem Drew.trans {p : Addr} {H H1 H2 : Hp} (a : Drew p H H1) (b : Drew p H1 H2) : Drew p H H2 := ⟨b.at_, a.kp.trans b.kp⟩
theorem PurseAt.same {p : Addr} {H H' : Hp} (h : PurseAt H p) (s : Same H H') : PurseAt H' p := by
  obtain ⟨m, d, c, e, r⟩ := h
  exact ⟨m, d, c, s _ _ e, r⟩
theorem Drew.same {p : Addr} {H H1 H2 : Hp} (a : Drew p H H1) (b : Same H1 H2) : Drew p H H2 := ⟨a.at_.same b, fun x o n h => b _ _ (a.kp x o n h)⟩
theorem Drew.new {p q : Addr} {H H' : Hp} {o : HO} (a : Drew p H H') (h : H' q = none) : Drew p H (upd H' q o) := a.same fun y u e => by
  rw [upd_ne (ne_of_none e h)]
  exact e
theorem PurseAt.lst {p : Addr} {H : Hp} (h : PurseAt H p) : ∃ xs, H p = some (.lst xs) := by
  obtain ⟨_, _, _, e, _⟩ := h
  exact ⟨_, e⟩
theorem PurseAt.ne {p l : Addr} {H : Hp} (h : PurseAt H p) (hl : H l = none) : l ≠ p := by
  obtain ⟨_, e⟩ := h.lst
  exact Ne.symm (ne_of_none e hl)
theorem new_before {p q : Addr} {H H1 : Hp} (d : Drew p H H1) (hp : PurseAt H p) (hq : H1 q = none) : H q = none := by
  cases e : H q with
  | none => rfl
  | some o =>
    by_cases z : q = p
    · obtain ⟨_, e2⟩ := d.at_.lst
      rw [z, e2] at hq
      cases hq
    · rw [d.kp _ _ z e] at hq
      cases hq
theorem same_before {q : Addr} {H H1 : Hp} (d : Same H H1) (hq : H1 q = none) : H q = none := by
  cases e : H q with
  | none => rfl
  | some o =>
    rw [d _ _ e] at hq
    cases hq
/-- what is no list stays -/
theorem Drew.keep {p q : Addr} {H H1 : Hp} {o : HO} (d : Drew p H H1) (hp : PurseAt H p) (h : H q = some o) (n : ∀ xs, o ≠ .lst xs) : H1 q = some o := by
  obtain ⟨xs, e⟩ := hp.lst
  exact d.kp _ _ (fun z => by rw [z, e] at h; cases h; exact n xs rfl) h
def spCell (K : PySem.W.Frag) : Sp := fun vs H Q _ => ∃ (a : Addr) (ns : List Int) (k : Int), vs = [.ref a, .int k] ∧ SqL K H a (ns.map V.int) ∧ 0 ≤ k ∧ k ≤ 1000 ∧ ∀ z, Q (.int z) H
def spPurse : Sp := fun vs H Q _ => ∃ c : Int, vs = [.int c] ∧ ∀ p H', H p = none → Same H H' → PurseAt H' p → Q (.ref p) H'
def spTake : Sp := fun vs H Q _ => ∃ (p : Addr) (n : Int), vs = [.ref p, .int n] ∧ PurseAt H p ∧ 0 < n ∧ n ≤ 1000000000000000000000000000000 ∧ ∀ r H', 0 ≤ r → r < n → Drew p H H' → Q (.int r) H'
def spDraw (lo hi : Int) : Sp := fun vs H Q _ => ∃ (p : Addr), vs = [.ref p] ∧ PurseAt H p ∧ ∀ r H', lo ≤ r → r ≤ hi → Drew p H H' → Q (.int r) H'
def spLLen : Sp := fun vs H Q _ => ∃ (p : Addr) (b : Int), vs = [.ref p, .int b] ∧ PurseAt H p ∧ 2 ≤ b ∧ b ≤ 256 ∧ ∀ r H', 0 ≤ r → r ≤ 10 ^ 60 - 1 → Drew p H H' → Q (.int r) H'
def spConst : Sp := fun vs H Q _ => ∃ (p : Addr) (m : Int), vs = [.ref p, .int m] ∧ PurseAt H p ∧ 2 ≤ m ∧ m ≤ 1000 ∧ ∀ r H', 0 ≤ r → r ≤ m → Drew p H H' → Q (.int r) H'
theorem item_int {ns : List Int} {i : Nat} {x : V} (h : (ns.map V.int)[i]? = some x) : ∃ z, x = .int z := by
  rw [List.getElem?_map] at h
  cases e : ns[i]? with
  | none =>
    rw [e] at h
    cases h
  | some z =>
    rw [e] at h
    exact ⟨z, (Option.some.inj h).symm⟩
section
variable {P : Program} {w : World} {K : PySem.W.Frag} {mg : Str → Option Value} {base : Heap}
theorem ok_L_cell (T : Tx w K mg) : Prom P w K mg base CX0 1 "_law_cell" s_L_cell ["_law_cells", "_law_k"] (spCell K) := by
  refine Prom.of T.d_L_cell sc_L_cell (fun vs H Q E h => ?_) (fun _ _ _ _ _ _ us hl => match us, hl with | [_, _], _ => rfl) (fun f cdv A outer s H vs Q E hr h => ?_)
  · obtain ⟨a, ns, n, rfl, _⟩ := h
    rfl
  · obtain ⟨a, ns, n, rfl, hS, h0, h1, k⟩ := h
    have d0 : (0 : Int) < 2147483563 := by decide
    refine ⟨_, (pss_cons (ps_if (pt_cmp (pc_lt (pv 1) (pe_callB call_len_seq (by rfl) T.b_len (by decide +kernel) (pa_cons (pv 0) pa_nil)))) (pss_one (ps_ret (pe_ix ix_list (pv 0) (pv 1) (fun _ _ => rfl)))) pss_nil)
      (pss_cons (ps_set (i := 2) sc_L_cell.nd rfl (Or.inl rfl) (pe_op op_mod (pe_callTy call_int1 (by rfl) T.b_int (by decide +kernel) (pa_cons (pe_op op_mul (pe_op op_mul (pe_op op_add (pv 1) pe_int) (pe_op op_add (pv 1) pe_int)) pe_int) pa_nil)) pe_int))
      (pss_cons (ps_for PassesOwn.never (by rfl) (pi_list (pv 0)) (pg_name (i := 3) sc_L_cell.nd rfl (Or.inl rfl)) (pss_one (ps_set (i := 2) sc_L_cell.nd rfl (Or.inl rfl) (pe_op op_mod (pe_callTy call_int1 (by rfl) T.b_int (by decide +kernel) (pa_cons (pe_op op_add (pe_op op_add (pe_op op_mul (pv 2) pe_int) (pv 3)) pe_int) pa_nil)) pe_int))))
      (pss_one (ps_ret (pe_op op_mod (pe_callTy call_int1 (by rfl) T.b_int (by decide +kernel) (pa_cons (pe_op op_add (pe_op op_mul (pv 2) pe_int) (pv 1)) pa_nil)) pe_int)))))), ?_⟩
    refine ⟨_, rfl, _, rfl, _, _, rfl, .inl hS, _, _, rfl, rfl, _, rfl, ifd (fun c => ?_) (fun c => ?_)⟩
    · rw [List.length_map] at c
      have hi : n.toNat < ns.length := by omega
      obtain ⟨z, hz⟩ : ∃ z, ns[n.toNat]? = some z := ⟨_, List.getElem?_eq_getElem hi⟩
      have ez : (ns.map V.int)[n.toNat]? = some (V.int z) := by rw [List.getElem?_map, hz]; rfl
      exact ⟨_, rfl, _, rfl, _, _, _, _, rfl, rfl, hS, at_of (show n = ((n.toNat : Nat) : Int) by omega) ez, k z⟩
    · refine ⟨_, rfl, _, _, rfl, rfl, _, rfl, _, _, rfl, rfl, _, _, rfl, rfl, .inl ⟨by omega, by omega⟩, _, _, rfl, rfl, .inr ⟨by decide, by decide⟩, .inl ⟨_, rfl, _, _, rfl, rfl, d0, ?_⟩⟩
      refine ⟨_, rfl, a, rfl, ⟨_, hS⟩, for_list (K := K) (a := a) (xs := ns.map V.int) (fun i σ H' => H' = H ∧ ∃ m v, σ = [some (.ref a), some (.int n), some (.int m), v]) ⟨rfl, _, none, rfl⟩ (fun i σ H' _ h => by rw [h.1]; exact hS) ?_ ?_⟩
      · rintro i x σ H' hi ⟨rfl, m, v, rfl⟩
        obtain ⟨z, rfl⟩ := item_int hi
        refine ⟨_, rfl, _, _, rfl, rfl, .inr ⟨by decide, by decide⟩, _, rfl, _, _, rfl, rfl, _, _, rfl, rfl, .inl ⟨_, rfl, ?_⟩⟩
        exact ⟨_, _, rfl, rfl, d0, rfl, _, _, rfl⟩
      · rintro σ H' ⟨rfl, m, v, rfl⟩
        exact ⟨_, rfl, _, _, rfl, rfl, .inr ⟨by decide, by decide⟩, _, rfl, _, _, rfl, rfl, .inl ⟨_, rfl, _, _, rfl, rfl, d0, k _⟩⟩
theorem ok_L_pool (T : Tx w K mg) : Prom P w K mg base CX0 1 "_law_pool" s_L_pool ["_law_cell_here"] spPurse := by
  refine Prom.of T.d_L_pool sc_L_pool (fun vs H Q E h => ?_) (fun _ _ _ _ _ _ us hl => match us, hl with | [_], _ => rfl) (fun f cdv A outer s H vs Q E hr h => ?_)
  · obtain ⟨c, rfl, _⟩ := h
    rfl
  · obtain ⟨c, rfl, k⟩ := h
    refine ⟨_, (pss_cons (ps_set (i := 1) sc_L_pool.nd rfl (Or.inl rfl) (pe_ifExp (PW.pt (pw_or (pt_cmp (pc_lt (pv 0) pe_int)) (pw_or1 (pt_cmp (pc_ge (pv 0) (pe_op op_pow pe_int pe_int)))))) (pe_callB call_abs (by rfl) T.b_abs (by decide +kernel) (pa_cons (pv 0) pa_nil)) pe_int))
      (pss_one (ps_ret (pe_lst (pa_cons (pv 1) (pa_cons (pe_op op_add pe_int (pe_op op_mod (pe_callTy call_int1 (by rfl) T.b_int (by decide +kernel) (pa_cons (pe_op op_add (pe_op op_mul (pv 0) pe_int) pe_int) pa_nil)) pe_int)) (pa_cons (pe_op op_add pe_int (pe_op op_mod (pe_callTy call_int1 (by rfl) T.b_int (by decide +kernel) (pa_cons (pe_op op_add (pv 0) pe_int) pa_nil)) pe_int)) pa_nil))))))), ?_⟩
    have fin : ∀ d : Int, 0 ≤ d → ∀ p, H p = none → Q (.ref p) (upd H p (.lst [.int d, .int (1 + (c * 3 + 71) % 2147483398), .int (1 + (c + 5923) % 2147483562)])) := fun d hd p hp => by
      have a1 := Int.emod_nonneg (c * 3 + 71) (show (2147483398 : Int) ≠ 0 by decide)
      have a2 := Int.emod_lt_of_pos (c * 3 + 71) (show (0 : Int) < 2147483398 by decide)
      have b1 := Int.emod_nonneg (c + 5923) (show (2147483562 : Int) ≠ 0 by decide)
      have b2 := Int.emod_lt_of_pos (c + 5923) (show (0 : Int) < 2147483562 by decide)
      exact k p _ hp (fun b o e => by rw [upd_ne (ne_of_none e hp)]; exact e) (PurseAt.of upd_same hd (by omega) (by omega) (by omega) (by omega))
    refine ⟨_, rfl, _, _, rfl, rfl, _, rfl, ifd (fun h1 => iteT ?_) (fun h1 => ?_)⟩
    · refine ⟨_, rfl, _, rfl, ?_⟩
      refine ⟨_, rfl, _, rfl, _, _, rfl, rfl, .inr ⟨by decide, by decide⟩, _, _, rfl, rfl, .inl ⟨_, rfl, _, _, rfl, rfl, (by show (0 : Int) < 2147483398; decide), _, _, rfl, rfl, ?_⟩⟩
      refine ⟨_, rfl, _, _, rfl, rfl, .inl ⟨_, rfl, _, _, rfl, rfl, (by show (0 : Int) < 2147483562; decide), _, _, rfl, rfl, (by show 3 ≤ sizeLine; decide), fun p hp => fin _ ?_ p hp⟩⟩
      split <;> omega
    refine ⟨_, rfl, _, _, rfl, rfl, ⟨by decide, by decide, by decide⟩, _, _, rfl, rfl, _, rfl, ifd (fun h2 => ?_) (fun h2 => ?_)⟩
    · refine ⟨_, rfl, _, rfl, ?_⟩
      refine ⟨_, rfl, _, rfl, _, _, rfl, rfl, .inr ⟨by decide, by decide⟩, _, _, rfl, rfl, .inl ⟨_, rfl, _, _, rfl, rfl, (by show (0 : Int) < 2147483398; decide), _, _, rfl, rfl, ?_⟩⟩
      refine ⟨_, rfl, _, _, rfl, rfl, .inl ⟨_, rfl, _, _, rfl, rfl, (by show (0 : Int) < 2147483562; decide), _, _, rfl, rfl, (by show 3 ≤ sizeLine; decide), fun p hp => fin _ ?_ p hp⟩⟩
      split <;> omega
    · refine ⟨_, rfl, ?_⟩
      refine ⟨_, rfl, _, _, rfl, rfl, .inr ⟨by decide, by decide⟩, _, _, rfl, rfl, .inl ⟨_, rfl, _, _, rfl, rfl, (by show (0 : Int) < 2147483398; decide), _, _, rfl, rfl, ?_⟩⟩
      refine ⟨_, rfl, _, _, rfl, rfl, .inl ⟨_, rfl, _, _, rfl, rfl, (by show (0 : Int) < 2147483562; decide), _, _, rfl, rfl, (by show 3 ≤ sizeLine; decide), fun p hp => fin _ (Int.le_refl 0) p hp⟩⟩
theorem ok_L_draw (T : Tx w K mg) : Prom P w K mg base CX0 1 "_law_draw" s_L_draw ["_law_pool_here", "_law_many"] spTake := by
  refine Prom.of T.d_L_draw sc_L_draw (fun vs H Q E h => ?_) (fun _ _ _ _ _ _ us hl => match us, hl with | [_, _], _ => rfl) (fun f cdv A outer s H vs Q E hr h => ?_)
  · obtain ⟨p, n, rfl, _⟩ := h
    rfl
  · obtain ⟨p, n, rfl, ⟨d, x, y, hp, h0, h1, h2, h3, h4⟩, hn, hn2, k⟩ := h
    refine ⟨_, (pss_cons (ps_if (pt_cmp (pc_gt (pe_ix ix_list (pv 0) pe_int (fun _ _ => rfl)) pe_int)) (pss_cons (ps_asg (pe_callB call_divmodW (by rfl) T.b_divmod (by decide +kernel) (pa_cons (pe_ix ix_list (pv 0) pe_int (fun _ _ => rfl)) (pa_cons (pv 1) pa_nil))) (pg_tup rfl (pgs_cons (pg_sub (pv 0) pe_int set_list) (pgs_cons (pg_name (i := 2) sc_L_draw.nd rfl (Or.inl rfl)) pgs_nil))))
      (pss_one (ps_ret (pv 2)))) pss_nil)
      (pss_cons (ps_asg (pe_op op_mod (pe_callTy call_int1 (by rfl) T.b_int (by decide +kernel) (pa_cons (pe_op op_mul (pe_ix ix_list (pv 0) pe_int (fun _ _ => rfl)) pe_int) pa_nil)) pe_int) (pg_sub (pv 0) pe_int set_list))
      (pss_cons (ps_asg (pe_op op_mod (pe_callTy call_int1 (by rfl) T.b_int (by decide +kernel) (pa_cons (pe_op op_mul (pe_ix ix_list (pv 0) pe_int (fun _ _ => rfl)) pe_int) pa_nil)) pe_int) (pg_sub (pv 0) pe_int set_list))
      (pss_one (ps_ret (pe_op op_mod (pe_callTy call_int1 (by rfl) T.b_int (by decide +kernel) (pa_cons (pe_op op_fdiv (pe_op op_add (pe_ix ix_list (pv 0) pe_int (fun _ _ => rfl)) (pe_ix ix_list (pv 0) pe_int (fun _ _ => rfl))) pe_int) pa_nil)) (pv 1))))))), ?_⟩
    refine ⟨_, rfl, _, _, _, _, rfl, rfl, SqL.of hp, rfl, _, _, rfl, rfl, _, rfl, ifd (fun c1 => ?_) (fun c1 => ?_)⟩
    · have c1 : d > 0 := c1
      refine ⟨_, rfl, _, _, _, _, rfl, rfl, SqL.of hp, rfl, _, rfl, _, _, rfl, divp_small hn hn2, fun q hq => ?_⟩
      have nq : p ≠ q := ne_of_none hp hq
      refine ⟨q, _, rfl, SqT.of upd_same, rfl, _, _, rfl, ?_⟩
      refine ⟨_, rfl, _, _, _, _, rfl, rfl, (by rw [upd_ne nq]; exact hp), rfl, ?_⟩
      refine ⟨_, _, rfl, rfl, ?_⟩
      refine ⟨_, rfl, k _ _ (Int.emod_nonneg _ (by omega)) (Int.emod_lt_of_pos _ hn) ⟨PurseAt.of upd_same (Int.ediv_nonneg (by omega) (by omega)) h1 h2 h3 h4, ?_⟩⟩
      exact Kp.set (Kp.new (Kp.refl p H) hq)
    · refine ⟨_, rfl, _, _, _, _, rfl, rfl, SqL.of hp, rfl, _, _, rfl, rfl, .inr ⟨by decide, by decide⟩, .inl ⟨_, rfl, _, _, rfl, rfl, (by show (0 : Int) < 2147483399; decide), ?_⟩⟩
      refine ⟨_, rfl, _, _, _, _, rfl, rfl, hp, rfl, ?_⟩
      have a1 := Int.emod_nonneg (x * 40692) (show (2147483399 : Int) ≠ 0 by decide)
      have a2 := Int.emod_lt_of_pos (x * 40692) (show (0 : Int) < 2147483399 by decide)
      have e1 : (upd H p (.lst ([V.int d, V.int x, V.int y].set 1 (V.int (x * 40692 % 2147483399))))) p = some (.lst [.int d, .int (x * 40692 % 2147483399), .int y]) := upd_same
      refine ⟨_, rfl, _, _, _, _, rfl, rfl, SqL.of e1, rfl, _, _, rfl, rfl, .inr ⟨by decide, by decide⟩, .inl ⟨_, rfl, _, _, rfl, rfl, (by show (0 : Int) < 2147483563; decide), ?_⟩⟩
      refine ⟨_, rfl, _, _, _, _, rfl, rfl, e1, rfl, ?_⟩
      have b1 := Int.emod_nonneg (y * 40014) (show (2147483563 : Int) ≠ 0 by decide)
      have b2 := Int.emod_lt_of_pos (y * 40014) (show (0 : Int) < 2147483563 by decide)
      have e2 : (upd (upd H p (.lst ([V.int d, V.int x, V.int y].set 1 (V.int (x * 40692 % 2147483399))))) p (.lst ([V.int d, V.int (x * 40692 % 2147483399), V.int y].set 2 (V.int (y * 40014 % 2147483563))))) p = some (.lst [.int d, .int (x * 40692 % 2147483399), .int (y * 40014 % 2147483563)]) := upd_same
      refine ⟨_, rfl, _, _, _, _, rfl, rfl, SqL.of e2, rfl, _, rfl, _, _, _, _, rfl, rfl, SqL.of e2, rfl, _, _, rfl, rfl, _, _, rfl, rfl, ⟨by decide, by decide⟩, .inl ⟨_, rfl, _, rfl, _, _, rfl, rfl, hn, ?_⟩⟩
      exact k _ _ (Int.emod_nonneg _ (by omega)) (Int.emod_lt_of_pos _ hn) ⟨PurseAt.of e2 h0 a1 (by omega) b1 (by omega), Kp.set (Kp.set (Kp.refl p H))⟩
end
/-! ### the good claims -/
mutual
/-- plain data of tuples -/
inductive PAt (H : Hp) : V → PyData → Prop
  | non : PAt H .non .none
  | int (i : Int) : PAt H (.int i) (.int i)
  | str (x : Str) : PAt H (.str x) (.str x)
  | tup {a : Addr} {xs : List V} {ds : List PyData} (h : H a = some (.tup xs)) (p : PAll H xs ds) : PAt H (.ref a) (.tuple ds)
inductive PAll (H : Hp) : List V → List PyData → Prop
  | nil : PAll H [] []
  | cons {v : V} {vs : List V} {d : PyData} {ds : List PyData} (h : PAt H v d) (p : PAll H vs ds) : PAll H (v :: vs) (d :: ds)
end
/-- tuples stay -/
def KT (H H' : Hp) : Prop := ∀ a xs, H a = some (.tup xs) → H' a = some (.tup xs)
theorem KT.rfl' {H : Hp} : KT H H := fun _ _ h => h
theorem KT.trans {H H1 H2 : Hp} (a : KT H H1) (b : KT H1 H2) : KT H H2 := fun x xs h => b x xs (a x xs h)
theorem KT.new {H : Hp} {p : Addr} {o : HO} (h : H p = none) : KT H (upd H p o) := fun a xs e => up h _ _ e
theorem KT.lst {H : Hp} {l : Addr} {xs ys : List V} (h : H l = some (.lst xs)) : KT H (upd H l (.lst ys)) := fun a zs e => by
  rw [upd_ne (fun z => by rw [z, h] at e; cases e)]
  exact e
mutual
theorem PAt.kt {H H' : Hp} (k : KT H H') : ∀ {v : V} {d : PyData}, PAt H v d → PAt H' v d
  | _, _, .non => .non
  | _, _, .int i => .int i
  | _, _, .str x => .str x
  | _, _, .tup h p => .tup (k _ _ h) (PAll.kt k p)
theorem PAll.kt {H H' : Hp} (k : KT H H') : ∀ {vs : List V} {ds : List PyData}, PAll H vs ds → PAll H' vs ds
  | _, _, .nil => .nil
  | _, _, .cons h p => .cons (PAt.kt k h) (PAll.kt k p)
end
theorem PAll.app {H : Hp} : ∀ {vs us : List V} {ds es : List PyData}, PAll H vs ds → PAll H us es → PAll H (vs ++ us) (ds ++ es)
  | _, _, _, _, .nil, q => q
  | _, _, _, _, .cons h p, q => .cons h (PAll.app p q)
def prD (cp : PyData × PyData) : PyData := .tuple [cp.1, cp.2]
/-- a display of plain data -/
def TeD (σ : L2.St) (H : Hp) (te : TE) (d : PyData) : Prop := ∀ H1 Q, Same H H1 → (∀ v H', Same H1 H' → PAt H' v d → Q v H') → te σ H1 Q
def TaD (σ : L2.St) (H : Hp) (ta : TA) (ds : List PyData) : Prop := ∀ H1 Q, Same H H1 → (∀ vs H', Same H1 H' → PAll H' vs ds → Q vs H') → ta σ H1 Q
theorem KT.same {H H' : Hp} (s : Same H H') : KT H H' := fun a xs h => s _ _ h
theorem PAll.len {H : Hp} : ∀ {vs : List V} {ds : List PyData}, PAll H vs ds → vs.length = ds.length
  | _, _, .nil => rfl
  | _, _, .cons _ p => congrArg (· + 1) (PAll.len p)
theorem tr {H H1 H2 : Hp} (a : Same H H1) (b : Same H1 H2) : Same H H2 := fun x o e => b _ _ (a _ _ e)
section
variable {σ : L2.St} {H : Hp}
theorem TeD.str (x : Str) : TeD σ H (tC (.str x)) (.str x) := fun H1 Q s k => k _ H1 (Same.refl H1) (.str x)
theorem TeD.int (i : Int) : TeD σ H (tC (.int i)) (.int i) := fun H1 Q s k => k _ H1 (Same.refl H1) (.int i)
theorem TeD.non : TeD σ H (tC .non) .none := fun H1 Q s k => k _ H1 (Same.refl H1) .non
theorem TeD.var {i : Nat} {v : V} {d : PyData} (e : σ[i]? = some (some v)) (p : PAt H v d) : TeD σ H (tVar i) d := fun H1 Q s k => ⟨v, e, k _ H1 (Same.refl H1) (p.kt (.same s))⟩
theorem TeD.bigI : TeD σ H (tOp (rI0 fun i j => V.int (i - j)) (tOp (rI CPow fun i j => V.int (i ^ j.toNat)) (tC (V.int 10)) (tC (V.int 60))) (tC (V.int 1))) (.int big) := fun H1 Q s k => by
  refine ⟨10, 60, rfl, rfl, ⟨by decide, by decide, by decide⟩, _, _, rfl, rfl, ?_⟩
  have e : (10 : Int) ^ (60 : Int).toNat - 1 = big := by decide +kernel
  show Q (.int ((10 : Int) ^ (60 : Int).toNat - 1)) H1
  rw [e]
  exact k _ H1 (Same.refl H1) (.int big)
theorem TeD.tup {ta : TA} {ds : List PyData} (h : TaD σ H ta ds) (l : ds.length ≤ 1000) : TeD σ H (tTup ta) (.tuple ds) := fun H1 Q s k => h H1 _ s fun vs H2 s1 p => by
  have pl := p.len
  refine ⟨by rw [sizeLine_eq]; omega, fun q hq => ?_⟩
  have s2 := up (o := .tup vs) hq
  exact k _ _ (tr s1 s2) (.tup upd_same (p.kt (.same s2)))
theorem TaD.nil : TaD σ H tNil [] := fun H1 Q s k => k _ H1 (Same.refl H1) .nil
theorem TaD.cons {te : TE} {ta : TA} {d : PyData} {ds : List PyData} (h : TeD σ H te d) (r : TaD σ H ta ds) : TaD σ H (tCons te ta) (d :: ds) := fun H1 Q s k => h H1 _ s fun v H2 s1 p => r H2 _ (tr s s1) fun vs H3 s2 q => k _ _ (tr s1 s2) (.cons (p.kt (.same s2)) q)
end
/-- the list that grows -/
structure GS (H0 : Hp) (ds : List PyData) (l : Addr) (H : Hp) : Prop where
  s : Same H0 H
  n : H0 l = none
  at_ : ∃ xs, H l = some (.lst xs) ∧ PAll H xs ds
theorem g_new {H0 : Hp} {ta : TA} {ds : List PyData} {rest : TS} {D : Ends} {v0 v1 : Option V} (h : TaD [v0, v1] H0 ta ds) (l : ds.length ≤ 1000) (k : ∀ l H', GS H0 ds l H' → rest D [some (.ref l), v1] H') : tSeq (tAsg (tLst ta) (gName 0)) rest D [v0, v1] H0 := h H0 _ (Same.refl H0) fun vs H1 s1 p => by
  have pl := p.len
  refine ⟨by rw [sizeLine_eq]; omega, fun q hq => ?_⟩
  have s2 := up (o := .lst vs) hq
  exact k q _ ⟨fun x o e => s2 _ _ (s1 _ _ e), same_before s1 hq, vs, upd_same, p.kt (.same s2)⟩
theorem GS.same {H0 H H' : Hp} {ds : List PyData} {l : Addr} (g : GS H0 ds l H) (s : Same H H') : GS H0 ds l H' := by
  obtain ⟨s1, n, xs, hl, p⟩ := g
  exact ⟨tr s1 s, n, xs, s _ _ hl, p.kt (.same s)⟩
theorem g_asg {H : Hp} {te : TE} {d : PyData} {rest : TS} {D : Ends} {v0 v1 : Option V} (h : TeD [v0, v1] H te d) (k : ∀ v H', Same H H' → PAt H' v d → rest D [v0, some v] H') : tSeq (tAsg te (gName 1)) rest D [v0, v1] H := h H _ (Same.refl H) fun v H' s p => k v H' s p
theorem g_app {H0 H : Hp} {K : PySem.W.Frag} {te : TE} {d : PyData} {ds : List PyData} {rest : TS} {D : Ends} {l : Addr} {v1 : Option V} (g : GS H0 ds l H) (h : TeD [some (.ref l), v1] H te d) (ll : ds.length ≤ 1000) (k : ∀ H', GS H0 (ds ++ [d]) l H' → rest D [some (.ref l), v1] H') : tSeq (tDrop (tBM K "list" rAppend (tVar 0) (tCons te tNil))) rest D [some (.ref l), v1] H := by
  obtain ⟨s, n, xs, hl, p⟩ := g
  refine ⟨_, rfl, .inl ⟨rfl, xs, SqL.of hl⟩, h H _ (Same.refl H) fun v H1 s1 pv => ?_⟩
  have pl := p.len
  have hl1 := s1 _ _ hl
  refine ⟨l, xs, v, rfl, rfl, hl1, by rw [sizeLine_eq]; omega, ?_⟩
  refine k _ ⟨fun x o e => ?_, n, _, upd_same, ((p.kt (.same s1)).app (.cons pv .nil)).kt (.lst hl1)⟩
  rw [upd_ne (ne_of_none e n)]
  exact s1 _ _ (s _ _ e)
theorem g_cat {H0 H : Hp} {ta : TA} {es : List PyData} {ds : List PyData} {rest : TS} {D : Ends} {l : Addr} {v1 : Option V} (g : GS H0 ds l H) (h : TaD [some (.ref l), v1] H ta es) (ll : ds.length ≤ 1000) (le : es.length ≤ 1000) (k : ∀ l' H', GS H0 (ds ++ es) l' H' → rest D [some (.ref l'), v1] H') : tSeq (tAsg (tOp rCat (tVar 0) (tLst ta)) (gName 0)) rest D [some (.ref l), v1] H := by
  obtain ⟨s, n, xs, hl, p⟩ := g
  refine ⟨_, rfl, h H _ (Same.refl H) fun vs H1 s1 pv => ?_⟩
  have pl := p.len
  have pl2 := pv.len
  refine ⟨by rw [sizeLine_eq]; omega, fun q hq => ?_⟩
  have s2 := up (o := .lst vs) hq
  have hl1 := s1 _ _ hl
  have hl2 := s2 _ _ hl1
  refine ⟨l, q, xs, vs, rfl, rfl, hl2, upd_same, by rw [sizeLine_eq]; omega, fun q2 hq2 => ?_⟩
  have s3 := up (o := .lst (xs ++ vs)) hq2
  have s03 : Same H0 _ := fun x o e => s3 _ _ (s2 _ _ (s1 _ _ (s _ _ e)))
  refine k q2 _ ⟨s03, same_before (fun x o e => s2 _ _ (s1 _ _ (s _ _ e))) hq2, _, upd_same, ?_⟩
  exact (((p.kt (.same s1)).kt (.same s2)).app (pv.kt (.same s2))).kt (.same s3)
def spGood (K : PySem.W.Frag) : Sp := fun vs H Q _ => vs = [] ∧ ∀ l xs H', Same H H' → H l = none → H' l = some (.lst xs) → PAll H' xs (gd59.map prD) → Q (.ref l) H'
section
variable {P : Program} {w : World} {K : PySem.W.Frag} {mg : Str → Option Value} {base : Heap}
theorem ok_L_good (T : Tx w K mg) : Prom P w K mg base CX0 1 "_law_good" s_L_good [] (spGood K) := by
  refine Prom.of T.d_L_good sc_L_good (fun vs H Q E h => ?_) (fun _ _ _ _ _ _ us hl => match us, hl with | [], _ => rfl) (fun f cdv A outer s H vs Q E hr h => ?_)
  · obtain ⟨rfl, _⟩ := h
    rfl
  · obtain ⟨rfl, k⟩ := h
    refine ⟨_, (pss_cons (ps_set (i := 0) sc_L_good.nd rfl (Or.inl rfl) (pe_lst (pa_cons (pe_tup (pa_cons (pe_tup (pa_cons pe_str (pa_cons pe_str (pa_cons pe_str (pa_cons pe_int pa_nil))))) (pa_cons (pe_tup pa_nil) pa_nil))) pa_nil)))
      (pss_cons (ps_expr (pe_bm PySem.F.plainAttrs_list PySem.F.slot_list_append PySem.F.type_list_append mt_append (pv 0) (pa_cons (pe_tup (pa_cons (pe_tup (pa_cons pe_str (pa_cons pe_str (pa_cons pe_str (pa_cons pe_int pa_nil))))) (pa_cons (pe_tup pa_nil) pa_nil))) pa_nil)))
      (pss_cons (ps_set (i := 0) sc_L_good.nd rfl (Or.inl rfl) (pe_op op_cat (pv 0) (pe_lst (pa_cons (pe_tup (pa_cons (pe_tup (pa_cons pe_str (pa_cons pe_str (pa_cons pe_int (pa_cons pe_int pa_nil))))) (pa_cons (pe_tup pa_nil) pa_nil))) (pa_cons (pe_tup (pa_cons (pe_tup (pa_cons pe_str (pa_cons pe_str (pa_cons pe_int (pa_cons pe_int pa_nil))))) (pa_cons (pe_tup pa_nil) pa_nil))) pa_nil)))))
      (pss_cons (ps_set (i := 0) sc_L_good.nd rfl (Or.inl rfl) (pe_op op_cat (pv 0) (pe_lst (pa_cons (pe_tup (pa_cons (pe_tup (pa_cons pe_str (pa_cons pe_str (pa_cons pe_int (pa_cons pe_int pa_nil))))) (pa_cons (pe_tup (pa_cons pe_int (pa_cons pe_int pa_nil))) pa_nil))) (pa_cons (pe_tup (pa_cons (pe_tup (pa_cons pe_str (pa_cons pe_str (pa_cons pe_int (pa_cons pe_int pa_nil))))) (pa_cons (pe_tup (pa_cons pe_int (pa_cons pe_int pa_nil))) pa_nil))) pa_nil)))))
      (pss_cons (ps_expr (pe_bm PySem.F.plainAttrs_list PySem.F.slot_list_append PySem.F.type_list_append mt_append (pv 0) (pa_cons (pe_tup (pa_cons (pe_tup (pa_cons pe_str (pa_cons pe_str (pa_cons pe_int (pa_cons pe_int pa_nil))))) (pa_cons (pe_tup (pa_cons pe_int (pa_cons pe_int pa_nil))) pa_nil))) pa_nil)))
      (pss_cons (ps_expr (pe_bm PySem.F.plainAttrs_list PySem.F.slot_list_append PySem.F.type_list_append mt_append (pv 0) (pa_cons (pe_tup (pa_cons (pe_tup (pa_cons pe_str (pa_cons pe_str (pa_cons (pe_op op_sub (pe_op op_pow pe_int pe_int) pe_int) (pa_cons (pe_op op_sub (pe_op op_pow pe_int pe_int) pe_int) pa_nil))))) (pa_cons (pe_tup (pa_cons (pe_op op_sub (pe_op op_pow pe_int pe_int) pe_int) pa_nil)) pa_nil))) pa_nil)))
      (pss_cons (ps_set (i := 0) sc_L_good.nd rfl (Or.inl rfl) (pe_op op_cat (pv 0) (pe_lst (pa_cons (pe_tup (pa_cons (pe_tup (pa_cons pe_str (pa_cons pe_str (pa_cons pe_int pa_nil)))) (pa_cons (pe_tup pa_nil) pa_nil))) (pa_cons (pe_tup (pa_cons (pe_tup (pa_cons pe_str (pa_cons pe_str (pa_cons pe_int pa_nil)))) (pa_cons pe_int pa_nil))) pa_nil)))))
      (pss_cons (ps_set (i := 0) sc_L_good.nd rfl (Or.inl rfl) (pe_op op_cat (pv 0) (pe_lst (pa_cons (pe_tup (pa_cons (pe_tup (pa_cons pe_str (pa_cons pe_str (pa_cons pe_int pa_nil)))) (pa_cons pe_int pa_nil))) (pa_cons (pe_tup (pa_cons (pe_tup (pa_cons pe_str (pa_cons pe_str (pa_cons pe_int pa_nil)))) (pa_cons pe_int pa_nil))) pa_nil)))))
      (pss_cons (ps_set (i := 0) sc_L_good.nd rfl (Or.inl rfl) (pe_op op_cat (pv 0) (pe_lst (pa_cons (pe_tup (pa_cons (pe_tup (pa_cons pe_str (pa_cons pe_int (pa_cons pe_int (pa_cons pe_int pa_nil))))) (pa_cons (pe_tup (pa_cons pe_int (pa_cons pe_int pa_nil))) pa_nil))) (pa_cons (pe_tup (pa_cons (pe_tup (pa_cons pe_str (pa_cons pe_int (pa_cons pe_int (pa_cons pe_int pa_nil))))) (pa_cons (pe_tup (pa_cons pe_int (pa_cons pe_int pa_nil))) pa_nil))) pa_nil)))))
      (pss_cons (ps_expr (pe_bm PySem.F.plainAttrs_list PySem.F.slot_list_append PySem.F.type_list_append mt_append (pv 0) (pa_cons (pe_tup (pa_cons (pe_tup (pa_cons pe_str (pa_cons pe_int (pa_cons pe_int (pa_cons pe_int pa_nil))))) (pa_cons (pe_tup (pa_cons pe_int (pa_cons pe_int pa_nil))) pa_nil))) pa_nil)))
      (pss_cons (ps_set (i := 0) sc_L_good.nd rfl (Or.inl rfl) (pe_op op_cat (pv 0) (pe_lst (pa_cons (pe_tup (pa_cons (pe_tup (pa_cons pe_str (pa_cons pe_int (pa_cons (pe_tup (pa_cons (pe_tup (pa_cons pe_str (pa_cons pe_int pa_nil))) pa_nil)) (pa_cons pe_int pa_nil))))) (pa_cons (pe_tup (pa_cons pe_int (pa_cons pe_int pa_nil))) pa_nil))) (pa_cons (pe_tup (pa_cons (pe_tup (pa_cons pe_str (pa_cons pe_int (pa_cons (pe_tup (pa_cons (pe_tup (pa_cons pe_str (pa_cons pe_int pa_nil))) pa_nil)) (pa_cons pe_int pa_nil))))) (pa_cons (pe_tup (pa_cons pe_int (pa_cons pe_int pa_nil))) pa_nil))) pa_nil)))))
      (pss_cons (ps_expr (pe_bm PySem.F.plainAttrs_list PySem.F.slot_list_append PySem.F.type_list_append mt_append (pv 0) (pa_cons (pe_tup (pa_cons (pe_tup (pa_cons pe_str (pa_cons pe_int (pa_cons (pe_tup (pa_cons (pe_tup (pa_cons pe_str (pa_cons pe_str pa_nil))) (pa_cons (pe_tup (pa_cons pe_str (pa_cons pe_int pa_nil))) pa_nil))) (pa_cons pe_int pa_nil))))) (pa_cons (pe_tup (pa_cons pe_non (pa_cons pe_int pa_nil))) pa_nil))) pa_nil)))
      (pss_cons (ps_set (i := 1) sc_L_good.nd rfl (Or.inl rfl) (pe_tup (pa_cons (pe_tup (pa_cons pe_str (pa_cons pe_int pa_nil))) (pa_cons (pe_tup (pa_cons pe_str (pa_cons pe_str pa_nil))) (pa_cons (pe_tup (pa_cons pe_str pa_nil)) (pa_cons (pe_tup (pa_cons pe_str (pa_cons pe_int pa_nil))) (pa_cons (pe_tup (pa_cons pe_str (pa_cons pe_int pa_nil))) pa_nil)))))))
      (pss_cons (ps_expr (pe_bm PySem.F.plainAttrs_list PySem.F.slot_list_append PySem.F.type_list_append mt_append (pv 0) (pa_cons (pe_tup (pa_cons (pe_tup (pa_cons pe_str (pa_cons pe_int (pa_cons (pv 1) (pa_cons pe_int pa_nil))))) (pa_cons (pe_tup (pa_cons pe_int (pa_cons pe_int pa_nil))) pa_nil))) pa_nil)))
      (pss_one (ps_ret (pv 0))))))))))))))))), ?_⟩
    refine g_new (ds := [.tuple [.tuple [.str "other", .str "base 10\nplus 1", .str "base 2", .int 0], .tuple []]]) (.cons (.tup (.cons (.tup (.cons (.str _) (.cons (.str _) (.cons (.str _) (.cons (.int _) .nil)))) (by decide)) (.cons (.tup .nil (by decide)) .nil)) (by decide)) .nil) (by decide) (fun l1 H1 g1 => ?_)
    refine g_app (d := .tuple [.tuple [.str "longer", .str "base 10\ntold 0", .str "base 256\nplus 1", .int 10], .tuple []]) g1 (.tup (.cons (.tup (.cons (.str _) (.cons (.str _) (.cons (.str _) (.cons (.int _) .nil)))) (by decide)) (.cons (.tup .nil (by decide)) .nil)) (by decide)) (by decide) (fun H2 g2 => ?_)
    refine g_cat (es := [.tuple [.tuple [.str "size", .str "base 10", .int 1, .int 1], .tuple []], .tuple [.tuple [.str "size", .str "base 16\ncoded 3 4\npieces 5 4", .int 7, .int 32], .tuple []]]) g2 (.cons (.tup (.cons (.tup (.cons (.str _) (.cons (.str _) (.cons (.int _) (.cons (.int _) .nil)))) (by decide)) (.cons (.tup .nil (by decide)) .nil)) (by decide)) (.cons (.tup (.cons (.tup (.cons (.str _) (.cons (.str _) (.cons (.int _) (.cons (.int _) .nil)))) (by decide)) (.cons (.tup .nil (by decide)) .nil)) (by decide)) .nil)) (by decide) (by decide) (fun l3 H3 g3 => ?_)
    refine g_cat (es := [.tuple [.tuple [.str "payload", .str "base 10", .int 1, .int 1], .tuple [.int 1, .int 2]], .tuple [.tuple [.str "payload", .str "base 3\ncoded 1 2", .int 1, .int 0], .tuple [.int 0, .int 2]]]) g3 (.cons (.tup (.cons (.tup (.cons (.str _) (.cons (.str _) (.cons (.int _) (.cons (.int _) .nil)))) (by decide)) (.cons (.tup (.cons (.int _) (.cons (.int _) .nil)) (by decide)) .nil)) (by decide)) (.cons (.tup (.cons (.tup (.cons (.str _) (.cons (.str _) (.cons (.int _) (.cons (.int _) .nil)))) (by decide)) (.cons (.tup (.cons (.int _) (.cons (.int _) .nil)) (by decide)) .nil)) (by decide)) .nil)) (by decide) (by decide) (fun l4 H4 g4 => ?_)
    refine g_app (d := .tuple [.tuple [.str "payload", .str "base 10\ntold 1\npieces 40 2\nwhole 0", .int 100, .int 80], .tuple [.int 99, .int 101]]) g4 (.tup (.cons (.tup (.cons (.str _) (.cons (.str _) (.cons (.int _) (.cons (.int _) .nil)))) (by decide)) (.cons (.tup (.cons (.int _) (.cons (.int _) .nil)) (by decide)) .nil)) (by decide)) (by decide) (fun H5 g5 => ?_)
    refine g_app (d := .tuple [.tuple [.str "payload", .str "base 7", .int big, .int big], .tuple [.int big]]) g5 (.tup (.cons (.tup (.cons (.str _) (.cons (.str _) (.cons .bigI (.cons .bigI .nil)))) (by decide)) (.cons (.tup (.cons .bigI .nil) (by decide)) .nil)) (by decide)) (by decide) (fun H6 g6 => ?_)
    refine g_cat (es := [.tuple [.tuple [.str "missed", .str "base 10\nplus 1", .int 0], .tuple []], .tuple [.tuple [.str "missed", .str "base 10\ncoded 1 2", .int 1], .int 0]]) g6 (.cons (.tup (.cons (.tup (.cons (.str _) (.cons (.str _) (.cons (.int _) .nil))) (by decide)) (.cons (.tup .nil (by decide)) .nil)) (by decide)) (.cons (.tup (.cons (.tup (.cons (.str _) (.cons (.str _) (.cons (.int _) .nil))) (by decide)) (.cons (.int _) .nil)) (by decide)) .nil)) (by decide) (by decide) (fun l7 H7 g7 => ?_)
    refine g_cat (es := [.tuple [.tuple [.str "missed", .str "base 10\ncoded 1 2", .int 3], .int 1], .tuple [.tuple [.str "missed", .str "base 10\ntold 0", .int 11], .int 9]]) g7 (.cons (.tup (.cons (.tup (.cons (.str _) (.cons (.str _) (.cons (.int _) .nil))) (by decide)) (.cons (.int _) .nil)) (by decide)) (.cons (.tup (.cons (.tup (.cons (.str _) (.cons (.str _) (.cons (.int _) .nil))) (by decide)) (.cons (.int _) .nil)) (by decide)) .nil)) (by decide) (by decide) (fun l8 H8 g8 => ?_)
    refine g_cat (es := [.tuple [.tuple [.str "doubled", .int 2, .int 0, .int 0], .tuple [.int 1, .int 2]], .tuple [.tuple [.str "doubled", .int 2, .int 0, .int 1], .tuple [.int 3, .int 4]]]) g8 (.cons (.tup (.cons (.tup (.cons (.str _) (.cons (.int _) (.cons (.int _) (.cons (.int _) .nil)))) (by decide)) (.cons (.tup (.cons (.int _) (.cons (.int _) .nil)) (by decide)) .nil)) (by decide)) (.cons (.tup (.cons (.tup (.cons (.str _) (.cons (.int _) (.cons (.int _) (.cons (.int _) .nil)))) (by decide)) (.cons (.tup (.cons (.int _) (.cons (.int _) .nil)) (by decide)) .nil)) (by decide)) .nil)) (by decide) (by decide) (fun l9 H9 g9 => ?_)
    refine g_app (d := .tuple [.tuple [.str "doubled", .int 10, .int 3, .int 94], .tuple [.int 99, .int 100]]) g9 (.tup (.cons (.tup (.cons (.str _) (.cons (.int _) (.cons (.int _) (.cons (.int _) .nil)))) (by decide)) (.cons (.tup (.cons (.int _) (.cons (.int _) .nil)) (by decide)) .nil)) (by decide)) (by decide) (fun H10 g10 => ?_)
    refine g_cat (es := [.tuple [.tuple [.str "stopped", .int 10, .tuple [.tuple [.str "bound", .int 0]], .int 0], .tuple [.int 0, .int 1]], .tuple [.tuple [.str "stopped", .int 10, .tuple [.tuple [.str "bound", .int 1]], .int 0], .tuple [.int 1, .int 2]]]) g10 (.cons (.tup (.cons (.tup (.cons (.str _) (.cons (.int _) (.cons (.tup (.cons (.tup (.cons (.str _) (.cons (.int _) .nil)) (by decide)) .nil) (by decide)) (.cons (.int _) .nil)))) (by decide)) (.cons (.tup (.cons (.int _) (.cons (.int _) .nil)) (by decide)) .nil)) (by decide)) (.cons (.tup (.cons (.tup (.cons (.str _) (.cons (.int _) (.cons (.tup (.cons (.tup (.cons (.str _) (.cons (.int _) .nil)) (by decide)) .nil) (by decide)) (.cons (.int _) .nil)))) (by decide)) (.cons (.tup (.cons (.int _) (.cons (.int _) .nil)) (by decide)) .nil)) (by decide)) .nil)) (by decide) (by decide) (fun l11 H11 g11 => ?_)
    refine g_app (d := .tuple [.tuple [.str "stopped", .int 2, .tuple [.tuple [.str "push", .str "plus 1"], .tuple [.str "bound", .int 0]], .int 1], .tuple [.none, .int 0]]) g11 (.tup (.cons (.tup (.cons (.str _) (.cons (.int _) (.cons (.tup (.cons (.tup (.cons (.str _) (.cons (.str _) .nil)) (by decide)) (.cons (.tup (.cons (.str _) (.cons (.int _) .nil)) (by decide)) .nil)) (by decide)) (.cons (.int _) .nil)))) (by decide)) (.cons (.tup (.cons .non (.cons (.int _) .nil)) (by decide)) .nil)) (by decide)) (by decide) (fun H12 g12 => ?_)
    refine g_asg (d := .tuple [.tuple [.str "bound", .int 9], .tuple [.str "push", .str "told 1"], .tuple [.str "pop"], .tuple [.str "bound", .int 7], .tuple [.str "bound", .int 8]]) (.tup (.cons (.tup (.cons (.str _) (.cons (.int _) .nil)) (by decide)) (.cons (.tup (.cons (.str _) (.cons (.str _) .nil)) (by decide)) (.cons (.tup (.cons (.str _) .nil) (by decide)) (.cons (.tup (.cons (.str _) (.cons (.int _) .nil)) (by decide)) (.cons (.tup (.cons (.str _) (.cons (.int _) .nil)) (by decide)) .nil))))) (by decide)) (fun v H13 s13 pv => ?_)
    have g13 : GS H _ l11 H13 := g12.same s13
    refine g_app (d := .tuple [.tuple [.str "stopped", .int 256, .tuple [.tuple [.str "bound", .int 9], .tuple [.str "push", .str "told 1"], .tuple [.str "pop"], .tuple [.str "bound", .int 7], .tuple [.str "bound", .int 8]], .int 3], .tuple [.int 7, .int 8]]) g13 (.tup (.cons (.tup (.cons (.str _) (.cons (.int _) (.cons (.var rfl pv) (.cons (.int _) .nil)))) (by decide)) (.cons (.tup (.cons (.int _) (.cons (.int _) .nil)) (by decide)) .nil)) (by decide)) (by decide) (fun H14 g14 => ?_)
    obtain ⟨s14, n14, xs, hl, px⟩ := g14
    exact ⟨_, rfl, k l11 xs H14 s14 n14 hl px⟩
end
/-! ### things in the heap -/
mutual
inductive TAt (K : PySem.W.Frag) (H : Hp) : V → Th → Prop
  | at {v : V} {d : PyData} {t : Str} {n : Nat} (h1 : Dp K H v d) (h2 : TxtAt K (Own59 K) H v t n) (hn : n ≤ 2) : TAt K H v (.at d t)
  | tup {a : Addr} {xs : List V} {ths : List Th} (h : SqT K H a xs) (p : TAll K H xs ths) : TAt K H (.ref a) (.tup ths)
inductive TAll (K : PySem.W.Frag) (H : Hp) : List V → List Th → Prop
  | nil : TAll K H [] []
  | cons {v : V} {vs : List V} {th : Th} {ths : List Th} (h : TAt K H v th) (p : TAll K H vs ths) : TAll K H (v :: vs) (th :: ths)
end
mutual
theorem TAt.same {K : PySem.W.Frag} {H H' : Hp} (s : Same H H') : ∀ {v : V} {th : Th}, TAt K H v th → TAt K H' v th
  | _, _, .at h1 h2 hn => .at (h1.same s) (h2.ext s fun a t => own_same H H' s a t) hn
  | _, _, .tup h p => .tup (sqT_same s h) (TAll.same s p)
theorem TAll.same {K : PySem.W.Frag} {H H' : Hp} (s : Same H H') : ∀ {vs : List V} {ths : List Th}, TAll K H vs ths → TAll K H' vs ths
  | _, _, .nil => .nil
  | _, _, .cons h p => .cons (TAt.same s h) (TAll.same s p)
end
mutual
theorem TAt.dp {K : PySem.W.Frag} {H : Hp} : ∀ {v : V} {th : Th}, TAt K H v th → Dp K H v th.d
  | _, _, .at h1 _ _ => h1
  | _, _, .tup h p => by
    rw [Th.d]
    exact .tup h (TAll.dp p)
theorem TAll.dp {K : PySem.W.Frag} {H : Hp} : ∀ {vs : List V} {ths : List Th}, TAll K H vs ths → DpAll K H vs (Th.ds ths)
  | _, _, .nil => by
    rw [Th.ds]
    exact .nil
  | _, _, .cons h p => by
    rw [Th.ds]
    exact .cons (TAt.dp h) (TAll.dp p)
end
mutual
/-- how deep a thing is, at least 2 -/
def Th.dep : Th → Nat
  | .at _ _ => 2
  | .tup xs => Th.deps xs + 1
def Th.deps : List Th → Nat
  | [] => 2
  | x :: xs => max x.dep (Th.deps xs)
end
theorem deps_two : ∀ xs : List Th, 2 ≤ Th.deps xs
  | [] => by rw [Th.deps]; exact Nat.le_refl 2
  | x :: xs => by
    rw [Th.deps]
    have := deps_two xs
    omega
theorem dep_two (x : Th) : 2 ≤ x.dep := by
  cases x with
  | «at» d t => rw [Th.dep]; exact Nat.le_refl 2
  | tup xs =>
    rw [Th.dep]
    have := deps_two xs
    omega
mutual
theorem TAt.txt {K : PySem.W.Frag} {H : Hp} : ∀ {v : V} {th : Th}, TAt K H v th → ∃ n, n ≤ th.dep ∧ TxtAt K (Own59 K) H v th.t n
  | _, _, .at _ h2 hn => ⟨_, hn, h2⟩
  | _, _, .tup h p => by
    obtain ⟨n, hn, q⟩ := TAll.txt p
    rw [Th.t, Th.dep]
    exact ⟨n + 1, by omega, .tup h q⟩
theorem TAll.txt {K : PySem.W.Frag} {H : Hp} : ∀ {vs : List V} {ths : List Th}, TAll K H vs ths → ∃ n, n ≤ Th.deps ths ∧ TxtAll K (Own59 K) H vs (Th.ts ths) n
  | _, _, .nil => by
    rw [Th.ts, Th.deps]
    exact ⟨0, by omega, .nil⟩
  | _, _, .cons h p => by
    obtain ⟨n, hn, q⟩ := TAt.txt h
    obtain ⟨m, hm, r⟩ := TAll.txt p
    rw [Th.ts, Th.deps]
    exact ⟨max n m, by omega, .cons q r⟩
end
mutual
theorem slot_dep {o : Th} (ho : o.dep = 2) : ∀ (c : Th) (q : (Th → Th) × Th), q ∈ slots c → (q.1 o).dep ≤ c.dep
  | .at d t, q, h => by
    rw [slots, List.mem_singleton] at h
    subst h
    rw [Th.dep]
    exact Nat.le_of_eq ho
  | .tup xs, q, h => by
    rw [slots] at h
    rcases List.mem_cons.mp h with h | h
    · subst h
      exact Nat.le_trans (Nat.le_of_eq ho) (dep_two _)
    · obtain ⟨g, hg, e⟩ := List.mem_map.mp h
      subst e
      show (Th.tup (g.1 o)).dep ≤ _
      rw [Th.dep, Th.dep]
      have := slotsAll_dep ho xs g hg
      omega
theorem slotsAll_dep {o : Th} (ho : o.dep = 2) : ∀ (cs : List Th) (q : (Th → List Th) × Th), q ∈ slotsAll cs → Th.deps (q.1 o) ≤ Th.deps cs
  | [], q, h => by
    rw [slotsAll] at h
    cases h
  | c :: cs, q, h => by
    rw [slotsAll] at h
    rcases List.mem_append.mp h with h | h
    · obtain ⟨g, hg, e⟩ := List.mem_map.mp h
      subst e
      show Th.deps (g.1 o :: cs) ≤ _
      rw [Th.deps, Th.deps]
      have := slot_dep ho c g hg
      omega
    · obtain ⟨g, hg, e⟩ := List.mem_map.mp h
      subst e
      show Th.deps (c :: g.1 o) ≤ _
      rw [Th.deps, Th.deps]
      have := slotsAll_dep ho cs g hg
      omega
end
mutual
/-- integers and texts short enough to be shown -/
def shB : PyData → Bool
  | .int i => decide (i.natAbs.log2 < 1920)
  | .str s => decide ((reprText s).length ≤ 1000)
  | .tuple xs => shAll xs
  | .none => true
  | _ => false
def shAll : List PyData → Bool
  | [] => true
  | x :: xs => shB x && shAll xs
end
theorem gd_sh : gd59.all (fun cp => shB cp.1 && shB cp.2) = true := by decide +kernel
mutual
theorem PAt.tat {K : PySem.W.Frag} {H : Hp} : ∀ {v : V} {d : PyData}, PAt H v d → shB d = true → TAt K H v (ofD d)
  | _, _, .non, _ => .at .non (.flat rfl) (by decide)
  | _, _, .int i, h => by
    rw [shB] at h
    refine .at (.int i) (n := 0) ?_ (by decide)
    have e : flatShown (.int i) = some ((toString i : String) : Str) := by
      show (if i.natAbs.log2 < 1920 then some ((toString i : String) : Str) else none) = _
      rw [if_pos (of_decide_eq_true h)]
    rw [PyData.shown_int]
    exact .flat e
  | _, _, .str x, h => by
    rw [shB] at h
    refine .at (.str x) (n := 0) ?_ (by decide)
    have := of_decide_eq_true h
    exact .str (by rw [sizeLine_eq]; omega)
  | _, _, .tup h p, e => by
    rw [shB] at e
    rw [ofD]
    exact .tup (SqT.of h) (PAll.tat p e)
theorem PAll.tat {K : PySem.W.Frag} {H : Hp} : ∀ {vs : List V} {ds : List PyData}, PAll H vs ds → shAll ds = true → TAll K H vs (ofAll ds)
  | _, _, .nil, _ => by
    rw [ofAll]
    exact .nil
  | _, _, .cons h p, e => by
    rw [shAll, Bool.and_eq_true] at e
    rw [ofAll]
    exact .cons (PAt.tat h e.1) (PAll.tat p e.2)
end
/-- a thing that stays whatever is drawn -/
def TD (K : PySem.W.Frag) (p : Addr) (H : Hp) (v : V) (th : Th) : Prop := ∀ H', Drew p H H' → TAt K H' v th
theorem TD.drew {K : PySem.W.Frag} {p : Addr} {H H' : Hp} {v : V} {th : Th} (h : TD K p H v th) (d : Drew p H H') : TD K p H' v th := fun H2 d2 => h H2 (d.trans d2)
theorem TD.at_ {K : PySem.W.Frag} {p : Addr} {H : Hp} {v : V} {th : Th} (h : TD K p H v th) (hp : PurseAt H p) : TAt K H v th := h H (Drew.refl hp)
theorem kt_drew {p : Addr} {H H' : Hp} (hp : PurseAt H p) (d : Drew p H H') : KT H H' := fun a xs e => d.keep hp e fun ys => by
  intro z
  cases z
theorem TD.pat {K : PySem.W.Frag} {p : Addr} {H : Hp} {v : V} {d : PyData} (hp : PurseAt H p) (h : PAt H v d) (e : shB d = true) : TD K p H v (ofD d) := fun H' dr => (h.kt (kt_drew hp dr)).tat e
/-! ### odd things made -/
/-- an odd thing, whatever is drawn from now on -/
def XD (K : PySem.W.Frag) (p : Addr) (H : Hp) (v : V) (d : PyData) (t : Str) (m : Nat) : Prop := ∀ H', Drew p H H' → Dp K H' v d ∧ ∃ n, n ≤ m ∧ TxtAt K (Own59 K) H' v t n
def XA (K : PySem.W.Frag) (p : Addr) (H : Hp) (vs : List V) (ds : List PyData) (ts : List Str) (m : Nat) : Prop := ∀ H', Drew p H H' → DpAll K H' vs ds ∧ ∃ n, n ≤ m ∧ TxtAll K (Own59 K) H' vs ts n
def OeX (K : PySem.W.Frag) (p : Addr) (te : TE) (d : PyData) (t : Str) (m : Nat) : Prop := ∀ σ H Q, PurseAt H p → (∀ v H', Same H H' → XD K p H' v d t m → Q v H') → te σ H Q
def OaX (K : PySem.W.Frag) (p : Addr) (ta : TA) (ds : List PyData) (ts : List Str) (m : Nat) : Prop := ∀ σ H Q, PurseAt H p → (∀ vs H', Same H H' → XA K p H' vs ds ts m → Q vs H') → ta σ H Q
theorem XD.same {K : PySem.W.Frag} {p : Addr} {H H' : Hp} {v : V} {d : PyData} {t : Str} {m : Nat} (hp : PurseAt H p) (h : XD K p H v d t m) (s : Same H H') : XD K p H' v d t m := fun H2 d2 => h H2 (((Drew.refl hp).same s).trans d2)
theorem XA.same {K : PySem.W.Frag} {p : Addr} {H H' : Hp} {v : List V} {d : List PyData} {t : List Str} {m : Nat} (hp : PurseAt H p) (h : XA K p H v d t m) (s : Same H H') : XA K p H' v d t m := fun H2 d2 => h H2 (((Drew.refl hp).same s).trans d2)
theorem XA.len {K : PySem.W.Frag} {p : Addr} {H : Hp} {vs : List V} {ds : List PyData} {ts : List Str} {m : Nat} (hp : PurseAt H p) (h : XA K p H vs ds ts m) : vs.length = ds.length := DpAll.len (h H (Drew.refl hp)).1
theorem oth_lst {K : PySem.W.Frag} {H : Hp} {a : Addr} {xs : List V} (h : H a = some (.lst xs)) : OthAt K H (.ref a) :=
  ⟨.type "list", .base (.lst h), kit_ty (show kitB "list" "str" = some false by decide +kernel), kit_ty (show kitB "list" "tuple" = some false by decide +kernel), kit_ty (show kitB "list" "int" = some false by decide +kernel), kit_ty (show kitB "list" "bool" = some false by decide +kernel)⟩
theorem oth_dct {K : PySem.W.Frag} {H : Hp} {a : Addr} {xs : List (Key × V)} (h : H a = some (.dK xs)) : OthAt K H (.ref a) :=
  ⟨.type "dict", .base (.dK h), kit_ty (show kitB "dict" "str" = some false by decide +kernel), kit_ty (show kitB "dict" "tuple" = some false by decide +kernel), kit_ty (show kitB "dict" "int" = some false by decide +kernel), kit_ty (show kitB "dict" "bool" = some false by decide +kernel)⟩
theorem oth_ins {K : PySem.W.Frag} {H : Hp} {C : Str} {a dx : Addr} {fs : List (Str × V)} (i : IsiK K (He.ga K C)) (k : KitTab K ["Wrap", "Stack", "Road"]) (hC : C ∈ (["Wrap", "Stack", "Road"] : List Str)) (h : H a = some (.ins (He.ga K C) dx fs)) : OthAt K H (.ref a) :=
  ⟨_, i.ty h, k.tb C hC "str" (by simp [btys]), k.tb C hC "tuple" (by simp [btys]), k.tb C hC "int" (by simp [btys]), k.tb C hC "bool" (by simp [btys])⟩
section
variable {K : PySem.W.Frag} {p : Addr}
theorem OeX.mono {te : TE} {d : PyData} {t : Str} {m k : Nat} (h : OeX K p te d t m) (l : m ≤ k) : OeX K p te d t k := fun σ H Q hp q => h σ H Q hp fun v H' s x => q v H' s fun H2 d2 => by
  obtain ⟨h1, n, hn, h2⟩ := x H2 d2
  exact ⟨h1, n, by omega, h2⟩
theorem OeX.txt {te : TE} {d : PyData} {t t' : Str} {m : Nat} (h : OeX K p te d t m) (e : t = t') : OeX K p te d t' m := e ▸ h
theorem OeX.con {v : V} {d : PyData} {t : Str} (h1 : ∀ H, Dp K H v d) (h2 : ∀ H, TxtAt K (Own59 K) H v t 0) : OeX K p (tC v) d t 0 := fun σ H Q hp q => q v H (Same.refl H) fun H' _ => ⟨h1 H', 0, Nat.le_refl 0, h2 H'⟩
theorem OaX.nil : OaX K p tNil [] [] 0 := fun σ H Q hp q => q [] H (Same.refl H) fun H' _ => ⟨.nil, 0, Nat.le_refl 0, .nil⟩
theorem OaX.cons {te : TE} {ta : TA} {d : PyData} {t : Str} {ds : List PyData} {ts : List Str} {m k : Nat} (h : OeX K p te d t m) (r : OaX K p ta ds ts k) : OaX K p (tCons te ta) (d :: ds) (t :: ts) (max m k) := fun σ H Q hp q => h σ H _ hp fun v H1 s1 x => r σ H1 _ (hp.same s1) fun vs H2 s2 y => q _ _ (tr s1 s2) fun H3 d3 => by
  obtain ⟨a1, n, hn, a2⟩ := x.same (hp.same s1) s2 H3 d3
  obtain ⟨b1, n', hn', b2⟩ := y H3 d3
  exact ⟨.cons a1 b1, max n n', by omega, .cons a2 b2⟩
theorem OeX.tup {ta : TA} {ds : List PyData} {ts : List Str} {m : Nat} (h : OaX K p ta ds ts m) (l : ds.length ≤ 1000) : OeX K p (tTup ta) (.tuple ds) (tupleText ts) (m + 1) := fun σ H Q hp q => h σ H _ hp fun vs H1 s1 x => by
  have xl := x.len (hp.same s1)
  refine ⟨by rw [sizeLine_eq]; omega, fun a ha => ?_⟩
  have s2 := up (o := .tup vs) ha
  refine q _ _ (tr s1 s2) fun H3 d3 => ?_
  obtain ⟨a1, n, hn, a2⟩ := x.same (hp.same s1) s2 H3 d3
  have e := d3.keep ((hp.same s1).same s2) upd_same fun ys z => by cases z
  exact ⟨.tup (SqT.of e) a1, n + 1, by omega, .tup (SqT.of e) a2⟩
theorem OeX.lst {ta : TA} {ds : List PyData} {ts : List Str} {m : Nat} (h : OaX K p ta ds ts m) (l : ds.length ≤ 1000) : OeX K p (tLst ta) (.list []) (listText ts) (m + 1) := fun σ H Q hp q => h σ H _ hp fun vs H1 s1 x => by
  have xl := x.len (hp.same s1)
  refine ⟨by rw [sizeLine_eq]; omega, fun a ha => ?_⟩
  have s2 := up (o := .lst vs) ha
  have ne : a ≠ p := (hp.same s1).ne ha
  refine q _ _ (tr s1 s2) fun H3 d3 => ?_
  obtain ⟨a1, n, hn, a2⟩ := x.same (hp.same s1) s2 H3 d3
  have e := d3.kp a _ ne upd_same
  exact ⟨.lst (oth_lst e) trivial, n + 1, by omega, .lst (SqL.of e) a2⟩
theorem OeX.dct : OeX K p tDNewK (.list []) (dictText []) 0 := fun σ H Q hp q => fun a ha => by
  have s2 := up (o := .dK []) ha
  refine q _ _ s2 fun H3 d3 => ?_
  have e := d3.keep (hp.same s2) upd_same fun ys z => by cases z
  exact ⟨.lst (oth_dct e) trivial, 0, Nat.le_refl 0, .edict e⟩
theorem OeX.sdct {x : Str} {i : Int} (hx : (reprText x).length ≤ sizeLine) (hi : i.natAbs.log2 < 1920) : OeX K p (tDisp [(tC (.str x), tC (.int i))]) (.list []) (dictText [reprText x ++ ": " ++ toString i]) 0 := fun σ H Q hp q => fun a ha => by
  refine ⟨upd_same, [(.inr x, .int i)], rfl, (show 1 ≤ 15 by decide), ?_⟩
  have s2 : Same H (upd (upd H a (.dK [])) a (.dK (mergeK [] [(.inr x, .int i)]))) := by
    rw [upd_upd]
    exact up ha
  have em : mergeK [] [(.inr x, V.int i)] = [(.inr x, .int i)] := rfl
  refine q _ _ s2 fun H3 d3 => ?_
  have e := d3.keep (hp.same s2) upd_same fun ys z => by cases z
  rw [em] at e
  exact ⟨.lst (oth_dct e) trivial, 0, Nat.le_refl 0, .sdict e hx hi⟩
theorem keeps_drew {H H' : Hp} (hp : PurseAt H p) (d : Drew p H H') : Keeps K H H' := ⟨fun e => d.keep hp e (fun ys z => by cases z), fun e => d.keep hp e (fun ys z => by cases z), fun e => d.keep hp e (fun ys z => by cases z)⟩
theorem OeX.wrap {w : World} {mg : Str → Option Value} (T : Tx w K mg) : OeX K p (tNew (spWrap K) E0 (tCons (tC (.str "plus")) (tCons (tC (.int 1)) tNil))) (.list []) "Wrap(plus 1)" 0 := fun σ H Q hp q => by
  refine ⟨.plus 1, rfl, ⟨by decide, by decide⟩, fun a H' _ s h => ?_⟩
  refine q _ _ s fun H3 d3 => ?_
  have h := h.keeps (keeps_drew (hp.same s) d3)
  obtain ⟨dx, t, h1, _⟩ := id h
  exact ⟨.lst (oth_ins T.is_Wrap T.kt (by decide) h1) trivial, 0, Nat.le_refl 0, .own (.inl ⟨rfl, h⟩)⟩
theorem OeX.stack {w : World} {mg : Str → Option Value} (T : Tx w K mg) : OeX K p (tNew (spStack K) E0 (tCons (tC (.int 10)) tNil)) (.list []) "Stack(base 10, 0 wraps)" 0 := fun σ H Q hp q => by
  refine ⟨10, [], [], rfl, StkOk.nil (by decide) (by decide), .nil, fun a H' _ s h => ?_⟩
  refine q _ _ s fun H3 d3 => ?_
  have h := h.keeps (keeps_drew (hp.same s) d3)
  obtain ⟨dx, t, xs, h1, _⟩ := id h
  exact ⟨.lst (oth_ins T.is_Stack T.kt (by decide) h1) trivial, 0, Nat.le_refl 0, .own (.inr (.inl ⟨rfl, h⟩))⟩
theorem OeX.road {w : World} {mg : Str → Option Value} (T : Tx w K mg) : OeX K p (tNew (spRoad K) E0 (tCons (tC (.int 10)) tNil)) (.list []) "Road(0 steps)" 0 := fun σ H Q hp q => by
  refine ⟨10, rfl, by decide, by decide, fun a H' _ s h => ?_⟩
  refine q _ _ s fun H3 d3 => ?_
  have hp' := hp.same s
  obtain ⟨dx, t, x, h1, h2, h3⟩ := h
  have h : Rd0 K H3 a 10 := ⟨dx, t, x, d3.keep hp' h1 (fun ys z => by cases z), d3.keep hp' h2 (fun ys z => by cases z), h3.keeps (keeps_drew hp' d3)⟩
  obtain ⟨dx, t, x, h1, h2, h3⟩ := id h
  exact ⟨.lst (oth_ins T.is_Road T.kt (by decide) h1) trivial, 0, Nat.le_refl 0, .own (.inr (.inr ⟨rfl, h⟩))⟩
theorem XA.app {H : Hp} {vs us : List V} {ds es : List PyData} {ts ss : List Str} {m k : Nat} (h : XA K p H vs ds ts m) (g : XA K p H us es ss k) : XA K p H (vs ++ us) (ds ++ es) (ts ++ ss) (max m k) := fun H' dr => by
  have key : ∀ {vs : List V} {ds : List PyData}, DpAll K H' vs ds → ∀ {us : List V} {es : List PyData}, DpAll K H' us es → DpAll K H' (vs ++ us) (ds ++ es) := by
    intro vs
    induction vs with
    | nil => intro ds a us es b; cases a; exact b
    | cons x vs ih =>
      intro ds a us es b
      cases a with
      | cons a1 a2 => exact .cons a1 (ih a2 b)
  have key2 : ∀ {vs : List V} {ts : List Str} {n : Nat}, TxtAll K (Own59 K) H' vs ts n → ∀ {us : List V} {ss : List Str} {n' : Nat}, TxtAll K (Own59 K) H' us ss n' → TxtAll K (Own59 K) H' (vs ++ us) (ts ++ ss) (max n n') := by
    intro vs
    induction vs with
    | nil =>
      intro ts n a us ss n' b
      cases a
      rw [Nat.zero_max]
      exact b
    | cons x vs ih =>
      intro ts n a us ss n' b
      cases a with
      | cons a1 a2 =>
        rw [Nat.max_assoc]
        exact .cons a1 (ih a2 b)
  obtain ⟨a1, n, hn, a2⟩ := h H' dr
  obtain ⟨b1, n', hn', b2⟩ := g H' dr
  exact ⟨key a1 b1, max n n', by omega, key2 a2 b2⟩
theorem o_new {H : Hp} {ta : TA} {ds : List PyData} {ts : List Str} {m : Nat} {rest : TS} {D : Ends} {v0 v1 v2 : Option V} (hp : PurseAt H p) (h : OaX K p ta ds ts m) (l : ds.length ≤ 1000) (k : ∀ l vs H', Same H H' → H' l = some (.lst vs) → XA K p H' vs ds ts m → rest D [v0, v1, some (.ref l)] H') : tSeq (tAsg (tLst ta) (gName 2)) rest D [v0, v1, v2] H := h _ H _ hp fun vs H1 s1 x => by
  have xl := x.len (hp.same s1)
  refine ⟨by rw [sizeLine_eq]; omega, fun q hq => ?_⟩
  have s2 := up (o := .lst vs) hq
  exact k q vs _ (tr s1 s2) upd_same (x.same (hp.same s1) s2)
theorem o_cat {H : Hp} {ta : TA} {ds es : List PyData} {ts ss : List Str} {m j : Nat} {rest : TS} {D : Ends} {v0 v1 : Option V} {l : Addr} {us : List V} (hp : PurseAt H p) (hl : H l = some (.lst us)) (y : XA K p H us ds ts m) (h : OaX K p ta es ss j) (l1 : ds.length ≤ 1000) (l2 : es.length ≤ 1000) (k : ∀ l vs H', Same H H' → H' l = some (.lst vs) → XA K p H' vs (ds ++ es) (ts ++ ss) (max m j) → rest D [v0, v1, some (.ref l)] H') : tSeq (tAsg (tOp rCat (tVar 2) (tLst ta)) (gName 2)) rest D [v0, v1, some (.ref l)] H := by
  refine ⟨_, rfl, h _ H _ hp fun vs H1 s1 x => ?_⟩
  have yl := y.len hp
  have xl := x.len (hp.same s1)
  refine ⟨by rw [sizeLine_eq]; omega, fun q hq => ?_⟩
  have s2 := up (o := .lst vs) hq
  refine ⟨l, q, us, vs, rfl, rfl, s2 _ _ (s1 _ _ hl), upd_same, by rw [sizeLine_eq]; omega, fun q2 hq2 => ?_⟩
  have s3 := up (o := .lst (us ++ vs)) hq2
  exact k q2 _ _ (tr (tr s1 s2) s3) upd_same (((y.same hp (tr s1 s2)).app (x.same (hp.same s1) s2)).same ((hp.same s1).same s2) s3)
theorem XA.get {H : Hp} {vs : List V} {ds : List PyData} {ts : List Str} {m : Nat} (hp : PurseAt H p) (h : XA K p H vs ds ts m) {i : Nat} {v : V} (e : vs[i]? = some v) : ∃ d t, ds[i]? = some d ∧ ts[i]? = some t ∧ XD K p H v d t m := by
  have key : ∀ {vs : List V} {ds : List PyData} {ts : List Str} {n : Nat} {H' : Hp}, DpAll K H' vs ds → TxtAll K (Own59 K) H' vs ts n → ∀ {i : Nat} {v : V}, vs[i]? = some v → ∃ d t n', ds[i]? = some d ∧ ts[i]? = some t ∧ n' ≤ n ∧ Dp K H' v d ∧ TxtAt K (Own59 K) H' v t n' := by
    intro vs
    induction vs with
    | nil => intro ds ts n H' _ _ i v e; simp at e
    | cons x vs ih =>
      intro ds ts n H' a b i v e
      cases a with
      | cons a1 a2 =>
      cases b with
      | cons b1 b2 =>
      cases i with
      | zero =>
        cases (show some x = some v from e)
        exact ⟨_, _, _, rfl, rfl, Nat.le_max_left _ _, a1, b1⟩
      | succ i =>
        obtain ⟨d, t, n', e1, e2, l, q⟩ := ih a2 b2 (i := i) (v := v) e
        exact ⟨d, t, n', e1, e2, Nat.le_trans l (Nat.le_max_right _ _), q⟩
  obtain ⟨a, n, hn, b⟩ := h H (Drew.refl hp)
  obtain ⟨d, t, n', e1, e2, l, q⟩ := key a b e
  refine ⟨d, t, e1, e2, fun H' dr => ?_⟩
  obtain ⟨a, n, hn, b⟩ := h H' dr
  obtain ⟨d', t', n', e1', e2', l, q1, q2⟩ := key a b e
  rw [e1] at e1'
  rw [e2] at e2'
  cases e1'
  cases e2'
  exact ⟨q1, n', by omega, q2⟩
end
def oddD : List PyData := [.none, .bool true, .bool false, .str "", .str "base", .str "Base 10", .str "7", .list [], .list [], .list [], .list [], .tuple [.list []], .tuple [.none], .tuple [.tuple [], .tuple []], .tuple [.list []], .list [], .list [], .list [], .tuple [.list [], .int 1]]
def oddT : List Str := ["None", "True", "False", "''", "'base'", "'Base 10'", "'7'", "[]", "{}", "[()]", "{'size': 1}", "([],)", "(None,)", "((), ())", "({},)", "Wrap(plus 1)", "Stack(base 10, 0 wraps)", "Road(0 steps)", "(Stack(base 10, 0 wraps), 1)"]
theorem odd_zip : odd59 = List.zipWith Th.at oddD oddT := rfl
theorem odd_mem {i : Nat} {d : PyData} {t : Str} (h1 : oddD[i]? = some d) (h2 : oddT[i]? = some t) : Th.at d t ∈ odd59 := by
  rw [odd_zip]
  refine List.mem_of_getElem? (i := i) ?_
  rw [List.getElem?_zipWith, h1, h2]
theorem odd_a (K : PySem.W.Frag) (p : Addr) : OaX K p (tCons (tC V.non) (tCons (tC (V.bl true)) (tCons (tC (V.bl false)) (tCons (tC (V.str "")) (tCons (tC (V.str "base")) (tCons (tC (V.str "Base 10")) (tCons (tC (V.str "7")) (tCons (tLst tNil) (tCons tDNewK (tCons (tLst (tCons (tTup tNil) tNil)) (tCons (tDisp [(tC (V.str "size"), tC (V.int 1))]) (tCons (tTup (tCons (tLst tNil) tNil)) (tCons (tTup (tCons (tC V.non) tNil)) (tCons (tTup (tCons (tTup tNil) (tCons (tTup tNil) tNil))) tNil)))))))))))))) (oddD.take 14) (oddT.take 14) 2 :=
  have st (x : Str) (t : Str) (e : reprText x = t) (l : (reprText x).length ≤ sizeLine) : OeX K p (tC (.str x)) (.str x) t 0 := .con (fun _ => .str x) (fun _ => e ▸ .str l)
  .cons (.con (fun _ => .non) (fun _ => .flat rfl)) (.cons (.con (fun _ => .bl _) (fun _ => .flat rfl)) (.cons (.con (fun _ => .bl _) (fun _ => .flat rfl)) (.cons (st _ _ (by decide +kernel) (by decide +kernel)) (.cons (st _ _ (by decide +kernel) (by decide +kernel)) (.cons (st _ _ (by decide +kernel) (by decide +kernel)) (.cons (st _ _ (by decide +kernel) (by decide +kernel))
  (.cons (.txt (.lst .nil (by decide)) (by decide +kernel)) (.cons (.txt .dct (by decide +kernel)) (.cons (.txt (.lst (.cons (.tup .nil (by decide)) .nil) (by decide)) (by decide +kernel)) (.cons (.txt (.sdct (by decide +kernel) (by decide +kernel)) (by decide +kernel)) (.cons (.txt (.tup (.cons (.lst .nil (by decide)) .nil) (by decide)) (by decide +kernel))
  (.cons (.txt (.tup (.cons (.con (fun _ => .non) (fun _ => .flat rfl)) .nil) (by decide)) (by decide +kernel)) (.cons (.txt (.tup (.cons (.tup .nil (by decide)) (.cons (.tup .nil (by decide)) .nil)) (by decide)) (by decide +kernel)) .nil)))))))))))))
theorem odd_b {K : PySem.W.Frag} {w : World} {mg : Str → Option Value} (T : Tx w K mg) (p : Addr) : OaX K p (tCons (tTup (tCons tDNewK tNil)) (tCons (tNew (spWrap K) E0 (tCons (tC (V.str "plus")) (tCons (tC (V.int 1)) tNil))) (tCons (tNew (spStack K) E0 (tCons (tC (V.int 10)) tNil)) (tCons (tNew (spRoad K) E0 (tCons (tC (V.int 10)) tNil)) (tCons (tTup (tCons (tNew (spStack K) E0 (tCons (tC (V.int 10)) tNil)) (tCons (tC (V.int 1)) tNil))) tNil))))) (oddD.drop 14) (oddT.drop 14) 1 :=
  .cons (.txt (.tup (.cons .dct .nil) (by decide)) (by decide +kernel)) (.cons (.wrap T) (.cons (.stack T) (.cons (.road T) (.cons (.txt (.tup (.cons (.stack T) (.cons (.con (fun _ => .int 1) (fun _ => .flat rfl)) .nil)) (by decide)) (by decide +kernel)) .nil))))
theorem td_int (K : PySem.W.Frag) (p : Addr) (H : Hp) {i : Int} (h : i.natAbs.log2 < 1920) : TD K p H (.int i) (iTh i) := fun H' _ => by
  have e : flatShown (.int i) = some ((toString i : String) : Str) := by
    show (if i.natAbs.log2 < 1920 then some ((toString i : String) : Str) else none) = _
    rw [if_pos h]
  exact .at (.int i) (.flat e) (by decide)
theorem log2_1920 {i : Int} (h : i < 10 ^ 61) (h2 : - 10 ^ 10 < i) : i.natAbs.log2 < 1920 := by
  by_cases z : i.natAbs = 0
  · rw [z]
    decide
  · rw [Nat.log2_lt z]
    have : (10 : Nat) ^ 61 < 2 ^ 1920 := by decide +kernel
    omega
theorem XD.td {K : PySem.W.Frag} {p : Addr} {H : Hp} {v : V} {d : PyData} {t : Str} (h : XD K p H v d t 2) : TD K p H v (.at d t) := fun H' dr => by
  obtain ⟨a, n, hn, b⟩ := h H' dr
  exact .at a b hn
/-- what _law_odd gives -/
def OddTh (th : Th) : Prop := th ∈ odd59 ∨ ∃ i : Int, Bad i ∧ i < 10 ^ 61 ∧ - 10 ^ 10 < i ∧ th = iTh i
def spOdd (K : PySem.W.Frag) : Sp := fun vs H Q _ => ∃ p, vs = [.ref p] ∧ PurseAt H p ∧ ∀ v th H', Drew p H H' → OddTh th → TD K p H' v th → Q v H'
section
variable {P : Program} {w : World} {K : PySem.W.Frag} {mg : Str → Option Value} {base : Heap}
theorem ok_L_odd (T : Tx w K mg) : Prom P w K mg base CX0 8 "_law_odd" s_L_odd ["_law_pool_here"] (spOdd K) := by
  refine Prom.of T.d_L_odd sc_L_odd (fun vs H Q E h => ?_) (fun _ _ _ _ _ _ us hl => match us, hl with | [_], _ => rfl) (fun f cdv A outer s H vs Q E hr h => ?_)
  · obtain ⟨p, rfl, _⟩ := h
    rfl
  · obtain ⟨p, rfl, hp, k⟩ := h
    refine ⟨_, (pss_cons (ps_set (i := 1) sc_L_odd.nd rfl (Or.inl rfl) (pe_callP (ok_L_draw T) (hr.mono (by decide)) (by rfl) pass0 (pa_cons (pv 0) (pa_cons pe_int pa_nil))))
      (pss_cons (ps_if (pt_cmp (pc_lt (pv 1) pe_int)) (pss_one (ps_ret (pe_ix ix_list (pe_lst (pa_cons (pe_op op_sub (pe_un un_neg pe_int) (pe_callP (ok_L_draw T) (hr.mono (by decide)) (by rfl) pass0 (pa_cons (pv 0) (pa_cons (pe_op op_pow pe_int pe_int) pa_nil)))) (pa_cons (pe_op op_add (pe_op op_pow pe_int pe_int) (pe_callP (ok_L_draw T) (hr.mono (by decide)) (by rfl) pass0 (pa_cons (pv 0) (pa_cons (pe_op op_pow pe_int pe_int) pa_nil)))) (pa_cons (pe_op op_pow pe_int pe_int) pa_nil)))) (pv 1) (fun _ _ => rfl)))) pss_nil)
      (pss_cons (ps_set (i := 2) sc_L_odd.nd rfl (Or.inl rfl) (pe_lst (pa_cons pe_non (pa_cons pe_bl (pa_cons pe_bl (pa_cons pe_str (pa_cons pe_str (pa_cons pe_str (pa_cons pe_str (pa_cons (pe_lst pa_nil) (pa_cons pe_dnewK (pa_cons (pe_lst (pa_cons (pe_tup pa_nil) pa_nil)) (pa_cons (pe_disp (pps_cons pe_str pe_int pps_nil) rfl rfl (fun z => by cases z) (by decide)) (pa_cons (pe_tup (pa_cons (pe_lst pa_nil) pa_nil)) (pa_cons (pe_tup (pa_cons pe_non pa_nil)) (pa_cons (pe_tup (pa_cons (pe_tup pa_nil) (pa_cons (pe_tup pa_nil) pa_nil))) pa_nil))))))))))))))))
      (pss_cons (ps_set (i := 2) sc_L_odd.nd rfl (Or.inl rfl) (pe_op op_cat (pv 2) (pe_lst (pa_cons (pe_tup (pa_cons pe_dnewK pa_nil)) (pa_cons (pe_newP (ok_Wrap T) (hr.mono (by decide)) (by rfl) pass0 (pa_cons pe_str (pa_cons pe_int pa_nil))) (pa_cons (pe_newP (ok_Stack T) (hr.mono (by decide)) (by rfl) pass0 (pa_cons pe_int pa_nil)) (pa_cons (pe_newP (ok_Road T) (hr.mono (by decide)) (by rfl) pass0 (pa_cons pe_int pa_nil)) (pa_cons (pe_tup (pa_cons (pe_newP (ok_Stack T) (hr.mono (by decide)) (by rfl) pass0 (pa_cons pe_int pa_nil)) (pa_cons pe_int pa_nil))) pa_nil))))))))
      (pss_one (ps_ret (pe_ix ix_list (pv 2) (pe_op op_sub (pv 1) pe_int) (fun _ _ => rfl)))))))), ?_⟩
    repeat (first | (refine And.intro ?_ ?_; · (first | exact rfl | (show (_ : Int) ≤ _; omega) | (show (_ : Int) < _; omega) | assumption | exact SqL.of upd_same | exact SqT.of upd_same | exact upd_same | exact Drew.at_ (by assumption) | exact at_of (j := 0) rfl rfl | exact at_of (j := 1) rfl rfl | exact at_of (j := 2) rfl rfl | exact at_of (j := 3) rfl rfl | exact .inr (by assumption) | exact .inl (by assumption) | exact .ty _ | exact dp_ty (by assumption) | exact kit_strD _ | exact kit_tupD _ | exact kit_intD _ | exact kit_boolD _ | exact ⟨_, rfl⟩ | decide | omega | exact (show 0 ≤ sizeLine by decide) | exact (show 1 ≤ sizeLine by decide) | exact (show 2 ≤ sizeLine by decide) | exact (show 3 ≤ sizeLine by decide) | exact (show 4 ≤ sizeLine by decide) | exact (show 5 ≤ sizeLine by decide) | exact (show 6 ≤ sizeLine by decide) | decide +kernel)) | apply Exists.intro | refine iteT ?_ | refine iteF ?_)
    intro r H1 r0 r1 d1
    have hp1 := d1.at_
    repeat (first | (refine And.intro ?_ ?_; · (first | exact rfl | (show (_ : Int) ≤ _; omega) | (show (_ : Int) < _; omega) | assumption | exact SqL.of upd_same | exact SqT.of upd_same | exact upd_same | exact Drew.at_ (by assumption) | exact at_of (j := 0) rfl rfl | exact at_of (j := 1) rfl rfl | exact at_of (j := 2) rfl rfl | exact at_of (j := 3) rfl rfl | exact .inr (by assumption) | exact .inl (by assumption) | exact .ty _ | exact dp_ty (by assumption) | exact kit_strD _ | exact kit_tupD _ | exact kit_intD _ | exact kit_boolD _ | exact ⟨_, rfl⟩ | decide | omega | exact (show 0 ≤ sizeLine by decide) | exact (show 1 ≤ sizeLine by decide) | exact (show 2 ≤ sizeLine by decide) | exact (show 3 ≤ sizeLine by decide) | exact (show 4 ≤ sizeLine by decide) | exact (show 5 ≤ sizeLine by decide) | exact (show 6 ≤ sizeLine by decide) | decide +kernel)) | apply Exists.intro | refine iteT ?_ | refine iteF ?_)
    refine ifd (fun c => ?_) (fun c => ?_)
    · have c : r < 3 := c
      repeat (first | (refine And.intro ?_ ?_; · (first | exact rfl | (show (_ : Int) ≤ _; omega) | (show (_ : Int) < _; omega) | assumption | exact SqL.of upd_same | exact SqT.of upd_same | exact upd_same | exact Drew.at_ (by assumption) | exact at_of (j := 0) rfl rfl | exact at_of (j := 1) rfl rfl | exact at_of (j := 2) rfl rfl | exact at_of (j := 3) rfl rfl | exact .inr (by assumption) | exact .inl (by assumption) | exact .ty _ | exact dp_ty (by assumption) | exact kit_strD _ | exact kit_tupD _ | exact kit_intD _ | exact kit_boolD _ | exact ⟨_, rfl⟩ | decide | omega | exact (show 0 ≤ sizeLine by decide) | exact (show 1 ≤ sizeLine by decide) | exact (show 2 ≤ sizeLine by decide) | exact (show 3 ≤ sizeLine by decide) | exact (show 4 ≤ sizeLine by decide) | exact (show 5 ≤ sizeLine by decide) | exact (show 6 ≤ sizeLine by decide) | decide +kernel)) | apply Exists.intro | refine iteT ?_ | refine iteF ?_)
      refine ⟨⟨by decide, by decide, by decide⟩, ?_⟩
      refine ⟨p, _, rfl, hp1, by decide, by decide, fun x H2 x0 x1 d2 => ?_⟩
      have hp2 := d2.at_
      repeat (first | (refine And.intro ?_ ?_; · (first | exact rfl | (show (_ : Int) ≤ _; omega) | (show (_ : Int) < _; omega) | assumption | exact SqL.of upd_same | exact SqT.of upd_same | exact upd_same | exact Drew.at_ (by assumption) | exact at_of (j := 0) rfl rfl | exact at_of (j := 1) rfl rfl | exact at_of (j := 2) rfl rfl | exact at_of (j := 3) rfl rfl | exact .inr (by assumption) | exact .inl (by assumption) | exact .ty _ | exact dp_ty (by assumption) | exact kit_strD _ | exact kit_tupD _ | exact kit_intD _ | exact kit_boolD _ | exact ⟨_, rfl⟩ | decide | omega | exact (show 0 ≤ sizeLine by decide) | exact (show 1 ≤ sizeLine by decide) | exact (show 2 ≤ sizeLine by decide) | exact (show 3 ≤ sizeLine by decide) | exact (show 4 ≤ sizeLine by decide) | exact (show 5 ≤ sizeLine by decide) | exact (show 6 ≤ sizeLine by decide) | decide +kernel)) | apply Exists.intro | refine iteT ?_ | refine iteF ?_)
      refine ⟨⟨by decide, by decide, by decide⟩, ?_⟩
      refine ⟨_, rfl, _, _, rfl, rfl, ⟨by decide, by decide, by decide⟩, ?_⟩
      refine ⟨p, _, rfl, hp2, by decide, by decide, fun y H3 y0 y1 d3 => ?_⟩
      repeat (first | (refine And.intro ?_ ?_; · (first | exact rfl | (show (_ : Int) ≤ _; omega) | (show (_ : Int) < _; omega) | assumption | exact SqL.of upd_same | exact SqT.of upd_same | exact upd_same | exact Drew.at_ (by assumption) | exact at_of (j := 0) rfl rfl | exact at_of (j := 1) rfl rfl | exact at_of (j := 2) rfl rfl | exact at_of (j := 3) rfl rfl | exact .inr (by assumption) | exact .inl (by assumption) | exact .ty _ | exact dp_ty (by assumption) | exact kit_strD _ | exact kit_tupD _ | exact kit_intD _ | exact kit_boolD _ | exact ⟨_, rfl⟩ | decide | omega | exact (show 0 ≤ sizeLine by decide) | exact (show 1 ≤ sizeLine by decide) | exact (show 2 ≤ sizeLine by decide) | exact (show 3 ≤ sizeLine by decide) | exact (show 4 ≤ sizeLine by decide) | exact (show 5 ≤ sizeLine by decide) | exact (show 6 ≤ sizeLine by decide) | decide +kernel)) | apply Exists.intro | refine iteT ?_ | refine iteF ?_)
      refine ⟨⟨by decide, by decide, by decide⟩, ?_⟩
      refine ⟨(by show 3 ≤ sizeLine; decide), fun q hq => ?_⟩
      have d13 := (d1.trans d2).trans d3
      have s4 := up (o := .lst [.int (-1 - x), .int (10 ^ 60 + y), .int (10 ^ 60)]) hq
      have gl : upd H3 q (.lst [.int (-1 - x), .int (10 ^ 60 + y), .int (10 ^ 60)]) q = some (.lst [.int (-1 - x), .int (10 ^ 60 + y), .int (10 ^ 60)]) := upd_same
      have x1 : x < 10 ^ 9 := x1
      have y1 : y < 10 ^ 9 := y1
      obtain ⟨i, hi, ix, ib, il, ig⟩ : ∃ i : Int, [V.int (-1 - x), .int (10 ^ 60 + y), .int (10 ^ 60)][r.toNat]? = some (.int i) ∧ Bad i ∧ i < 10 ^ 61 ∧ - 10 ^ 10 < i ∧ True := by
        have c3 : r = 0 ∨ r = 1 ∨ r = 2 := by omega
        rcases c3 with rfl | rfl | rfl
        · exact ⟨_, rfl, .inl (by omega), by omega, by omega, trivial⟩
        · exact ⟨_, rfl, .inr (by omega), by omega, by omega, trivial⟩
        · exact ⟨_, rfl, .inr (by omega), by omega, by omega, trivial⟩
      refine ⟨_, rfl, q, _, r, .int i, rfl, rfl, SqL.of gl, at_of (j := r.toNat) (by omega) hi, ?_⟩
      exact k _ (iTh i) _ (d13.same s4) (.inr ⟨i, ix, ib, il, rfl⟩) (td_int K p _ (log2_1920 ib il))
    · have c : ¬ r < 3 := c
      refine o_new hp1 (odd_a K p) (by decide) fun l vs H2 s2 hl x => ?_
      refine o_cat (hp1.same s2) hl x (odd_b T p) (by decide) (by decide) fun l2 us H3 s3 hl2 y => ?_
      have hp3 := (hp1.same s2).same s3
      have yl := y.len hp3
      have yl : us.length = 19 := yl
      obtain ⟨v, hv⟩ : ∃ v, us[(r - 3).toNat]? = some v := ⟨_, List.getElem?_eq_getElem (by omega)⟩
      obtain ⟨d, t, e1, e2, xd⟩ := y.get hp3 hv
      refine ⟨_, rfl, _, rfl, r, 3, rfl, rfl, l2, us, r - 3, v, rfl, rfl, SqL.of hl2, ?_, ?_⟩
      · exact at_of (j := (r - 3).toNat) (by omega) hv
      · exact k v _ H3 ((d1.same s2).same s3) (.inl (odd_mem e1 e2)) xd.td
end
/-! ### something else at a drawn place -/
mutual
def pd : PyData → Nat
  | .tuple xs => pds xs
  | _ => 0
def pds : List PyData → Nat
  | [] => 0
  | x :: xs => max (pd x + 1) (pds xs)
end
theorem pds_mem {x : PyData} : ∀ {xs : List PyData}, x ∈ xs → pd x + 1 ≤ pds xs
  | y :: xs, h => by
    rw [pds]
    rcases List.mem_cons.mp h with e | h
    · rw [e]
      omega
    · have := pds_mem h
      omega
mutual
/-- all parts can be compared -/
def fitB : PyData → Bool
  | .tuple xs => SeqAt.shaped (.tuple xs) && decide (xs.length ≤ 1000) && fitAll xs
  | _ => true
def fitAll : List PyData → Bool
  | [] => true
  | x :: xs => fitB x && fitAll xs
end
theorem gd_fit : gd59.all (fun cp => fitB cp.1 && fitB cp.2 && decide (pd cp.1 < 6) && decide (pd cp.2 < 6)) = true := by decide +kernel
theorem fitAll_get : ∀ {xs : List PyData} {i : Nat} {x : PyData}, fitAll xs = true → xs[i]? = some x → fitB x = true
  | [], i, x, _, e => by simp at e
  | y :: ys, 0, x, h, e => by
    rw [fitAll, Bool.and_eq_true] at h
    cases (show some y = some x from e)
    exact h.1
  | y :: ys, i + 1, x, h, e => by
    rw [fitAll, Bool.and_eq_true] at h
    exact fitAll_get (i := i) h.2 e
theorem shAll_get : ∀ {xs : List PyData} {i : Nat} {x : PyData}, shAll xs = true → xs[i]? = some x → shB x = true
  | [], i, x, _, e => by simp at e
  | y :: ys, 0, x, h, e => by
    rw [shAll, Bool.and_eq_true] at h
    cases (show some y = some x from e)
    exact h.1
  | y :: ys, i + 1, x, h, e => by
    rw [shAll, Bool.and_eq_true] at h
    exact shAll_get (i := i) h.2 e
mutual
theorem PAt.l2 {K : PySem.W.Frag} {H : Hp} : ∀ {v : V} {d : PyData}, PAt H v d → L2.Dp K H v d
  | _, _, .non => .non
  | _, _, .int i => .int i
  | _, _, .str x => .str x
  | _, _, .tup h p => .tup (SqT.of h) (PAll.l2 p)
theorem PAll.l2 {K : PySem.W.Frag} {H : Hp} : ∀ {vs : List V} {ds : List PyData}, PAll H vs ds → L2.DpAll K H vs ds
  | _, _, .nil => .nil
  | _, _, .cons h p => .cons (PAt.l2 h) (PAll.l2 p)
end
theorem PAll.get {H : Hp} : ∀ {vs : List V} {ds : List PyData}, PAll H vs ds → ∀ {i : Nat} {v : V}, vs[i]? = some v → ∃ d, ds[i]? = some d ∧ PAt H v d
  | _, _, .nil, i, v, e => by simp at e
  | _, _, .cons h p, 0, v, e => by
    cases (show some _ = some v from e)
    exact ⟨_, rfl, h⟩
  | _, _, .cons h p, i + 1, v, e => PAll.get p (i := i) e
theorem eqv_nil (ds : List PyData) : PyData.eqv (.tuple ds) (.tuple []) = decide (ds = []) := by
  cases ds with
  | nil => simp [PyData.eqv, PyData.eqvAll]
  | cons d ds => simp [PyData.eqv, PyData.eqvAll]
theorem slot_id (c : Th) : ((fun o => o : Th → Th), c) ∈ slots c := by
  cases c with
  | «at» d t => rw [slots]; exact .head _
  | tup xs => rw [slots]; exact .head _
/-- a slot of a part is a slot of the whole -/
theorem slotsAll_at : ∀ {cs : List Th} {i : Nat} {c : Th} {q : (Th → Th) × Th}, cs[i]? = some c → q ∈ slots c → ((fun o => cs.take i ++ q.1 o :: cs.drop (i + 1), q.2) : (Th → List Th) × Th) ∈ slotsAll cs
  | [], i, c, q, e, _ => by simp at e
  | y :: ys, 0, c, q, e, h => by
    cases (show some y = some c from e)
    rw [slotsAll]
    exact List.mem_append_left _ (List.mem_map.mpr ⟨q, h, rfl⟩)
  | y :: ys, i + 1, c, q, e, h => by
    rw [slotsAll]
    exact List.mem_append_right _ (List.mem_map.mpr ⟨_, slotsAll_at (i := i) e h, rfl⟩)
theorem ofAll_get : ∀ {ds : List PyData} {i : Nat} {d : PyData}, ds[i]? = some d → (ofAll ds)[i]? = some (ofD d)
  | [], i, d, e => by simp at e
  | x :: xs, 0, d, e => by
    cases (show some x = some d from e)
    rw [ofAll]
    rfl
  | x :: xs, i + 1, d, e => by
    rw [ofAll]
    exact ofAll_get (ds := xs) (i := i) e
theorem slot_at {ds : List PyData} {i : Nat} {d : PyData} {q : (Th → Th) × Th} (e : ds[i]? = some d) (h : q ∈ slots (ofD d)) : ((fun o => .tup ((ofAll ds).take i ++ q.1 o :: (ofAll ds).drop (i + 1)), q.2) : (Th → Th) × Th) ∈ slots (ofD (.tuple ds)) := by
  rw [ofD, slots]
  exact .tail _ (List.mem_map.mpr ⟨_, slotsAll_at (ofAll_get e) h, rfl⟩)
theorem TAll.app {K : PySem.W.Frag} {H : Hp} : ∀ {vs us : List V} {xs ys : List Th}, TAll K H vs xs → TAll K H us ys → TAll K H (vs ++ us) (xs ++ ys)
  | _, _, _, _, .nil, q => q
  | _, _, _, _, .cons h p, q => .cons h (TAll.app p q)
theorem TAll.take {K : PySem.W.Frag} {H : Hp} : ∀ {vs : List V} {xs : List Th} (i : Nat), TAll K H vs xs → TAll K H (vs.take i) (xs.take i)
  | _, _, 0, _ => .nil
  | _, _, i + 1, .nil => .nil
  | _, _, i + 1, .cons h p => .cons h (TAll.take i p)
theorem TAll.drop {K : PySem.W.Frag} {H : Hp} : ∀ {vs : List V} {xs : List Th} (i : Nat), TAll K H vs xs → TAll K H (vs.drop i) (xs.drop i)
  | _, _, 0, p => p
  | _, _, i + 1, .nil => .nil
  | _, _, i + 1, .cons h p => TAll.drop i p
theorem catA_use {K : PySem.W.Frag} {a b : Addr} {xs ys : List V} {H : Hp} {Q : VK} (h1 : SqT K H a xs) (h2 : SqT K H b ys) (hl : xs.length + ys.length ≤ 1000000) (k : ∀ r H', Same H H' → SqT K H' r (xs ++ ys) → Q (.ref r) H') : rCatA K (.ref a) (.ref b) H Q := by
  refine ⟨a, b, xs, ys, rfl, rfl, h1, h2, by rw [sizeLine_eq]; omega, fun e => ?_, fun _ e => ?_, fun _ _ q hq => ?_⟩
  · subst e
    exact k b H (Same.refl H) h2
  · subst e
    exact k a H (Same.refl H) (by rw [List.append_nil]; exact h1)
  · exact k q _ (up hq) (SqT.of upd_same)
theorem sqT_drew {K : PySem.W.Frag} {p : Addr} {H H' : Hp} {a : Addr} {xs : List V} (hp : PurseAt H p) (d : Drew p H H') (h : SqT K H a xs) : SqT K H' a xs := by
  rcases h with (h | ⟨o, h⟩) | h
  · exact .inl (.inl (d.keep hp h fun ys z => by cases z))
  · exact .inl (.inr ⟨o, d.keep hp h fun ys z => by cases z⟩)
  · exact .inr h
theorem cut_to (xs : List V) (i : Nat) (h : i ≤ xs.length) : cutV xs none (some (i : Int)) = xs.take i := by
  unfold cutV
  rw [HT.sIx_nat, HT.sIx_none, Nat.min_eq_left h]
  rfl
theorem cut_from (xs : List V) (i : Nat) (h : i ≤ xs.length) : cutV xs (some (i : Int)) none = xs.drop i := by
  unfold cutV
  rw [HT.sIx_nat, HT.sIx_none, Nat.min_eq_left h]
  refine List.take_of_length_le ?_
  rw [List.length_drop]
  exact Nat.le_refl _
def spPut (K : PySem.W.Frag) (m : Nat) : Sp := fun vs H Q _ => ∃ (p : Addr) (v u : V) (d : PyData) (o : Th), vs = [.ref p, v, u] ∧ PurseAt H p ∧ PAt H v d ∧ shB d = true ∧ fitB d = true ∧ pd d < m ∧ TD K p H u o ∧ ∀ v' H' q, Drew p H H' → q ∈ slots (ofD d) → TD K p H' v' (q.1 o) → Q v' H'
section
variable {P : Program} {w : World} {K : PySem.W.Frag} {mg : Str → Option Value} {base : Heap}
theorem Prom.any {x : Str} {st : Stmt} {ps : List Str} {sp : Nat → Sp} {M : Nat} (h : ∀ m : Nat, Prom P w K mg base CX0 (m + 2) x st ps (sp m)) : Prom P w K mg base CX0 (M + 2) x st ps (fun vs H Q E => ∃ m : Nat, m ≤ M ∧ sp m vs H Q E) := by
  obtain ⟨f, fd, F, hm, D, B⟩ := (h 0).ex
  have key : ∀ m : Nat, FnOk P w K mg base CX0 (m + 2) f fd ps (sp m) := fun m => by
    obtain ⟨f', fd', F', hm', D', B'⟩ := (h m).ex
    have e : f' = f := by
      rw [hm] at hm'
      injection hm' with hm'
      injection hm' with hm'
      exact hm'.symm
    subst e
    obtain ⟨_, _, _, _, _, _, _, _, _, _, _, l1, _⟩ := D.ex
    obtain ⟨_, _, _, _, _, _, _, _, _, _, _, l2, _⟩ := D'.ex
    rw [l1] at l2
    injection l2 with l2
    injection l2 with _ _ l2 _
    injection l2 with l2
    subst l2
    exact F'
  refine ⟨f, fd, ⟨fun vs H Q E z => ?_, fun A outer s H args us vs Q E hr he hb hv z => ?_⟩, hm, D, B⟩
  · obtain ⟨m, _, z⟩ := z
    exact (key m).len vs H Q E z
  · obtain ⟨m, hm, z⟩ := z
    exact (key m).run A outer s H args us vs Q E (hr.mono (by omega)) he hb hv z
theorem put_zero (T : Tx w K mg) {k : Nat} : Prom P w K mg base CX0 (k + 1) "_law_put_in" s_L_put_in ["_law_pool_here", "_law_thing", "_law_odd_here"] (spPut K 0) := by
  refine Prom.of T.d_L_put_in sc_L_put_in (fun vs H Q E h => ?_) (fun _ _ _ _ _ _ us hl => match us, hl with | [_, _, _], _ => rfl) (fun f cdv A outer s H vs Q E hr h => ?_)
  · obtain ⟨p, v, u, d, o, _, _, _, _, _, h, _⟩ := h
    omega
  · obtain ⟨p, v, u, d, o, _, _, _, _, _, h, _⟩ := h
    omega
theorem put_succ (T : Tx w K mg) {j m : Nat} (hj : 1 ≤ j) (ih : Prom P w K mg base CX0 j "_law_put_in" s_L_put_in ["_law_pool_here", "_law_thing", "_law_odd_here"] (spPut K m)) : Prom P w K mg base CX0 (j + 1) "_law_put_in" s_L_put_in ["_law_pool_here", "_law_thing", "_law_odd_here"] (spPut K (m + 1)) := by
  refine Prom.of T.d_L_put_in sc_L_put_in (fun vs H Q E h => ?_) (fun _ _ _ _ _ _ us hl => match us, hl with | [_, _, _], _ => rfl) (fun f cdv A outer s H vs Q E hr h => ?_)
  · obtain ⟨p, v, u, d, o, rfl, _⟩ := h
    rfl
  · obtain ⟨p, v, u, d, o, rfl, hp, hv, hsh, hfit, hpd, ho, k⟩ := h
    refine ⟨_, (pss_cons (ps_if (PW.pt (pw_or (pt_not (pt_val (pe_callB call_isi (by rfl) T.b_isinstance (by decide +kernel) (pa_cons (pv 1) (pa_cons (pe_bltn (v := .ty "tuple") (by rfl) T.b_tuple (by decide +kernel) rfl) pa_nil))))) (pw_or (pt_cmpR (op_eqD hr.units) (pv 1) (pe_tup pa_nil) (nomark _)) (pw_or1 (pt_cmp (pc_eqI (pe_callP (ok_L_draw T) (hr.mono (by omega)) (by rfl) pass0 (pa_cons (pv 0) (pa_cons pe_int pa_nil))) pe_int)))))) (pss_one (ps_ret (pv 2))) pss_nil)
      (pss_cons (ps_set (i := 3) sc_L_put_in.nd rfl (Or.inl rfl) (pe_callP (ok_L_draw T) (hr.mono (by omega)) (by rfl) pass0 (pa_cons (pv 0) (pa_cons (pe_callB call_len_seq (by rfl) T.b_len (by decide +kernel) (pa_cons (pv 1) pa_nil)) pa_nil))))
      (pss_one (ps_ret (pe_op op_catA (pe_op op_catA (pe_slice sl_tup (pv 1) po_none (po_some (pv 3))) (pe_tup (pa_cons (pe_callP ih (hr.mono (Nat.le_refl _)) (by rfl) pass0 (pa_cons (pv 0) (pa_cons (pe_ix ix_tup (pv 1) (pv 3) (fun _ _ => rfl)) (pa_cons (pv 2) pa_nil)))) pa_nil))) (pe_slice sl_tup (pv 1) (po_some (pe_op op_add (pv 3) pe_int)) po_none)))))), ?_⟩
    have leaf : TD K p H u o → Q u H := fun h => k u H _ (Drew.refl hp) (slot_id (ofD d)) h
    have tyN : TyX K H .non (.type "NoneType") := .base .non
    have tyI : ∀ i, TyX K H (.int i) (.type "int") := fun i => .base (.int i)
    have tyS : ∀ x, TyX K H (.str x) (.type "str") := fun x => .base (.str x)
    cases hv with
    | non => exact ⟨_, rfl, _, _, _, _, false, rfl, .ty _, tyN, kit_ty (show kitB "NoneType" "tuple" = some false by decide +kernel), false, rfl, ⟨_, rfl, leaf ho⟩⟩
    | int i => exact ⟨_, rfl, _, _, _, _, false, rfl, .ty _, tyI i, kit_ty (show kitB "int" "tuple" = some false by decide +kernel), false, rfl, ⟨_, rfl, leaf ho⟩⟩
    | str x => exact ⟨_, rfl, _, _, _, _, false, rfl, .ty _, tyS x, kit_ty (show kitB "str" "tuple" = some false by decide +kernel), false, rfl, ⟨_, rfl, leaf ho⟩⟩
    | @tup a xs ds h1 h2 =>
    refine ⟨_, rfl, _, _, _, _, true, rfl, .ty _, .base (.tup h1), kit_ty (show kitB "tuple" "tuple" = some true by decide +kernel), true, rfl, ?_⟩
    rw [fitB, Bool.and_eq_true, Bool.and_eq_true] at hfit
    rw [shB] at hsh
    refine ⟨_, rfl, by show 0 ≤ sizeLine; exact Nat.zero_le _, fun e he => ?_⟩
    have s1 := up (o := .tup []) he
    have ho1 : TD K p (upd H e (.tup [])) u o := fun H2 d2 => ho H2 (((Drew.refl hp).same s1).trans d2)
    have hp1 := hp.same s1
    have ge : upd H e (.tup []) e = some (.tup []) := upd_same
    have h11 := s1 _ _ h1
    have h21 := h2.kt (.same s1)
    have d1 : Drew p H (upd H e (.tup [])) := (Drew.refl hp).same s1
    generalize upd H e (.tup []) = H1 at *
    refine ⟨.tuple ds, .tuple [], .tup (SqT.of h11) h21.l2, .tup (SqT.of ge) .nil, hfit.1.1, rfl, ?_⟩
    rw [eqv_nil]
    refine ⟨_, rfl, ?_⟩
    refine ifd (fun c => ⟨_, rfl, k u H1 _ d1 (slot_id _) ho1⟩) (fun c => ?_)
    have c : ds ≠ [] := c
    repeat (first | (refine And.intro ?_ ?_; · (first | exact rfl | (show (_ : Int) ≤ _; omega) | (show (_ : Int) < _; omega) | assumption | exact SqL.of upd_same | exact SqT.of upd_same | exact upd_same | exact Drew.at_ (by assumption) | exact at_of (j := 0) rfl rfl | exact at_of (j := 1) rfl rfl | exact at_of (j := 2) rfl rfl | exact at_of (j := 3) rfl rfl | exact .inr (by assumption) | exact .inl (by assumption) | exact .ty _ | exact dp_ty (by assumption) | exact kit_strD _ | exact kit_tupD _ | exact kit_intD _ | exact kit_boolD _ | exact ⟨_, rfl⟩ | decide | omega | exact (show 0 ≤ sizeLine by decide) | exact (show 1 ≤ sizeLine by decide) | exact (show 2 ≤ sizeLine by decide) | exact (show 3 ≤ sizeLine by decide) | exact (show 4 ≤ sizeLine by decide) | exact (show 5 ≤ sizeLine by decide) | exact (show 6 ≤ sizeLine by decide) | decide +kernel)) | apply Exists.intro | refine iteT ?_ | refine iteF ?_)
    intro r H2 r0 r1 d2
    have ho2 := ho1.drew d2
    have d12 := d1.trans d2
    have h12 := d2.keep hp1 h11 fun ys z => by cases z
    have h22 := h21.kt (kt_drew hp1 d2)
    have hp2 := d2.at_
    repeat (first | (refine And.intro ?_ ?_; · (first | exact rfl | (show (_ : Int) ≤ _; omega) | (show (_ : Int) < _; omega) | assumption | exact SqL.of upd_same | exact SqT.of upd_same | exact upd_same | exact Drew.at_ (by assumption) | exact at_of (j := 0) rfl rfl | exact at_of (j := 1) rfl rfl | exact at_of (j := 2) rfl rfl | exact at_of (j := 3) rfl rfl | exact .inr (by assumption) | exact .inl (by assumption) | exact .ty _ | exact dp_ty (by assumption) | exact kit_strD _ | exact kit_tupD _ | exact kit_intD _ | exact kit_boolD _ | exact ⟨_, rfl⟩ | decide | omega | exact (show 0 ≤ sizeLine by decide) | exact (show 1 ≤ sizeLine by decide) | exact (show 2 ≤ sizeLine by decide) | exact (show 3 ≤ sizeLine by decide) | exact (show 4 ≤ sizeLine by decide) | exact (show 5 ≤ sizeLine by decide) | exact (show 6 ≤ sizeLine by decide) | decide +kernel)) | apply Exists.intro | refine iteT ?_ | refine iteF ?_)
    refine ifd (fun z => ⟨_, rfl, k u H2 _ d12 (slot_id _) ho2⟩) (fun z => ?_)
    have pl := h22.len
    have dl : 0 < ds.length := List.length_pos_iff.mpr c
    have bl : ds.length ≤ 1000 := of_decide_eq_true hfit.1.2
    have hS2 : SqT K H2 a xs := SqT.of h12
    refine ⟨_, rfl, _, rfl, a, xs, rfl, .inr hS2, ?_⟩
    refine ⟨p, _, rfl, hp2, by omega, by omega, fun n H3 n0 n1 d3 => ?_⟩
    have ho3 := ho2.drew d3
    have d13 := d12.trans d3
    have h13 := d3.keep hp2 h12 fun ys z => by cases z
    have h23 := h22.kt (kt_drew hp2 d3)
    have hp3 := d3.at_
    have hS3 : SqT K H3 a xs := SqT.of h13
    clear hS2 h12 h22 h11 h21 h1 h2 ho ho1 ho2
    obtain ⟨i, rfl⟩ : ∃ i : Nat, n = (i : Int) := ⟨n.toNat, by omega⟩
    have il : i < xs.length := by omega
    repeat (first | (refine And.intro ?_ ?_; · (first | exact rfl | (show (_ : Int) ≤ _; omega) | (show (_ : Int) < _; omega) | assumption | exact SqL.of upd_same | exact SqT.of upd_same | exact upd_same | exact Drew.at_ (by assumption) | exact at_of (j := 0) rfl rfl | exact at_of (j := 1) rfl rfl | exact at_of (j := 2) rfl rfl | exact at_of (j := 3) rfl rfl | exact .inr (by assumption) | exact .inl (by assumption) | exact .ty _ | exact dp_ty (by assumption) | exact kit_strD _ | exact kit_tupD _ | exact kit_intD _ | exact kit_boolD _ | exact ⟨_, rfl⟩ | decide | omega | exact (show 0 ≤ sizeLine by decide) | exact (show 1 ≤ sizeLine by decide) | exact (show 2 ≤ sizeLine by decide) | exact (show 3 ≤ sizeLine by decide) | exact (show 4 ≤ sizeLine by decide) | exact (show 5 ≤ sizeLine by decide) | exact (show 6 ≤ sizeLine by decide) | decide +kernel)) | apply Exists.intro | refine iteT ?_ | refine iteF ?_)
    refine ⟨fun z => by rw [HT.sIx_nat] at z; omega, fun q1 hq1 => ?_⟩
    rw [cut_to xs i (by omega)]
    have s4 := up (o := .tup (xs.take i)) hq1
    have g4 : upd H3 q1 (.tup (xs.take i)) q1 = some (.tup (xs.take i)) := upd_same
    have hp4 := hp3.same s4
    have d14 := d13.same s4
    have hS4 := sqT_same s4 hS3
    have h24 := h23.kt (.same s4)
    have ho4 : TD K p (upd H3 q1 (.tup (xs.take i))) u o := fun H2 d2 => ho3 H2 (((Drew.refl hp3).same s4).trans d2)
    generalize upd H3 q1 (.tup (xs.take i)) = H4 at *
    clear s4 hp3 d13 hS3 h23 ho3 h13
    obtain ⟨v, hv⟩ : ∃ v, xs[i]? = some v := ⟨_, List.getElem?_eq_getElem il⟩
    obtain ⟨d, hd, hvd⟩ := h24.get hv
    have pdd := pds_mem (List.mem_of_getElem? hd)
    have hpd : pds ds < m + 1 := by rw [pd] at hpd; exact hpd
    refine ⟨_, rfl, _, rfl, _, rfl, ⟨a, xs, i, v, rfl, rfl, hS4, at_of (j := i) rfl hv, ?_⟩⟩
    refine ⟨_, rfl, ?_⟩
    refine ⟨p, v, u, d, o, rfl, hp4, hvd, shAll_get hsh hd, fitAll_get hfit.2 hd, by omega, ho4, fun v' H5 q d5 hq td => ?_⟩
    have hp5 := d5.at_
    have g5 := d5.keep hp4 g4 fun ys z => by cases z
    have hS5 := sqT_drew hp4 d5 hS4
    have h25 := h24.kt (kt_drew hp4 d5)
    have d15 := d14.trans d5
    refine ⟨(by show 1 ≤ sizeLine; decide), fun q2 hq2 => ?_⟩
    have s6 := up (o := .tup [v']) hq2
    have g6 : upd H5 q2 (.tup [v']) q2 = some (.tup [v']) := upd_same
    refine catA_use (SqT.of (s6 _ _ g5)) (SqT.of g6) (by rw [List.length_take]; show _ + 1 ≤ _; omega) fun r1 H7 s7 h7 => ?_
    have s57 := tr s6 s7
    refine ⟨_, rfl, ⟨_, rfl, _, _, rfl, rfl, _, rfl, ?_⟩⟩
    refine ⟨a, xs, rfl, sqT_same s57 hS5, fun z => ?_, fun q3 hq3 => ?_⟩
    · have z := z.1
      have e : HT.sIx xs.length 0 (some ((i : Int) + 1)) = min (i + 1) xs.length := HT.sIx_nat _ 0 (i + 1)
      omega
    rw [show cutV xs (some ((i : Int) + 1)) none = xs.drop (i + 1) from cut_from xs (i + 1) (by omega)]
    have s8 := up (o := .tup (xs.drop (i + 1))) hq3
    refine catA_use (sqT_same s8 h7) (SqT.of upd_same) (by rw [List.length_append, List.length_take, List.length_drop]; show _ + 1 + _ ≤ _; omega) fun r2 H9 s9 h9 => ?_
    have s59 := tr s57 (tr s8 s9)
    have hp9 := hp5.same s59
    refine k (.ref r2) H9 _ (d15.same s59) (slot_at hd hq) fun H10 d10 => ?_
    have A : TAll K H10 xs (ofAll ds) := PAll.tat ((h25.kt (.same s59)).kt (kt_drew hp9 d10)) hsh
    have B : TAt K H10 v' (q.1 o) := td H10 (((Drew.refl hp5).same s59).trans d10)
    have C := sqT_drew hp9 d10 h9
    rw [List.append_assoc] at C
    exact .tup C ((TAll.take i A).app (.cons B (TAll.drop (i + 1) A)))
theorem ok_put (T : Tx w K mg) : ∀ m : Nat, Prom P w K mg base CX0 (m + 2) "_law_put_in" s_L_put_in ["_law_pool_here", "_law_thing", "_law_odd_here"] (spPut K m)
  | 0 => put_zero T
  | m + 1 => put_succ T (by omega) (ok_put T m)
def spPutA (K : PySem.W.Frag) : Sp := fun vs H Q E => ∃ m : Nat, m ≤ 6 ∧ spPut K m vs H Q E
theorem ok_L_put_in (T : Tx w K mg) : Prom P w K mg base CX0 8 "_law_put_in" s_L_put_in ["_law_pool_here", "_law_thing", "_law_odd_here"] (spPutA K) := Prom.any (M := 6) (ok_put T)
end
/-! ### truths and lists in the place of others -/
def truD (d : PyData) : List PyData := (tru (ofD d)).map Th.d
mutual
/-- how many come at most -/
def tb : PyData → Nat
  | .tuple xs => tbs xs + 1
  | _ => 1
def tbs : List PyData → Nat
  | [] => 0
  | x :: xs => tb x + tbs xs
end
theorem gd_tb : gd59.all (fun cp => decide (tb cp.1 ≤ 1000) && decide (tb cp.2 ≤ 1000)) = true := by decide +kernel
theorem tbs_take : ∀ {xs : List PyData} {i : Nat} {x : PyData}, xs[i]? = some x → tbs (xs.take (i + 1)) = tbs (xs.take i) + tb x
  | [], i, x, e => by simp at e
  | y :: ys, 0, x, e => by
    cases (show some y = some x from e)
    show tbs [y] = tbs [] + tb y
    simp only [tbs]
    omega
  | y :: ys, i + 1, x, e => by
    show tbs (y :: ys.take (i + 1)) = tbs (y :: ys.take i) + tb x
    rw [tbs, tbs, tbs_take (xs := ys) (i := i) e]
    omega
theorem tbs_le : ∀ (xs : List PyData) (i : Nat), tbs (xs.take i) ≤ tbs xs
  | [], i => by simp
  | x :: xs, 0 => by
    show tbs [] ≤ _
    simp only [tbs]
    omega
  | x :: xs, i + 1 => by
    show tbs (x :: xs.take i) ≤ tbs (x :: xs)
    rw [tbs, tbs]
    have := tbs_le xs i
    omega
theorem truAll_at : ∀ {cs : List Th} {i : Nat} {c y : Th}, cs[i]? = some c → y ∈ tru c → (cs.take i ++ y :: cs.drop (i + 1)) ∈ truAll cs
  | [], i, c, y, e, _ => by simp at e
  | x :: xs, 0, c, y, e, h => by
    cases (show some x = some c from e)
    rw [truAll]
    exact List.mem_append_left _ (List.mem_map.mpr ⟨y, h, rfl⟩)
  | x :: xs, i + 1, c, y, e, h => by
    rw [truAll]
    exact List.mem_append_right _ (List.mem_map.mpr ⟨_, truAll_at (i := i) e h, rfl⟩)
theorem ds_app : ∀ xs ys : List Th, Th.ds (xs ++ ys) = Th.ds xs ++ Th.ds ys
  | [], ys => by rw [List.nil_append, Th.ds, List.nil_append]
  | x :: xs, ys => by rw [List.cons_append, Th.ds, Th.ds, ds_app xs ys, List.cons_append]
theorem ofAll_take : ∀ (ds : List PyData) (i : Nat), Th.ds ((ofAll ds).take i) = ds.take i
  | [], i => by simp [ofAll, Th.ds]
  | d :: ds, 0 => by simp [Th.ds]
  | d :: ds, i + 1 => by
    rw [ofAll, List.take_succ_cons, List.take_succ_cons, Th.ds, ofAll_take ds i, ofD_d]
theorem ofAll_drop : ∀ (ds : List PyData) (i : Nat), Th.ds ((ofAll ds).drop i) = ds.drop i
  | [], i => by simp [ofAll, Th.ds]
  | d :: ds, 0 => by rw [List.drop_zero, List.drop_zero, ofAll_d]
  | d :: ds, i + 1 => by
    rw [ofAll, List.drop_succ_cons, List.drop_succ_cons, ofAll_drop ds i]
theorem tru_lst (ds : List PyData) : PyData.list [] ∈ truD (.tuple ds) := by
  unfold truD
  rw [ofD, tru]
  exact .head _
theorem tru_part {ds : List PyData} {i : Nat} {d e : PyData} (h : ds[i]? = some d) (he : e ∈ truD d) : PyData.tuple (ds.take i ++ e :: ds.drop (i + 1)) ∈ truD (.tuple ds) := by
  unfold truD at he ⊢
  obtain ⟨y, hy, rfl⟩ := List.mem_map.mp he
  rw [ofD, tru]
  have := truAll_at (ofAll_get h) hy
  refine List.mem_map.mpr ⟨.tup _, .tail _ (List.mem_map.mpr ⟨_, this, rfl⟩), ?_⟩
  rw [Th.d, ds_app, Th.ds, ofAll_take, ofAll_drop]
theorem tru_int {i : Int} (h : i = 0 ∨ i = 1) : PyData.bool (i != 0) ∈ truD (.int i) := by
  show _ ∈ (tru (.at (.int i) (PyData.shown (.int i)))).map Th.d
  rcases h with rfl | rfl
  · rw [tru, if_pos (.inl rfl)]
    exact .head _
  · rw [tru, if_pos (.inr rfl)]
    exact .head _
theorem in2i {i : Int} : (if false = true then !inV (.int i) [.int 0, .int 1] else inV (.int i) [.int 0, .int 1]) = decide (i = 0 ∨ i = 1) := by
  show ((0 == i) || ((1 == i) || false)) = _
  by_cases h : i = 0
  · subst h
    rfl
  · by_cases h1 : i = 1
    · subst h1
      rfl
    · rw [beq_eq_false_iff_ne.mpr (Ne.symm h), beq_eq_false_iff_ne.mpr (Ne.symm h1), decide_eq_false (by omega)]
      rfl
def spTru (K : PySem.W.Frag) (m : Nat) : Sp := fun vs H Q _ => ∃ (v : V) (d : PyData), vs = [v] ∧ PAt H v d ∧ fitB d = true ∧ tb d ≤ 1000 ∧ pd d < m ∧ ∀ l xs H', Same H H' → H l = none → H' l = some (.lst xs) → xs.length ≤ tb d → (∀ x ∈ xs, ∃ e ∈ truD d, Dp K H' x e) → Q (.ref l) H'
mutual
theorem PAt.dp {K : PySem.W.Frag} {H : Hp} : ∀ {v : V} {d : PyData}, PAt H v d → Dp K H v d
  | _, _, .non => .non
  | _, _, .int i => .int i
  | _, _, .str x => .str x
  | _, _, .tup h p => .tup (SqT.of h) (PAll.dp p)
theorem PAll.dp {K : PySem.W.Frag} {H : Hp} : ∀ {vs : List V} {ds : List PyData}, PAll H vs ds → DpAll K H vs ds
  | _, _, .nil => .nil
  | _, _, .cons h p => .cons (PAt.dp h) (PAll.dp p)
end
theorem DpAll.app {K : PySem.W.Frag} {H : Hp} : ∀ {vs us : List V} {xs ys : List PyData}, DpAll K H vs xs → DpAll K H us ys → DpAll K H (vs ++ us) (xs ++ ys)
  | _, _, _, _, .nil, q => q
  | _, _, _, _, .cons h p, q => .cons h (DpAll.app p q)
theorem DpAll.take {K : PySem.W.Frag} {H : Hp} : ∀ {vs : List V} {xs : List PyData} (i : Nat), DpAll K H vs xs → DpAll K H (vs.take i) (xs.take i)
  | _, _, 0, _ => .nil
  | _, _, i + 1, .nil => .nil
  | _, _, i + 1, .cons h p => .cons h (DpAll.take i p)
theorem DpAll.drop {K : PySem.W.Frag} {H : Hp} : ∀ {vs : List V} {xs : List PyData} (i : Nat), DpAll K H vs xs → DpAll K H (vs.drop i) (xs.drop i)
  | _, _, 0, p => p
  | _, _, i + 1, .nil => .nil
  | _, _, i + 1, .cons h p => DpAll.drop i p
theorem sqT_lst {K : PySem.W.Frag} {H : Hp} {D a : Addr} {xs ys zs : List V} (hD : H D = some (.lst ys)) (h : SqT K H a xs) : SqT K (upd H D (.lst zs)) a xs := by
  rcases h with (h | ⟨o, h⟩) | h
  · exact .inl (.inl (by rw [upd_ne (fun z => by rw [z, hD] at h; cases h)]; exact h))
  · exact .inl (.inr ⟨o, by rw [upd_ne (fun z => by rw [z, hD] at h; cases h)]; exact h⟩)
  · exact .inr h
section
variable {P : Program} {w : World} {K : PySem.W.Frag} {mg : Str → Option Value} {base : Heap}
theorem tru_zero (T : Tx w K mg) {k : Nat} : Prom P w K mg base CX0 (k + 1) "_law_truths" s_L_truths ["_law_thing"] (spTru K 0) := by
  refine Prom.of T.d_L_truths sc_L_truths (fun vs H Q E h => ?_) (fun _ _ _ _ _ _ us hl => match us, hl with | [_], _ => rfl) (fun f cdv A outer s H vs Q E hr h => ?_)
  · obtain ⟨v, d, _, _, _, _, h, _⟩ := h
    omega
  · obtain ⟨v, d, _, _, _, _, h, _⟩ := h
    omega
theorem tru_succ (T : Tx w K mg) {j m : Nat} (hj : 1 ≤ j) (ih : Prom P w K mg base CX0 j "_law_truths" s_L_truths ["_law_thing"] (spTru K m)) : Prom P w K mg base CX0 (j + 1) "_law_truths" s_L_truths ["_law_thing"] (spTru K (m + 1)) := by
  refine Prom.of T.d_L_truths sc_L_truths (fun vs H Q E h => ?_) (fun _ _ _ _ _ _ us hl => match us, hl with | [_], _ => rfl) (fun f cdv A outer s H vs Q E hr h => ?_)
  · obtain ⟨v, d, rfl, _⟩ := h
    rfl
  · obtain ⟨v, d, rfl, hv, hfit, htb, hpd, k⟩ := h
    refine ⟨_, (pss_cons (ps_if (pt_val (pe_callB call_isi (by rfl) T.b_isinstance (by decide +kernel) (pa_cons (pv 0) (pa_cons (pe_bltn (v := .ty "int") (by rfl) T.b_int (by decide +kernel) rfl) pa_nil)))) (pss_one (ps_ret (pe_ifExp (pt_cmpR op_in_seq (pv 0) (pe_lst (pa_cons pe_int (pa_cons pe_int pa_nil))) (by rfl)) (pe_lst (pa_cons (pe_callTy call_bool1 (by rfl) T.b_bool (by decide +kernel) (pa_cons (pv 0) pa_nil)) pa_nil)) (pe_lst pa_nil)))) pss_nil)
      (pss_cons (ps_if (pt_not (pt_val (pe_callB call_isi (by rfl) T.b_isinstance (by decide +kernel) (pa_cons (pv 0) (pa_cons (pe_bltn (v := .ty "tuple") (by rfl) T.b_tuple (by decide +kernel) rfl) pa_nil))))) (pss_one (ps_ret (pe_lst pa_nil))) pss_nil)
      (pss_cons (ps_set (i := 1) sc_L_truths.nd rfl (Or.inl rfl) (pe_lst (pa_cons (pe_callTy call_list_of (by rfl) T.b_list (by decide +kernel) (pa_cons (pv 0) pa_nil)) pa_nil)))
      (pss_cons (ps_for PassesOwn.never (by rfl) (pi_range1 (by rfl) T.b_range (pa_cons (pe_callB call_len_seq (by rfl) T.b_len (by decide +kernel) (pa_cons (pv 0) pa_nil)) pa_nil)) (pg_name (i := 2) sc_L_truths.nd rfl (Or.inr rfl)) (pss_one (ps_set (i := 1) sc_L_truths.nd rfl (Or.inl rfl) (pe_op op_cat (pv 1) (pe_lc (own := [("_law_part_here", 3)]) (g := (gName 3)) (tt := tYes) (by rfl) sc_L_truths.nd (pi_list (pe_callP ih (hr.mono (Nat.le_refl _)) (by rfl) pass0 (pa_cons (pe_ix ix_tup (pv 0) (pv 2) (fun _ _ => rfl)) pa_nil))) (blkOk_by (own := [("_law_part_here", 3)]) (N := ["_law_thing", "_law_found", "_law_k", "_law_part_here"]) (sc := defScope s_L_truths) (by decide +kernel)) (fun _ _ _ _ _ => (pg_name (i := 3) sc_L_truths.nd rfl (Or.inl rfl))) (fun _ _ _ _ _ => pts_nil) (fun _ _ _ _ _ => (pe_op (show OpR _ (binaryOp .Add) (rCatA K) from op_catA) (pe_op (show OpR _ (binaryOp .Add) (rCatA K) from op_catA) (pe_slice (show SlR _ (rSlT K) from sl_tup) (pv 0) po_none (po_some (pv 2))) (pe_tup (pa_cons (pv 3) pa_nil))) (pe_slice (show SlR _ (rSlT K) from sl_tup) (pv 0) (po_some (pe_op op_add (pv 2) pe_int)) po_none))))))))
      (pss_one (ps_ret (pv 1))))))), ?_⟩
    have none_ : ∀ l, H l = none → Q (.ref l) (upd H l (.lst [])) := fun l hl => k l [] _ (up hl) hl upd_same (Nat.zero_le _) (fun x hx => nomatch hx)
    have tyN : TyX K H .non (.type "NoneType") := .base .non
    have tyI : ∀ i, TyX K H (.int i) (.type "int") := fun i => .base (.int i)
    have tyS : ∀ x, TyX K H (.str x) (.type "str") := fun x => .base (.str x)
    cases hv with
    | non =>
      refine ⟨_, rfl, _, _, _, _, false, rfl, .ty _, tyN, kit_ty (show kitB "NoneType" "int" = some false by decide +kernel), false, rfl, ?_⟩
      exact ⟨_, rfl, _, _, _, _, false, rfl, .ty _, tyN, kit_ty (show kitB "NoneType" "tuple" = some false by decide +kernel), false, rfl, Nat.zero_le _, none_⟩
    | str x =>
      refine ⟨_, rfl, _, _, _, _, false, rfl, .ty _, tyS x, kit_ty (show kitB "str" "int" = some false by decide +kernel), false, rfl, ?_⟩
      exact ⟨_, rfl, _, _, _, _, false, rfl, .ty _, tyS x, kit_ty (show kitB "str" "tuple" = some false by decide +kernel), false, rfl, Nat.zero_le _, none_⟩
    | int i =>
      refine ⟨_, rfl, _, _, _, _, true, rfl, .ty _, tyI i, kit_ty (show kitB "int" "int" = some true by decide +kernel), true, rfl, ?_⟩
      refine ⟨_, rfl, (by show 2 ≤ sizeLine; decide), fun e he => ⟨e, _, rfl, .inl (SqL.of upd_same), rfl, rfl, ?_⟩⟩
      have s1 := up (o := .lst [.int 0, .int 1]) he
      rw [in2i]
      refine ⟨_, rfl, ifd (fun c => ?_) (fun c => ?_)⟩
      · refine ⟨_, rfl, .inl ⟨i, rfl, (by show 1 ≤ sizeLine; decide), fun l hl => ?_⟩⟩
        refine k l [.bl (i != 0)] _ (tr s1 (up hl)) (same_before s1 hl) upd_same (Nat.le_refl 1) fun x hx => ?_
        rw [List.mem_singleton] at hx
        subst hx
        exact ⟨_, tru_int c, .bl _⟩
      · refine ⟨Nat.zero_le _, fun l hl => ?_⟩
        exact k l [] _ (tr s1 (up hl)) (same_before s1 hl) upd_same (Nat.zero_le _) (fun x hx => nomatch hx)
    | @tup a xs ds h1 h2 =>
      have tyT : ∀ H', H' a = some (.tup xs) → TyX K H' (.ref a) (.type "tuple") := fun H' h => .base (.tup h)
      refine ⟨_, rfl, _, _, _, _, false, rfl, .ty _, tyT H h1, kit_ty (show kitB "tuple" "int" = some false by decide +kernel), false, rfl, ?_⟩
      refine ⟨_, rfl, _, _, _, _, true, rfl, .ty _, tyT H h1, kit_ty (show kitB "tuple" "tuple" = some true by decide +kernel), true, rfl, ?_⟩
      have hds : ds.length ≤ 1000 := by
        rw [fitB, Bool.and_eq_true, Bool.and_eq_true] at hfit
        exact of_decide_eq_true hfit.1.2
      have pl := h2.len
      refine ⟨_, rfl, a, xs, rfl, .inr (SqT.of h1), fun e he => ?_⟩
      refine ⟨(by show 1 ≤ sizeLine; decide), fun l hl => ?_⟩
      have s1 := tr (up (o := .lst xs) he) (up (o := .lst [.ref e]) hl)
      have g1 := s1 _ _ h1
      have k1 := h2.kt (KT.same s1)
      have ge : Dp K (upd (upd H e (.lst xs)) l (.lst [.ref e])) (.ref e) (.list []) := .lst (oth_lst (up hl _ _ upd_same)) trivial
      have gl : upd (upd H e (.lst xs)) l (.lst [.ref e]) l = some (.lst [.ref e]) := upd_same
      have nl : H l = none := same_before (up he) hl
      generalize upd (upd H e (.lst xs)) l (.lst [.ref e]) = H1 at *
      have hfit2 := hfit
      rw [fitB, Bool.and_eq_true, Bool.and_eq_true] at hfit2
      rw [tb] at htb
      refine ⟨_, rfl, a, xs, rfl, .inr (SqT.of g1), _, rfl, by omega, by omega, for_range (lo := 0) (fun i σ H' => ∃ (l' : Addr) (ys : List V) (v2 v3 : Option V), σ = [some (.ref a), some (.ref l'), v2, v3] ∧ Same H1 H' ∧ H l' = none ∧ H' l' = some (.lst ys) ∧ ys.length ≤ 1 + tbs (ds.take i) ∧ ∀ x ∈ ys, ∃ e ∈ truD (.tuple ds), Dp K H' x e)
        ⟨l, [.ref e], _, _, rfl, Same.refl H1, nl, gl, by simp, fun x hx => ?_⟩ ?_ ?_⟩
      · rw [List.mem_singleton] at hx
        subst hx
        exact ⟨_, tru_lst ds, ge⟩
      · rintro i σ H2 hi ⟨l', ys, v2, v3, rfl, s2, nl2, gl2, yl, hys⟩
        have g2 := s2 _ _ g1
        have k2 := k1.kt (KT.same s2)
        have il : i < xs.length := by omega
        obtain ⟨v, hv⟩ : ∃ v, xs[i]? = some v := ⟨_, List.getElem?_eq_getElem il⟩
        obtain ⟨d, hd, hvd⟩ := k2.get hv
        have pdd := pds_mem (List.mem_of_getElem? hd)
        have hpd : pds ds < m + 1 := by rw [pd] at hpd; exact hpd
        have tbd := tbs_take hd
        have tbl := tbs_le ds (i + 1)
        refine ⟨_, rfl, _, rfl, _, rfl, ⟨a, xs, 0 + i, v, rfl, rfl, SqT.of g2, at_of (j := i) (by omega) hv, ?_⟩⟩
        refine ⟨v, d, rfl, hvd, fitAll_get hfit2.2 hd, by omega, by omega, fun q zs H3 s3 nq gq zl hz => ?_⟩
        refine ⟨q, rfl, ⟨_, SqL.of gq⟩, fun D hD => ?_⟩
        have g3 := s3 _ _ g2
        have k3 : DpAll K H3 xs ds := (k2.kt (KT.same s3)).dp
        have gq3 := s3 _ _ gl2
        refine lc_list (K := K) (a := q) (xs := zs) (Pv := fun j H' => Same H3 H' ∧ ∃ us : List V, H' D = some (.lst us) ∧ us.length = j ∧ ∀ u ∈ us, ∃ (r : Addr) (ws : List V) (es : List PyData), u = .ref r ∧ SqT K H' r ws ∧ DpAll K H3 ws es ∧ .tuple es ∈ truD (.tuple ds)) ⟨up hD, [], upd_same, rfl, fun u hu => nomatch hu⟩ (fun j H' _ h => SqL.of (h.1 _ _ gq)) ?_ ?_
        · rintro j x H4 hj ⟨s4, us, gD, ul, hus⟩
          obtain ⟨e1, he1, hx⟩ := hz x (List.mem_of_getElem? hj)
          have jl := (List.getElem?_eq_some_iff.mp hj).1
          have hS4 : SqT K H4 a xs := SqT.of (s4 _ _ g3)
          refine ⟨rfl, ?_⟩
          repeat (first | (refine And.intro ?_ ?_; · (first | exact rfl | (show (_ : Int) ≤ _; omega) | (show (_ : Int) < _; omega) | assumption | exact SqL.of upd_same | exact SqT.of upd_same | exact upd_same | exact Drew.at_ (by assumption) | exact at_of (j := 0) rfl rfl | exact at_of (j := 1) rfl rfl | exact at_of (j := 2) rfl rfl | exact at_of (j := 3) rfl rfl | exact .inr (by assumption) | exact .inl (by assumption) | exact .ty _ | exact dp_ty (by assumption) | exact kit_strD _ | exact kit_tupD _ | exact kit_intD _ | exact kit_boolD _ | exact ⟨_, rfl⟩ | decide | omega | exact (show 0 ≤ sizeLine by decide) | exact (show 1 ≤ sizeLine by decide) | exact (show 2 ≤ sizeLine by decide) | exact (show 3 ≤ sizeLine by decide) | exact (show 4 ≤ sizeLine by decide) | exact (show 5 ≤ sizeLine by decide) | exact (show 6 ≤ sizeLine by decide) | decide +kernel)) | apply Exists.intro | refine iteT ?_ | refine iteF ?_)
          refine ⟨fun z => by rw [show (0 : Int) + (i : Int) = (i : Int) by omega, HT.sIx_nat] at z; omega, fun q1 hq1 => ?_⟩
          rw [show (0 : Int) + (i : Int) = (i : Int) by omega, cut_to xs i (by omega)]
          have s5 := up (o := .tup (xs.take i)) hq1
          have h5 : SqT K (upd H4 q1 (.tup (xs.take i))) q1 (xs.take i) := SqT.of upd_same
          have hS5 := sqT_same s5 hS4
          generalize upd H4 q1 (.tup (xs.take i)) = H5 at *
          refine ⟨_, rfl, (by show 1 ≤ sizeLine; decide), fun q2 hq2 => ?_⟩
          have s6 := up (o := .tup [x]) hq2
          refine catA_use (sqT_same s6 h5) (SqT.of upd_same) (by rw [List.length_take]; show _ + 1 ≤ _; omega) fun r1 H7 s7 h7 => ?_
          have s57 := tr s6 s7
          have hS7 := sqT_same s57 hS5
          repeat (first | (refine And.intro ?_ ?_; · (first | exact rfl | (show (_ : Int) ≤ _; omega) | (show (_ : Int) < _; omega) | assumption | exact SqL.of upd_same | exact SqT.of upd_same | exact upd_same | exact Drew.at_ (by assumption) | exact at_of (j := 0) rfl rfl | exact at_of (j := 1) rfl rfl | exact at_of (j := 2) rfl rfl | exact at_of (j := 3) rfl rfl | exact .inr (by assumption) | exact .inl (by assumption) | exact .ty _ | exact dp_ty (by assumption) | exact kit_strD _ | exact kit_tupD _ | exact kit_intD _ | exact kit_boolD _ | exact ⟨_, rfl⟩ | decide | omega | exact (show 0 ≤ sizeLine by decide) | exact (show 1 ≤ sizeLine by decide) | exact (show 2 ≤ sizeLine by decide) | exact (show 3 ≤ sizeLine by decide) | exact (show 4 ≤ sizeLine by decide) | exact (show 5 ≤ sizeLine by decide) | exact (show 6 ≤ sizeLine by decide) | decide +kernel)) | apply Exists.intro | refine iteT ?_ | refine iteF ?_)
          refine ⟨fun z => ?_, fun q3 hq3 => ?_⟩
          · have z := z.1
            have e : HT.sIx xs.length 0 (some ((i : Int) + 1)) = min (i + 1) xs.length := HT.sIx_nat _ 0 (i + 1)
            omega
          rw [show cutV xs (some ((i : Int) + 1)) none = xs.drop (i + 1) from cut_from xs (i + 1) (by omega)]
          have s8 := up (o := .tup (xs.drop (i + 1))) hq3
          refine catA_use (sqT_same s8 h7) (SqT.of upd_same) (by rw [List.length_append, List.length_take, List.length_drop]; show _ + 1 + _ ≤ _; omega) fun r2 H9 s9 h9 => ?_
          have s49 := tr s5 (tr s57 (tr s8 s9))
          have gD9 := s49 _ _ gD
          have s39 : Same H3 (upd H9 D (.lst (us ++ [.ref r2]))) := fun b o e => by
            rw [upd_ne (ne_of_none e hD)]
            exact s49 _ _ (s4 _ _ e)
          refine ⟨us, gD9, by rw [sizeLine_eq]; omega, s39, us ++ [.ref r2], upd_same, by rw [List.length_append, ul]; rfl, fun u hu => ?_⟩
          rcases List.mem_append.mp hu with hu | hu
          · obtain ⟨r, ws, es, e, w1, w2, w3⟩ := hus u hu
            exact ⟨r, ws, es, e, sqT_lst gD9 (sqT_same s49 w1), w2, w3⟩
          · rw [List.mem_singleton] at hu
            rw [List.append_assoc] at h9
            exact ⟨r2, _, _, hu, sqT_lst gD9 h9, (DpAll.take i k3).app (.cons hx (DpAll.drop (i + 1) k3)), tru_part hd he1⟩
        · rintro H4 ⟨s4, us, gD, ul, hus⟩
          have gl4 := s4 _ _ gq3
          refine ⟨l', D, ys, us, rfl, rfl, gl4, gD, by rw [sizeLine_eq]; omega, fun l2 hl2 => ?_⟩
          have s5 := up (o := .lst (ys ++ us)) hl2
          have s24 := tr s3 s4
          refine ⟨l2, ys ++ us, _, _, rfl, tr s2 (tr s24 s5), same_before (tr s1 (tr s2 s24)) hl2, upd_same, by rw [List.length_append]; omega, fun x hx => ?_⟩
          rcases List.mem_append.mp hx with hx | hx
          · obtain ⟨e, he, hd⟩ := hys x hx
            exact ⟨e, he, hd.same (tr s24 s5)⟩
          · obtain ⟨r, ws, es, e, w1, w2, w3⟩ := hus x hx
            subst e
            exact ⟨_, w3, .tup (sqT_same s5 w1) (w2.same (tr s4 s5))⟩
      · rintro σ H2 ⟨l', ys, v2, v3, rfl, s2, nl2, gl2, yl, hys⟩
        refine ⟨_, rfl, k l' ys H2 (tr s1 s2) nl2 gl2 ?_ hys⟩
        rw [tb]
        have := tbs_le ds (xs.length : Int).toNat
        omega
theorem ok_tru (T : Tx w K mg) : ∀ m : Nat, Prom P w K mg base CX0 (m + 2) "_law_truths" s_L_truths ["_law_thing"] (spTru K m)
  | 0 => tru_zero T
  | m + 1 => tru_succ T (by omega) (ok_tru T m)
def spTruA (K : PySem.W.Frag) : Sp := fun vs H Q E => ∃ m : Nat, m ≤ 6 ∧ spTru K m vs H Q E
theorem ok_L_truths (T : Tx w K mg) : Prom P w K mg base CX0 8 "_law_truths" s_L_truths ["_law_thing"] (spTruA K) := Prom.any (M := 6) (ok_tru T)
end
/-! ### what is judged, and what is due -/
theorem list_two (a b : Str) : tlS (listText [a, b]) = 91 :: (tlS a ++ ([44, 32] ++ (tlS b ++ [93]))) := by
  have e : listText [a, b] = "[" ++ ("" : Str) ++ a ++ ", " ++ b ++ "]" := rfl
  rw [e, tlS_app, tlS_app, tlS_app, tlS_app, tlS_app, show tlS "[" = [91] by decide +kernel, show tlS "" = [] by decide +kernel, show tlS ", " = [44, 32] by decide +kernel, show tlS "]" = [93] by decide +kernel]
  simp only [List.append_assoc, List.cons_append, List.nil_append]
theorem two_left {a a' b : Str} : listText [a, b] = listText [a', b] ↔ a = a' := by
  constructor
  · intro h
    have h := congrArg tlS h
    rw [list_two, list_two] at h
    injection h with _ h
    exact tlS_inj (List.append_cancel_right h)
  · rintro rfl
    rfl
theorem two_right {a b b' : Str} : listText [a, b] = listText [a, b'] ↔ b = b' := by
  constructor
  · intro h
    have h := congrArg tlS h
    rw [list_two, list_two] at h
    injection h with _ h
    have h := List.append_cancel_left (List.append_cancel_left h)
    exact tlS_inj (List.append_cancel_right h)
  · rintro rfl
    rfl
theorem due_c {c p : PyData} {o : Th} {q : (Th → Th) × Th} (hg : (c, p) ∈ gd59) (ho : OddTh o) (hq : q ∈ slots (ofD c)) : HoldsAll (q.1 o).d p ↔ listText [(q.1 o).t, p.shown] = listText [c.shown, p.shown] := by
  rw [two_left]
  rcases ho with ho | ⟨i, hb, hi, _, rfl⟩
  · exact odd_c hg ho hq
  · obtain ⟨h1, h2⟩ := bad_c hb hi hg hq
    exact ⟨fun h => absurd h h1, fun h => absurd h h2⟩
theorem due_p {c p : PyData} {o : Th} {q : (Th → Th) × Th} (hg : (c, p) ∈ gd59) (ho : OddTh o) (hq : q ∈ slots (ofD p)) : HoldsAll c (q.1 o).d ↔ listText [c.shown, (q.1 o).t] = listText [c.shown, p.shown] := by
  rw [two_right]
  rcases ho with ho | ⟨i, hb, hi, _, rfl⟩
  · exact odd_p hg ho hq
  · obtain ⟨h1, h2⟩ := bad_p hb hi hg hq
    exact ⟨fun h => absurd h h1, fun h => absurd h h2⟩
def noWord : PyData → Bool
  | .tuple (.str _ :: _) => false
  | _ => true
theorem odd_word : odd59.all (fun o => noWord o.d) = true := by decide +kernel
theorem due_o {c p : PyData} {o o2 : Th} (hg : (c, p) ∈ gd59) (ho : OddTh o) : HoldsAll o.d o2.d ↔ listText [o.t, o2.t] = listText [c.shown, p.shown] := by
  have gh := all_in gd_head hg
  have gh : (tlS c.shown).take 2 = [40, 39] := by rw [beq_iff_eq] at gh; exact gh
  have n1 : ¬ HoldsAll o.d o2.d := fun h => by
    obtain ⟨w, ds, e⟩ := hol_tup h
    rcases ho with ho | ⟨i, _, _, _, rfl⟩
    · have := all_in odd_word ho
      rw [e] at this
      cases this
    · cases e
  refine ⟨fun h => absurd h n1, fun h => ?_⟩
  have h := congrArg tlS h
  rw [list_two, list_two] at h
  injection h with _ h
  have gl : 2 ≤ (tlS c.shown).length := by
    have := congrArg List.length gh
    rw [List.length_take] at this
    have : min 2 (tlS c.shown).length = 2 := this
    omega
  have h2 := congrArg (List.take 2) h
  rw [List.take_append_of_le_length gl, gh, ← List.append_assoc, List.take_append_of_le_length (by rw [List.length_append]; show 2 ≤ _ + 2; omega)] at h2
  exfalso
  rcases ho with ho | ⟨i, _, _, _, rfl⟩
  · have := all_in odd_head ho
    unfold headS at this
    have e : (o.t ++ ", ").cps.toList = tlS o.t ++ [44, 32] := by
      show tlS (o.t ++ ", ") = _
      rw [tlS_app]
      rfl
    rw [e, h2] at this
    cases this
  · obtain ⟨c', s, e, _, n40, _⟩ := bad_head i
    rw [e] at h2
    injection h2 with h2 _
    exact n40 h2
theorem odd_okd {o : Th} (ho : OddTh o) : OkD o.d := by
  rcases ho with ho | ⟨i, _, h, _, rfl⟩
  · exact okB_ok _ (all_in odd_ok ho)
  · exact .int h
def isAt : Th → Bool
  | .at _ _ => true
  | .tup _ => false
theorem odd_at : odd59.all (fun o => isAt o && decide (o.t.length ≤ 100)) = true := by decide +kernel
theorem odd_dep {o : Th} (ho : OddTh o) : o.dep = 2 := by
  rcases ho with ho | ⟨i, _, h, _, rfl⟩
  · have := all_in odd_at ho
    rw [Bool.and_eq_true] at this
    cases o with
    | «at» d t => rw [Th.dep]
    | tup xs => cases this.1
  · rw [iTh, Th.dep]
theorem odd_len {o : Th} (ho : OddTh o) : o.t.length ≤ 100 := by
  rcases ho with ho | ⟨i, _, h, h2, rfl⟩
  · have := all_in odd_at ho
    rw [Bool.and_eq_true, decide_eq_true_iff] at this
    exact this.2
  · have h3 := int_text_length_le10 (k := 61) (a := i) (by decide) (by omega)
    have e : (Str.ofString (toString i)).length = (toString i : String).length := PySem.ofString_length _
    show (Str.ofString (toString i)).length ≤ 100
    omega
theorem len_tl (x : Str) : x.length = (tlS x).length := by
  show x.cps.size = x.cps.toList.length
  rw [Array.length_toList]
theorem slot_len {c o : Th} {q : (Th → Th) × Th} (h : q ∈ slots c) : (q.1 o).t.length ≤ c.t.length + o.t.length := by
  obtain ⟨p, s, h1, h2⟩ := slot_t c q h
  rw [len_tl, len_tl, len_tl, h1 o, h2]
  simp only [List.length_append]
  omega
theorem gd_len : gd59.all (fun cp => decide (cp.1.shown.length ≤ 1000) && decide (cp.2.shown.length ≤ 1000) && decide ((ofD cp.1).dep ≤ 6) && decide ((ofD cp.2).dep ≤ 6)) = true := by decide +kernel
theorem two_len (a b : Str) (ha : a.length ≤ 2000) (hb : b.length ≤ 2000) : (listText [a, b]).length ≤ sizeLine := by
  rw [len_tl, list_two, sizeLine_eq]
  rw [len_tl] at ha hb
  simp only [List.length_cons, List.length_append, List.length_nil]
  omega
/-- what the law asks of two things -/
structure Due (c p : PyData) (x y : Th) : Prop where
  ok1 : OkD x.d
  ok2 : OkD y.d
  d1 : x.dep ≤ 6
  d2 : y.dep ≤ 6
  l1 : x.t.length ≤ 2000
  l2 : y.t.length ≤ 2000
  due : HoldsAll x.d y.d ↔ listText [x.t, y.t] = listText [c.shown, p.shown]
theorem gd_all {c p : PyData} (hg : (c, p) ∈ gd59) : (OkD c ∧ OkD p) ∧ (c.shown.length ≤ 1000 ∧ p.shown.length ≤ 1000) ∧ ((ofD c).dep ≤ 6 ∧ (ofD p).dep ≤ 6) ∧ (shB c = true ∧ shB p = true) ∧ (fitB c = true ∧ fitB p = true) ∧ (pd c < 6 ∧ pd p < 6) ∧ (tb c ≤ 1000 ∧ tb p ≤ 1000) := by
  have h1 := all_in gd_ok hg
  have h2 := all_in gd_len hg
  have h3 := all_in gd_sh hg
  have h4 := all_in gd_fit hg
  have h5 := all_in gd_tb hg
  simp only [Bool.and_eq_true, decide_eq_true_iff] at h1 h2 h3 h4 h5
  exact ⟨⟨okB_ok _ h1.1, okB_ok _ h1.2⟩, ⟨h2.1.1.1, h2.1.1.2⟩, ⟨h2.1.2, h2.2⟩, h3, ⟨h4.1.1.1, h4.1.1.2⟩, ⟨h4.1.2, h4.2⟩, h5⟩
theorem Due.c {c p : PyData} {o : Th} {q : (Th → Th) × Th} (hg : (c, p) ∈ gd59) (ho : OddTh o) (hq : q ∈ slots (ofD c)) : Due c p (q.1 o) (ofD p) := by
  obtain ⟨⟨a1, a2⟩, ⟨b1, b2⟩, ⟨c1, c2⟩, _⟩ := gd_all hg
  have ol := odd_len ho
  have sl := slot_len (o := o) hq
  rw [ofD_t] at sl
  refine ⟨(slot_d (odd_okd ho) (ofD c) q hq).1 (by rw [ofD_d]; exact a1), by rw [ofD_d]; exact a2, Nat.le_trans (slot_dep (odd_dep ho) _ _ hq) c1, c2, by omega, by rw [ofD_t]; omega, ?_⟩
  rw [ofD_d, ofD_t]
  exact due_c hg ho hq
theorem Due.p {c p : PyData} {o : Th} {q : (Th → Th) × Th} (hg : (c, p) ∈ gd59) (ho : OddTh o) (hq : q ∈ slots (ofD p)) : Due c p (ofD c) (q.1 o) := by
  obtain ⟨⟨a1, a2⟩, ⟨b1, b2⟩, ⟨c1, c2⟩, _⟩ := gd_all hg
  have ol := odd_len ho
  have sl := slot_len (o := o) hq
  rw [ofD_t] at sl
  refine ⟨by rw [ofD_d]; exact a1, (slot_d (odd_okd ho) (ofD p) q hq).1 (by rw [ofD_d]; exact a2), c1, Nat.le_trans (slot_dep (odd_dep ho) _ _ hq) c2, by rw [ofD_t]; omega, by omega, ?_⟩
  rw [ofD_d, ofD_t]
  exact due_p hg ho hq
theorem Due.o {c p : PyData} {o o2 : Th} (hg : (c, p) ∈ gd59) (ho : OddTh o) (ho2 : OddTh o2) : Due c p o o2 :=
  ⟨odd_okd ho, odd_okd ho2, by rw [odd_dep ho]; decide, by rw [odd_dep ho2]; decide, by have := odd_len ho; omega, by have := odd_len ho2; omega, due_o hg ho⟩
/-! ### by hand -/
theorem hand_1 {c p : PyData} (hg : (c, p) ∈ gd59) : HoldsAll c p := (holdsB_iff c p).mp (all_in gd_holds hg)
theorem no_holds {d e : PyData} (h : holdsB d e = false) : ¬ HoldsAll d e := fun z => by
  rw [(holdsB_iff d e).mpr z] at h
  cases h
theorem hand_c {c p e : PyData} (hg : (c, p) ∈ gd59) (he : e ∈ truD c) : ¬ HoldsAll e p := by
  obtain ⟨y, hy, rfl⟩ := List.mem_map.mp he
  have := all_in (all_in tru_C hg) hy
  exact no_holds (by simpa using this)
theorem hand_p {c p e : PyData} (hg : (c, p) ∈ gd59) (he : e ∈ truD p) : ¬ HoldsAll c e := by
  obtain ⟨y, hy, rfl⟩ := List.mem_map.mp he
  have := all_in (all_in tru_P hg) hy
  exact no_holds (by simpa using this)
def tru_okB : Bool := gd59.all fun cp => (truD cp.1).all okB && (truD cp.2).all okB
theorem tru_ok : tru_okB = true := by decide +kernel
def others : PyData → List PyData
  | .tuple ds => [.tuple ds.dropLast, .tuple (ds ++ [.int 0]), .tuple ds.tail, .tuple (.str "sizes" :: ds.tail)]
  | _ => []
theorem oth_C : gd59.all (fun cp => (others cp.1).all fun d => okB d && !holdsB d cp.2) = true := by decide +kernel
def tupLen : PyData → Bool
  | .tuple ds => decide (2 ≤ ds.length) && decide (ds.length ≤ 10)
  | _ => false
theorem gd_tl : gd59.all (fun cp => tupLen cp.1) = true := by decide +kernel
/-! ### by hand -/
theorem cut_last (xs : List V) (h : 1 ≤ xs.length) : cutV xs none (some (-1)) = xs.dropLast := by
  unfold cutV
  rw [HT.sIx_none, List.dropLast_eq_take]
  have e : HT.sIx xs.length xs.length (some (-1)) = xs.length - 1 := by
    show (if (-1 : Int) < 0 then ((-1 : Int) + (xs.length : Int)).toNat else min (-1 : Int).toNat xs.length) = _
    rw [if_pos (by decide)]
    omega
  rw [e]
  rfl
theorem DpAll.dropLast {K : PySem.W.Frag} {H : Hp} {vs : List V} {ds : List PyData} (h : DpAll K H vs ds) : DpAll K H vs.dropLast ds.dropLast := by
  rw [List.dropLast_eq_take, List.dropLast_eq_take, h.len]
  exact DpAll.take _ h
theorem DpAll.tail {K : PySem.W.Frag} {H : Hp} {vs : List V} {ds : List PyData} (h : DpAll K H vs ds) : DpAll K H vs.tail ds.tail := by
  cases h with
  | nil => exact .nil
  | cons _ h => exact h
def spHand : Sp := fun vs H Q _ => vs = [] ∧ ∀ H', Same H H' → Q (.bl true) H'
section
variable {P : Program} {w : World} {K : PySem.W.Frag} {mg : Str → Option Value} {base : Heap}
theorem ok_L_by_hand (T : Tx w K mg) : Prom P w K mg base CX0 12 "_law_by_hand" s_L_by_hand [] spHand := by
  refine Prom.of T.d_L_by_hand sc_L_by_hand (fun vs H Q E h => ?_) (fun _ _ _ _ _ _ us hl => match us, hl with | [], _ => rfl) (fun f cdv A outer s H vs Q E hr h => ?_)
  · obtain ⟨rfl, _⟩ := h
    rfl
  · obtain ⟨rfl, k⟩ := h
    refine ⟨_, (pss_cons (ps_for PassesOwn.never (by rfl) (pi_list (pe_callP0 (ok_L_good T) (hr.mono (by decide)) (by rfl) pass0)) (pg_tup rfl (pgs_cons (pg_name (i := 0) sc_L_by_hand.nd rfl (Or.inr rfl)) (pgs_cons (pg_name (i := 1) sc_L_by_hand.nd rfl (Or.inr rfl)) pgs_nil))) (pss_cons (ps_if (PW.pt (pw_or (pt_cmpR op_isnotBl (pe_callP (ok_holds T) (hr.mono (by decide)) (by rfl) pass0 (pa_cons (pv 0) (pa_cons (pv 1) pa_nil))) pe_bl (nomark _)) (pw_or1 (pt_cmpR op_isnotBl (pe_callKP (ok_holds T) (hr.mono (by decide)) (by rfl) (ks := ["paper", "claim"]) (kb_of [1, 0] (by decide) (fun _ _ _ _ _ _ ws hl => match ws, hl with | [_, _], _ => rfl)) pass0 (pk_cons (pv 1) (pk_cons (pv 0) pk_nil))) pe_bl (nomark _))))) (pss_one (ps_ret pe_bl)) pss_nil)
      (pss_cons (ps_if (pt_cmpR (op_neD hr.units) (pe_lc (own := [("_law_other", 2)]) (g := (gName 2)) (by rfl) sc_L_by_hand.nd (pi_list (pe_callP (ok_L_truths T) (hr.mono (by decide)) (by rfl) pass0 (pa_cons (pv 0) pa_nil))) (blkOk_by (own := [("_law_other", 2)]) (N := ["_law_claim_here", "_law_page_here", "_law_other"]) (sc := defScope s_L_by_hand) (by decide +kernel)) (fun _ _ _ _ _ => (pg_name (i := 2) sc_L_by_hand.nd rfl (Or.inl rfl))) (fun _ _ _ _ _ => pts_one (pt_cmpR op_isnotBl (pe_callP (ok_holds T) (hr.mono (by decide)) (by rfl) pass0 (pa_cons (pv 2) (pa_cons (pv 1) pa_nil))) pe_bl (nomark _))) (fun _ _ _ _ _ => (pv 2))) (pe_lst pa_nil) (nomark _)) (pss_one (ps_ret pe_bl)) pss_nil)
      (pss_cons (ps_if (pt_cmpR (op_neD hr.units) (pe_lc (own := [("_law_other", 2)]) (g := (gName 2)) (by rfl) sc_L_by_hand.nd (pi_list (pe_callP (ok_L_truths T) (hr.mono (by decide)) (by rfl) pass0 (pa_cons (pv 1) pa_nil))) (blkOk_by (own := [("_law_other", 2)]) (N := ["_law_claim_here", "_law_page_here", "_law_other"]) (sc := defScope s_L_by_hand) (by decide +kernel)) (fun _ _ _ _ _ => (pg_name (i := 2) sc_L_by_hand.nd rfl (Or.inl rfl))) (fun _ _ _ _ _ => pts_one (pt_cmpR op_isnotBl (pe_callP (ok_holds T) (hr.mono (by decide)) (by rfl) pass0 (pa_cons (pv 0) (pa_cons (pv 2) pa_nil))) pe_bl (nomark _))) (fun _ _ _ _ _ => (pv 2))) (pe_lst pa_nil) (nomark _)) (pss_one (ps_ret pe_bl)) pss_nil)
      (pss_one (ps_for PassesOwn.never (by rfl) (pi_list (pe_lst (pa_cons (pe_slice sl_tup (pv 0) po_none (po_some (pe_un un_neg pe_int))) (pa_cons (pe_op op_catA (pv 0) (pe_tup (pa_cons pe_int pa_nil))) (pa_cons (pe_slice sl_tup (pv 0) (po_some pe_int) po_none) (pa_cons (pe_op op_catA (pe_tup (pa_cons pe_str pa_nil)) (pe_slice sl_tup (pv 0) (po_some pe_int) po_none)) pa_nil)))))) (pg_name (i := 2) sc_L_by_hand.nd rfl (Or.inl rfl)) (pss_one (ps_if (pt_cmpR op_isnotBl (pe_callP (ok_holds T) (hr.mono (by decide)) (by rfl) pass0 (pa_cons (pv 2) (pa_cons (pv 1) pa_nil))) pe_bl (nomark _)) (pss_one (ps_ret pe_bl)) pss_nil))))))))
      (pss_one (ps_ret pe_bl))), ?_⟩
    refine ⟨rfl, fun l xs H1 s1 nl hl px => ⟨l, rfl, ⟨xs, SqL.of hl⟩, for_list (K := K) (a := l) (xs := xs) (fun i σ H' => Same H1 H' ∧ ∃ v0 v1 v2 : Option V, σ = [v0, v1, v2]) ⟨Same.refl H1, _, _, _, rfl⟩ (fun i σ H' _ h => SqL.of (h.1 _ _ hl)) ?_ ?_⟩⟩
    · rintro i x σ H2 hi ⟨s2, v0, v1, v2, rfl⟩
      obtain ⟨dd, hdd, hx⟩ := px.get hi
      rw [List.getElem?_map] at hdd
      obtain ⟨⟨c, p⟩, hcp, e⟩ := Option.map_eq_some_iff.mp hdd
      subst e
      have hg : (c, p) ∈ gd59 := List.mem_of_getElem? hcp
      obtain ⟨⟨okc, okp⟩, _, _, _, ⟨fc, fp⟩, ⟨pc, pp⟩, tc, tp⟩ := gd_all hg
      cases hx with
      | @tup t ws _ ht hw =>
      cases hw with
      | @cons vc _ _ _ hc hw =>
      cases hw with
      | @cons vp _ _ _ hp hw =>
      cases hw
      have ht2 := s2 _ _ ht
      have hc2 := hc.kt (KT.same s2)
      have hp2 := hp.kt (KT.same s2)
      clear hc hp ht
      refine ⟨t, [vc, vp], rfl, SqT.of ht2, rfl, _, _, rfl, _, _, rfl, rfl, ?_⟩
      refine ⟨_, rfl, _, rfl, ⟨vc, vp, c, p, rfl, hc2.dp, hp2.dp, okp.small, okc.texts, fun r H3 hr s3 => ?_⟩⟩
      obtain rfl : r = true := hr.mpr (hand_1 hg)
      clear hr
      have hc3 := hc2.kt (KT.same s3)
      have hp3 := hp2.kt (KT.same s3)
      refine ⟨true, rfl, ⟨_, rfl, ?_⟩⟩
      refine ifw_neg (by decide) ?_
      refine ⟨_, rfl, _, rfl, ⟨vc, vp, c, p, rfl, hc3.dp, hp3.dp, okp.small, okc.texts, fun r H4 hr s4 => ?_⟩⟩
      obtain rfl : r = true := hr.mpr (hand_1 hg)
      clear hr
      have hc4 := hc3.kt (KT.same s4)
      have hp4 := hp3.kt (KT.same s4)
      refine ⟨true, rfl, ⟨_, rfl, ?_⟩⟩
      refine ifw_neg (by decide) ?_
      refine ⟨_, rfl, ⟨6, Nat.le_refl 6, vc, c, rfl, hc4, fc, tc, pc, fun l1 zs H5 s5 n5 g5 zl hz => ⟨l1, rfl, ⟨zs, SqL.of g5⟩, fun D hD => ?_⟩⟩⟩
      refine lc_list (K := K) (a := l1) (xs := zs) (Pv := fun j H' => Same H5 H' ∧ H' D = some (.lst [])) ⟨up hD, upd_same⟩ (fun j H' _ h => SqL.of (h.1 _ _ g5)) ?_ ?_
      · rintro j x H6 hj ⟨s6, gD⟩
        obtain ⟨e1, he1, hx⟩ := hz x (List.mem_of_getElem? hj)
        have oke : OkD e1 := by
          have := all_in tru_ok hg
          rw [Bool.and_eq_true] at this
          exact okB_ok _ (all_in this.1 he1)
        refine ⟨rfl, ?_⟩
        refine ⟨_, rfl, _, rfl, ⟨x, vp, e1, p, rfl, hx.same s6, (hp4.kt (KT.same (tr s5 s6))).dp, okp.small, oke.texts, fun r H7 hr s7 => ?_⟩⟩
        cases r with
        | true => exact absurd (hr.mp rfl) (hand_c hg he1)
        | false =>
        refine ⟨false, rfl, ⟨_, rfl, ?_⟩⟩
        refine ifw_neg (by decide) ?_
        exact ⟨tr s6 s7, s7 _ _ gD⟩
      rintro H6 ⟨s6, gD⟩
      refine ⟨Nat.zero_le _, fun e he => ⟨.list [], .list [], .lst (SqL.of (up he _ _ gD)) .nil, .lst (SqL.of upd_same) .nil, rfl, rfl, ?_⟩⟩
      have s7 := up (o := .lst []) he
      generalize upd H6 e (.lst []) = H7 at *
      have hc7 := hc4.kt (KT.same (tr s5 (tr s6 s7)))
      have hp7 := hp4.kt (KT.same (tr s5 (tr s6 s7)))
      refine ⟨_, rfl, ?_⟩
      refine ifw_neg (by decide) ?_
      refine ⟨_, rfl, ⟨6, Nat.le_refl 6, vp, p, rfl, hp7, fp, tp, pp, fun l1 zs H8 s8 n5 g5 zl hz => ⟨l1, rfl, ⟨zs, SqL.of g5⟩, fun D hD => ?_⟩⟩⟩
      refine lc_list (K := K) (a := l1) (xs := zs) (Pv := fun j H' => Same H8 H' ∧ H' D = some (.lst [])) ⟨up hD, upd_same⟩ (fun j H' _ h => SqL.of (h.1 _ _ g5)) ?_ ?_
      · rintro j x H9 hj ⟨s9, gD⟩
        obtain ⟨e1, he1, hx⟩ := hz x (List.mem_of_getElem? hj)
        have oke : OkD e1 := by
          have := all_in tru_ok hg
          rw [Bool.and_eq_true] at this
          exact okB_ok _ (all_in this.2 he1)
        refine ⟨rfl, ?_⟩
        refine ⟨_, rfl, _, rfl, ⟨vc, x, c, e1, rfl, (hc7.kt (KT.same (tr s8 s9))).dp, hx.same s9, oke.small, okc.texts, fun r H10 hr s10 => ?_⟩⟩
        cases r with
        | true => exact absurd (hr.mp rfl) (hand_p hg he1)
        | false =>
        refine ⟨false, rfl, ⟨_, rfl, ?_⟩⟩
        refine ifw_neg (by decide) ?_
        exact ⟨tr s9 s10, s10 _ _ gD⟩
      rintro H9 ⟨s9, gD⟩
      refine ⟨Nat.zero_le _, fun e he => ⟨.list [], .list [], .lst (SqL.of (up he _ _ gD)) .nil, .lst (SqL.of upd_same) .nil, rfl, rfl, ?_⟩⟩
      have s10 := up (o := .lst []) he
      generalize upd H9 e (.lst []) = H10 at *
      have hc10 := hc7.kt (KT.same (tr s8 (tr s9 s10)))
      have hp10 := hp7.kt (KT.same (tr s8 (tr s9 s10)))
      refine ⟨_, rfl, ?_⟩
      refine ifw_neg (by decide) ?_
      have tl := all_in gd_tl hg
      have hoth := all_in oth_C hg
      cases hc10 with
      | non => cases tl
      | int i => cases tl
      | str x => cases tl
      | @tup a ws ds ha hw =>
      have tl : (decide (2 ≤ ds.length) && decide (ds.length ≤ 10)) = true := tl
      rw [Bool.and_eq_true, decide_eq_true_iff, decide_eq_true_iff] at tl
      have wl := hw.len
      have hS : SqT K H10 a ws := SqT.of ha
      have hw : DpAll K H10 ws ds := hw.dp
      clear hc3 hc4 hc7 hc2
      repeat (first | (refine And.intro ?_ ?_; · (first | exact rfl | (show (_ : Int) ≤ _; omega) | (show (_ : Int) < _; omega) | assumption | exact SqL.of upd_same | exact SqT.of upd_same | exact upd_same | exact Drew.at_ (by assumption) | exact at_of (j := 0) rfl rfl | exact at_of (j := 1) rfl rfl | exact at_of (j := 2) rfl rfl | exact at_of (j := 3) rfl rfl | exact .inr (by assumption) | exact .inl (by assumption) | exact .ty _ | exact dp_ty (by assumption) | exact kit_strD _ | exact kit_tupD _ | exact kit_intD _ | exact kit_boolD _ | exact ⟨_, rfl⟩ | decide | omega | exact (show 0 ≤ sizeLine by decide) | exact (show 1 ≤ sizeLine by decide) | exact (show 2 ≤ sizeLine by decide) | exact (show 3 ≤ sizeLine by decide) | exact (show 4 ≤ sizeLine by decide) | exact (show 5 ≤ sizeLine by decide) | exact (show 6 ≤ sizeLine by decide) | decide +kernel)) | apply Exists.intro | refine iteT ?_ | refine iteF ?_)
      refine ⟨fun z => ?_, fun q1 hq1 => ?_⟩
      · have z := z.2
        have e : HT.sIx ws.length ws.length (some (-1)) = ws.length - 1 := by
          show (if (-1 : Int) < 0 then ((-1 : Int) + (ws.length : Int)).toNat else min (-1 : Int).toNat ws.length) = _
          rw [if_pos (by decide)]
          omega
        have z : HT.sIx ws.length ws.length (some (-1)) = ws.length := z
        omega
      rw [show cutV ws none (some (-1)) = ws.dropLast from cut_last ws (by omega)]
      have s11 := up (o := .tup ws.dropLast) hq1
      have h11 : SqT K (upd H10 q1 (.tup ws.dropLast)) q1 ws.dropLast := SqT.of upd_same
      have hS11 := sqT_same s11 hS
      generalize upd H10 q1 (.tup ws.dropLast) = H11 at *
      refine ⟨_, rfl, (by show 1 ≤ sizeLine; decide), fun q2 hq2 => ?_⟩
      have s12 := up (o := .tup [.int 0]) hq2
      refine catA_use (sqT_same s12 hS11) (SqT.of upd_same) (by show _ + 1 ≤ _; omega) fun r2 H13 s13 h13 => ?_
      have s113 := tr s12 s13
      have hS13 := sqT_same s113 hS11
      have s1013 := tr s11 s113
      have h1113 := sqT_same s113 h11
      clear s12 hS11 h11 hq2
      obtain ⟨w0, wr, rfl⟩ : ∃ w0 wr, ws = w0 :: wr := by
        cases ws with
        | nil => exact absurd wl (by show ¬ 0 = ds.length; omega)
        | cons w0 wr => exact ⟨w0, wr, rfl⟩
      refine ⟨_, rfl, _, rfl, ⟨a, _, rfl, hS13, cut1_no, fun q3 hq3 => ?_⟩⟩
      rw [cut1]
      have s14 := up (o := .tup wr) hq3
      have h14 : SqT K (upd H13 q3 (.tup wr)) q3 wr := SqT.of upd_same
      have hS14 := sqT_same s14 hS13
      generalize upd H13 q3 (.tup wr) = H14 at *
      refine ⟨(by show 1 ≤ sizeLine; decide), fun q4 hq4 => ?_⟩
      have s15 := up (o := .tup [.str "sizes"]) hq4
      have h15 : SqT K (upd H14 q4 (.tup [.str "sizes"])) q4 [.str "sizes"] := SqT.of upd_same
      have hS15 := sqT_same s15 hS14
      generalize upd H14 q4 (.tup [.str "sizes"]) = H15 at *
      refine ⟨_, rfl, _, rfl, ⟨a, _, rfl, hS15, cut1_no, fun q5 hq5 => ?_⟩⟩
      rw [cut1]
      have s16 := up (o := .tup wr) hq5
      refine catA_use (sqT_same s16 h15) (SqT.of upd_same) (by show 1 + wr.length ≤ _; have : wr.length + 1 = ds.length := wl; omega) fun r6 H17 s17 h17 => ?_
      have s1417 := tr s15 (tr s16 s17)
      refine ⟨(by show 4 ≤ sizeLine; decide), fun l4 hl4 => ?_⟩
      have s18 := up (o := .lst [.ref q1, .ref r2, .ref q3, .ref r6]) hl4
      have g18 : upd H17 l4 (.lst [.ref q1, .ref r2, .ref q3, .ref r6]) l4 = some (.lst [.ref q1, .ref r2, .ref q3, .ref r6]) := upd_same
      have b1 := sqT_same s18 (sqT_same s1417 (sqT_same s14 h1113))
      have b2 := sqT_same s18 (sqT_same s1417 (sqT_same s14 h13))
      have b3 := sqT_same s18 (sqT_same s1417 h14)
      have b4 := sqT_same s18 h17
      have s1018 := tr s1013 (tr s14 (tr s1417 s18))
      have hw18 := hw.same s1018
      have hp18 := hp10.kt (KT.same s1018)
      have s218 := tr s3 (tr s4 (tr s5 (tr s6 (tr s7 (tr s8 (tr s9 (tr s10 s1018)))))))
      generalize upd H17 l4 (.lst [.ref q1, .ref r2, .ref q3, .ref r6]) = H18 at *
      have items : ∀ y ∈ [V.ref q1, .ref r2, .ref q3, .ref r6], ∃ d ∈ others (.tuple ds), Dp K H18 y d := by
        intro y hy
        simp only [List.mem_cons, List.not_mem_nil, or_false] at hy
        rcases hy with rfl | rfl | rfl | rfl
        · exact ⟨_, .head _, .tup b1 hw18.dropLast⟩
        · exact ⟨_, .tail _ (.head _), .tup b2 (hw18.app (.cons (.int 0) .nil))⟩
        · exact ⟨_, .tail _ (.tail _ (.head _)), .tup b3 hw18.tail⟩
        · exact ⟨_, .tail _ (.tail _ (.tail _ (.head _))), .tup b4 (.cons (.str _) hw18.tail)⟩
      refine ⟨l4, rfl, ⟨_, SqL.of g18⟩, for_list (K := K) (a := l4) (xs := [.ref q1, .ref r2, .ref q3, .ref r6]) (fun i σ H' => Same H18 H' ∧ ∃ v2 : Option V, σ = [some (.ref a), some vp, v2]) ⟨Same.refl H18, _, rfl⟩ (fun i σ H' _ h => SqL.of (h.1 _ _ g18)) ?_ ?_⟩
      · rintro j y σ H19 hj ⟨s19, v2', rfl⟩
        obtain ⟨d', hd', hy⟩ := items y (List.mem_of_getElem? hj)
        have hB := all_in hoth hd'
        rw [Bool.and_eq_true] at hB
        have okd := okB_ok _ hB.1
        refine ⟨_, rfl, _, rfl, ⟨y, vp, d', p, rfl, hy.same s19, (hp18.kt (KT.same s19)).dp, okp.small, okd.texts, fun r H20 hr s20 => ?_⟩⟩
        cases r with
        | true => exact absurd (hr.mp rfl) (no_holds (by simpa using hB.2))
        | false =>
        refine ⟨false, rfl, ⟨_, rfl, ?_⟩⟩
        refine ifw_neg (by decide) ?_
        exact ⟨tr s19 s20, _, rfl⟩
      · rintro σ H19 ⟨s19, v2', rfl⟩
        exact ⟨tr s2 (tr s218 s19), _, _, _, rfl⟩
    · rintro σ H2 ⟨s2, v0, v1, v2, rfl⟩
      exact k H2 (tr s1 s2)
end
theorem sm_drew {p : Addr} {H H1 H2 : Hp} (s : Same H H1) (d : Drew p H1 H2) (h : H p = none) : Same H H2 := fun b o e => d.kp b o (ne_of_none e h) (s b o e)
theorem sm_kp {p : Addr} {H H1 H2 : Hp} (s : Same H H1) (d : Kp p H1 H2) (h : H p = none) : Same H H2 := fun b o e => d b o (ne_of_none e h) (s b o e)
def spRightI : Sp := fun vs H Q _ => ∃ (c : Int), vs = [.int c] ∧ ∀ H', Same H H' → Q (.bl true) H'
/-! ### one cell's turns -/
structure rRepr59 (K : PySem.W.Frag) (xs : List V) (H : Hp) (Q : VK) : Prop where
  h : (∃ v z, xs = [v] ∧ flatShown v = some z ∧ Q (.str z) H) ∨ ∃ (a : Addr) (ys : List V) (ts : List Str) (m : Nat), xs = [.ref a] ∧ SqL K H a ys ∧ TxtAll K (Own59 K) H ys ts m ∧ m ≤ 6 ∧ (listText ts).length ≤ sizeLine ∧ ∀ H', Ext H H' → Q (.str (listText ts)) H'
theorem cr_repr59 {X : Cx} (T : Tx X.w X.K X.mg) (gd : X.A.guards = some []) (hr : Room 9 X.A) : CallR X (.builtin "repr") (rRepr59 X.K) := by
  intro pins s σ H xs us Q I r h
  rcases h.h with h | h
  · exact cr_repr pins s σ H xs us Q I r h
  · exact cr_reprL (n := 1) 6 own_ins own_same (own_rp T) gd hr pins s σ H xs us Q I r h
theorem repr_two {K : PySem.W.Frag} {H : Hp} {e : Addr} {v1 v2 : V} {x y : Th} {Q : VK} (t1 : TAt K H v1 x) (t2 : TAt K H v2 y) (ge : H e = some (.lst [v1, v2])) (d1 : x.dep ≤ 6) (d2 : y.dep ≤ 6) (l1 : x.t.length ≤ 2000) (l2 : y.t.length ≤ 2000) (k : ∀ H', Same H H' → Q (.str (listText [x.t, y.t])) H') : rRepr59 K [.ref e] H Q := by
  obtain ⟨n, hn, a⟩ := t1.txt
  obtain ⟨m, hm, b⟩ := t2.txt
  exact ⟨.inr ⟨e, [v1, v2], [x.t, y.t], max n (max m 0), rfl, SqL.of ge, .cons a (.cons b .nil), by omega, two_len _ _ l1 l2, k⟩⟩
theorem repr_flat {K : PySem.W.Frag} {H : Hp} {v : V} {z : Str} {Q : VK} (e : flatShown v = some z) (k : Q (.str z) H) : rRepr59 K [v] H Q := ⟨.inl ⟨v, z, rfl, e, k⟩⟩
section
variable {P : Program} {w : World} {K : PySem.W.Frag} {mg : Str → Option Value} {base : Heap}
theorem ok_L_right (T : Tx w K mg) : PromG P w K mg base 13 "_law_right" s_L_right ["_law_cell_here"] spRightI := by
  refine PromG.of T.d_L_right sc_L_right (fun vs H Q E h => ?_) (fun _ _ _ _ _ _ us hl => match us, hl with | [_], _ => rfl) (fun f cdv A outer s H vs Q E hr hgd h => ?_)
  · obtain ⟨c, rfl, _⟩ := h
    rfl
  · obtain ⟨c, rfl, k⟩ := h
    refine ⟨_, (pss_cons (ps_par (i := 1) (j := 2) (by rfl) sc_L_right.nd rfl rfl (by decide) rfl rfl (pa_cons (pe_callP (ok_L_pool T) (hr.mono (by decide)) (by rfl) pass0 (pa_cons (pv 0) pa_nil)) (pa_cons (pe_callP0 (ok_L_good T) (hr.mono (by decide)) (by rfl) pass0) pa_nil)) (by rfl))
      (pss_cons (ps_for PassesOwn.never (by rfl) (pi_range1 (by rfl) T.b_range (pa_cons pe_int pa_nil)) (pg_name (i := 3) sc_L_right.nd rfl (Or.inl rfl)) (pss_cons (ps_asg (pe_ix ix_list (pv 2) (pe_callP (ok_L_draw T) (hr.mono (by decide)) (by rfl) pass0 (pa_cons (pv 1) (pa_cons (pe_callB call_len_seq (by rfl) T.b_len (by decide +kernel) (pa_cons (pv 2) pa_nil)) pa_nil))) (fun _ _ => rfl)) (pg_tup rfl (pgs_cons (pg_name (i := 4) sc_L_right.nd rfl (Or.inl rfl)) (pgs_cons (pg_name (i := 5) sc_L_right.nd rfl (Or.inl rfl)) pgs_nil))))
      (pss_cons (ps_par (i := 6) (j := 7) (by rfl) sc_L_right.nd rfl rfl (by decide) rfl rfl (pa_cons (pe_callP (ok_L_draw T) (hr.mono (by decide)) (by rfl) pass0 (pa_cons (pv 1) (pa_cons pe_int pa_nil))) (pa_cons (pe_callP (ok_L_odd T) (hr.mono (by decide)) (by rfl) pass0 (pa_cons (pv 1) pa_nil)) pa_nil)) (by rfl))
      (pss_cons (ps_mid (ps_if (pt_cmp (pc_lt (pv 6) pe_int)) (pss_one (ps_par (i := 8) (j := 9) (by rfl) sc_L_right.nd rfl rfl (by decide) rfl rfl (pa_cons (pe_callP (ok_L_put_in T) (hr.mono (by decide)) (by rfl) pass0 (pa_cons (pv 1) (pa_cons (pv 4) (pa_cons (pv 7) pa_nil)))) (pa_cons (pv 5) pa_nil)) (by rfl))) (pss_one (ps_if (pt_cmp (pc_lt (pv 6) pe_int)) (pss_one (ps_par (i := 8) (j := 9) (by rfl) sc_L_right.nd rfl rfl (by decide) rfl rfl (pa_cons (pv 4) (pa_cons (pe_callP (ok_L_put_in T) (hr.mono (by decide)) (by rfl) pass0 (pa_cons (pv 1) (pa_cons (pv 5) (pa_cons (pv 7) pa_nil)))) pa_nil)) (by rfl))) (pss_one (ps_par (i := 8) (j := 9) (by rfl) sc_L_right.nd rfl rfl (by decide) rfl rfl (pa_cons (pv 7) (pa_cons (pe_callP (ok_L_odd T) (hr.mono (by decide)) (by rfl) pass0 (pa_cons (pv 1) pa_nil)) pa_nil)) (by rfl)))))))
      (pss_cons (ps_set (i := 10) sc_L_right.nd rfl (Or.inl rfl) (pe_cmpR op_eq (pe_callB (cr_repr59 T hgd (hr.mono (by decide))) (by rfl) T.b_repr (by decide +kernel) (pa_cons (pe_lst (pa_cons (pv 8) (pa_cons (pv 9) pa_nil))) pa_nil)) (pe_callB (cr_repr59 T hgd (hr.mono (by decide))) (by rfl) T.b_repr (by decide +kernel) (pa_cons (pe_lst (pa_cons (pv 4) (pa_cons (pv 5) pa_nil))) pa_nil)) (nomark _)))
      (pss_one (ps_if (pt_cmpR op_ne (pe_callB (cr_repr59 T hgd (hr.mono (by decide))) (by rfl) T.b_repr (by decide +kernel) (pa_cons (pe_callP (ok_holds T) (hr.mono (by decide)) (by rfl) pass0 (pa_cons (pv 8) (pa_cons (pv 9) pa_nil))) pa_nil)) (pe_callB (cr_repr59 T hgd (hr.mono (by decide))) (by rfl) T.b_repr (by decide +kernel) (pa_cons (pv 10) pa_nil)) (nomark _)) (pss_one (ps_ret pe_bl)) pss_nil)))))))
      (pss_one (ps_ret pe_bl)))), ?_⟩
    repeat (first | (refine And.intro ?_ ?_; · (first | exact rfl | (show (_ : Int) ≤ _; omega) | (show (_ : Int) < _; omega) | assumption | exact SqL.of upd_same | exact SqT.of upd_same | exact upd_same | exact Drew.at_ (by assumption) | exact at_of (j := 0) rfl rfl | exact at_of (j := 1) rfl rfl | exact at_of (j := 2) rfl rfl | exact at_of (j := 3) rfl rfl | exact .inr (by assumption) | exact .inl (by assumption) | exact .ty _ | exact dp_ty (by assumption) | exact kit_strD _ | exact kit_tupD _ | exact kit_intD _ | exact kit_boolD _ | exact ⟨_, rfl⟩ | decide | omega | exact (show 0 ≤ sizeLine by decide) | exact (show 1 ≤ sizeLine by decide) | exact (show 2 ≤ sizeLine by decide) | exact (show 3 ≤ sizeLine by decide) | exact (show 4 ≤ sizeLine by decide) | exact (show 5 ≤ sizeLine by decide) | exact (show 6 ≤ sizeLine by decide) | decide +kernel)) | apply Exists.intro | refine iteT ?_ | refine iteF ?_)
    intro p H1 p0 s1 hp
    repeat (first | (refine And.intro ?_ ?_; · (first | exact rfl | (show (_ : Int) ≤ _; omega) | (show (_ : Int) < _; omega) | assumption | exact SqL.of upd_same | exact SqT.of upd_same | exact upd_same | exact Drew.at_ (by assumption) | exact at_of (j := 0) rfl rfl | exact at_of (j := 1) rfl rfl | exact at_of (j := 2) rfl rfl | exact at_of (j := 3) rfl rfl | exact .inr (by assumption) | exact .inl (by assumption) | exact .ty _ | exact dp_ty (by assumption) | exact kit_strD _ | exact kit_tupD _ | exact kit_intD _ | exact kit_boolD _ | exact ⟨_, rfl⟩ | decide | omega | exact (show 0 ≤ sizeLine by decide) | exact (show 1 ≤ sizeLine by decide) | exact (show 2 ≤ sizeLine by decide) | exact (show 3 ≤ sizeLine by decide) | exact (show 4 ≤ sizeLine by decide) | exact (show 5 ≤ sizeLine by decide) | exact (show 6 ≤ sizeLine by decide) | decide +kernel)) | apply Exists.intro | refine iteT ?_ | refine iteF ?_)
    intro l xs H2 s2 nl hl px
    have hp2 := hp.same s2
    have lp : l ≠ p := PurseAt.ne hp nl
    refine ⟨_, _, rfl, ?_⟩
    refine ⟨_, rfl, by decide, by decide, for_range (lo := 0) (fun i σ H' => Drew p H2 H' ∧ ∃ v3 v4 v5 v6 v7 v8 v9 v10 : Option V, σ = [some (.int c), some (.ref p), some (.ref l), v3, v4, v5, v6, v7, v8, v9, v10]) ⟨Drew.refl hp2, _, _, _, _, _, _, _, _, rfl⟩ ?_ ?_⟩
    · rintro i σ H3 hi ⟨d3, v3, v4, v5, v6, v7, v8, v9, v10, rfl⟩
      have hp3 := d3.at_
      have hl3 := d3.kp l _ lp hl
      have px3 := px.kt (kt_drew hp2 d3)
      have xl : xs.length = 19 := px3.len
      refine ⟨_, rfl, _, rfl, _, rfl, l, xs, rfl, .inl (SqL.of hl3), ?_⟩
      refine ⟨p, _, rfl, hp3, by omega, by omega, fun r H4 r0 r1 d4 => ?_⟩
      have hp4 := d4.at_
      have hl4 := d4.kp l _ lp hl3
      have px4 := px3.kt (kt_drew hp3 d4)
      have d34 := d3.trans d4
      obtain ⟨x, hx⟩ : ∃ x, xs[r.toNat]? = some x := ⟨_, List.getElem?_eq_getElem (by omega)⟩
      refine ⟨l, xs, r, x, rfl, rfl, SqL.of hl4, at_of (j := r.toNat) (by omega) hx, ?_⟩
      obtain ⟨dd, hdd, hxd⟩ := px4.get hx
      rw [List.getElem?_map] at hdd
      obtain ⟨⟨cl, pg⟩, hcp, e⟩ := Option.map_eq_some_iff.mp hdd
      subst e
      have hg : (cl, pg) ∈ gd59 := List.mem_of_getElem? hcp
      obtain ⟨_, _, ⟨dc, dp⟩, ⟨sc, sp⟩, ⟨fc, fp⟩, ⟨pc, pp⟩, _⟩ := gd_all hg
      cases hxd with
      | @tup t ws _ ht hw =>
      cases hw with
      | @cons vc _ _ _ hc hw =>
      cases hw with
      | @cons vp _ _ _ hpg hw =>
      cases hw
      refine ⟨t, [vc, vp], rfl, SqT.of ht, rfl, _, _, rfl, _, _, rfl, rfl, ?_⟩
      refine ⟨_, rfl, p, _, rfl, hp4, by decide, by decide, fun way H5 w0 w1 d5 => ?_⟩
      have hp5 := d5.at_
      refine ⟨_, rfl, p, rfl, hp5, fun vo o H6 d6 ho tdo => ?_⟩
      have hp6 := d6.at_
      have hc6 := hc.kt (kt_drew hp4 (d5.trans d6))
      have hpg6 := hpg.kt (kt_drew hp4 (d5.trans d6))
      have d36 := d34.trans (d5.trans d6)
      clear px3 px4 hl3 hl4 ht hc hpg px
      refine ⟨_, _, rfl, ?_⟩
      have hcd : TD K p H6 vc (ofD cl) := TD.pat hp6 hc6 sc
      have hpd : TD K p H6 vp (ofD pg) := TD.pat hp6 hpg6 sp
      refine ⟨fun σ' H' => ∃ (v1 v2 : V) (x y : Th), σ' = [some (.int c), some (.ref p), some (.ref l), some (.int (0 + i)), some vc, some vp, some (.int way), some vo, some v1, some v2, v10] ∧ Drew p H6 H' ∧ TD K p H' v1 x ∧ TD K p H' v2 y ∧ Due cl pg x y, ?_, ?_⟩; rotate_left
      · repeat (first | (refine And.intro ?_ ?_; · (first | exact rfl | (show (_ : Int) ≤ _; omega) | (show (_ : Int) < _; omega) | assumption | exact SqL.of upd_same | exact SqT.of upd_same | exact upd_same | exact Drew.at_ (by assumption) | exact at_of (j := 0) rfl rfl | exact at_of (j := 1) rfl rfl | exact at_of (j := 2) rfl rfl | exact at_of (j := 3) rfl rfl | exact .inr (by assumption) | exact .inl (by assumption) | exact .ty _ | exact dp_ty (by assumption) | exact kit_strD _ | exact kit_tupD _ | exact kit_intD _ | exact kit_boolD _ | exact ⟨_, rfl⟩ | decide | omega | exact (show 0 ≤ sizeLine by decide) | exact (show 1 ≤ sizeLine by decide) | exact (show 2 ≤ sizeLine by decide) | exact (show 3 ≤ sizeLine by decide) | exact (show 4 ≤ sizeLine by decide) | exact (show 5 ≤ sizeLine by decide) | exact (show 6 ≤ sizeLine by decide) | decide +kernel)) | apply Exists.intro | refine iteT ?_ | refine iteF ?_)
        refine ifd (fun cw => ?_) (fun cw => ?_)
        · refine ⟨_, rfl, _, rfl, _, rfl, 6, Nat.le_refl 6, p, vc, vo, cl, o, rfl, hp6, hc6, sc, fc, pc, tdo, fun v' H7 q d7 hq td => ?_⟩
          refine ⟨_, rfl, _, _, rfl, ?_⟩
          exact ⟨v', vp, _, _, rfl, d7, td, hpd.drew d7, Due.c hg ho hq⟩
        · repeat (first | (refine And.intro ?_ ?_; · (first | exact rfl | (show (_ : Int) ≤ _; omega) | (show (_ : Int) < _; omega) | assumption | exact SqL.of upd_same | exact SqT.of upd_same | exact upd_same | exact Drew.at_ (by assumption) | exact at_of (j := 0) rfl rfl | exact at_of (j := 1) rfl rfl | exact at_of (j := 2) rfl rfl | exact at_of (j := 3) rfl rfl | exact .inr (by assumption) | exact .inl (by assumption) | exact .ty _ | exact dp_ty (by assumption) | exact kit_strD _ | exact kit_tupD _ | exact kit_intD _ | exact kit_boolD _ | exact ⟨_, rfl⟩ | decide | omega | exact (show 0 ≤ sizeLine by decide) | exact (show 1 ≤ sizeLine by decide) | exact (show 2 ≤ sizeLine by decide) | exact (show 3 ≤ sizeLine by decide) | exact (show 4 ≤ sizeLine by decide) | exact (show 5 ≤ sizeLine by decide) | exact (show 6 ≤ sizeLine by decide) | decide +kernel)) | apply Exists.intro | refine iteT ?_ | refine iteF ?_)
          refine ifd (fun cw2 => ?_) (fun cw2 => ?_)
          · refine ⟨_, rfl, _, rfl, _, rfl, _, rfl, 6, Nat.le_refl 6, p, vp, vo, pg, o, rfl, hp6, hpg6, sp, fp, pp, tdo, fun v' H7 q d7 hq td => ?_⟩
            refine ⟨_, _, rfl, ?_⟩
            exact ⟨vc, v', _, _, rfl, d7, hcd.drew d7, td, Due.p hg ho hq⟩
          · refine ⟨_, rfl, _, rfl, p, rfl, hp6, fun v' o2 H7 d7 ho2 td => ?_⟩
            refine ⟨_, _, rfl, ?_⟩
            exact ⟨vo, v', _, _, rfl, d7, tdo.drew d7, td, Due.o hg ho ho2⟩
      · rintro σ' H7 ⟨v1, v2, x, y, rfl, d7, t1, t2, du⟩
        have hp7 := d7.at_
        have hc7 := (hcd.drew d7).at_ hp7
        have hpg7 := (hpd.drew d7).at_ hp7
        have t1 := t1.at_ hp7
        have t2 := t2.at_ hp7
        have d37 := d36.trans d7
        clear hcd hpd tdo hc6 hpg6
        obtain ⟨_, ⟨lc, lg⟩, _⟩ := gd_all hg
        refine ⟨_, rfl, _, rfl, (by show 2 ≤ sizeLine; decide), fun e1 he1 => ?_⟩
        have s8 := up (o := .lst [v1, v2]) he1
        refine repr_two (t1.same s8) (t2.same s8) upd_same du.d1 du.d2 du.l1 du.l2 fun H8 x8 => ?_
        have s78 := tr s8 x8
        refine ⟨_, rfl, _, rfl, (by show 2 ≤ sizeLine; decide), fun e2 he2 => ?_⟩
        have s9 := up (o := .lst [vc, vp]) he2
        have s79 := tr s78 s9
        refine repr_two (hc7.same s79) (hpg7.same s79) upd_same dc dp (by rw [ofD_t]; omega) (by rw [ofD_t]; omega) fun H9 x9 => ?_
        have s710 := tr s79 x9
        refine ⟨rfl, ?_⟩
        refine ⟨_, rfl, _, rfl, ⟨v1, v2, x.d, y.d, rfl, (t1.same s710).dp, (t2.same s710).dp, du.ok2.small, du.ok1.texts, fun r H10 hr s10 => ?_⟩⟩
        refine repr_flat (v := .bl r) rfl ?_
        refine ⟨_, rfl, ?_⟩
        refine repr_flat rfl ?_
        rw [ofD_t, ofD_t]
        have e : r = decide (V.str (listText [x.t, y.t]) = V.str (listText [cl.shown, pg.shown])) := by
          rw [Bool.eq_iff_iff, hr, du.due, decide_eq_true_iff]
          exact ⟨fun z => by rw [z], fun z => V.str.inj z⟩
        rw [← e]
        refine ⟨rfl, ⟨_, rfl, ?_⟩⟩
        refine ifw_neg (by rw [decide_eq_true rfl]; rfl) ?_
        exact ⟨(d37.same s710).same s10, _, _, _, _, _, _, _, _, rfl⟩
    · rintro σ H3 ⟨d3, v3, v4, v5, v6, v7, v8, v9, v10, rfl⟩
      refine k H3 (sm_drew ?_ d3 p0)
      exact tr s1 s2
end
section
variable {P : Program} {w : World} {K : PySem.W.Frag} {mg : Str → Option Value} {base : Heap}
theorem ok_law (T : Tx w K mg) : PromG P w K mg base 16 "law" s_law ["_law_cells"] (spLaw K) := by
  refine PromG.of T.d_law sc_law (fun vs H Q E h => ?_) (fun _ _ _ _ _ _ us hl => match us, hl with | [_], _ => rfl) (fun f cdv A outer s H vs Q E hr hgd h => ?_)
  · obtain ⟨a, ns, rfl, _⟩ := h
    rfl
  · obtain ⟨a, ns, rfl, hS, hl, hz, k⟩ := h
    refine ⟨_, (pss_cons (ps_if (pt_not (pt_val (pe_callP0 (ok_L_by_hand T) (hr.mono (by decide)) (by rfl) pass0))) (pss_one (ps_ret pe_bl)) pss_nil)
      (pss_one (ps_ret (pe_callB (cr_all rfl) (by rfl) T.b_all (by decide +kernel) (pa_cons (pe_lc (own := [("_law_k", 1)]) (g := (gName 1)) (tt := tYes) (by rfl) sc_law.nd (pi_range1 (by rfl) T.b_range (pa_cons (pe_callB (call_max2 rfl) (by rfl) T.b_max (by decide +kernel) (pa_cons pe_int (pa_cons (pe_callB (call_min2 rfl) (by rfl) T.b_min (by decide +kernel) (pa_cons (pe_callB call_len_seq (by rfl) T.b_len (by decide +kernel) (pa_cons (pv 0) pa_nil)) (pa_cons pe_int pa_nil))) pa_nil))) pa_nil)) (blkOk_by (own := [("_law_k", 1)]) (N := ["_law_cells", "_law_k"]) (sc := defScope s_law) (by decide +kernel)) (fun _ _ _ _ _ => (pg_name (i := 1) sc_law.nd rfl (Or.inl rfl))) (fun _ _ _ _ _ => pts_nil) (fun _ _ _ _ _ => (pe_callG (ok_L_right T) hgd (hr.mono (by decide)) (by rfl) (pa_cons (pe_callP (ok_L_cell T) (hr.mono (by decide)) (by rfl) pass0 (pa_cons (pv 0) (pa_cons (pv 1) pa_nil))) pa_nil)))) pa_nil))))), ?_⟩
    refine ⟨rfl, fun H0 s0 => ?_⟩
    refine ⟨_, rfl, ?_⟩
    refine ifw_neg rfl ?_
    have hS := s0.seq hS
    refine ⟨_, rfl, _, _, rfl, .inl hS, _, _, rfl, _, _, rfl, _, rfl, ?_, ?_, fun D hD => ?_⟩
    · split <;> split <;> omega
    · split <;> split <;> omega
    refine lc_range (lo := 0) (Pv := fun i H' => Same H0 H' ∧ H' D = some (.lst (List.replicate i (.bl true)))) ⟨fun b o e => by rw [upd_ne (ne_of_none e hD)]; exact e, upd_same⟩ ?_ ?_
    · rintro i H' hi ⟨hs, hl2⟩
      refine ⟨rfl, _, rfl, _, rfl, a, ns, _, rfl, hs.seq hS, by omega, ?_, fun z => ?_⟩
      · rw [List.length_map] at hi
        split at hi <;> split at hi <;> omega
      refine ⟨z, rfl, fun H4 s4 => ?_⟩
      refine ⟨_, s4 _ _ hl2, ?_, fun b o e => ?_, ?_⟩
      · rw [List.length_replicate]
        rw [List.length_map] at hi
        refine Nat.lt_of_lt_of_le (m := 100) ?_ (by decide)
        split at hi <;> split at hi <;> omega
      · rw [upd_ne (ne_of_none e hD)]
        exact s4 _ _ (hs _ _ e)
      · rw [upd_same, List.replicate_succ']
    · rintro H' ⟨hs, hl2⟩
      refine ⟨D, List.replicate _ true, rfl, SqL.of (by rw [List.map_replicate]; exact hl2), ?_⟩
      have e : ∀ n : Nat, (List.replicate n true).all id = true := fun n => by simp
      show Q (.bl ((List.replicate _ true).all id)) H'
      rw [e]
      exact k _
end
theorem facts {P : Program} {w : World} {K : PySem.W.Frag} {h : Heap} {mg : Str → Option Value} {f : Addr} (X : K.In h) (G : h.Ns mainGlobals mg) (hfa : mg ("law" : Str) = some (.ref f)) (c0 : SaysX fbL faL fnL tabL w K) :
    ∃ fd : FuncData, (∀ (s : Shared) (v : Value), BindsTo s fd ⟨[v], []⟩ [("_law_cells", v)]) ∧ ∀ base : Heap, K.In base → base.Ns mainGlobals mg → FnG P w K mg base 16 f fd ["_law_cells"] (spLaw K) := by
  have T := tx_of (w := w) X G c0
  have c : He.SaysD faL fnL K := c0.t.d
  obtain ⟨fd, F⟩ := c.def_ 42 (d := dd_law) rfl
  have hm := He.glo_ok X G (c.fact 42 (f := .glo "law") rfl)
  have e := hfa.symm.trans hm
  cases e
  have b := FunD.bindsA (ps := ["_law_cells"]) F fun _ _ _ _ _ _ us hl => match us, hl with | [_], _ => rfl
  refine ⟨fd, fun s v => b s [v] rfl, fun base _ _ => ?_⟩
  obtain ⟨f', fd', F', hm', D', _⟩ := (ok_law (P := P) (w := w) (base := base) T).ex
  cases hm.symm.trans hm'
  have efd : fd' = fd := by
    obtain ⟨_, _, _, _, _, _, _, _, _, _, _, l1, _⟩ := F.ex
    obtain ⟨_, _, _, _, _, _, _, _, _, _, _, l2, _⟩ := D'.ex
    have l2' := l2.symm.trans l1
    injection l2' with l3
    injection l3 with _ _ l4 _
    injection l4
  rw [← efd]
  exact F' 
end Sz
open PySem PySem.W PySem.Calls PyProof.Rows in
set_option maxRecDepth 100000 in
set_option maxHeartbeats 0 in
theorem PySem.Challenge.cw_sizestacks_k59_values_of_any_kind_judged_holds : PySem.Challenge.rw_sizestacks_k59_values_of_any_kind_judged.Holds := by
  w_on; o_law
  refine HandSHeadRun.head_any (r := OpenLaw.row PySem.Challenge.rw_sizestacks_k59_values_of_any_kind_judged) (q := view (OpenLaw.row PySem.Challenge.rw_sizestacks_k59_values_of_any_kind_judged).prog [78]) (H := Sz.hk) (ob := Sz.ob) (M := 30000) (loose := Sz.looseL) (d := HandSHeadRun.topDef (OpenLaw.row PySem.Challenge.rw_sizestacks_k59_values_of_any_kind_judged).prog 78) (kwd := []) Sz.ob_eq
    (by kernel_rfl) (fun z => by kernel_rfl) Sz.run (by kernel_rfl) (by kernel_rfl) (by kernel_rfl) (by rfl) (by first | assumption | decide +kernel) (by decide +kernel) ⟨rfl, rfl, rfl, rfl, rfl, by decide +kernel⟩ ?hw ?hc
  case hw => w_witness2
  case hc =>
    refine Sz.walk_ofG (l := PySem.Challenge.rw_sizestacks_k59_values_of_any_kind_judged) (n := 63) (k := 16) (x := "_law_cells") rfl (by decide) (by kernel_rfl) ⟨rfl, by decide, by decide⟩ ?F
    intro w mg fa h Y G hmg0
    obtain ⟨K, KX, c⟩ := Y
    have hmg : mg ("law" : PySem.Str) = some (.ref fa) := by
      have e : (HandSHeadRun.topDef (OpenLaw.row PySem.Challenge.rw_sizestacks_k59_values_of_any_kind_judged).prog 78).name = ("law" : PySem.Str) := by kernel_rfl
      rw [← e]
      exact hmg0
    obtain ⟨fd, hb, hF⟩ := Sz.facts (P := (PySem.Challenge.rw_sizestacks_k59_values_of_any_kind_judged).prog) (w := w) KX G hmg c
    exact ⟨K, fd, Sz.spLaw K, KX, hb, fun H a ns hl hz hS => ⟨a, ns, rfl, hS, hl, hz, fun _ => rfl⟩, hF⟩
