import PyProof.Rows.All
import Wide.All
import OpenK.AllK
import Wide.FinOn
import KE.KStateDown
import HandS.ForMost
import HandS.Exc
import HandS.Wide
import HandS.WideBits
import HandS.IsInst
import HandS.Style
import HandS.RaiseMore
import HandS.Defaults
import HandS.Evl
import HandS.EndBits
import HandS.Words
import HandS.WordsExc
import HandS.Head0
import HandS.Head1
import HandS.Head2
import HandS.HeadEnd
import HandS.HeadHook1
import HandS.HeadHook2
import PyProof.FString3
import HandS.FStr
import PyProof.Rows.StrIntSpec
import HandS.HeadHook3
import HandS.Star
import HandS.Text
import HandS.Walk
import KE.GoesMore
import PyProof.LongRange
import HandS.Conv
import PyProof.StrLawsRepr
import PyProof.InstSpecial
import HandS.SetBool
import HandS.Strs
import HandS.SortInts
import HandS.OwnEq
import KE.KFmtOwn
import PyProof.InstNe
import OpenK.KOps
import HandS.Zip
import HandS.TupAny
import HandS.DeepEq
import PyProof.NeKinds
import HandS.Dict
import KE.GoesZip
import KE.GoesEnum
import KE.KDictList
import HandS.More
import HandS.ExcInit
import HandS.HotCalls
import HandS.ExcIs
import HandS.ExcField
import KE.KTryMore
import KE.KExcInit
import HandS.SetFor
import HandS.EndTab
import HandS.HeadHook4
import KE.KCallOwn
import HandS.Deep
import HandS.Small
import HandS.NoneIn
import PySem.Challenge.RW_sizestacks_k67_whole_totals_and_missed
set_option Elab.async false
set_option linter.all false
set_option maxRecDepth 100000
set_option maxHeartbeats 4000000
set_option exponentiation.threshold 20000
/-! Own base: a def by its promise, a few rules more. -/
namespace Sz
open PySem PySem.Spec PyProof.Rows L2

/-- a def of the text, by its name -/
def DefAt (K : PySem.W.Frag) (mg : Str → Option Value) (x : Str) (st : Stmt) : Prop :=
  ∃ f fd, FunD K x x (defArgs st) (defBody st) (defScope st) [] [] f fd ∧ mg x = some (.ref f)

/-- the def named x keeps the promise sp -/
structure Prom (P : Program) (w : World) (K : PySem.W.Frag) (mg : Str → Option Value) (base : Heap) (CX : CXT) (k : Nat) (x : Str) (st : Stmt) (ps : List Str) (sp : Sp) : Prop where
  ex : ∃ f fd, FnOk P w K mg base CX k f fd ps sp ∧ mg x = some (.ref f) ∧ FunD K x x (defArgs st) (defBody st) (defScope st) [] [] f fd ∧ Binds K fd ps []

section
variable {P : Program} {w : World} {K : PySem.W.Frag} {mg : Str → Option Value} {base : Heap}
theorem Prom.of {x : Str} {st : Stmt} {ps N : List Str} {sp : Sp} {k : Nat} (D : DefAt K mg x st) (S : FnScope N ps (defScope st)) (len : ∀ vs H Q E, sp vs H Q E → vs.length = ps.length)
    (hb : ∀ (kV doc pm : Value) (an : Option Addr) (cdv ct : Value) (us : List Value), us.length = ps.length → bindArgs (PySem.W.fnOf x x (defArgs st) (defBody st) (defScope st) .none kV doc pm an cdv ct) ⟨us, []⟩ = pure (ps.zip us))
    (hbody : ∀ (f : Addr) (cdv : Value) (A : Around) (outer : List Env) (s : Shared) (H : Hp) (vs : List V) (Q : VK) (E : XK), Room k (A.deeper (envOfC x (defScope st) s.heap.objs.size f cdv)) → sp vs H Q E →
      ∃ t, PSs (cxOf CX0 P w K mg base N x (defScope st) f cdv A outer s H E).nox (defBody st) t ∧ t { nx := fun _ H' => Q .non H', rt := Q } (start N vs) H) :
    Prom P w K mg base CX0 (k + 1) x st ps sp := by
  obtain ⟨f, fd, F, hm⟩ := D
  refine ⟨f, fd, F.ok S len (fun cdv A outer s H vs Q E hr hs => ?_), hm, F, F.bindsN hb⟩
  obtain ⟨t, h1, h2⟩ := hbody f cdv A outer s H vs Q E hr hs
  exact ⟨t, h1.nox, h2⟩
end

section
variable {X : Cx} {CX : CXT} {k : Nat} {x : Str} {st : Stmt} {ps : List Str} {sp : Sp} {E : XK} {e : Expr} {es : List Expr} {t tk : TA} {p pos : Pos} {kws : List Keyword} {ks : List Str}
theorem pe_callP (G : Prom X.prog X.w X.K X.mg X.base CX k x st ps sp) (hr : Room k X.A) (hg : Gl X x) (hx : Passes CX X E) (ha : PA X (e :: es) t)
    (hdb : (x == ("__debug__" : Str)) = false := by decide) (he : starEach (e :: es) X.env = (false, eval e X.env) :: starEach es X.env := by rfl) (hpl : (backTo pos (starEach es X.env)).any (·.1) = false := by rfl) :
    PE X (.Call (.Name x p) (e :: es) [] pos) (tCall sp [] E t) := by
  obtain ⟨f, fd, F, hm, D, hb⟩ := G.ex
  exact pe_call F hr hg hm D.kp hb .nil hx ha hdb he hpl
/-- f(k = v, ..), keywords alone -/
theorem pe_callKP {g : List Value → List Value → List Value} {gV : List V → List V → List V} (G : Prom X.prog X.w X.K X.mg X.base CX k x st ps sp) (hr : Room k X.A) (hg : Gl X x) 
    (hb : ∀ fd f, FunD X.K x x (defArgs st) (defBody st) (defScope st) [] [] f fd → KBinds X.K fd ps ks g gV) (hx : Passes CX X E)
    (hkw : PK X kws tk) (hall : (backToKw pos (keywordEach kws X.env)).all (·.1.isSome) = true := by rfl) (hks : (backToKw pos (keywordEach kws X.env)).filterMap (·.1) = ks := by rfl)
    (hdb : (x == ("__debug__" : Str)) = false := by decide)
    (hpl : ((backTo pos (starEach [] X.env)).any (·.1) || (backToKw pos (keywordEach kws X.env)).any (·.1.isNone)) = false := by rfl) :
    PE X (.Call (.Name x p) [] kws pos) (tCallK sp gV E tNil tk) := by
  obtain ⟨f, fd, F, hm, D, _⟩ := G.ex
  have hb := hb fd f D
  refine ⟨fun pins s σ H Q I h => ?_⟩
  refine wpAny_Call_Name_kw (ld_glob I hg hm ?_ hdb)
  refine PySem.W.callWith_KW0 (h₀ := X.base) I.ok.mod.kin D.kp hall (thn (hkw.run pos pins s σ H _ I h) fun ws s2 z => ?_) hpl
  obtain ⟨zs, H2, I2, rz, q2⟩ := z
  refine ⟨I2.kIn, ?_⟩
  rw [hks]
  exact run_fnk F hr hb hx I2 .nil rz q2
/-- the keywords' values put in the parameters' order -/
def perm {α : Type} (ix : List Nat) (us ws : List α) : List α := match us with
  | [] => if ws.length = ix.length then ix.filterMap fun i => ws[i]? else []
  | _ :: _ => []
theorem perm_vals {ix : List Nat} {vs zs : List V} {us ws : List Value} (r : Vals vs us) (z : Vals zs ws) : Vals (perm ix vs zs) (perm ix us ws) := by
  cases r with
  | cons _ _ => exact .nil
  | nil =>
    show Vals (if zs.length = ix.length then _ else _) (if ws.length = ix.length then _ else _)
    rw [z.length]
    by_cases c : ws.length = ix.length
    · rw [if_pos c, if_pos c]
      clear c
      induction ix with
      | nil => exact .nil
      | cons i ix ih =>
        rw [List.filterMap_cons, List.filterMap_cons]
        cases e : zs[i]? with
        | none =>
          rw [z.none_of e]
          exact ih
        | some v =>
          obtain ⟨u, hu, rv⟩ := z.get e
          rw [hu]
          exact .cons rv ih
    · rw [if_neg c, if_neg c]
      exact .nil
theorem kb_of {K : PySem.W.Frag} (ix : List Nat) (hne : 0 < ps.length)
    (h : ∀ (kV doc pm : Value) (an : Option Addr) (cdv ct : Value) (ws : List Value), ws.length = ix.length → bindArgs (PySem.W.fnOf x x (defArgs st) (defBody st) (defScope st) .none kV doc pm an cdv ct) ⟨[], ks.zip ws⟩ = pure (ps.zip (perm ix [] ws))) :
    ∀ fd f, FunD K x x (defArgs st) (defBody st) (defScope st) [] [] f fd → KBinds K fd ps ks (perm ix) (perm ix) := fun fd f F => by
  obtain ⟨oc, od, dV, kV, doc, pm, an, cdv, ct, osl, rfl, lk, hcd, hD, hK⟩ := F.ex
  rcases hD with ⟨_, rfl⟩ | ⟨e, _⟩
  · refine ⟨fun s us ws _ hl => ?_, fun r z => perm_vals r z⟩
    cases us with
    | cons u us =>
      have e0 : (perm ix (u :: us) ws).length = 0 := rfl
      omega
    | nil =>
      by_cases c : ws.length = ix.length
      · exact .of_eq (h kV doc pm an cdv ct ws c)
      · have e0 : perm ix [] ws = [] := if_neg c
        rw [e0] at hl
        simp at hl
        omega
  · exact absurd rfl e
/-- a constant of the module -/
theorem pe_gint {v : Int} (h : ∃ u, X.mg x = some (.int v u)) (hg : Gl X x := by rfl) (hd : (x == ("__debug__" : Str)) = false := by decide) : PE X (.Name x pos) (tC (.int v)) := by
  obtain ⟨u, hm⟩ := h
  exact pe_glob hg hm ⟨_, rfl⟩ hd
theorem op_isnotBl : OpR X (compareOp .IsNot) (fun x y H Q => ∃ b : Bool, y = .bl b ∧ Q (.bl (!decide (x = .bl b))) H) := by
  intro pins s σ H x y v u Q I rx ry h
  obtain ⟨b, rfl, q⟩ := h
  cases (show u = Value.bool b from ry)
  have key : plainIs v (Value.bool b) = true ∧ (v = Value.bool b ↔ x = .bl b) := by
    cases x with
    | non => cases (show v = Value.none from rx); exact ⟨rfl, by constructor <;> intro z <;> cases z⟩
    | bl c => cases (show v = Value.bool c from rx); exact ⟨rfl, by constructor <;> intro z <;> cases z <;> rfl⟩
    | int i => obtain ⟨t, rfl⟩ := (show ∃ t, v = Value.int i t from rx); exact ⟨rfl, by constructor <;> intro z <;> cases z⟩
    | str i => obtain ⟨t, rfl⟩ := (show ∃ t, v = Value.str i t from rx); exact ⟨rfl, by constructor <;> intro z <;> cases z⟩
    | byt i => obtain ⟨t, rfl⟩ := (show ∃ t, v = Value.bytes i t from rx); exact ⟨rfl, by constructor <;> intro z <;> cases z⟩
    | flt i => obtain ⟨t, rfl⟩ := (show ∃ t, v = Value.float i t from rx); exact ⟨rfl, by constructor <;> intro z <;> cases z⟩
    | ref a => cases (show v = Value.ref a from rx); exact ⟨rfl, by constructor <;> intro z <;> cases z⟩
    | ty n => cases (show v = Value.type n from rx); exact ⟨rfl, by constructor <;> intro z <;> cases z⟩
  by_cases e : x = .bl b
  · have ev := key.2.mpr e
    subst ev
    exact wpAny_isNot_self rfl ⟨.bl false, H, I, rfl, by simpa [e] using q⟩
  · exact wpAny_isNot_other key.1 (fun z => e (key.2.mp z)) ⟨.bl true, H, I, rfl, by simpa [e] using q⟩
/-- repr of a flat value -/
def flatShown : V → Option Str
  | .non => some "None"
  | .bl b => some (if b then "True" else "False")
  | .int i => if i.natAbs.log2 < 1920 then some (toString i) else none
  | _ => none
theorem cr_repr : CallR X (.builtin "repr") (fun xs H Q => ∃ v z, xs = [v] ∧ flatShown v = some z ∧ Q (.str z) H) := by
  intro pins s σ H xs us Q I r h
  obtain ⟨v, z, rfl, hz, q⟩ := h
  obtain ⟨u, rfl, ru⟩ := vals1 r
  cases v with
  | non =>
    cases (show u = Value.none from ru)
    obtain rfl : ("None" : Str) = z := Option.some.inj hz
    exact PySem.P.repr_of_none ⟨.str _, H, I.tok _, ⟨_, rfl⟩, q⟩
  | bl b =>
    cases (show u = Value.bool b from ru)
    obtain rfl : (if b then "True" else "False" : Str) = z := Option.some.inj hz
    exact PySem.P.repr_of_bool ⟨.str _, H, I.tok _, ⟨_, rfl⟩, q⟩
  | int i =>
    obtain ⟨t, rfl⟩ := (show ∃ t, u = Value.int i t from ru)
    have hz2 : (if i.natAbs.log2 < 1920 then some (toString i : Str) else none) = some z := hz
    by_cases c : i.natAbs.log2 < 1920
    · rw [if_pos c] at hz2
      obtain rfl := Option.some.inj hz2
      exact PySem.P.repr_of_int c ⟨.str _, H, I.tok _, ⟨_, rfl⟩, q⟩
    · rw [if_neg c] at hz2
      cases hz2
  | _ => cases hz
/-- a power of any size that the model takes -/
def CPowW (i j : Int) : Prop := 1 < i ∧ 0 < j ∧ ∃ n : Nat, i.natAbs < 2 ^ n ∧ (n : Int) * j ≤ 134217728
theorem op_powW : OpR X (binaryOp .Pow) (rI CPowW fun i j => .int (i ^ j.toNat)) := opI fun i j t u s Q E hc q => by
  obtain ⟨h1, h2, n, h3, h4⟩ := hc
  have hb : ¬ Builtin.Int.intTooBig (((Builtin.Int.intBits i : Nat) : Int) * j) = true := by
    have e : bitsLine = 134217728 := by decide
    have b := PyProof.Rows.intBits_le h3
    have m : ((Builtin.Int.intBits i : Nat) : Int) * j ≤ (n : Int) * j := Int.mul_le_mul_of_nonneg_right (by omega) (by omega)
    unfold Builtin.Int.intTooBig
    rw [decide_eq_true_eq, e]
    omega
  refine PySem.AutoIntOps.pow_4 (by omega) (by simpa using (show ¬ j = 0 by omega)) (by simpa using (show ¬ i = 0 ∧ ¬ i = 1 by omega)) (by simpa using (show ¬ i = -1 by omega)) hb ?_
  exact q
/-- divmod by a positive number of at most 30 figures -/
theorem divp_small {i j : Int} (h : 0 < j) (h2 : j ≤ 1000000000000000000000000000000) : CDivP i j := by
  refine ⟨h, PyProof.noPylong_of_log2 ?_⟩
  have h3 : j.natAbs < 2 ^ 200 := Nat.lt_of_le_of_lt (show j.natAbs ≤ 1000000000000000000000000000000 by omega) (by decide)
  exact Nat.lt_of_lt_of_le (PySem.Flt.log2_lt_of (by decide) h3) (by decide)
end
/-! ### what an if's test says -/
theorem ifd {c A B : Prop} [Decidable c] (h1 : c → A) (h2 : ¬ c → B) : if decide c = true then A else B := by
  by_cases h : c
  · rw [decide_eq_true h, if_pos rfl]; exact h1 h
  · rw [decide_eq_false h, if_neg Bool.false_ne_true]; exact h2 h
theorem ifd_pos {c A B : Prop} [Decidable c] (h : c) (hA : A) : if decide c = true then A else B := by
  rw [decide_eq_true h, if_pos rfl]; exact hA
theorem ifd_neg {c A B : Prop} [Decidable c] (h : ¬ c) (hB : B) : if decide c = true then A else B := by
  rw [decide_eq_false h, if_neg Bool.false_ne_true]; exact hB
theorem ifn {c A B : Prop} [Decidable c] (h1 : ¬ c → A) (h2 : c → B) : if (!decide c) = true then A else B := by
  by_cases h : c
  · rw [decide_eq_true h]; exact h2 h
  · rw [decide_eq_false h]; exact h1 h
/-- all but p stands as it stood -/
def Kp (p : Addr) (H H' : Hp) : Prop := ∀ b o, b ≠ p → H b = some o → H' b = some o
theorem Kp.refl (p : Addr) (H : Hp) : Kp p H H := fun _ _ _ h => h
theorem Kp.trans {p : Addr} {H H1 H2 : Hp} (a : Kp p H H1) (b : Kp p H1 H2) : Kp p H H2 := fun c o n h => b c o n (a c o n h)
theorem Kp.set {p : Addr} {H H' : Hp} {o : HO} (a : Kp p H H') : Kp p H (L2.upd H' p o) := fun b u n h => by
  rw [upd_ne n]
  exact a b u n h
theorem Kp.new {p q : Addr} {H H' : Hp} {o : HO} (a : Kp p H H') (h : H' q = none) : Kp p H (upd H' q o) := fun b u n e => by
  have e2 := a b u n e
  rw [upd_ne (ne_of_none e2 h)]
  exact e2
end Sz
/-! f"{x:>12}" of a number, " " * n -/
namespace Sz
open PySem PySem.Spec PyProof.Rows L2 PySem.Builtin PySem.Builtin.Float
def f12 : FormatSpec := { align := 62, width := some 12 }
theorem parse12 : parseFormatSpec (Str.ofString ">12").cps.toList "int" 62 = .ok f12 := by kernel_rfl
theorem gives12 (a : Int) (t u : Tok) (hd : a.natAbs.log2 < 1920) : Gives (Builtin.«int.__format__» ⟨[.int a t, .str (Str.ofString ">12") u], []⟩) (.str (intSpecText f12 a)) := by
  intro prog w A R s hq
  obtain ⟨hlen, hq⟩ := hq
  have hne : ((Str.ofString ">12").length == 0) = false := by decide
  have hasc : (((Str.ofString ">12").cps.toList.drop 1).any (· ≥ 128) || ((Str.ofString ">12").cps.getD 0 0 ≥ 128 && !([60, 62, 61, 94] : List Nat).contains ((Str.ofString ">12").cps.getD 1 0))) = false := by decide
  have hp := parse12
  have hty : f12.type.getD (if (Str.ofString ">12").cps.back? == some 0 then 0 else 100) = 100 := by decide
  generalize Str.ofString ">12" = spec at hne hasc hp hty ⊢
  unfold Builtin.«int.__format__»
  simp only [selfAndOne, noKeywords, Int.intOfSelf, asInt?, asStr?, List.isEmpty_nil, if_true, pure_bind, bind_pure, bind_assoc, hne, hasc, Bool.false_eq_true, if_false,
    show (Value.str spec u == Value.none) = false from rfl]
  refine wpAny_bind (wpAny_typeNameOf (T := "str") (typeIs_str _ _ _) (by decide) fun _ => ?_)
  refine wpAny_bind (wpAny_typeNameOfCut_int ?_)
  simp only [hp, hty]
  rw [if_pos (by decide)]
  show wpAny _ _ (do let r ← Builtin.overDigitLimit? a; _) _ _ _
  rw [PySem.overDigitLimit_small hd]
  refine wpAny_bind (wpAny_pure ?_)
  show wpAny _ _ (retStr _) _ _ _
  unfold retStr
  have e : ∀ (y : Str), intSpecText f12 a = y → y.length ≤ sizeLine ∧ R (.ok (.ret (.str y s.toks))) { s with toks := s.toks + 1 } := fun y hy => by
    subst hy
    exact ⟨hlen, hq⟩
  refine wpAny_bind (wpAny_mkStr (wpAny_pure (e _ ?_).2) (e _ ?_).1)
  · unfold intSpecText
    generalize Nat.toDigits 10 a.natAbs = ds
    generalize decide (a < 0) = ng
    rfl
  · unfold intSpecText
    generalize Nat.toDigits 10 a.natAbs = ds
    generalize decide (a < 0) = ng
    rfl
def spaces (k : Nat) : Str := ⟨(List.replicate k 32).toArray⟩
theorem spaces_len (k : Nat) : (spaces k).length = k := by
  show (List.replicate k 32).toArray.size = k
  simp
theorem fold_spaces : ∀ (k : Nat) (acc : Array Nat), (List.replicate k #[32]).foldl (· ++ ·) acc = acc ++ (List.replicate k 32).toArray
  | 0, acc => by simp
  | k + 1, acc => by
    rw [List.replicate_succ, List.foldl_cons, fold_spaces k, List.replicate_succ]
    apply Array.ext'
    simp
/-- the text of a number, at least twelve signs -/
def pad12 (i : Int) : Str := spaces (12 - (toString i : Str).length) ++ (toString i : Str)
theorem pad_eq {i : Int} (h : 0 ≤ i) : intSpecText f12 i = pad12 i := by
  obtain ⟨m, rfl⟩ : ∃ m : Nat, i = (m : Int) := ⟨i.toNat, by omega⟩
  have e : (toString (m : Int) : Str) = ⟨((Nat.toDigits 10 m).map Char.toNat).toArray⟩ := text_ofNat m
  unfold pad12
  rw [e]
  have hd : (Nat.toDigits 10 m) ≠ [] := by
    intro h
    have := Nat.length_repr_pos (n := m)
    unfold Nat.repr at this
    rw [h] at this
    simp at this
  unfold intSpecText
  have en : decide ((m : Int) < 0) = false := decide_eq_false (by omega)
  rw [en]
  have ea : (m : Int).natAbs = m := rfl
  rw [ea]
  have em : ((Nat.toDigits 10 m).map fun c => (if ((100 : Nat) == 88) = true then c.toUpper else c).toNat) = (Nat.toDigits 10 m).map Char.toNat := rfl
  rw [em]
  generalize hds : (Nat.toDigits 10 m).map Char.toNat = ds
  have hne : ds.isEmpty = false := by
    rw [← hds]
    cases h : Nat.toDigits 10 m with
    | nil => exact absurd h hd
    | cons _ _ => rfl
  have el : (Str.mk ds.toArray).length = ds.length := rfl
  unfold intField' spaces
  simp only [f12, hne, el]
  show Str.mk _ = Str.mk _ ++ Str.mk _
  rw [show ∀ a b : Array Nat, Str.mk a ++ Str.mk b = Str.mk (a ++ b) from fun _ _ => rfl]
  congr 1
  apply Array.ext'
  simp
section
variable {X : Cx}
def tFmt12 (te ts : TE) : TE := fun σ H Q => te σ H fun x H1 => ts σ H1 fun y H2 => ∃ i : Int, x = .int i ∧ y = .str (Str.ofString ">12") ∧ 0 ≤ i ∧ i.natAbs.log2 < 1920 ∧ (pad12 i).length ≤ sizeLine ∧ Q (.str (pad12 i)) H2
theorem pe_fmt12 {e spec : Expr} {te ts : TE} {pos : Pos} (he : PE X e te) (hs : PE X spec ts) : PE X (.FormattedValue e (-1) (some spec) pos) (tFmt12 te ts) := by
  refine ⟨fun pins s σ H Q I h => ?_⟩
  refine wpAny_FormattedValue_spec (thn (he.run pins s σ H _ I h) fun v s1 hv => ?_)
  obtain ⟨x, H1, I1, r1, q⟩ := hv
  refine thn (hs.run pins s1 σ H1 _ I1 q) fun u s2 hu => ?_
  obtain ⟨y, H2, I2, r2, i, rfl, rfl, i0, hd, hl, q⟩ := hu
  obtain ⟨t, rfl⟩ := r1
  obtain ⟨t2, rfl⟩ := r2
  refine ⟨_, t2, rfl, ?_⟩
  refine wpAny_formatField_spec (T := "int") (idf := "int.__format__") (x := pad12 i) (by decide) (fun s' => typeIs_int s' i t) PySem.F.slot_int_format PySem.F.entry_int_format (fun a b => PySem.F.args_int_format_2 a b) (fun u => ?_) ⟨.str (pad12 i), H2, (I2.tok _), ⟨_, rfl⟩, q⟩ (by decide) hl
  rw [← pad_eq i0]
  exact gives12 i t u hd
/-- f'..' of two parts or more, within a comprehension -/
def tJn (ts : List TE) : TE := fun σ H Q => tJs ts Str.empty σ H fun out H1 => Q (.str out) H1
theorem pe_joinedN {v1 v2 : Expr} {rest : List Expr} {ts : List TE} {pos : Pos} (h : PJ X (v1 :: v2 :: rest) ts) : PE X (.JoinedStr (v1 :: v2 :: rest) pos) (tJn ts) := pe_joined h
/-- " " * n -/
theorem op_mulS : OpR X (binaryOp .Mult) (fun x y H Q => ∃ n : Int, x = .str " " ∧ y = .int n ∧ -1000 ≤ n ∧ n ≤ 1000 ∧ Q (.str (spaces n.toNat)) H) := by
  intro pins s σ H x y v u Q I rx ry h
  obtain ⟨n, rfl, rfl, n0, n1, q⟩ := h
  obtain ⟨t, rfl⟩ := rx
  obtain ⟨t2, rfl⟩ := ry
  refine PySem.P.mul_str ?_ (fun h1 h2 => ?_) (fun h1 h2 => ?_) ?_
  · have h1 : ¬ n < -(2 ^ 63 : Int) := by omega
    have h2 : ¬ n ≥ 2 ^ 63 := by omega
    rw [decide_eq_false h1, decide_eq_false h2]
    rfl
  · have e : ((" " : Str).length : Int) = 1 := by decide
    rw [e]
    have : n * 1 ≤ 2 ^ 63 - 1 := by omega
    have := Int.le_ediv_of_mul_le (show 0 < n by omega) (a := 1) (b := 2 ^ 63 - 1) (by omega)
    omega
  · have e : (" " : Str).length = 1 := by decide
    rw [e]
    unfold PySem.Builtin.Str.tooLong
    exact decide_eq_false (by rw [sizeLine_eq]; omega)
  · by_cases c : n < 1
    · rw [if_pos c]
      have e : n.toNat = 0 := by omega
      rw [e] at q
      exact ⟨by decide, .str _, H, I.tok _, ⟨_, rfl⟩, q⟩
    · rw [if_neg c]
      by_cases d : n = 1
      · subst d
        rw [if_pos (by decide)]
        exact ⟨.str _, H, I, ⟨_, rfl⟩, q⟩
      · rw [if_neg (by simp [d]; decide)]
        have e : (⟨(List.replicate n.toNat (" " : Str).cps).foldl (· ++ ·) #[]⟩ : Str) = spaces n.toNat := by
          show Str.mk ((List.replicate n.toNat #[32]).foldl (· ++ ·) #[]) = _
          rw [fold_spaces]
          simp [spaces]
        rw [e]
        exact ⟨by rw [spaces_len, sizeLine_eq]; omega, .str _, H, I.tok _, ⟨_, rfl⟩, q⟩
end
end Sz
namespace Sz
open PySem PySem.Spec PyProof.Rows L2
/-! ### defs that show containers: nothing is being shown around their call -/
structure FnG (P : Program) (w : World) (K : PySem.W.Frag) (mg : Str → Option Value) (base : Heap) (k : Nat) (f : Addr) (fd : FuncData) (ps : List Str) (sp : Sp) : Prop where
  len : ∀ vs H Q E, sp vs H Q E → vs.length = ps.length
  run : ∀ (A : Around) (outer : List Env) (s : Shared) (H : Hp) (args : Args) (us : List Value) (vs : List V) (Q : VK) (E : XK), Room k A → A.guards = some [] → Env0 P w K mg base A outer s H →
    BindsTo s fd args (ps.zip us) → Vals vs us → sp vs H Q E → codeAny (model P w) A (.call (.ref f) args) (CR CX0 outer P w H s Q E) s
theorem FnG.of {P : Program} {w : World} {K : PySem.W.Frag} {mg : Str → Option Value} {base : Heap} {k : Nat} {f : Addr} {fd : FuncData} {ps : List Str} {sp : Sp} (F : FnOk P w K mg base CX0 k f fd ps sp) : FnG P w K mg base k f fd ps sp :=
  ⟨F.len, fun A outer s H args us vs Q E hr _ e0 hb r h => F.run A outer s H args us vs Q E hr e0 hb r h⟩
/-- from the body -/
theorem fnG_of {P : Program} {w : World} {K : PySem.W.Frag} {mg : Str → Option Value} {base : Heap} {k : Nat} {f : Addr} {x q : Str} {pr : Arguments} {bd : List Stmt} {sc : Scope} {dvs : List V} {kws : List (Str × V)} {fd : FuncData} {N ps : List Str} {sp : Sp}
    (F : FunD K x q pr bd sc dvs kws f fd) (S : FnScope N ps sc) (len : ∀ vs H Q E, sp vs H Q E → vs.length = ps.length)
    (hbody : ∀ (cdv : Value) (A : Around) (outer : List Env) (s : Shared) (H : Hp) (vs : List V) (Q : VK) (E : XK), Room k (A.deeper (envOfC q sc s.heap.objs.size f cdv)) → (A.deeper (envOfC q sc s.heap.objs.size f cdv)).guards = some [] → sp vs H Q E →
      ∃ t, PSs (cxOf CX0 P w K mg base N q sc f cdv A outer s H E).nox bd t ∧ t { nx := fun _ H' => Q .non H', rt := Q } (start N vs) H) : FnG P w K mg base (k + 1) f fd ps sp := by
  obtain ⟨c1, c2, c3, c4, c5, c6, c7, cdv, c9, c10, rfl, look, code, _, _⟩ := F.ex
  refine ⟨len, fun A outer s H args us vs Q E room gd e0 hbind rel want => ?_⟩
  have old : ∀ b o, base.get? b = some o → s.heap.get? b = some o := fun b o e => (e0.bs b o e).1
  have inK : K.In s.heap := e0.mod.kin.keeps old
  have kinds : ∀ y ∈ ps.zip us, sc.names.lookup y.1 = some .local ∨ (sc.names.lookup y.1 = some .cell ∧ ((cellsFrom (s.heap.objs.size + 1) sc.names []).lookup y.1).isSome = true) := by
    rintro ⟨n, v⟩ hy
    have hm : n ∈ ps := (List.of_mem_zip hy).1
    cases S.par n hm with
    | inl z => exact Or.inl z
    | inr z => exact Or.inr ⟨z, PySem.W.cellsFrom_some _ _ _ (.inl z)⟩
  obtain ⟨t, dt, rt⟩ := hbody cdv A outer s H vs Q E (room.deeper _) gd want
  have dt := dt.nox
  refine codeAny_call_function room.depth (inK _ _ look) rfl S.co S.gen rfl (PySem.W.codeRec_of inK code) ?_
  refine hbind _ _ _ _ (wpAny_newFunctionEnv_cells S.kind kinds ?_)
  rintro _ rfl s1 ic
  refine ⟨(e0.mod.nolimit.keeps old).keeps ic.toInCall.keep, codeAny_func ?_⟩
  refine wpAny_mono (dt.run [] s1 (start N vs) H _ (inv_start S room.hd e0 (len _ _ _ _ want) rel ic) rt) ?_ (fun _ _ z => z)
  intro fl s' hs
  cases fl with
  | ret u => exact let ⟨v, _, H', J, rv, qv⟩ := hs; ⟨v, H', J.os, J.bare, J.base, J.hok, rv, qv⟩
  | next => exact let ⟨_, H', J, qv⟩ := hs; ⟨.non, H', J.os, J.bare, J.base, J.hok, rfl, qv⟩
  | brk => exact let ⟨_, _, _, qv⟩ := hs; False.elim qv
  | cont => exact let ⟨_, _, _, qv⟩ := hs; False.elim qv
/-- the def named x keeps the promise sp where nothing is being shown -/
structure PromG (P : Program) (w : World) (K : PySem.W.Frag) (mg : Str → Option Value) (base : Heap) (k : Nat) (x : Str) (st : Stmt) (ps : List Str) (sp : Sp) : Prop where
  ex : ∃ f fd, FnG P w K mg base k f fd ps sp ∧ mg x = some (.ref f) ∧ FunD K x x (defArgs st) (defBody st) (defScope st) [] [] f fd ∧ Binds K fd ps []
section
variable {P : Program} {w : World} {K : PySem.W.Frag} {mg : Str → Option Value} {base : Heap}
theorem PromG.of {x : Str} {st : Stmt} {ps N : List Str} {sp : Sp} {k : Nat} (D : DefAt K mg x st) (S : FnScope N ps (defScope st)) (len : ∀ vs H Q E, sp vs H Q E → vs.length = ps.length)
    (hb : ∀ (kV doc pm : Value) (an : Option Addr) (cdv ct : Value) (us : List Value), us.length = ps.length → bindArgs (PySem.W.fnOf x x (defArgs st) (defBody st) (defScope st) .none kV doc pm an cdv ct) ⟨us, []⟩ = pure (ps.zip us))
    (hbody : ∀ (f : Addr) (cdv : Value) (A : Around) (outer : List Env) (s : Shared) (H : Hp) (vs : List V) (Q : VK) (E : XK), Room k (A.deeper (envOfC x (defScope st) s.heap.objs.size f cdv)) → (A.deeper (envOfC x (defScope st) s.heap.objs.size f cdv)).guards = some [] → sp vs H Q E →
      ∃ t, PSs (cxOf CX0 P w K mg base N x (defScope st) f cdv A outer s H E).nox (defBody st) t ∧ t { nx := fun _ H' => Q .non H', rt := Q } (start N vs) H) :
    PromG P w K mg base (k + 1) x st ps sp := by
  obtain ⟨f, fd, F, hm⟩ := D
  exact ⟨f, fd, fnG_of F S len (fun cdv A outer s H vs Q E hr hg hs => hbody f cdv A outer s H vs Q E hr hg hs), hm, F, F.bindsN hb⟩
theorem Prom.g {x : Str} {st : Stmt} {ps : List Str} {sp : Sp} {k : Nat} (G : Prom P w K mg base CX0 k x st ps sp) : PromG P w K mg base k x st ps sp := by
  obtain ⟨f, fd, F, r⟩ := G.ex
  exact ⟨f, fd, FnG.of F, r⟩
end
section
variable {X : Cx} {k : Nat} {x : Str} {st : Stmt} {ps : List Str} {sp : Sp} {e : Expr} {es : List Expr} {t : TA} {p pos : Pos}
/-- f(..) of such a def -/
theorem pe_callG (G : PromG X.prog X.w X.K X.mg X.base k x st ps sp) (gd : X.A.guards = some []) (hr : Room k X.A) (hg : Gl X x) (ha : PA X (e :: es) t)
    (hdb : (x == ("__debug__" : Str)) = false := by decide) (he : starEach (e :: es) X.env = (false, eval e X.env) :: starEach es X.env := by rfl) (hpl : (backTo pos (starEach es X.env)).any (·.1) = false := by rfl) :
    PE X (.Call (.Name x p) (e :: es) [] pos) (tCall sp [] E0 t) := by
  obtain ⟨f, fd, F, hm, D, hb⟩ := G.ex
  constructor
  intro pins s σ H Q I h
  refine wpAny_Call_Name_kw (ld_glob I hg hm (PySem.W.callWith_K (h₀ := X.base) I.ok.mod.kin D.kp (thn (ha.run pos pins s σ H _ I h) ?_) he hpl) hdb)
  rintro us s1 ⟨vs, H1, I1, rel, want⟩
  refine ⟨I1.kIn, wpAny_call (codeAny_mono (F.run X.A X.stack s1 H1 ⟨us, []⟩ (us ++ []) (vs ++ []) Q E0 hr gd I1.env0 (hb s1 us I1.kIn ?_) (rel.append .nil) want) ?_)⟩
  · rw [← (rel.append Paired.nil).length]
    exact F.len _ _ _ _ want
  · intro r s' hq
    cases r with
    | error z => exact False.elim hq
    | ok fl =>
      cases fl with
      | ret u => exact I1.after hq
      | next => exact False.elim hq
      | brk => exact False.elim hq
      | cont => exact False.elim hq
/-- repr of data at any depth -/
theorem cr_reprD (gd : X.A.guards = some []) (hu : X.A.units + 64 < cLine) : CallR X (.builtin "repr") (fun xs H Q => ∃ (a : Addr) (d : PyData), xs = [.ref a] ∧ Dp X.K H (.ref a) d ∧ d.showable = true ∧ d.hasDict = false ∧ d.depth ≤ 40 ∧ d.shown.length ≤ sizeLine ∧ Q (.str d.shown) H) := by
  intro pins s σ H xs us Q I r h
  obtain ⟨a, d, rfl, hd, h1, h2, h3, h4, q⟩ := h
  obtain ⟨u, rfl, ru⟩ := vals1 r
  obtain ⟨as, rd⟩ := Dp.reads I d _ u hd ru
  cases (show u = Value.ref a from ru)
  refine repr_of_reads' rd h1 (PyData.noDict_hsm h2) gd (by omega) (fun _ _ z => z) (fun h' tok tk kept => ?_) h4
  exact ⟨.str d.shown, H, I.kept (t' := tk) kept, ⟨_, rfl⟩, q⟩
end
/-! ### the law's call -/
section
variable {P : Program} {w : World} {K : PySem.W.Frag} {mg mb : Str → Option Value} {k : Nat} {fa a : Addr} {fd : FuncData} {x : Str} {sp : Sp} {st : Shared} {vs : List Value} {ns : List Int}
/-- the script as the law finds it -/
def scriptHp (K : PySem.W.Frag) (a : Addr) (vs : List Value) (ns : List Int) : Hp := fun b => if b = a ∧ K.lookup a = none then some (.frz { cls := .type "list", data := .seq vs.toArray } (.lst (ns.map V.int))) else none
theorem scriptHp_some {b : Addr} {u : HO} (h : scriptHp K a vs ns b = some u) : b = a ∧ K.lookup a = none ∧ u = .frz { cls := .type "list", data := .seq vs.toArray } (.lst (ns.map V.int)) := by
  unfold scriptHp at h
  by_cases c : b = a ∧ K.lookup a = none
  · rw [if_pos c] at h
    exact ⟨c.1, c.2, (Option.some.inj h).symm⟩
  · rw [if_neg c] at h
    cases h
theorem scriptHp_none {b : Addr} (h : b ≠ a) : scriptHp K a vs ns b = none := if_neg fun z => h z.1
theorem law_callG (KX : K.In st.heap) (gl : st.heap.Ns mainGlobals mg) (bl : st.heap.Ns builtinsNs mb) (bb : ∀ y : Str, y ≠ "__name__" → mb y = bootBuiltins y) (nl : st.heap.NoLimit) (gn : st.gens = #[])
    (ha : st.heap.get? a = some { cls := .type "list", data := .seq vs.toArray }) (hi : IntsAre vs ns) (hl : ns.length ≤ sizeLine) (room : Room k callerA)
    (F : ∀ base : Heap, K.In base → base.Ns mainGlobals mg → FnG P w K mg base k fa fd [x] sp) (bind1 : ∀ (s : Shared) (u : Value), BindsTo s fd ⟨[u], []⟩ [(x, u)])
    (want : ∀ H : Hp, SqL K H a (ns.map V.int) → sp [.ref a] H (fun v _ => v = .bl true) fun _ _ _ => False) :
    codeAny (model P w) callerA (.call (.ref fa) ⟨[.ref a], []⟩) (fun r s' => r = .ok (.ret (.bool true)) ∧ OldK st.heap s'.heap ∧ s'.os = st.os ∧ AllBare s'.gens) st := by
  have rel : Vals (ns.map V.int) vs := vals_ints hi
  have len : (ns.map V.int).length ≤ sizeLine := by rw [List.length_map]; exact hl
  generalize hH : scriptHp K a vs ns = H
  have sm : ∀ {b u}, H b = some u → b = a ∧ K.lookup a = none ∧ u = .frz { cls := .type "list", data := .seq vs.toArray } (.lst (ns.map V.int)) := fun {b u} e => by
    rw [← hH] at e
    exact scriptHp_some e
  have ok : HOk P w H st.heap := fun b u e => by
    obtain ⟨rfl, _, rfl⟩ := sm e
    exact ⟨ha, len, vs, _, rel, ha⟩
  have sq : SqL K H a (ns.map V.int) := by
    cases lk : K.lookup a with
    | none => exact Or.inl (Or.inr ⟨_, by rw [← hH]; exact if_pos ⟨rfl, lk⟩⟩)
    | some o =>
      have e := (KX a o lk).symm.trans ha
      cases e
      exact Or.inr ⟨_, vs.toArray, _, lk, rfl, rfl, rfl, by rw [List.size_toArray, ← rel.length]; exact len, by simpa using rel⟩
  have hid : ∀ {b o}, st.heap.get? b = some o → H b = none → (hidT st.heap H).get? b = some o := fun e n => hidT_get e n
  have free : ∀ {b : Addr} {m}, st.heap.Ns b m → H b = none := fun {b m} hn => by
    cases e : H b with
    | none => rfl
    | some u =>
      obtain ⟨rfl, _, _⟩ := sm e
      obtain ⟨o, es, ep, e1, e2, _⟩ := hn
      have z := ha.symm.trans e1
      cases z
      cases e2
  have ns1 : ∀ {b : Addr} {m}, st.heap.Ns b m → (hidT st.heap H).Ns b m := fun {b m} hn => by
    have fr := free hn
    obtain ⟨o, es, ep, e1, e2⟩ := hn
    exact ⟨o, es, ep, hid e1 fr, e2⟩
  have inB : K.In (hidT st.heap H) := fun b o e => hid (KX b o e) (by
    cases z : H b with
    | none => rfl
    | some u =>
      obtain ⟨rfl, z2, _⟩ := sm z
      rw [z2] at e
      cases e)
  have md : Mod K mg (hidT st.heap H) := ⟨inB, ns1 gl, ⟨mb, ns1 bl, bb⟩, let ⟨mc, c1, c2⟩ := nl; ⟨mc, ns1 c1, c2⟩⟩
  have env : Env0 P w K mg (hidT st.heap H) callerA [] st H := ⟨rfl, md, fun _ _ e => of_hidT e, Nat.le_of_eq (hidT_size _ _), trivial, fun b z => absurd (show b ∈ ([] : List Addr) from z) (by simp), ok, .of_eq gn⟩
  refine codeAny_mono ((F _ inB (ns1 gl)).run callerA [] st H ⟨[.ref a], []⟩ [.ref a] [.ref a] _ _ room rfl env (bind1 st (.ref a)) (.cons rfl .nil) (want H sq)) fun r s' h => ?_
  cases r with
  | error z => exact False.elim h
  | ok fl =>
    cases fl with
    | next => exact False.elim h
    | brk => exact False.elim h
    | cont => exact False.elim h
    | ret u =>
      obtain ⟨v, H', os, bare, un, ok', ru, qv⟩ := h
      cases (show v = .bl true from qv)
      cases (show u = Value.bool true from ru)
      refine ⟨rfl, OldK.of_keep ?_, os, bare⟩
      intro b o e
      cases z : H b with
      | none => exact un.keep b o e z (by intro y; exact absurd (show b ∈ ([] : List Addr) from y) (by simp)) (by simp)
      | some t =>
        obtain ⟨rfl, _, rfl⟩ := sm z
        have e2 := (ok' _ _ (un.frzs _ _ _ z)).1
        have e3 := ha.symm.trans e
        cases e3
        exact e2
end
/-- a law whose def is a PromG -/
theorem walk_ofG {l : PySem.W.OpenLaw} {n k : Nat} {q : Program} {loose : List Str} {XP : (Str → Option Value) → Heap → Prop} {YP : World → Heap → Prop} {d : DefRec} {x : Str}
    (hn : l.most = some n) (hn2 : n ≤ sizeLine) (hdf : d.params.defaults = []) (room : Room k callerA)
    (F : ∀ (w : World) (mg : Str → Option Value) (fa : Addr) (h : Heap), YP w h → h.Ns mainGlobals mg → mg d.name = some (.ref fa) →
      ∃ (K : PySem.W.Frag) (fd : FuncData) (sp : Sp), K.In h ∧ (∀ (s : Shared) (u : Value), BindsTo s fd ⟨[u], []⟩ [(x, u)]) ∧
        (∀ (H : Hp) (a : Addr) (ns : List Int), ns.length ≤ n → (∀ z ∈ ns, Builtin.Int.intBits z ≤ 1048576) → SqL K H a (ns.map V.int) → sp [.ref a] H (fun v _ => v = .bl true) fun _ _ _ => False) ∧
        ∀ base : Heap, K.In base → base.Ns mainGlobals mg → FnG l.prog w K mg base k fa fd [x] sp) :
    PySem.W.WalkO q loose XP YP l.row.toRowW d [] (fun f vs => PySem.call f vs) := by
  refine Att.attach_callB hn hdf fun w sA sB mg mb fa o pm cd doc a vs ns G Y ho hd hcd hmg hobj hints hlen hbits hg => ?_
  obtain ⟨K, fd, sp, KX, b1, want, hF⟩ := F w mg fa _ Y G.T.g hmg
  exact law_callG KX G.T.g G.T.b G.T.builtins G.T.nolimit hg hobj hints (Nat.le_trans hlen hn2) room hF b1 (fun H hS => want H a ns hlen hbits hS)
end Sz
namespace Sz
/-! ### powers -/
theorem pow_pos {b : Int} (hb : 1 ≤ b) : ∀ j : Nat, 1 ≤ b ^ j
  | 0 => by rw [Int.pow_zero]; exact Int.le_refl 1
  | j + 1 => by
    rw [Int.pow_succ]
    have ih := pow_pos hb j
    have h := Int.mul_le_mul ih hb (by omega) (by omega)
    omega
theorem pow_one (b : Int) : b ^ (0 + 1) = b := by rw [Int.pow_succ, Int.pow_zero, Int.one_mul]
theorem pow_step {b : Int} (hb : 1 ≤ b) (j : Nat) : b ^ j ≤ b ^ (j + 1) := by
  rw [Int.pow_succ]
  have h := Int.mul_le_mul_of_nonneg_left hb (show 0 ≤ b ^ j by have := pow_pos hb j; omega)
  omega
theorem pow_mono {b : Int} (hb : 1 ≤ b) {i : Nat} : ∀ {j : Nat}, i ≤ j → b ^ i ≤ b ^ j
  | 0, h => by
    have e : i = 0 := by omega
    rw [e]
    exact Int.le_refl _
  | j + 1, h => by
    by_cases e : i = j + 1
    · rw [e]
      exact Int.le_refl _
    · exact Int.le_trans (pow_mono hb (j := j) (by omega)) (pow_step hb j)
theorem pow_lt {b : Int} (hb : 2 ≤ b) (j : Nat) : b ^ j < b ^ (j + 1) := by
  rw [Int.pow_succ]
  have h1 := pow_pos (show 1 ≤ b by omega) j
  have h := Int.mul_le_mul_of_nonneg_left hb (show 0 ≤ b ^ j by omega)
  omega
/-- an integer is below the power with its own number -/
theorem lt_pow {b : Int} (hb : 2 ≤ b) : ∀ j : Nat, (j : Int) < b ^ j
  | 0 => by rw [Int.pow_zero]; decide
  | j + 1 => by
    have h1 := lt_pow hb j
    have h2 := pow_lt hb j
    omega
/-! ### figures -/
/-- k is the number of figures of n in the base b -/
def IsF (b n k : Int) : Prop := ∃ j : Nat, k = (j : Int) + 1 ∧ n < b ^ (j + 1) ∧ (j = 0 ∨ b ^ j ≤ n)
theorem isF_le {b n m k l : Int} (hb : 2 ≤ b) (h : n ≤ m) (hk : IsF b n k) (hl : IsF b m l) : k ≤ l := by
  obtain ⟨i, rfl, h1, h2⟩ := hk
  obtain ⟨j, rfl, h3, h4⟩ := hl
  by_cases c : i ≤ j
  · omega
  · rcases h2 with h2 | h2
    · omega
    · have h5 := pow_mono (show 1 ≤ b by omega) (show j + 1 ≤ i by omega)
      omega
theorem isF_eq {b n k l : Int} (hb : 2 ≤ b) (hk : IsF b n k) (hl : IsF b n l) : k = l :=
  Int.le_antisymm (isF_le hb (Int.le_refl n) hk hl) (isF_le hb (Int.le_refl n) hl hk)
theorem isF_pos {b n k : Int} (h : IsF b n k) : 1 ≤ k := by
  obtain ⟨j, rfl, _⟩ := h
  omega
/-- there is such a number -/
theorem isF_ex {b : Int} (hb : 2 ≤ b) (n : Int) : ∃ k, IsF b n k := by
  have key : ∀ m : Nat, ∀ n : Int, n < b ^ (m + 1) → ∃ k, IsF b n k := by
    intro m
    induction m with
    | zero => exact fun n h => ⟨1, 0, rfl, h, .inl rfl⟩
    | succ m ih =>
      intro n h
      by_cases c : n < b ^ (m + 1)
      · exact ih n c
      · exact ⟨(m + 1 : Nat) + 1, m + 1, rfl, h, .inr (by omega)⟩
  refine key n.toNat n ?_
  have h1 := lt_pow hb (n.toNat + 1)
  omega
/-- a bound for the figures -/
theorem isF_bound {b n k : Int} (hb : 2 ≤ b) (m : Nat) (hn : n < 2 ^ m) (h : IsF b n k) : k ≤ (m : Int) + 1 := by
  obtain ⟨j, rfl, h1, h2⟩ := h
  rcases h2 with h2 | h2
  · omega
  · by_cases c : j ≤ m
    · omega
    · exfalso
      have h3 : (2 : Int) ^ j ≤ b ^ j := by
        clear h1 h2 c
        induction j with
        | zero => rw [Int.pow_zero, Int.pow_zero]; exact Int.le_refl 1
        | succ j ih =>
          rw [Int.pow_succ, Int.pow_succ]
          exact Int.mul_le_mul ih hb (by decide) (by have := pow_pos (show 1 ≤ b by omega) j; omega)
      have h4 := pow_mono (show (1 : Int) ≤ 2 by decide) (show m ≤ j by omega)
      omega
end Sz
namespace Sz
/-! ### totals that count their own figures -/
theorem isF_upper {b x g : Int} (hb : 2 ≤ b) {m : Nat} (h : x < b ^ (m + 1)) (hg : IsF b x g) : g ≤ (m : Int) + 1 := by
  obtain ⟨i, rfl, h1, h2⟩ := hg
  by_cases c : i ≤ m
  · omega
  · rcases h2 with h2 | h2
    · omega
    · have := pow_mono (show 1 ≤ b by omega) (show m + 1 ≤ i by omega)
      omega
/-- adding its figures to a number makes one figure more at most -/
theorem fig_grow {b n f g : Int} (hb : 2 ≤ b) (hn : 0 ≤ n) (hf : IsF b n f) (hg : IsF b (n + f) g) : g = f ∨ g = f + 1 := by
  have h1 := isF_le hb (show n ≤ n + f by have := isF_pos hf; omega) hf hg
  obtain ⟨j, rfl, h2, h3⟩ := hf
  have h4 := lt_pow hb (j + 1)
  have h5 : b ^ (j + 1 + 1) = b ^ (j + 1) * b := Int.pow_succ b (j + 1)
  have h6 := Int.mul_le_mul_of_nonneg_left hb (show 0 ≤ b ^ (j + 1) by omega)
  have h7 := isF_upper (m := j + 1) hb (show n + ((j : Int) + 1) < b ^ (j + 1 + 1) by omega) hg
  omega
/-- and then this is the number of figures -/
theorem fig_next {b n f : Int} (hb : 2 ≤ b) (hn : 0 ≤ n) (hf : IsF b n f) (hg : IsF b (n + f) (f + 1)) : IsF b (n + f + 1) (f + 1) := by
  obtain ⟨j, rfl, h2, h3⟩ := hf
  obtain ⟨i, e, h4, h5⟩ := hg
  have e2 : i = j + 1 := by omega
  subst e2
  have h6 := lt_pow hb (j + 1)
  have h7 : b ^ (j + 1 + 1) = b ^ (j + 1) * b := Int.pow_succ b (j + 1)
  have h8 := Int.mul_le_mul_of_nonneg_left hb (show 0 ≤ b ^ (j + 1) by omega)
  refine ⟨j + 1, by omega, by omega, Or.inr ?_⟩
  rcases h5 with h5 | h5
  · omega
  · omega
/-- s is a total of N -/
def Tot (b N s : Int) : Prop := IsF b s (s - N)
structure IsTot (b N s : Int) : Prop where
  tot : Tot b N s
  least : ∀ t, Tot b N t → s ≤ t
theorem isTot_pos {b N s : Int} (h : Tot b N s) : N + 1 ≤ s := by
  have := isF_pos h
  omega
theorem isTot_first {b n f : Int} (hb : 2 ≤ b) (hf : IsF b n f) (hg : IsF b (n + f) f) : IsTot b n (n + f) := by
  refine ⟨?_, fun t ht => ?_⟩
  · have e : n + f - n = f := by omega
    show IsF b (n + f) (n + f - n)
    rw [e]
    exact hg
  · have h1 := isTot_pos ht
    have h2 := isF_le hb (show n ≤ t by omega) hf ht
    omega
theorem isTot_second {b n f : Int} (hb : 2 ≤ b) (hn : 0 ≤ n) (hf : IsF b n f) (hg : IsF b (n + f) (f + 1)) : IsTot b n (n + f + 1) := by
  refine ⟨?_, fun t ht => ?_⟩
  · have e : n + f + 1 - n = f + 1 := by omega
    show IsF b (n + f + 1) (n + f + 1 - n)
    rw [e]
    exact fig_next hb hn hf hg
  · have h1 := isTot_pos ht
    have h2 := isF_le hb (show n ≤ t by omega) hf ht
    by_cases c : t = n + f
    · subst c
      have ht2 : IsF b (n + f) (n + f - n) := ht
      have e : n + f - n = f := by omega
      rw [e] at ht2
      have := isF_eq hb ht2 hg
      omega
    · omega
theorem isTot_eq {b N s t : Int} (h : IsTot b N s) (h2 : IsTot b N t) : s = t := Int.le_antisymm (h.least t h2.tot) (h2.least s h.tot)
/-- two totals lie beside one another -/
theorem tot_near {b N s t : Int} (hb : 2 ≤ b) (hN : 0 ≤ N) (h : Tot b N s) (h2 : Tot b N t) (hst : s ≤ t) : t ≤ s + 1 := by
  obtain ⟨i, e1, h3, h4⟩ := h
  obtain ⟨j, e2, h5, h6⟩ := h2
  by_cases c : t ≤ s + 1
  · exact c
  · exfalso
    have hj : b ^ j ≤ t := by
      rcases h6 with h6 | h6
      · omega
      · exact h6
    obtain ⟨m, hm⟩ : ∃ m : Nat, j = i + 1 + (m + 1) := ⟨j - i - 2, by omega⟩
    have e3 : b ^ j = b ^ (i + 1) * b ^ (m + 1) := by rw [hm, Int.pow_add]
    have p1 := pow_pos (show 1 ≤ b by omega) (i + 1)
    have p0 : 2 ≤ b ^ (i + 1) := by
      have := pow_mono (show 1 ≤ b by omega) (show 0 + 1 ≤ i + 1 by omega)
      rw [pow_one] at this
      omega
    have l1 := lt_pow hb (m + 1)
    have l2 := Int.mul_le_mul_of_nonneg_left (show ((m + 1 : Nat) : Int) + 1 ≤ b ^ (m + 1) by omega) (show 0 ≤ b ^ (i + 1) by omega)
    have l3 : b ^ (i + 1) * (((m + 1 : Nat) : Int) + 1) = b ^ (i + 1) * ((m + 1 : Nat) : Int) + b ^ (i + 1) := by rw [Int.mul_add, Int.mul_one]
    have l4 := Int.mul_le_mul_of_nonneg_right p0 (show 0 ≤ ((m + 1 : Nat) : Int) by omega)
    omega
/-- whether the next integer is a total, too -/
theorem tot_two {b N s g h : Int} (hb : 2 ≤ b) (ht : Tot b N s) (hg : IsF b s g) (hh : IsF b (s + 1) h) : (h > g ↔ Tot b N (s + 1)) := by
  have e1 : g = s - N := isF_eq hb hg ht
  constructor
  · intro c
    have h1 : h = g + 1 := by
      obtain ⟨j, rfl, h2, h3⟩ := hg
      have h4 := isF_upper (m := j + 1) hb (show s + 1 < b ^ (j + 1 + 1) by have := pow_lt hb (j + 1); omega) hh
      omega
    show IsF b (s + 1) (s + 1 - N)
    have e2 : s + 1 - N = h := by omega
    rw [e2]
    exact hh
  · intro c
    have e2 : h = s + 1 - N := isF_eq hb hh c
    omega
theorem isTot_ex {b n : Int} (hb : 2 ≤ b) (hn : 0 ≤ n) : ∃ s, IsTot b n s := by
  obtain ⟨f, hf⟩ := isF_ex hb n
  obtain ⟨g, hg⟩ := isF_ex hb (n + f)
  rcases fig_grow hb hn hf hg with e | e
  · exact ⟨_, isTot_first hb hf (by rw [← e]; rw [e] at hg ⊢; exact hg)⟩
  · exact ⟨_, isTot_second hb hn hf (by rw [← e]; exact hg)⟩
theorem pow_add_le {b : Int} (hb : 2 ≤ b) (j d : Nat) : b ^ j + d ≤ b ^ (j + d) := by
  induction d with
  | zero => simp
  | succ d ih =>
    have := pow_lt hb (j + d)
    have e : j + (d + 1) = j + d + 1 := by omega
    rw [e]
    omega
theorem two_mul_le {b : Int} (hb : 2 ≤ b) : ∀ j : Nat, 2 * (j : Int) ≤ b ^ j + 1
  | 0 => by simp
  | 1 => by rw [show (1 : Nat) = 0 + 1 from rfl, pow_one]; omega
  | j + 2 => by
    have h1 := two_mul_le hb (j + 1)
    have h2 : b ^ (j + 2) = b ^ (j + 1) * b := Int.pow_succ b (j + 1)
    have h3 := pow_mono (show 1 ≤ b by omega) (show 0 + 1 ≤ j + 1 by omega)
    rw [pow_one] at h3
    have h4 := Int.mul_le_mul_of_nonneg_left hb (show 0 ≤ b ^ (j + 1) by omega)
    omega
/-- the totals found ahead of the number k of figures -/
def totA (N s : Int) (two : Bool) (k : Int) : List Int := if k ≤ s - N then [] else if k = s - N + 1 ∨ two = false then [s] else [s, s + 1]
theorem totA_start {b N s : Int} {two : Bool} (h : IsTot b N s) : totA N s two 1 = [] := if_pos (by have := isTot_pos h.tot; omega)
/-- the one with k figures is a total -/
theorem totA_yes {b N s k : Int} {two : Bool} (hb : 2 ≤ b) (hN : 0 ≤ N) (h : IsTot b N s) (h2 : two = true ↔ Tot b N (s + 1)) (hk : Tot b N (N + k)) : totA N s two (k + 1) = totA N s two k ++ [N + k] := by
  have a := h.least _ hk
  have c := tot_near hb hN h.tot hk a
  by_cases e : N + k = s
  · have e1 : totA N s two k = [] := if_pos (by omega)
    have e2 : totA N s two (k + 1) = [s] := by
      unfold totA
      rw [if_neg (by omega), if_pos (Or.inl (by omega))]
    rw [e1, e2, e]
    rfl
  · have e0 : N + k = s + 1 := by omega
    have ht : two = true := h2.mpr (by rw [← e0]; exact hk)
    have e1 : totA N s two k = [s] := by
      unfold totA
      rw [if_neg (by omega), if_pos (Or.inl (by omega))]
    have e2 : totA N s two (k + 1) = [s, s + 1] := by
      unfold totA
      rw [if_neg (by omega), if_neg (by rw [ht]; simp; omega)]
    rw [e1, e2, e0]
    rfl
theorem totA_no {b N s k : Int} {two : Bool} (h : IsTot b N s) (h2 : two = true ↔ Tot b N (s + 1)) (hk : ¬ Tot b N (N + k)) : totA N s two (k + 1) = totA N s two k := by
  have e : N + k ≠ s := fun z => hk (by rw [z]; exact h.tot)
  unfold totA
  by_cases c : k ≤ s - N
  · rw [if_pos c, if_pos (by omega)]
  · rw [if_neg c, if_neg (by omega)]
    by_cases d : k = s - N + 1
    · have d0 : N + k = s + 1 := by omega
      have ht : two = false := by
        cases q : two with
        | false => rfl
        | true => exact absurd (by rw [d0]; exact h2.mp q) hk
      rw [if_pos (Or.inr ht), if_pos (Or.inr ht)]
    · by_cases ht : two = false
      · rw [if_pos (Or.inr ht), if_pos (Or.inr ht)]
      · rw [if_neg (fun z => z.elim (by omega) ht), if_neg (fun z => z.elim (by omega) ht)]
theorem totA_end {b N s : Int} {j : Nat} {two : Bool} (hb : 2 ≤ b) (hN : 0 ≤ N) (h : IsTot b N s) (h2 : two = true ↔ Tot b N (s + 1)) (hj : ¬ b ^ j ≤ N + ((j : Int) + 1)) : totA N s two ((j : Int) + 1) = if two then [s, s + 1] else [s] := by
  have far : ∀ t, Tot b N t → t - N < (j : Int) + 1 := fun t ht => by
    obtain ⟨i, e, h3, h4⟩ := ht
    by_cases c : i < j
    · omega
    · exfalso
      obtain ⟨d, hd⟩ : ∃ d, i = j + d := ⟨i - j, by omega⟩
      have h5 := pow_add_le hb j d
      rw [← hd] at h5
      rcases h4 with h4 | h4
      · have e0 : j = 0 := by omega
        rw [e0] at hj h5
        have : N + 1 ≤ t := by omega
        have e1 : d = 0 := by omega
        rw [e1] at h5
        simp at hj h5
        omega
      · omega
  have f1 := far s h.tot
  unfold totA
  rw [if_neg (by omega)]
  cases ht : two with
  | false => simp
  | true =>
    have f2 := far _ (h2.mp ht)
    rw [if_neg (by simp; omega)]
    rfl
/-- figures grow no faster than numbers -/
theorem fig_lip {b x y f g : Int} (hb : 2 ≤ b) (h : x ≤ y) (hf : IsF b x f) (hg : IsF b y g) : g ≤ f + (y - x) := by
  obtain ⟨j, rfl, h1, h2⟩ := hf
  obtain ⟨d, hd⟩ : ∃ d : Nat, y = x + d := ⟨(y - x).toNat, by omega⟩
  have h3 := pow_add_le hb (j + 1) d
  have h4 := isF_upper (m := j + d) hb (show y < b ^ (j + d + 1) by rw [show j + d + 1 = j + 1 + d by omega]; omega) hg
  omega
/-- the least total of the next one stands right behind the last total -/
theorem tot_step {b N s : Int} {two : Bool} (hb : 2 ≤ b) (hN : 0 ≤ N) (h : IsTot b N s) (h2 : two = true ↔ Tot b N (s + 1)) : IsTot b (N + 1) (s + (if two then [s, s + 1] else [s]).length) := by
  have last : ∃ e : Int, s + (if two then [s, s + 1] else [s]).length = e + 1 ∧ Tot b N e ∧ ¬ Tot b N (e + 1) := by
    cases q : two with
    | false => exact ⟨s, by simp, h.tot, fun z => by rw [q] at h2; have := h2.mpr z; cases this⟩
    | true =>
      refine ⟨s + 1, by simp; omega, h2.mp q, fun z => ?_⟩
      have := tot_near hb hN h.tot z (by omega)
      omega
  obtain ⟨e, e0, e1, e2⟩ := last
  rw [e0]
  obtain ⟨f, hf⟩ := isF_ex hb (e + 1)
  have f1 := isF_le hb (show e ≤ e + 1 by omega) e1 hf
  have f2 := fig_lip hb (show e ≤ e + 1 by omega) e1 hf
  have f3 : f ≠ e + 1 - N := fun z => e2 (by show IsF b (e + 1) (e + 1 - N); rw [← z]; exact hf)
  refine ⟨?_, fun t ht => ?_⟩
  · show IsF b (e + 1) (e + 1 - (N + 1))
    have : f = e + 1 - (N + 1) := by omega
    rw [← this]
    exact hf
  · by_cases c : e + 1 ≤ t
    · exact c
    · have := fig_lip hb (show t ≤ e by omega) ht e1
      omega
/-- the integer ahead of the least total is one of the length ahead -/
theorem tot_ahead {b N s f : Int} (hb : 2 ≤ b) (h : IsTot b N s) (hf : IsF b (s - 1) f) : s - 1 - f = N - 1 := by
  have h1 := fig_lip hb (show s - 1 ≤ s by omega) hf h.tot
  have h2 := isF_le hb (show s - 1 ≤ s by omega) hf h.tot
  have h3 : f ≠ s - 1 - N := fun z => by
    have := h.least (s - 1) (by show IsF b (s - 1) (s - 1 - N); rw [← z]; exact hf)
    omega
  omega
/-- so many integers from one on -/
def irun (s : Int) (n : Nat) : List Int := (List.range n).map fun (i : Nat) => s + (i : Int)
theorem irun_len (s : Int) (n : Nat) : (irun s n).length = n := by
  unfold irun
  simp
theorem irun_app (s : Int) (n : Nat) (two : Bool) : irun s n ++ (if two then [s + n, s + n + 1] else [s + n]) = irun s (n + (if two then [s, s + 1] else [s]).length) := by
  unfold irun
  cases two with
  | false => simp [List.range_succ]
  | true =>
    simp [List.range_succ]
    omega
/-- a total by its power -/
theorem tot_iff {b N : Int} {j : Nat} (hN : 0 ≤ N) (hj : b ^ j ≤ N + ((j : Int) + 1)) : Tot b N (N + ((j : Int) + 1)) ↔ N + ((j : Int) + 1) < b ^ (j + 1) := by
  have e : N + ((j : Int) + 1) - N = (j : Int) + 1 := by omega
  constructor
  · rintro ⟨i, e1, h1, _⟩
    have : i = j := by omega
    rw [this] at h1
    exact h1
  · intro h
    exact ⟨j, e, h, Or.inr hj⟩
end Sz
namespace Sz
/-! ### what wraps make of lengths -/
open Classical in
/-- how many figures -/
noncomputable def figF (b n : Int) : Int := if h : 2 ≤ b then choose (isF_ex h n) else 0
theorem figF_is {b n : Int} (h : 2 ≤ b) : IsF b n (figF b n) := by
  unfold figF
  rw [dif_pos h]
  exact Classical.choose_spec (isF_ex h n)
theorem figF_eq {b n k : Int} (hb : 2 ≤ b) (h : IsF b n k) : k = figF b n := isF_eq hb h (figF_is hb)
theorem figF_pos {b n : Int} (hb : 2 ≤ b) : 1 ≤ figF b n := isF_pos (figF_is hb)
theorem figF_mono {b n m : Int} (hb : 2 ≤ b) (h : n ≤ m) : figF b n ≤ figF b m := isF_le hb h (figF_is hb) (figF_is hb)
theorem figF_lip {b n m : Int} (hb : 2 ≤ b) (h : n ≤ m) : figF b m ≤ figF b n + (m - n) := fig_lip hb h (figF_is hb) (figF_is hb)
open Classical in
/-- the least total -/
noncomputable def totF (b n : Int) : Int := if h : 2 ≤ b ∧ 0 ≤ n then choose (isTot_ex h.1 h.2) else 0
theorem totF_is {b n : Int} (h : 2 ≤ b) (h2 : 0 ≤ n) : IsTot b n (totF b n) := by
  unfold totF
  rw [dif_pos ⟨h, h2⟩]
  exact Classical.choose_spec (isTot_ex h h2)
theorem totF_eq {b n k : Int} (hb : 2 ≤ b) (hn : 0 ≤ n) (h : IsTot b n k) : k = totF b n := isTot_eq h (totF_is hb hn)
/-- how many parts of a size a length begins -/
def beg (n m : Int) : Int := (n + m - 1) / m
inductive Wr where
  | plus (c : Int)
  | told (c : Int)
  | whole (c : Int)
  | pieces (m c : Int)
  | cut (m c : Int)
  | coded (m c : Int)
  | filled (m : Int)
def Wr.kind : Wr → PySem.Str
  | .plus _ => "plus"
  | .told _ => "told"
  | .whole _ => "whole"
  | .pieces _ _ => "pieces"
  | .cut _ _ => "cut"
  | .coded _ _ => "coded"
  | .filled _ => "filled"
def Wr.nums : Wr → List Int
  | .plus c => [c]
  | .told c => [c]
  | .whole c => [c]
  | .pieces m c => [m, c]
  | .cut m c => [m, c]
  | .coded m c => [m, c]
  | .filled m => [m]
def Wr.rng : Wr → List (Int × Int)
  | .plus _ => [(0, 1000)]
  | .told _ => [(0, 1000)]
  | .whole _ => [(0, 1000)]
  | .pieces _ _ => [(1, 60), (0, 60)]
  | .cut _ _ => [(1, 60), (0, 60)]
  | .coded _ _ => [(1, 60), (1, 120)]
  | .filled _ => [(1, 60)]
def Wr.ok : Wr → Prop
  | .plus c => 0 ≤ c ∧ c ≤ 1000
  | .told c => 0 ≤ c ∧ c ≤ 1000
  | .whole c => 0 ≤ c ∧ c ≤ 1000
  | .pieces m c => 1 ≤ m ∧ m ≤ 60 ∧ 0 ≤ c ∧ c ≤ 60
  | .cut m c => 1 ≤ m ∧ m ≤ 60 ∧ 0 ≤ c ∧ c ≤ 60
  | .coded m c => 1 ≤ m ∧ m ≤ 60 ∧ m ≤ c ∧ c ≤ 120
  | .filled m => 1 ≤ m ∧ m ≤ 60
/-- the size that a wrap makes of a length -/
noncomputable def Wr.gr (b : Int) : Wr → Int → Int
  | .plus c, n => n + c
  | .told c, n => n + c + figF b n
  | .whole c, n => totF b (n + c)
  | .pieces m c, n => n / m * (m + c + figF b m) + (if 0 < n % m then n % m + c + figF b (n % m) else 0) + c + 1
  | .cut m c, n => n + beg n m * c
  | .coded m c, n => beg n m * c
  | .filled m, n => beg n m * m
theorem nums_len {w : Wr} : w.nums.length = w.rng.length := by cases w <;> rfl
theorem nums_small {w : Wr} (h : w.ok) : ∀ x ∈ w.nums, 0 ≤ x ∧ x ≤ 1000 := by
  cases w <;> simp only [Wr.ok] at h <;> simp [Wr.nums] <;> omega
theorem beg_le {n m : Int} (hn : 0 ≤ n) (hm : 1 ≤ m) : beg n m ≤ n ∧ 0 ≤ beg n m := by
  unfold beg
  constructor
  · refine Int.le_of_lt_add_one (Int.ediv_lt_of_lt_mul (by omega) ?_)
    have := Int.mul_le_mul_of_nonneg_left hm (show 0 ≤ n by omega)
    have e : (n + 1) * m = n * m + m := by rw [Int.add_mul, Int.one_mul]
    omega
  · exact Int.ediv_nonneg (by omega) (by omega)
theorem fig_small {b m : Int} (hb : 2 ≤ b) (hm : m ≤ 60) : figF b m ≤ 6 := by
  have h : m < b ^ (5 + 1) := by
    have h1 := pow_pos (show 1 ≤ b by omega) 5
    have h2 : (64 : Int) ≤ b ^ 6 := by
      have : ∀ j : Nat, (2 : Int) ^ j ≤ b ^ j := fun j => by
        induction j with
        | zero => simp
        | succ j ih =>
          rw [Int.pow_succ, Int.pow_succ]
          exact Int.mul_le_mul ih hb (by decide) (by have := pow_pos (show 1 ≤ b by omega) j; omega)
      have := this 6
      omega
    show m < b ^ 6
    omega
  have := isF_upper (m := 5) hb h (figF_is hb)
  omega
theorem figF_le {b n : Int} (hb : 2 ≤ b) (hn : 0 ≤ n) : figF b n ≤ n + 1 := by
  have h1 := figF_lip (b := b) hb hn
  have h2 : figF b 0 ≤ 1 := by
    have := isF_upper (m := 0) hb (show (0 : Int) < b ^ (0 + 1) by rw [pow_one]; omega) (figF_is hb)
    omega
  omega
/-- a size is no less than 0, and not too great -/
theorem gr_le {b : Int} {w : Wr} (hb : 2 ≤ b) (h : w.ok) {n : Int} (hn : 0 ≤ n) : 0 ≤ w.gr b n ∧ w.gr b n ≤ 128 * n + 4096 := by
  cases w with
  | plus c =>
    simp only [Wr.ok] at h
    simp only [Wr.gr]
    omega
  | told c =>
    simp only [Wr.ok] at h
    simp only [Wr.gr]
    have h1 := figF_le (b := b) hb hn
    have h2 := figF_pos (b := b) (n := n) hb
    omega
  | whole c =>
    simp only [Wr.ok] at h
    simp only [Wr.gr]
    have t := totF_is hb (show 0 ≤ n + c by omega)
    have h1 := isTot_pos t.tot
    have f := figF_is (b := b) (n := n + c) hb
    have g := figF_is (b := b) (n := n + c + figF b (n + c)) hb
    have fl := figF_le (b := b) (n := n + c) hb (by omega)
    rcases fig_grow hb (show 0 ≤ n + c by omega) f g with e | e
    · have := t.least _ (isTot_first hb f (by rw [e] at g; exact g)).tot
      omega
    · have := t.least _ (isTot_second hb (show 0 ≤ n + c by omega) f (by rw [← e]; exact g)).tot
      omega
  | pieces m c =>
    simp only [Wr.ok] at h
    simp only [Wr.gr]
    have f1 := fig_small (b := b) (m := m) hb h.2.1
    have f2 := figF_pos (b := b) (n := m) hb
    have q0 := Int.ediv_nonneg hn (show 0 ≤ m by omega)
    have q1 : n / m ≤ n := Int.ediv_le_self _ hn
    have r0 := Int.emod_nonneg n (show m ≠ 0 by omega)
    have r1 := Int.emod_lt_of_pos n (show 0 < m by omega)
    have f3 := fig_small (b := b) (m := n % m) hb (by omega)
    have f4 := figF_pos (b := b) (n := n % m) hb
    have p0 := Int.mul_nonneg q0 (show 0 ≤ m + c + figF b m by omega)
    have p1 := Int.mul_le_mul q1 (show m + c + figF b m ≤ 126 by omega) (by omega) hn
    split <;> omega
  | cut m c =>
    simp only [Wr.ok] at h
    simp only [Wr.gr]
    have q := beg_le hn h.1
    have p0 := Int.mul_nonneg q.2 (show 0 ≤ c by omega)
    have p1 := Int.mul_le_mul q.1 (show c ≤ 60 by omega) (by omega) hn
    omega
  | coded m c =>
    simp only [Wr.ok] at h
    simp only [Wr.gr]
    have q := beg_le hn h.1
    have p0 := Int.mul_nonneg q.2 (show 0 ≤ c by omega)
    have p1 := Int.mul_le_mul q.1 (show c ≤ 120 by omega) (by omega) hn
    omega
  | filled m =>
    simp only [Wr.ok] at h
    simp only [Wr.gr]
    have q := beg_le hn h.1
    have p0 := Int.mul_nonneg q.2 (show 0 ≤ m by omega)
    have p1 := Int.mul_le_mul q.1 (show m ≤ 60 by omega) (by omega) hn
    omega
end Sz
/-! a hook that looks at whatever one wants besides, and the table of ranges -/
namespace Sz
open PySem PySem.Spec PyProof.Rows L2
abbrev AlX : Type := Bool × He.AlT
/-- what an object names, its class's line left out: what the module names is there already -/
def refsX (o : Obj) : List Addr := match o.data with
  | .seq its _ => its.toList.flatMap He.refV
  | .dict es _ => es.toList.flatMap fun e => He.refV e.val
  | .func fd => He.refV fd.code ++ (He.refV fd.defaults ++ (He.refV fd.kwdefaults ++ fd.closure.map (·.2)))
  | .cls cd => [cd.ns]
  | .fields vs => vs.toList.flatMap He.refV
  | .cell (some v) => He.refV v
  | _ => []
def layerX (g : Addr → Option Obj) (as : List Addr) : List Addr := as.flatMap fun a => match g a with
  | some o => refsX o
  | none => []
/-- layer by layer, nothing looked at twice -/
def layersX (g : Addr → Option Obj) : Nat → List Addr → List Addr
  | 0, l => l
  | n + 1, l => l ++ layersX g n (layerX g l)
def asX (g : Addr → Option Obj) (n : Nat) : List Addr := layersX g n [mainGlobals]
def obsX (fb : PySem.W.Frag → Bool) (fa : List He.Fa) (fn : List He.DefD) (ts : List He.Tab) (K : PySem.W.Frag) : AlX := (fb K, He.obsT fa fn ts K)
def valX (fn : List He.DefD) (ts : List He.Tab) (w : World) : AlX := (true, He.valT fn ts w)
def obsXG (n : Nat) (fb : PySem.W.Frag → Bool) (fa : List He.Fa) (fn : List He.DefD) (ts : List He.Tab) (g : Addr → Option Obj) : AlX := obsX fb fa fn ts (He.frG g (asX g n))
def SaysX (fb : PySem.W.Frag → Bool) (fa : List He.Fa) (fn : List He.DefD) (ts : List He.Tab) (w : World) (K : PySem.W.Frag) : Prop := obsX fb fa fn ts K = valX fn ts w
def hookX (n : Nat) (fb : PySem.W.Frag → Bool) (fa : List He.Fa) (fn : List He.DefD) (ts : List He.Tab) : PySem.W.Hook where
  α := AlX
  obs := fun s => obsXG n fb fa fn ts s.heap.get?
  val := fun w => valX fn ts w
  says := fun w h => ∃ K : PySem.W.Frag, K.In h ∧ SaysX fb fa fn ts w K
  of := fun _ _ e => ⟨_, He.frG_in, e⟩
  keeps := fun _ _ _ ⟨K, hK, c⟩ k => ⟨K, PySem.W.Frag.In.keeps hK k, c⟩
theorem obsXG_eq {n : Nat} {fb : PySem.W.Frag → Bool} {fa : List He.Fa} {fn : List He.DefD} {ts : List He.Tab} {g : Addr → Option Obj} {s : Shared} (h : ∀ a, g a = s.heap.get? a) : obsXG n fb fa fn ts g = (hookX n fb fa fn ts).obs s := by
  rw [show g = s.heap.get? from funext h]
  rfl
section
variable {fb : PySem.W.Frag → Bool} {fa : List He.Fa} {fn : List He.DefD} {ts : List He.Tab} {w : World} {K : PySem.W.Frag}
theorem SaysX.t (c : SaysX fb fa fn ts w K) : He.SaysT fa fn ts w K := congrArg (fun z : AlX => z.2) c
theorem SaysX.b (c : SaysX fb fa fn ts w K) : fb K = true := congrArg (fun z : AlX => z.1) c
end
/-! ### the table of ranges: tuples of pairs -/
def pairB (K : PySem.W.Frag) (u : Value) (q : Int × Int) : Bool := match u with
  | .ref a => (match K.lookup a with
    | some ⟨.type c, _, .seq its _, _⟩ => decide (c = "tuple") && (decide (its.size ≤ sizeLine) && He.relAll [.int q.1, .int q.2] its.toList)
    | _ => false)
  | _ => false
def pairsB (K : PySem.W.Frag) : List Value → List (Int × Int) → Bool
  | [], [] => true
  | u :: us, q :: qs => pairB K u q && pairsB K us qs
  | _, _ => false
def rngB (K : PySem.W.Frag) (D : Addr) (kd : Str) (qs : List (Int × Int)) : Bool := match PySem.W.nsIn K D kd with
  | some (some (.ref b)) => (match K.lookup b with
    | some ⟨.type c, _, .seq its _, _⟩ => decide (c = "tuple") && (decide (its.size ≤ sizeLine) && pairsB K its.toList qs)
    | _ => false)
  | _ => false
inductive Pairs (K : PySem.W.Frag) : List V → List (Int × Int) → Prop where
  | nil : Pairs K [] []
  | cons {a : Addr} {xs : List V} {q : Int × Int} {qs : List (Int × Int)} (h : ∀ H, SqT K H a [.int q.1, .int q.2]) (r : Pairs K xs qs) : Pairs K (.ref a :: xs) (q :: qs)
theorem Pairs.len {K : PySem.W.Frag} {xs : List V} {qs : List (Int × Int)} (h : Pairs K xs qs) : xs.length = qs.length := by
  induction h with
  | nil => rfl
  | cons _ _ ih => exact congrArg (· + 1) ih
theorem Pairs.get {K : PySem.W.Frag} {xs : List V} {qs : List (Int × Int)} (h : Pairs K xs qs) : ∀ {i : Nat} {x : V}, xs[i]? = some x → ∃ (a : Addr) (q : Int × Int), x = .ref a ∧ qs[i]? = some q ∧ ∀ H, SqT K H a [.int q.1, .int q.2] := by
  induction h with
  | nil =>
    intro i x e
    simp at e
  | cons h _ ih =>
    intro i x e
    cases i with
    | zero =>
      simp at e
      exact ⟨_, _, e.symm, rfl, h⟩
    | succ i => exact ih (by simpa using e)
theorem pairB_ok {K : PySem.W.Frag} {u : Value} {q : Int × Int} (h : pairB K u q = true) : ∃ a, u = .ref a ∧ ∀ H, SqT K H a [.int q.1, .int q.2] := by
  cases u with
  | ref a =>
    refine ⟨a, rfl, fun H => ?_⟩
    have h : (match K.lookup a with
      | some ⟨.type c, _, .seq its _, _⟩ => decide (c = "tuple") && (decide (its.size ≤ sizeLine) && He.relAll [.int q.1, .int q.2] its.toList)
      | _ => false) = true := h
    cases e : K.lookup a with
    | none =>
      rw [e] at h
      cases h
    | some o =>
      obtain ⟨oc, od, dt, osl⟩ := o
      rw [e] at h
      cases oc with
      | type c =>
        cases dt with
        | seq its n =>
          obtain ⟨h1, h2⟩ := He.ba h
          obtain ⟨h3, h4⟩ := He.ba h2
          exact .inr ⟨_, its, n, e, congrArg Value.type (of_decide_eq_true h1), rfl, of_decide_eq_true h3, He.relAll_ok h4⟩
        | _ => cases h
      | _ => cases dt <;> cases h
  | _ => cases h
theorem pairsB_ok {K : PySem.W.Frag} : ∀ {us : List Value} {qs : List (Int × Int)}, pairsB K us qs = true → ∃ xs, Vals xs us ∧ Pairs K xs qs
  | [], [], _ => ⟨[], .nil, .nil⟩
  | [], _ :: _, h => by cases h
  | _ :: _, [], h => by cases h
  | u :: us, q :: qs, h => by
    obtain ⟨h1, h2⟩ := He.ba (show (pairB K u q && pairsB K us qs) = true from h)
    obtain ⟨a, rfl, ha⟩ := pairB_ok h1
    obtain ⟨xs, r, p⟩ := pairsB_ok h2
    exact ⟨.ref a :: xs, .cons rfl r, .cons ha p⟩
/-- the kind kd has these ranges -/
def Rng (K : PySem.W.Frag) (D : Addr) (kd : Str) (qs : List (Int × Int)) : Prop := ∃ b xs, PySem.W.nsIn K D kd = some (some (.ref b)) ∧ (∀ H, SqT K H b xs) ∧ Pairs K xs qs
theorem rngB_ok {K : PySem.W.Frag} {D : Addr} {kd : Str} {qs : List (Int × Int)} (h : rngB K D kd qs = true) : Rng K D kd qs := by
  unfold rngB at h
  cases e : PySem.W.nsIn K D kd with
  | none =>
    rw [e] at h
    cases h
  | some r =>
    rw [e] at h
    cases r with
    | none => cases h
    | some u =>
      cases u with
      | ref b =>
        have h : (match K.lookup b with
          | some ⟨.type c, _, .seq its _, _⟩ => decide (c = "tuple") && (decide (its.size ≤ sizeLine) && pairsB K its.toList qs)
          | _ => false) = true := h
        cases e2 : K.lookup b with
        | none =>
          rw [e2] at h
          cases h
        | some o =>
          obtain ⟨oc, od, dt, osl⟩ := o
          rw [e2] at h
          cases oc with
          | type c =>
            cases dt with
            | seq its n =>
              obtain ⟨h1, h2⟩ := He.ba h
              obtain ⟨h3, h4⟩ := He.ba h2
              obtain ⟨xs, r, p⟩ := pairsB_ok h4
              exact ⟨b, xs, e, fun H => .inr ⟨_, its, n, e2, congrArg Value.type (of_decide_eq_true h1), rfl, of_decide_eq_true h3, r⟩, p⟩
            | _ => cases h
          | _ => cases dt <;> cases h
      | _ => cases h
/-- RANGES[kind] -/
theorem ix_kd {X : Cx} {d : Addr} {es : Array DictEntry} {n : Nat} (D : KDict X.K X.w d es n) : True := trivial
end Sz
/-! own classes: methods and makers by their promises -/
namespace Sz
open PySem PySem.Spec PyProof.Rows L2
/-- a method's def by its class -/
def DefAtM (K : PySem.W.Frag) (C m q : Str) (st : Stmt) : Prop := ∃ fd, FunD K m q (defArgs st) (defBody st) (defScope st) [] [] (He.ma K (He.ga K C) m) fd
/-- the method m of C keeps the promise sp (the receiver stands first) -/
structure PromM (P : Program) (w : World) (K : PySem.W.Frag) (mg : Str → Option Value) (base : Heap) (CX : CXT) (k : Nat) (C m : Str) (ps : List Str) (sp : Sp) : Prop where
  cl : Cls K (He.ga K C)
  me : Meth K (He.ga K C) m (He.ma K (He.ga K C) m)
  ex : ∃ fd, FnOk P w K mg base CX k (He.ma K (He.ga K C) m) fd ps sp ∧ Binds K fd ps []
/-- C(..) keeps the promise sp: what is told of the values handed in -/
structure PromC (P : Program) (w : World) (K : PySem.W.Frag) (mg : Str → Option Value) (base : Heap) (CX : CXT) (k : Nat) (C : Str) (sp : Sp) : Prop where
  make : Mk K (He.ga K C) (He.ma K (He.ga K C) "__init__")
  mg_ : mg C = some (.ref (He.ga K C))
  ex : ∃ sp0, FnR P w K mg base CX k (He.ma K (He.ga K C) "__init__") sp0 ∧ ∀ vs H Q E, sp vs H Q E → ∀ x dx, H x = none → H dx = none → dx ≠ x →
    sp0 (V.ref x :: vs) (upd (upd H dx (.own x)) x (.ins (He.ga K C) dx [])) (fun v H2 => v = .non ∧ Q (.ref x) H2) E
section
variable {P : Program} {w : World} {K : PySem.W.Frag} {mg : Str → Option Value} {base : Heap}
theorem PromM.of {C m q : Str} {st : Stmt} {ps N : List Str} {sp : Sp} {k : Nat} (cl : Cls K (He.ga K C)) (me : Meth K (He.ga K C) m (He.ma K (He.ga K C) m)) (D : DefAtM K C m q st) (S : FnScope N ps (defScope st)) (len : ∀ vs H Q E, sp vs H Q E → vs.length = ps.length)
    (hb : ∀ (kV doc pm : Value) (an : Option Addr) (cdv ct : Value) (us : List Value), us.length = ps.length → bindArgs (PySem.W.fnOf m q (defArgs st) (defBody st) (defScope st) .none kV doc pm an cdv ct) ⟨us, []⟩ = pure (ps.zip us))
    (hbody : ∀ (f : Addr) (cdv : Value) (A : Around) (outer : List Env) (s : Shared) (H : Hp) (vs : List V) (Q : VK) (E : XK), Room k (A.deeper (envOfC q (defScope st) s.heap.objs.size f cdv)) → sp vs H Q E →
      ∃ t, PSs (cxOf CX0 P w K mg base N q (defScope st) f cdv A outer s H E).nox (defBody st) t ∧ t { nx := fun _ H' => Q .non H', rt := Q } (start N vs) H) :
    PromM P w K mg base CX0 (k + 1) C m ps sp := by
  obtain ⟨fd, F⟩ := D
  refine ⟨cl, me, fd, F.ok S len (fun cdv A outer s H vs Q E hr hs => ?_), F.bindsN hb⟩
  obtain ⟨t, h1, h2⟩ := hbody _ cdv A outer s H vs Q E hr hs
  exact ⟨t, h1.nox, h2⟩
/-- a class whose __init__ takes (self, one, *rest) -/
theorem PromC.star {C q p0 p1 pv : Str} {st : Stmt} {N : List Str} {sp sp0 : Sp} {k : Nat} (mk : Mk K (He.ga K C) (He.ma K (He.ga K C) "__init__")) (hm : mg C = some (.ref (He.ga K C))) (D : DefAtM K C "__init__" q st) (S : FnScope N [p0, p1, pv] (defScope st))
    (h0 : ∀ (kV doc pm : Value) (an : Option Addr) (cdv ct a b : Value), bindArgs (PySem.W.fnOf "__init__" q (defArgs st) (defBody st) (defScope st) .none kV doc pm an cdv ct) ⟨[a, b], []⟩ = (newTuple [] >>= fun t => pure [(p0, a), (p1, b), (pv, t)]))
    (h1 : ∀ (kV doc pm : Value) (an : Option Addr) (cdv ct a b r : Value) (rs : List Value), bindArgs (PySem.W.fnOf "__init__" q (defArgs st) (defBody st) (defScope st) .none kV doc pm an cdv ct) ⟨a :: b :: r :: rs, []⟩ = (newTuple (r :: rs) >>= fun t => pure [(p0, a), (p1, b), (pv, t)]))
    (hbody : ∀ (f : Addr) (cdv : Value) (A : Around) (outer : List Env) (s : Shared) (H : Hp) (vs : List V) (Q : VK) (E : XK), Room k (A.deeper (envOfC q (defScope st) s.heap.objs.size f cdv)) → sp0 vs H Q E →
      ∃ t, PSs (cxOf CX0 P w K mg base N q (defScope st) f cdv A outer s H E).nox (defBody st) t ∧ t { nx := fun _ H' => Q .non H', rt := Q } (start N vs) H)
    (hsp : ∀ vs H Q E, sp vs H Q E → ∃ v rest, vs = v :: rest ∧ rest.length ≤ sizeLine ∧ ∀ x dx p, H x = none → H dx = none → dx ≠ x → p ≠ x → p ≠ dx → H p = none →
      sp0 [.ref x, v, .ref p] (upd (upd (upd H dx (.own x)) x (.ins (He.ga K C) dx [])) p (.tup rest)) (fun u H2 => u = .non ∧ Q (.ref x) H2) E) :
    PromC P w K mg base CX0 (k + 1) C sp := by
  obtain ⟨fd, F⟩ := D
  obtain ⟨oc, od, dV, kV, doc, pm, an, cdv, ct, osl, rfl, lk, hcd, hD, hK⟩ := F.ex
  rcases hD with ⟨_, rfl⟩ | ⟨e, _⟩
  · refine ⟨mk, hm, _, StX.fn_star (ps := [p0, p1]) (pv := pv) (sp := sp0) lk hcd S StX.cxUp_none (StX.bind_star2 (B := fun us => bindArgs _ ⟨us, []⟩) (fun a b => h0 kV doc pm an cdv ct a b) fun a b r rs => h1 kV doc pm an cdv ct a b r rs) (fun A outer s H vs Q E hr hs => ?_), fun vs H Q E hs x dx hx hdx ne => ?_⟩
    · obtain ⟨t, h1, h2⟩ := hbody _ cdv A outer s H vs Q E hr hs
      exact ⟨t, h1.nox, h2⟩
    · obtain ⟨v, rest, rfl, hl, hq⟩ := hsp vs H Q E hs
      refine ⟨[.ref x, v], rest, rfl, rfl, hl, fun p hp => ?_⟩
      have nx : p ≠ x := fun z => by rw [z, upd_same] at hp; cases hp
      rw [upd_ne nx] at hp
      have nd : p ≠ dx := fun z => by rw [z, upd_same] at hp; cases hp
      rw [upd_ne nd] at hp
      exact hq x dx p hx hdx ne nx nd hp
  · exact absurd rfl e
end
section
variable {X : Cx} {CX : CXT} {k : Nat} {x C m : Str} {ps : List Str} {sp : Sp} {E : XK} {e o : Expr} {es : List Expr} {ta : TE} {t : TA} {p pos apos : Pos}
theorem pe_methP {pl : Sem Bool} (G : PromM X.prog X.w X.K X.mg X.base CX k C m ps sp) (hr : Room k X.A) (hx : Passes CX X E) (he : PE X o ta) (ha : PA X (e :: es) t)
    (hst : starEach (e :: es) X.env = (false, eval e X.env) :: starEach es X.env := by rfl) (hpl : (backTo pos (starEach es X.env)).any (·.1) = false := by rfl)
    (ht : eval (.Call (.Attribute o m apos) (e :: es) [] pos) X.env = (do
      let ov ← eval o X.env
      standAt apos.atName
      let (f, first) ← holding [ov] (getMethod ov m pl)
      callWith pos f first (backTo pos (starEach (e :: es) X.env)) (backToKw pos (keywordEach [] X.env))) := by rfl) : PE X (.Call (.Attribute o m apos) (e :: es) [] pos) (tMeth (He.ga X.K C) m sp [] E ta t) := by
  obtain ⟨fd, F, b⟩ := G.ex
  exact pe_meth he G.cl G.me F hr b .nil hx ha hst hpl ht
theorem pe_methP0 {pl : Sem Bool} (G : PromM X.prog X.w X.K X.mg X.base CX k C m ps sp) (hr : Room k X.A) (hx : Passes CX X E) (he : PE X o ta)
    (ht : eval (.Call (.Attribute o m apos) [] [] pos) X.env = (do
      let ov ← eval o X.env
      standAt apos.atName
      let (f, first) ← holding [ov] (getMethod ov m pl)
      callWith pos f first (backTo pos (starEach [] X.env)) (backToKw pos (keywordEach [] X.env))) := by rfl) : PE X (.Call (.Attribute o m apos) [] [] pos) (tMeth (He.ga X.K C) m sp [] E ta tNil) := by
  obtain ⟨fd, F, b⟩ := G.ex
  exact pe_meth0 he G.cl G.me F hr b .nil hx ht
/-- C(e, ..) by what is promised of it -/
def tNew (sp : Sp) (E : XK) (t : TA) : TE := fun σ H Q => t σ H fun vs H1 => sp vs H1 Q E
theorem pe_newP (G : PromC X.prog X.w X.K X.mg X.base CX k x sp) (hr : Room (k + 1) X.A) (hg : Gl X x) (hx : Passes CX X E) (ha : PA X (e :: es) t)
    (hdb : (x == ("__debug__" : Str)) = false := by decide) (he : starEach (e :: es) X.env = (false, eval e X.env) :: starEach es X.env := by rfl) (hpl : (backTo pos (starEach es X.env)).any (·.1) = false := by rfl) :
    PE X (.Call (.Name x p) (e :: es) [] pos) (tNew sp E t) := by
  obtain ⟨sp0, F, hs⟩ := G.ex
  refine ⟨fun pins s σ H Q I h => wpAny_Call_Name_kw (ld_glob I hg G.mg_ (PySem.W.callWith_K (h₀ := X.base) I.ok.mod.kin G.make.kp (thn (ha.run pos pins s σ H _ I h) fun us s1 ⟨vs, H1, I1, r, q⟩ => ⟨I1.kIn, ?_⟩) he hpl) hdb)⟩
  exact StX.run_makeR G.make F hr hx I1 r fun a dx h1 h2 h3 => hs vs H1 Q E q a dx h1 h2 h3
/-- C(e, .., *y) -/
theorem pe_newS (G : PromC X.prog X.w X.K X.mg X.base CX k x sp) (hr : Room (k + 1) X.A) (hg : Gl X x) (hx : Passes CX X E) (ha : PA X (e :: es) t)
    (hdb : (x == ("__debug__" : Str)) = false := by decide) (he : starEach (e :: es) X.env = (false, eval e X.env) :: starEach es X.env := by rfl) (hst : (backTo pos (starEach es X.env)).any (·.1) = true := by rfl) :
    PE X (.Call (.Name x p) (e :: es) [] pos) (tNew sp E t) := by
  obtain ⟨sp0, F, hs⟩ := G.ex
  refine ⟨fun pins s σ H Q I h => wpAny_Call_Name_kw (ld_glob I hg G.mg_ (PySem.W.callWith_S2 (h₀ := X.base) I.ok.mod.kin G.make.kp (thn (ha.run pos pins s σ H _ I h) fun us s1 ⟨vs, H1, I1, r, q⟩ => ⟨I1.kIn, ?_⟩) he hst) hdb)⟩
  exact StX.run_makeR G.make F hr hx I1 r fun a dx h1 h2 h3 => hs vs H1 Q E q a dx h1 h2 h3
end
/-- s[i], s a list or a tuple -/
theorem ix_any {X : Cx} : IxR X (fun x y H Q => rIxL X.K x y H Q ∨ rIxT X.K x y H Q) := by
  intro value slice pins s σ H x y v u Q I rx ry h hs
  rcases h with h | h
  · exact ix_list value slice pins s σ H x y v u Q I rx ry h hs
  · exact ix_tup value slice pins s σ H x y v u Q I rx ry h hs
theorem pe_gstr {X : Cx} {x : Str} {pos : Pos} {v : Str} (h : ∃ u, X.mg x = some (.str v u)) (hg : Gl X x := by rfl) (hd : (x == ("__debug__" : Str)) = false := by decide) : PE X (.Name x pos) (tC (.str v)) := by
  obtain ⟨u, hm⟩ := h
  exact pe_glob hg hm ⟨_, rfl⟩ hd
/-- what isinstance asks of an own class -/
structure IsiK (K : PySem.W.Frag) (C : Addr) : Prop where
  cl : Cls K C
  ha : PySem.W.findIn K (.ref C) "__class__" = some (some (.builtin "object.__class__"))
  hn : PySem.W.specialIn K (.builtin "object.__class__") "__get__" = some (some (.builtin "getset_descriptor.__get__"))
  htk : PySem.W.takesIn K (.builtin "object.__class__") = some true
  hm : PySem.W.mroIn K C (.type "object") = some true
def isiB (K : PySem.W.Frag) (C : Addr) : Bool := He.eqO (PySem.W.findIn K (.ref C) "__class__") (some (some (.builtin "object.__class__"))) && (He.eqO (PySem.W.specialIn K (.builtin "object.__class__") "__get__") (some (some (.builtin "getset_descriptor.__get__"))) &&
  (decide (PySem.W.takesIn K (.builtin "object.__class__") = some true) && decide (PySem.W.mroIn K C (.type "object") = some true)))
theorem isiB_ok {K : PySem.W.Frag} {C : Addr} (cl : Cls K C) (h : isiB K C = true) : IsiK K C := by
  obtain ⟨h1, h⟩ := He.ba h
  obtain ⟨h2, h⟩ := He.ba h
  obtain ⟨h3, h4⟩ := He.ba h
  exact ⟨cl, He.eqO_ok h1, He.eqO_ok h2, of_decide_eq_true h3, of_decide_eq_true h4⟩
theorem IsiK.ty {K : PySem.W.Frag} {C : Addr} (i : IsiK K C) {H : Hp} {a dx : Addr} {fs : List (Str × V)} (h : H a = some (.ins C dx fs)) : TyX K H (.ref a) (.ref C) := .base (.ins h i.cl i.ha i.hn i.htk i.hm)
theorem kit_self {K : PySem.W.Frag} {t : Value} : PySem.W.kitOne K t t = some true := by
  unfold PySem.W.kitOne
  rw [if_pos (by simp)]
end Sz
/-! enumerate over a tuple (the hand layer has it for lists): by what the tuple's iterator draws -/
namespace Sz
open PySem PySem.Spec PyProof.Rows L2
/-- enumerate(v) where iter(v) begins an object o -/
theorem meets_enum1 {v : Value} {o : Obj} {Hh : Heap → Prop} (B : Begins v o Hh) : Meets (Builtin.«enumerate.__new__» ⟨[.type "enumerate", v], []⟩) (fun _ R s => Hh s.heap ∧ R (.ok (.ret (.ref (s.heap.push o).objs.size)))
    { s with heap := (s.heap.push o).push { cls := .type "enumerate", data := .fields #[.none, .bool false, .ref s.heap.objs.size, rawInt 0, .none, .none] } }) := .of_wp fun prog w A R s h => by
  obtain ⟨hp, g, d, tk, os⟩ := s
  have hsub := sub_enumerate
  have it1 : ∀ {A' : Around} {Ex : Value → Shared → Prop} {Q : Value → Shared → Prop}, Q (.ref hp.objs.size) ⟨hp.push o, g, d, tk, os⟩ → wpAny (model prog w) A' (pyIter v) Q Ex ⟨hp, g, d, tk, os⟩ := fun q => B.iter prog w _ _ ⟨hp, g, d, tk, os⟩ _ h.1 q
  wp_walk using it1
  refine wpAny_stack_any (fun st => wpAny_pure ?_)
  split
  · rename_i c _ _ _ _ _
    cases (c == Value.type "enumerate") <;> (wp_walk using it1; exact ⟨_, rfl, h.2⟩)
  · wp_walk using it1
    exact ⟨_, rfl, h.2⟩
theorem call_enum1 {prog : Program} {w : World} {A : Around} {Ex : Value → Shared → Prop} {s : Shared} {v : Value} {o : Obj} {Hh : Heap → Prop} {Q : Value → Shared → Prop} (B : Begins v o Hh) (h1 : Hh s.heap)
    (k : ∀ h', IsEnum h' (s.heap.objs.size + 1) s.heap.objs.size 0 .none → h'.get? s.heap.objs.size = some o → (∀ b u, s.heap.get? b = some u → h'.get? b = some u) → Q (.ref (s.heap.objs.size + 1)) { s with heap := h' }) :
    wpAny (model prog w) A (call (.type "enumerate") [v]) Q Ex s := by
  refine callType_new F.called_enumerate (by decide) (F.typeCall_enumerate_1 _) (F.newCall_enumerate_1 _) (fun obj => F.args_object_init_2 obj _) F.entry_enumerate_new (meets_enum1 B) ⟨h1, ?_⟩
  have z : (s.heap.push o).objs.size = s.heap.objs.size + 1 := Heap.size_push ..
  have e := Heap.get?_push_size (s.heap.push o) (o := { cls := .type "enumerate", data := .fields #[.none, .bool false, .ref s.heap.objs.size, rawInt 0, .none, .none] }) rfl
  rw [z] at e
  show _ ∧ _
  rw [z]
  exact ⟨⟨_, e, rfl⟩, k _ e (Heap.get?_push_of_some _ (Heap.get?_push_size _ B.free)) fun b u x => Heap.get?_push_of_some _ (Heap.get?_push_of_some _ x)⟩

/-- the tuple at a, each item in a new pair -/
def IteT (K : PySem.W.Frag) (a : Addr) : It where
  go := fun i H => ∃ (xs : List V) (x : V), SqT K H a xs ∧ xs[i]? = some x
  yld := fun i H v H' => ∃ T x, v = .ref T ∧ H T = none ∧ H' = upd H T (.tup [.int (i : Nat), x]) ∧ ∀ xs, SqT K H a xs → xs[i]? = some x
  stop := fun i H => ∃ xs : List V, SqT K H a xs ∧ xs.length ≤ i
section
variable {X : Cx} {pins : List (Addr × Obj)} {σ : L2.St} {H : Hp} {s : Shared} {a e it : Addr} {i : Nat} {old : Value} {its : List Value}
theorem enumT_walks (hd : X.A.handled = none) (he : IsEnum s.heap e it ((i : Nat) : Int) old) (hit : s.heap.IsTupleIter it a i) (hne : e ≠ it) (p : s.heap.IsTuple a its.toArray) :
    WalksT X.prog X.w X.A e [e, it, a] [e, it] its.toArray.size (fun i vals => ∃ t x, its.toArray[i]? = some x ∧ vals = #[.int i t, x]) (fun i h => (∃ old, IsEnum h e it i old) ∧ h.IsTupleIter it a i ∧ h.IsTuple a its.toArray)
      (fun i T h => (∃ x, IsEnumOut h e it ((i : Int) + 1) x T) ∧ (h.IsTupleIter it a (i + 1) ∧ h.IsTuple a its.toArray) ∧ T ≠ e ∧ T ≠ it) := by
  have n1 : a ≠ it := fun z => by
    obtain ⟨o1, q1, c1, _⟩ := p
    obtain ⟨o2, q2, c2, _⟩ := hit
    rw [z, q2] at q1
    cases q1
    exact absurd (c2.symm.trans c1) (by decide)
  have n2 : e ≠ a := fun z => by
    obtain ⟨o1, q1, c1, _⟩ := p
    have he' : s.heap.get? e = _ := he
    rw [z, q1] at he'
    cases he'
    have c1 : Value.type "enumerate" = Value.type "tuple" := c1
    exact absurd c1 (by decide)
  exact WalksT.enumerateD (A := X.A) (Draws.tuple (A := X.A.in1) hd it a n1 its.toArray) e hne (by simp [hne, n2]) (by simp)
end
theorem enumT_done {prog : Program} {w : World} {A : Around} {Ex : Value → Shared → Prop} {s : Shared} {a e it : Addr} {i : Nat} {old : Value} {items : Array Value} {Q : Option Value → Shared → Prop} (hh : A.handled = none) (he : IsEnum s.heap e it ((i : Nat) : Int) old)
    (hit : s.heap.IsTupleIter it a i) (p : s.heap.IsTuple a items) (hx : items[i]? = none) (k : ∀ h', Heap.ExtBut it s.heap h' → Q none { s with heap := h' }) : wpAny (model prog w) A (pyNext (.ref e)) Q Ex s := by
  unfold pyNext
  refine wpAny_bind (wpAny_attempt (wpAny_callSpecial?_slot (name := Str.ofString "__next__") ⟨_, he, rfl⟩ F.slot_enumerate_next (wpAny_call_entry F.slot_enumerate_next ⟨_, he, rfl⟩ F.entry_enumerate_next ?_ (F.args_enumerate_next_1 _))))
  show wpAny _ _ (field (.ref e) 2 >>= _) _ _ s
  refine wpAny_bind (wpAny_field he rfl (x := .ref it) rfl (wpAny_bind (wpAny_nextOf_tuple_end hh hit p hx fun h' x ext ⟨o, ho, hc⟩ => ?_)))
  exact wpAny_bind (wpAny_isInstance (T := "StopIteration") (b := true) ⟨o, ho, hc⟩ isSubtype_stop (wpAny_pure (k _ ext)))
theorem turn_enumT {P : Program} {w : World} {K : PySem.W.Frag} {elts : List Expr} {kk : Nat} {tpos : Pos} (a e it : Addr) :
    Turn P w K (.Tuple elts kk tpos) (IteT K a) [e, it] e (fun i h => (∃ old, IsEnum h e it ((i : Nat) : Int) old) ∧ h.IsTupleIter it a i ∧ e ≠ it) where
  mem := List.mem_cons_self ..
  obj := fun i h st b hb => by
    obtain ⟨⟨old, he⟩, ⟨o, ho, _, hd⟩, _⟩ := st
    rcases List.mem_cons.mp hb with z | z
    · subst z
      exact ⟨_, he, fun v q => nomatch q⟩
    · rw [List.mem_singleton.mp z]
      exact ⟨o, ho, fun v q => by rw [hd] at q; cases q⟩
  keep := fun i h h' ⟨⟨old, he⟩, hi, hne⟩ k => ⟨⟨old, k e (List.mem_cons_self ..) _ he⟩, hi.at fun o q => k it (List.mem_cons_of_mem _ (List.mem_cons_self ..)) o q, hne⟩
  item := by
    intro X hP hw hK hc i pins s σ H E I hf ⟨⟨old, he⟩, hit, hne⟩ ⟨xs, x, hq, hx⟩
    subst hP hw hK
    obtain ⟨its, rv, p, hz⟩ := I.tuple hq
    obtain ⟨u, hu, ru⟩ := rv.get hx
    have p' : s.heap.IsTuple a its.toArray := p
    have W := enumT_walks (X := X) (I.ok.hd hc) he hit hne p'
    have hlt : i < its.toArray.size := by simpa using (List.getElem?_eq_some_iff.mp hu).1
    refine W.item i s _ E hlt ⟨⟨old, he⟩, hit, p'⟩ fun T vals h' tk hv hT isT mid k1 => ⟨_, rfl, ?_⟩
    obtain ⟨t, y, hy, rfl⟩ := hv
    have ey : u = y := by
      have e1 : its.toArray[i]? = some u := by simpa using hu
      exact Option.some.inj (e1.symm.trans hy)
    subst ey
    refine W.go elts kk tpos i T { s with heap := h', toks := tk } _ E mid fun h2 st2 k2 => ?_
    have away := W.apart i T h' mid
    obtain ⟨oT, hoT, cT, nT, dT⟩ := isT
    have hoT2 : h2.get? T = some oT := k2 T oT away hoT
    have new : ObjOk X.prog X.w (upd H T (.tup [.int (i : Nat), x])) h2 T (.tup [.int (i : Nat), x]) := ⟨by show 2 ≤ sizeLine; decide, [.int i t, u], .cons ⟨_, rfl⟩ (.cons ru .nil), ⟨oT, hoT2, cT, nT, dT⟩⟩
    have I1 : Inv X pins σ (upd H T (.tup [.int (i : Nat), x])) { s with heap := h2, toks := tk } := I.turnedNew (ch := [e, it]) (fun b ob hb q => k2 b ob hb (k1 b ob hb q)) hf hT new
    refine ⟨.ref T, _, I1, rfl, ⟨T, x, rfl, I.hok.fresh hT, rfl, fun ys hy => by rw [I.tuple_inj hy hq]; exact hx⟩, ⟨st2.1, st2.2.1, hne⟩, fun b hb => ?_⟩
    have nb : b ≠ T := fun z => away (by rw [← z]; exact hb)
    rw [upd_ne nb]
    exact (hf b hb).1
  done := by
    intro X hP hw hK hc i pins s σ H E I hf ⟨⟨old, he⟩, hit, hne⟩ ⟨xs, hq, hx⟩
    subst hP hw hK
    obtain ⟨its, rv, p, hz⟩ := I.tuple hq
    have p' : s.heap.IsTuple a its.toArray := p
    have hl := rv.length
    obtain ⟨o, ho, cT, nT, dT⟩ := id p'
    obtain ⟨f0, f1, f2, f3, f4, f5⟩ := hf it (List.mem_cons_of_mem _ (List.mem_cons_self ..))
    refine enumT_done (I.ok.hd hc) he hit p' (by simp; omega) fun h' ex => ⟨rfl, I.turned (t' := s.toks) (fun b ob hb q => ex b ob hb q) f0 f1 f3 f4 f5⟩
  self := fun A i s Q E ⟨⟨_, he⟩, _⟩ h => wpAny_pyIter_enum he h
def iEnumT (K : PySem.W.Frag) (ta : TA) : TI := fun σ H R => ta σ H fun vs H1 => ∃ a xs, vs = [.ref a] ∧ SqT K H1 a xs ∧ R (IteT K a) H1
theorem pi_enumT {X : Cx} {e : Expr} {ta : TA} {p pos tpos : Pos} {elts : List Expr} {kk : Nat} (hg : Gl X "enumerate") (hm : X.mg "enumerate" = none) (ha : PA X [e] ta) (hs : starEach [e] X.env = [(false, eval e X.env)] := by rfl) :
    PI X (.Tuple elts kk tpos) (.Call (.Name "enumerate" p) [e] [] pos) (iEnumT X.K ta) := by
  refine ⟨fun pins s σ H R I h => Call_ (ld_blt I hg hm boot_enumerate (PyProof.Rows.callWith_type1 (thn (ha.run pos pins s σ H _ I h) fun us s1 ⟨vs, H1, I1, r1, q1⟩ => ?_) hs rfl))⟩
  obtain ⟨a, xs, rfl, hq, q⟩ := q1
  cases r1 with
  | cons r rr =>
    cases rr
    cases r
    obtain ⟨its, rv, p', hz⟩ := I1.tuple hq
    refine call_enum1 (begins_tuple a its.toArray) (show s1.heap.IsTuple a its.toArray from p') fun h' he hit hk => wpAny_pyIter_enum he ?_
    refine ⟨s1.heap.objs.size + 1, [s1.heap.objs.size + 1, s1.heap.objs.size], _, _, H1, rfl, I1.kept (t' := s1.toks) hk, turn_enumT a _ _, ⟨⟨.none, he⟩, ⟨_, hit, rfl, rfl⟩, Nat.succ_ne_self _⟩, fun b hb => ?_, q⟩
    have hle : s1.heap.objs.size ≤ b := by
      rcases List.mem_cons.mp hb with z | z
      · rw [z]
        exact Nat.le_add_right _ 1
      · rw [List.mem_singleton.mp z]
        exact Nat.le_refl _
    exact I1.fpOk hle (I1.hok.fresh hle)
theorem walk_enumT {K : PySem.W.Frag} {a : Addr} {xs : List V} : Walk (IteT K a) xs.length (fun H => SqT K H a xs) (YPair (fun i => some (.int (i : Nat))) (fun i => xs[i]?)) :=
  ⟨fun i _ hi q => ⟨xs, xs[i], q, by simp [hi]⟩, fun _ q => ⟨xs, q, Nat.le_refl _⟩, fun i H v H' _ q ⟨T, x, h1, h2, h3, h4⟩ => ⟨T, .int (i : Nat), x, h1, h2, h3, rfl, h4 xs q⟩⟩
end Sz
namespace Sz
open PySem PySem.Spec PyProof.Rows L2
/-! ### ranges of integers of any size -/
theorem turn_long {P : Program} {w : World} {K : PySem.W.Frag} {tg : Expr} (it : Addr) (lo : Int) (n : Nat) :
    Turn P w K tg (Itr lo n) [it] it (fun i h => IsLongIter h it (lo + (i : Nat) * 1) ((n : Int) - (i : Nat)) 1) := by
  have fpit : ∀ {X : Cx} {pins : List (Addr × Obj)} {σ : L2.St} {H : Hp} {s : Shared} {h' : Heap} {tk : Nat}, Inv X pins σ H s → FpOk X pins H it → (∀ b o, b ≠ it → s.heap.get? b = some o → h'.get? b = some o) → Inv X pins σ H { s with heap := h', toks := tk } := fun I f k => by
    obtain ⟨g0, g1, _, g3, g4, g5⟩ := f
    exact I.turned k g0 g1 g3 g4 g5
  constructor
  · exact List.mem_singleton_self it
  · intro i h z b hb
    cases List.mem_singleton.mp hb
    refine ⟨_, z, fun v y => ?_⟩
    have y' : Data.fields _ = Data.cell v := y
    cases y'
  · exact fun i h h' z keep => keep it (List.mem_singleton_self it) _ z
  · intro X e1 e2 e3 calm i pins s σ H E I fp z go
    subst e1 e2 e3
    have wk := Walks.longrange (prog := X.prog) (w := X.w) (I.ok.hd calm) it lo 1 n
    refine wk.item i s _ _ go z ?_
    rintro v h' tk ⟨t, rfl⟩ z' kp
    have J := fpit (tk := tk) I (fp it (List.mem_singleton_self it)) fun b o hb e => kp b o (by simpa using hb) e
    refine ⟨_, rfl, go_of (s := { s with heap := h', toks := tk }) (n := "longrange_iterator") z' rfl rfl (by decide) ?_⟩
    exact ⟨.int (lo + i), H, J, ⟨t, by rw [Int.mul_one]⟩, ⟨rfl, rfl⟩, z', fun b hb => (fp b hb).1⟩
  · intro X e1 e2 e3 calm i pins s σ H E I fp z stop
    subst e1 e2 e3
    refine wpAny_pyNext_long_end (I.ok.hd calm) z (by have : n ≤ i := stop; omega) fun h' eb => ⟨rfl, ?_⟩
    exact fpit (tk := s.toks) I (fp it (List.mem_singleton_self it)) eb
  · exact fun A i s Q E z h => wpAny_pyIter_longiter z h
section
variable {X : Cx} {tg : Expr}
theorem range_any {pins : List (Addr × Obj)} {σ : L2.St} {H : Hp} {s : Shared} {R : It → Hp → Prop} {E : Value → Shared → Prop} {lo hi : Int} {t u v : Tok} {tk : Nat} (I : Inv X pins σ H s)
    (q : R (Itr lo (hi - lo).toNat) H) : wpAny (model X.prog X.w) X.A (pyIter (.ref s.heap.objs.size)) (PIE X pins σ tg R) E { s with heap := s.heap.push { cls := .type "range", data := .fields #[.int lo t, .int hi u, .int 1 v] }, toks := tk } := by
  generalize hr : s.heap.push { cls := .type "range", data := .fields #[.int lo t, .int hi u, .int 1 v] } = hp
  have J : Inv X pins σ H { s with heap := hp, toks := tk } := by
    rw [← hr]
    exact I.kept fun b o e => Heap.get?_push_of_some _ e
  have fresh : ∀ b ∈ [hp.objs.size], FpOk X pins H b := fun b hb => by
    cases List.mem_singleton.mp hb
    exact J.fpOk (Nat.le_refl _) (J.hok.fresh (Nat.le_refl _))
  have ir : IsRange hp s.heap.objs.size lo hi 1 t u v := by
    rw [← hr]
    exact IsRange.new ..
  have x0 : lo + ((0 : Nat) : Int) * 1 = lo := by simp
  have n0 : (((hi - lo).toNat : Nat) : Int) - ((0 : Nat) : Int) = Builtin.Range.rangeSize lo hi 1 := by
    rw [rangeSize_one]
    split <;> omega
  cases sm : Builtin.Range.small lo hi 1 with
  | true =>
    refine wpAny_pyIter_range ir sm ?_
    refine ⟨hp.objs.size, [hp.objs.size], _, _, H, rfl, J.kept (t' := tk) fun b o e => Heap.get?_push_of_some _ e, turn_range _ lo (hi - lo).toNat, ?_, fresh, q⟩
    show IsRangeIter _ _ (lo + ((0 : Nat) : Int) * 1) ((((hi - lo).toNat : Nat) : Int) - ((0 : Nat) : Int)) 1
    rw [x0, n0]
    exact Heap.get?_push_size hp rfl
  | false =>
    refine wpAny_pyIter_longrange ir sm ?_
    refine ⟨hp.objs.size, [hp.objs.size], _, _, H, rfl, J.kept (t' := tk) fun b o e => Heap.get?_push_of_some _ e, turn_long _ lo (hi - lo).toNat, ?_, fresh, q⟩
    show IsLongIter _ _ (lo + ((0 : Nat) : Int) * 1) ((((hi - lo).toNat : Nat) : Int) - ((0 : Nat) : Int)) 1
    rw [x0, n0]
    exact Heap.get?_push_size hp rfl
def iRngA (ta : TA) : TI := fun σ H R => ta σ H fun vs H1 => ∃ i j : Int, vs = [.int i, .int j] ∧ R (Itr i (j - i).toNat) H1
theorem pi_range2A {a b : Expr} {ta : TA} {p pos : Pos} (hg : Gl X "range") (hm : X.mg "range" = none) (ha : PA X [a, b] ta) (s1 : starEach [a, b] X.env = [(false, eval a X.env), (false, eval b X.env)] := by rfl) (s2 : starEach [b] X.env = [(false, eval b X.env)] := by rfl) :
    PI X tg (.Call (.Name "range" p) [a, b] [] pos) (iRngA ta) := by
  constructor
  intro pins s σ H R I h
  refine Call_ (ld_blt I hg hm boot_range (PyProof.Rows.callWith_type1 (thn (ha.run pos pins s σ H _ I h) ?_) (by rw [s1, s2]) (by rw [s2]; rfl)))
  rintro us sA ⟨vs, H1, I1, r1, i, j, rfl, q⟩
  obtain ⟨t, t', rfl⟩ := Vals.int2 r1
  exact call_range_2 (range_any I1 q)
end
end Sz
namespace Sz
open PySem PySem.Spec PyProof.Rows L2
/-! ### list(range(a, b)) of integers of any size -/
section
variable {prog : Program} {w : World} {A : Around} {E : Value → Shared → Prop} {s : Shared}
/-- L.extend(range(a, b)), L empty -/
theorem extend_long {R : Result → Shared → Prop} {r : Addr} {a b : Int} {t u v : Tok} {n : Nat} (calm : A.handled = none) (ir : IsRange s.heap r a b 1 t u v) (big : Builtin.Range.small a b 1 = false) (size : Builtin.Range.rangeSize a b 1 = n) (few : n ≤ 2 ^ 24)
    (L : Addr) (out : Value) (c : Nat) (hL : s.heap.get? L = some { cls := .type "list", data := .seq #[] c })
    (goal : ∀ h' tk its c', (∀ x o, x ≠ L → s.heap.get? x = some o → h'.get? x = some o) → h'.get? L = some { cls := .type "list", dict := none, data := .seq its c', slots := #[] } → ItemsOf (fun i z => ∃ y, z = .int (a + i * 1) y) its n →
      R (.ok (.ret out)) { s with heap := h', toks := tk }) :
    wpAny (model prog w) A.in1 (Builtin.List.listExtendWith (.ref L) (.ref r) out) (fun fin s' => match fin with
      | .done f => R (.ok f) s'
      | .again c' => c'.quiet = true ∧ codeAny (model prog w) A c' R s') (fun e s' => R (.error e) s') s := by
  have ne1 : L ≠ r := by
    rintro rfl
    rw [ir] at hL
    simp at hL
  have ne2 : L ≠ s.heap.objs.size := Nat.ne_of_lt (Heap.lt_size hL)
  have wk := (Walks.longrange (prog := prog) (w := w) (A := A.in1) calm s.heap.objs.size a 1 n).toS
  have loop : ∀ (h : Heap) (c1 tk : Nat), IsLongIter h s.heap.objs.size (a + ((0 : Nat) : Int) * 1) ((n : Int) - ((0 : Nat) : Int)) 1 → (∀ x o, x ≠ L → s.heap.get? x = some o → h.get? x = some o) → h.get? L = some { cls := .type "list", data := .seq #[] c1 } →
      codeAny (model prog w) A (.builtin "list.extend.loop" ⟨[.ref L, .ref s.heap.objs.size, out], []⟩) R { s with heap := h, toks := tk } := fun h c1 tk z kp hl => by
    refine codeAny_extend_loopS wk (by rw [sizeLine_eq]; omega) L (fun m => ne2 (List.mem_singleton.mp m)) out n 0 _ #[] c1 rfl (Nat.zero_le _) z hl (ItemsOf.nil _) ?_
    intro s' its c' mv hl' hi
    rw [Moved.eq_with mv]
    refine goal s'.heap s'.toks its c' (fun x o hx e => mv.heap x o (fun m => ?_) (kp x o hx e)) hl' hi
    cases List.mem_cons.mp m with
    | inl q => exact hx q
    | inr q =>
      have q1 := List.mem_singleton.mp q
      rw [q1] at e
      exact absurd (Heap.lt_size e) (Nat.lt_irrefl _)
  unfold Builtin.List.listExtendWith
  refine wpAny_bind (wpAny_typeOf (T := "range") ⟨_, ir, rfl⟩ ?_)
  have f1 : Builtin.List.listSameRef (.ref L) (.ref r) = false := by
    simp [Builtin.List.listSameRef, ne1]
  have f2 : (Value.type "range" == Value.type "list") = false := by decide
  have f3 : (Value.type "range" == Value.type "tuple") = false := by decide
  simp only [f1, f2, f3, Bool.or_false, Bool.false_eq_true, if_false]
  refine wpAny_bind (wpAny_pyIter_longrange ir big (wpAny_bind (wpAny_holding (wpAny_hint_range (n := n) (Heap.get?_push_of_some _ ir) size few ?_))))
  generalize hg : s.heap.push { cls := .type "longrange_iterator", data := .fields #[rawInt a, rawInt (Builtin.Range.rangeSize a b 1), rawInt 1] } = g
  have gi : IsLongIter g s.heap.objs.size (a + ((0 : Nat) : Int) * 1) ((n : Int) - ((0 : Nat) : Int)) 1 := by
    have x0 : a + ((0 : Nat) : Int) * 1 = a := by simp
    have x1 : (n : Int) - ((0 : Nat) : Int) = Builtin.Range.rangeSize a b 1 := by rw [size]; simp
    rw [x0, x1, ← hg]
    exact Heap.get?_push_size _ rfl
  have gk : ∀ x o, s.heap.get? x = some o → g.get? x = some o := fun x o e => by
    rw [← hg]
    exact Heap.get?_push_of_some _ e
  have gL := gk L _ hL
  refine wpAny_ite_split (fun _ => ?_) fun _ => wpAny_pure ⟨plainId_quiet F.plain_extend_loop _, loop _ c _ gi (fun x o _ e => gk x o e) gL⟩
  refine wpAny_bind (wpAny_rule (wpAny_bind ?_))
  show wpAny _ _ (updateSeq L (·.push .none) >>= fun _ => updateSeq L (·.pop)) _ _ _
  refine wpAny_bind (wpAny_updateSeq gL rfl ?_)
  have m1 := Heap.get?_update_self (Obj.mapSeq (·.push Value.none)) gL rfl
  refine wpAny_updateSeq (hz := by seq_fits) m1 rfl (wpAny_pure ⟨plainId_quiet F.plain_extend_loop _, loop _ _ _ ?_ (fun x o hx e => ?_) (Heap.get?_update_self (Obj.mapSeq (·.pop)) m1 rfl)⟩)
  · exact (Heap.get?_update_other _ _ ne2).trans ((Heap.get?_update_other _ _ ne2).trans gi)
  · exact (Heap.get?_update_other _ _ (Ne.symm hx)).trans ((Heap.get?_update_other _ _ (Ne.symm hx)).trans (gk x o e))
theorem call_list_long {Q : Value → Shared → Prop} {r : Addr} {a b : Int} {t u v : Tok} {n : Nat} (calm : A.handled = none) (ir : IsRange s.heap r a b 1 t u v) (big : Builtin.Range.small a b 1 = false) (size : Builtin.Range.rangeSize a b 1 = n) (few : n ≤ 2 ^ 24)
    (goal : ∀ h' tk its c', (∀ x o, s.heap.get? x = some o → h'.get? x = some o) → h'.get? s.heap.objs.size = some { cls := .type "list", dict := none, data := .seq its c', slots := #[] } → ItemsOf (fun i z => ∃ y, z = .int (a + i * 1) y) its n →
      Q (.ref s.heap.objs.size) { s with heap := h', toks := tk }) : wpAny (model prog w) A (call (.type "list") [.ref r]) Q E s := by
  refine callType_codes (Q₁ := fun obj s1 => obj = .ref s.heap.objs.size ∧ s1 = { s with heap := s.heap.push { cls := .type "list", data := .seq #[] } }) F.called_list (F.typeCall_list_1 _) F.entry_list_init (code_list_new _ ⟨rfl, rfl⟩) ?_
  rintro _ _ ⟨rfl, rfl⟩
  generalize hg : s.heap.push { cls := .type "list", data := .seq #[] } = g
  have gk : ∀ x o, s.heap.get? x = some o → g.get? x = some o := fun x o e => by
    rw [← hg]
    exact Heap.get?_push_of_some _ e
  have gL : g.get? s.heap.objs.size = some { cls := .type "list", data := .seq #[] } := by
    rw [← hg]
    exact Heap.get?_push_size _ rfl
  have lt : ∀ x o, s.heap.get? x = some o → x ≠ s.heap.objs.size := fun x o e => Nat.ne_of_lt (Heap.lt_size e)
  generalize hS : s.heap.objs.size = L at gL goal lt
  have nr : r ≠ L := lt r _ ir
  refine ⟨⟨_, gL, rfl⟩, F.args_list_init_2 _ _, ?_⟩
  show wpAny _ _ (do let old ← Builtin.List.listItems (.ref L); Builtin.List.listUpdate (.ref L) (fun _ => #[]); letGo old.toList.reverse; Builtin.List.listExtendWith (.ref L) (.ref r) .none) _ _ _
  unfold Builtin.List.listItems
  refine wpAny_bind (wpAny_bind (wpAny_seqItems gL rfl (wpAny_pure ?_)))
  show wpAny _ _ (updateSeq L (fun _ => #[]) >>= fun _ => letGo (#[] : Array Value).toList.reverse >>= fun _ => Builtin.List.listExtendWith (.ref L) (.ref r) .none) _ _ _
  refine wpAny_bind (wpAny_updateSeq gL rfl (wpAny_bind (wpAny_letGo ?_)))
  have ot : ∀ x o, x ≠ L → g.get? x = some o → (g.update L (Obj.mapSeq (fun _ => (#[] : Array Value)))).get? x = some o := fun x o hx e => (Heap.get?_update_other _ _ (Ne.symm hx)).trans e
  refine extend_long (A := A.in1) calm (ot r _ nr (gk r _ ir)) big size few L .none _ (Heap.get?_update_self (Obj.mapSeq (fun _ => (#[] : Array Value))) gL rfl) fun h' tk its c' kp hl' hi => ?_
  exact ⟨rfl, goal h' tk its c' (fun x o e => kp x o (lt x o e) (ot x o (lt x o e) (gk x o e))) hl' hi⟩
end
section
variable {X : Cx} {e : Expr} {te : L2.St → Hp → (Int → Int → Hp → Prop) → Prop}
def tLstA (te : L2.St → Hp → (Int → Int → Hp → Prop) → Prop) : TE := fun σ H Q => te σ H fun a b H1 => (b - a).toNat ≤ 1000000 ∧ ∀ q, H1 q = none → Q (.ref q) (upd H1 q (.lst (rgV a b)))
/-- list(range(..)) -/
theorem pe_listA {p pos : Pos} (hc : X.calm = true) (hg : Gl X "list") (hm : X.mg "list" = none) (he : PRg X e te) (na : starEach [e] X.env = (false, eval e X.env) :: starEach [] X.env := by rfl) : PE X (.Call (.Name "list" p) [e] [] pos) (tLstA te) := by
  constructor
  intro pins s σ H Q I h
  refine Call_ (ld_blt I hg hm boot_list (PyProof.Rows.callWith_type1 (args_cons (thn (he pins s σ H _ I h) ?_) na) na))
  rintro _ s1 ⟨r, a, b, t, u, v, H1, rfl, ir, J, few, q⟩
  refine args_nil ?_
  have few2 : (b - a).toNat ≤ 2 ^ 24 := Nat.le_trans few (by decide)
  have fin : ∀ h' tk its c', (∀ x o, s1.heap.get? x = some o → h'.get? x = some o) → h'.get? s1.heap.objs.size = some { cls := .type "list", dict := none, data := .seq its c', slots := #[] } → ItemsOf (fun i z => ∃ y, z = .int (a + i * 1) y) its (b - a).toNat →
      EP X pins σ Q (.ref s1.heap.objs.size) { s1 with heap := h', toks := tk } := fun h' tk its c' kp at_ hi => by
    refine ⟨.ref s1.heap.objs.size, upd H1 s1.heap.objs.size (.lst (rgV a b)), J.laid kp (Nat.le_refl _) ?_, rfl, q _ (J.hok.fresh (Nat.le_refl _))⟩
    refine (show ObjOk X.prog X.w _ _ _ (.lst (rgV a b)) from ⟨?_, its.toList, c', vals_rg hi, ?_⟩)
    · rw [rgV_length, sizeLine_eq]
      omega
    · rw [Array.toArray_toList]
      exact at_
  cases sm : Builtin.Range.small a b 1 with
  | true => exact call_list_range (J.ok.hd hc) ir sm (rangeSize_nat a b) few2 fin
  | false => exact call_list_long (J.ok.hd hc) ir sm (rangeSize_nat a b) few2 fin
end
end Sz
/-! x + y by an own __add__ -/
namespace Sz
open PySem PySem.Spec PyProof.Rows L2
/-- what the two classes must have: C its own def, D none, both stand under object alone -/
structure AddK (K : PySem.W.Frag) (C D f : Addr) : Prop where
  ne : C ≠ D
  c1 : ∃ cd, PySem.W.clsIn K C = some cd ∧ cd.mro = [.ref C, .type "object"]
  c2 : ∃ cd, PySem.W.clsIn K D = some cd ∧ cd.mro = [.ref D, .type "object"]
  at_ : PySem.W.findIn K (.ref C) "__add__" = some (some (.ref f))
  fn : PySem.W.isFn K (.ref f) = true
  n1 : PySem.W.findIn K (.ref D) "__add__" = some none
  n2 : PySem.W.findIn K (.ref D) "__radd__" = some none
def mroB (K : PySem.W.Frag) (C : Addr) : Bool := match PySem.W.clsIn K C with
  | some cd => decide (cd.mro = [.ref C, .type "object"])
  | none => false
def addB (K : PySem.W.Frag) (C D : Str) : Bool := decide (He.ga K C ≠ He.ga K D) && (mroB K (He.ga K C) && (mroB K (He.ga K D) && (He.eqO (PySem.W.findIn K (.ref (He.ga K C)) "__add__") (some (some (.ref (He.ma K (He.ga K C) "__add__")))) &&
  (PySem.W.isFn K (.ref (He.ma K (He.ga K C) "__add__")) && (He.eqO (PySem.W.findIn K (.ref (He.ga K D)) "__add__") (some none) && He.eqO (PySem.W.findIn K (.ref (He.ga K D)) "__radd__") (some none))))))
theorem mroB_ok {K : PySem.W.Frag} {C : Addr} (h : mroB K C = true) : ∃ cd, PySem.W.clsIn K C = some cd ∧ cd.mro = [.ref C, .type "object"] := by
  unfold mroB at h
  cases e : PySem.W.clsIn K C with
  | none =>
    rw [e] at h
    cases h
  | some cd =>
    rw [e] at h
    exact ⟨cd, rfl, of_decide_eq_true h⟩
theorem addB_ok {K : PySem.W.Frag} {C D : Str} (h : addB K C D = true) : AddK K (He.ga K C) (He.ga K D) (He.ma K (He.ga K C) "__add__") := by
  obtain ⟨h1, h⟩ := He.ba h
  obtain ⟨h2, h⟩ := He.ba h
  obtain ⟨h3, h⟩ := He.ba h
  obtain ⟨h4, h⟩ := He.ba h
  obtain ⟨h5, h⟩ := He.ba h
  obtain ⟨h6, h7⟩ := He.ba h
  exact ⟨of_decide_eq_true h1, mroB_ok h2, mroB_ok h3, He.eqO_ok h4, h5, He.eqO_ok h6, He.eqO_ok h7⟩
section
variable {K : PySem.W.Frag} {M : Model} {h : Heap} {C D f : Addr}
theorem fills_own (X : K.In h) (a : AddK K C D f) : PySem.W.Looks M h (fillsNumberSlot (.ref C) "add") true := by
  obtain ⟨cd, e1, e2⟩ := a.c1
  have L1 : PySem.W.Looks M h (mroOf (.ref C)) cd.mro := (PySem.W.looks_clsIn X e1).andThen .now
  have L2 : PySem.W.Looks M h (typeLookup (.ref C) "__add__") (some (.ref f)) := PySem.W.looks_findIn X a.at_
  unfold fillsNumberSlot
  refine PySem.W.Looks.andThen L1 ?_
  rw [e2]
  simp only [List.anyM]
  refine PySem.W.Looks.andThen (a := true) ?_ .now
  refine PySem.W.Looks.andThen (a := true) (PySem.W.Looks.andThen L2 ?_) .now
  exact .now
theorem fills_none (X : K.In h) (a : AddK K C D f) : PySem.W.Looks M h (fillsNumberSlot (.ref D) "add") false := by
  obtain ⟨cd, e1, e2⟩ := a.c2
  have L1 : PySem.W.Looks M h (mroOf (.ref D)) cd.mro := (PySem.W.looks_clsIn X e1).andThen .now
  have L2 : PySem.W.Looks M h (typeLookup (.ref D) "__add__") none := PySem.W.looks_findIn X a.n1
  have L3 : PySem.W.Looks M h (typeLookup (.ref D) "__radd__") none := PySem.W.looks_findIn X a.n2
  have L4 : PySem.W.Looks M h (typeLookup (.type "object") "__add__") none := .of_pure (by rw [typeLookup_type, builtinLookup_eq_fast]; kernel_rfl)
  have L5 : PySem.W.Looks M h (typeLookup (.type "object") "__radd__") none := .of_pure (by rw [typeLookup_type, builtinLookup_eq_fast]; kernel_rfl)
  unfold fillsNumberSlot
  refine PySem.W.Looks.andThen L1 ?_
  rw [e2]
  simp only [List.anyM]
  refine PySem.W.Looks.andThen (a := false) ?_ ?_
  · refine PySem.W.Looks.andThen (a := false) (PySem.W.Looks.andThen L2 .now) ?_
    exact PySem.W.Looks.andThen (a := false) (PySem.W.Looks.andThen L3 .now) .now
  · refine PySem.W.Looks.andThen (a := false) ?_ .now
    exact PySem.W.Looks.andThen L4 (PySem.W.Looks.andThen L5 .now)
end
section
variable {X : Cx} {CX : CXT} {k : Nat} {C D : Str} {ps : List Str} {sp : Sp} {E : XK}
/-- x + y: x an instance of C with its own __add__, y one of D with none -/
theorem op_addO (a : AddK X.K (He.ga X.K C) (He.ga X.K D) (He.ma X.K (He.ga X.K C) "__add__")) (G : PromM X.prog X.w X.K X.mg X.base CX k C "__add__" ps sp) (hr : Room k X.A) (hx : Passes CX X E) :
    OpR X (binaryOp .Add) (fun x y H Q => ∃ p q dx fs dy gs, x = .ref p ∧ y = .ref q ∧ H p = some (.ins (He.ga X.K C) dx fs) ∧ H q = some (.ins (He.ga X.K D) dy gs) ∧ sp [.ref p, .ref q] H Q E) := by
  intro pins s σ H x y v u Q I rx ry h
  obtain ⟨p, q, dx, fs, dy, gs, rfl, rfl, hp, hq, h⟩ := h
  obtain rfl : v = Value.ref p := rx
  obtain rfl : u = Value.ref q := ry
  obtain ⟨m1, O1, _⟩ := ins_get I.hok hp
  obtain ⟨od1, J1, _⟩ := O1.look
  obtain ⟨m2, O2, _⟩ := ins_get I.hok hq
  obtain ⟨od2, J2, _⟩ := O2.look
  obtain ⟨fd, F, b⟩ := G.ex
  have ne : (Value.ref (He.ga X.K C) == Value.ref (He.ga X.K D)) = false := by
    rw [beq_eq_false_iff_ne]
    exact fun z => a.ne (by injection z)
  unfold binaryOp
  refine wpAny_holding ?_
  show wpAny _ _ (binaryOp1 "add" (.ref p) (.ref q) >>= _) _ _ s
  refine wpAny_bind ?_
  unfold binaryOp1
  refine wpAny_bind (J1.type.here (wpAny_bind (J2.type.here (wpAny_bind ((fills_own I.kIn a).here ?_)))))
  rw [ne]
  refine wpAny_bind ((fills_none I.kIn a).here ?_)
  simp only [Bool.and_false, Bool.false_and, Bool.false_eq_true, if_false, if_true]
  refine wpAny_bind (wpAny_pure ?_)
  simp only [Bool.false_eq_true, if_false]
  unfold tryMethod callSpecial? specialOf
  refine wpAny_bind (wpAny_bind (wpAny_bind (wpAny_bind (J1.type.here ((PySem.W.looks_findIn I.kIn a.at_).here ?_)))))
  refine wpAny_holding (wpAny_bind ((PySem.W.bind_fn I.kIn (.ref p) (beq_iff_eq.mp a.fn)).here ?_))
  refine wpAny_bind (thn (run_fn (us := [.ref p, .ref q]) (vs := [.ref p, .ref q]) F hr b .nil hx I (.cons rfl (.cons rfl .nil)) h) fun v s' hv => wpAny_pure ?_)
  have fin : wpAny (model X.prog X.w) X.A (pure (some v) : Sem (Option Value)) (fun r s2 => wpAny (model X.prog X.w) X.A (match r with
      | some v => pure v
      | _ => do
        let ty ← typeOf (Value.ref p)
        let sl ← seqSlot? ty (Str.ofString "__add__")
        match sl with
          | some f => do
            rule "binop.sequence-concat"
            call f [Value.ref p, Value.ref q]
          | _ => binopTypeError "+" (Value.ref p) (Value.ref q)) (EP X pins σ Q) X.xe s2) X.xe s' := wpAny_pure (wpAny_pure hv)
  obtain ⟨x, H', I', r, q'⟩ := hv
  cases x with
  | non => cases (show v = Value.none from r); exact wpAny_pure fin
  | bl c => cases (show v = Value.bool c from r); exact wpAny_pure fin
  | int i => obtain ⟨t, rfl⟩ := (show ∃ t, v = Value.int i t from r); exact wpAny_pure fin
  | str i => obtain ⟨t, rfl⟩ := (show ∃ t, v = Value.str i t from r); exact wpAny_pure fin
  | byt i => obtain ⟨t, rfl⟩ := (show ∃ t, v = Value.bytes i t from r); exact wpAny_pure fin
  | flt i => obtain ⟨t, rfl⟩ := (show ∃ t, v = Value.float i t from r); exact wpAny_pure fin
  | ref a => cases (show v = Value.ref a from r); exact wpAny_pure fin
  | ty n => cases (show v = Value.type n from r); exact wpAny_pure fin
end
end Sz
/-! texts: what is joined, and its repr -/
namespace Sz
open PySem PySem.Spec PyProof.Rows L2
def Signs (x : Str) : Prop := ∀ c ∈ x.cps.toList, c < 16 ^ 8
theorem signs_of (s : String) : Signs (Str.ofString s) := fun c hc => by
  rw [Str.ofString_eq_toList] at hc
  have hc : c ∈ s.toList.map Char.toNat := by simpa using hc
  obtain ⟨d, _, rfl⟩ := List.mem_map.mp hc
  have h := d.valid
  have h2 : d.toNat < 1114112 := by
    rcases h with h | h
    · exact Nat.lt_trans h (by decide)
    · exact h.2
  exact Nat.lt_of_lt_of_le h2 (by decide)
theorem joinL_mem {sep : List Nat} {c : Nat} : ∀ {l : List (List Nat)}, c ∈ TL.joinL sep l → c ∈ sep ∨ ∃ y ∈ l, c ∈ y
  | [], h => by simp [TL.joinL] at h
  | [p], h => .inr ⟨p, by simp, h⟩
  | p :: q :: r, h => by
    rcases List.mem_append.mp (show c ∈ p ++ (sep ++ TL.joinL sep (q :: r)) from h) with h | h
    · exact .inr ⟨p, by simp, h⟩
    · rcases List.mem_append.mp h with h | h
      · exact .inl h
      · rcases joinL_mem h with h | ⟨y, hy, hc⟩
        · exact .inl h
        · exact .inr ⟨y, List.mem_cons_of_mem _ hy, hc⟩
theorem joinL_len {sep : List Nat} : ∀ {l : List (List Nat)}, (TL.joinL sep l).length ≤ (l.map (·.length)).sum + l.length * sep.length
  | [] => by simp [TL.joinL]
  | [p] => by simp [TL.joinL]
  | p :: q :: r => by
    have ih := joinL_len (sep := sep) (l := q :: r)
    show (p ++ (sep ++ TL.joinL sep (q :: r))).length ≤ _
    rw [List.length_append, List.length_append]
    simp only [List.map_cons, List.sum_cons, List.length_cons, Nat.add_mul, Nat.one_mul] at ih ⊢
    omega
theorem join_signs {sep : Str} {ys : List Str} (h : Signs sep) (h2 : ∀ y ∈ ys, Signs y) : Signs (Txt.join sep ys) := fun c hc => by
  rw [TL.join_eq] at hc
  have hc : c ∈ TL.tl (Str.join sep ys) := hc
  rw [TL.tl_join] at hc
  rcases joinL_mem hc with z | ⟨y, hy, z⟩
  · exact h c z
  · obtain ⟨y', hy', rfl⟩ := List.mem_map.mp hy
    exact h2 y' hy' c z
theorem join_len {sep : Str} {ys : List Str} : (Txt.join sep ys).length ≤ (ys.map (·.length)).sum + ys.length * sep.length := by
  have e : ∀ x : Str, x.length = (TL.tl x).length := fun x => by
    show x.cps.size = x.cps.toList.length
    simp
  rw [TL.join_eq, e, TL.tl_join]
  have := joinL_len (sep := TL.tl sep) (l := ys.map TL.tl)
  rw [List.map_map, List.length_map] at this
  have e2 : ys.map ((·.length) ∘ TL.tl) = ys.map (·.length) := by
    apply List.map_congr_left
    intro y _
    exact (e y).symm
  rw [e2] at this
  rw [e sep]
  exact this
theorem repr_fits {x : Str} (h : Signs x) (hl : x.length ≤ 100000) : (reprText x).length ≤ sizeLine := by
  have := PySem.StrLaws.reprText_len x h
  rw [sizeLine_eq]
  omega
/-- repr of a text -/
theorem cr_reprS {X : Cx} : CallR X (.builtin "repr") (fun xs H Q => ∃ y : Str, xs = [.str y] ∧ (reprText y).length ≤ sizeLine ∧ Q (.str (reprText y)) H) := by
  intro pins s σ H xs us Q I r h
  obtain ⟨y, rfl, hz, q⟩ := h
  obtain ⟨u, rfl, ru⟩ := vals1 r
  obtain ⟨t, rfl⟩ := (show ∃ t, u = Value.str y t from ru)
  exact PySem.P.repr_of_str ⟨.str _, H, I.tok _, ⟨_, rfl⟩, q⟩ hz
end Sz
/-! len(x) by an own __len__ -/
namespace Sz
open PySem PySem.Spec PyProof.Rows L2
section
variable {X : Cx} {CX : CXT} {k : Nat} {C : Str} {ps : List Str} {sp : Sp} {E : XK}
theorem cr_lenO (G : PromM X.prog X.w X.K X.mg X.base CX k C "__len__" ps sp) (hr : Room (k + 1) X.A) (hx : Passes CX X E) :
    CallR X (.builtin "len") (fun xs H Q => ∃ p dx fs, xs = [.ref p] ∧ H p = some (.ins (He.ga X.K C) dx fs) ∧ sp [.ref p] H (fun v H' => ∃ n : Int, v = .int n ∧ 0 ≤ n ∧ n < 2 ^ 63 ∧ Q (.int n) H') E) := by
  intro pins s σ H xs us Q I r h
  obtain ⟨p, dx, fs, rfl, hp, h⟩ := h
  obtain ⟨u, rfl, ru⟩ := vals1 r
  obtain rfl : u = Value.ref p := ru
  obtain ⟨m1, O1, _⟩ := ins_get I.hok hp
  obtain ⟨od1, J1, _⟩ := O1.look
  obtain ⟨fd, F, b⟩ := G.ex
  have hl : ([Value.ref p] ++ ([] : List Value)).length = ps.length := by
    have := F.len _ _ _ _ h
    simpa using this
  refine Calls.call_function_entry kind_len plain_len entry_len (args_len1 _) ?_
  unfold Builtin.«len»
  refine wpAny_bind (m := oneArg "len" _) (wpAny_pure ?_)
  refine wpAny_bind (m := callSpecial? (.ref p) (Str.ofString "__len__")) ?_
  unfold callSpecial? specialOf
  refine wpAny_bind (wpAny_bind (J1.type.here ((PySem.W.looks_findIn I.kIn G.me.at_).here ?_)))
  refine wpAny_holding (wpAny_bind ((PySem.W.bind_fn I.kIn (.ref p) (beq_iff_eq.mp G.me.fn)).here (wpAny_bind ?_)))
  have vv : Vals [V.ref p] [Value.ref p] := .cons rfl .nil
  have bb : BindsTo s fd ⟨[Value.ref p], []⟩ (ps.zip [Value.ref p]) := b s [Value.ref p] I.kIn hl
  refine wpAny_call (codeAny_mono (F.run X.A.in1 X.stack s H ⟨[Value.ref p], []⟩ [Value.ref p] [V.ref p] _ E hr.in1 I.env0.in1 bb vv h) fun rr s' hq => ?_)
  cases rr with
  | error e => exact hx pins σ H s e s' I hq
  | ok fl =>
    cases fl with
    | ret v =>
      obtain ⟨v', H', I', rv, n, rfl, n0, n1, q⟩ := I.after hq
      obtain ⟨t, rfl⟩ := (show ∃ t, v = Value.int n t from rv)
      refine wpAny_pure ?_
      refine wpAny_bind (wpAny_holding (wpAny_pure ?_))
      refine wpAny_bind (wpAny_letGo ?_)
      show wpAny _ _ (if n < 0 then _ else _) _ _ _
      rw [if_neg (by omega)]
      show wpAny _ _ (if n ≥ 2 ^ 63 then _ else _) _ _ _
      rw [if_neg (by omega)]
      exact wpAny_bind (wpAny_mkInt (wpAny_pure ⟨_, rfl, .int n, H', I'.tok _, ⟨_, rfl⟩, q⟩))
    | next => exact False.elim hq
    | brk => exact False.elim hq
    | cont => exact False.elim hq
end
end Sz
namespace Sz
/-! ### sizes rise with the length -/
theorem totF_lt {b n m : Int} (hb : 2 ≤ b) (hn : 0 ≤ n) (h : n < m) : totF b n < totF b m := by
  have s := (totF_is hb hn).tot
  have t := (totF_is (b := b) (n := m) hb (by omega)).tot
  by_cases c : totF b n < totF b m
  · exact c
  · have l := fig_lip hb (show totF b m ≤ totF b n by omega) t s
    omega
theorem totF_mono {b n m : Int} (hb : 2 ≤ b) (hn : 0 ≤ n) (h : n ≤ m) : totF b n ≤ totF b m := by
  by_cases c : n = m
  · rw [c]
    exact Int.le_refl _
  · exact Int.le_of_lt (totF_lt hb hn (by omega))
theorem beg_mono {n k m : Int} (hm : 1 ≤ m) (h : n ≤ k) : beg n m ≤ beg k m := Int.ediv_le_ediv (by omega) (by omega)
/-- n = m q + r -/
theorem beg_parts {n m : Int} (hm : 1 ≤ m) : beg n m = n / m + (if 0 < n % m then 1 else 0) := by
  unfold beg
  have e := Int.mul_ediv_add_emod n m
  have r0 := Int.emod_nonneg n (show m ≠ 0 by omega)
  have r1 := Int.emod_lt_of_pos n (show 0 < m by omega)
  split
  · have e2 : n + m - 1 = (n % m - 1) + m * (n / m + 1) := by rw [Int.mul_add, Int.mul_one]; omega
    rw [e2, Int.add_mul_ediv_left _ _ (by omega), Int.ediv_eq_zero_of_lt (by omega) (by omega)]
    omega
  · have e2 : n + m - 1 = (m - 1) + m * (n / m) := by omega
    rw [e2, Int.add_mul_ediv_left _ _ (by omega), Int.ediv_eq_zero_of_lt (by omega) (by omega)]
    omega
theorem pieces_step {b m c n : Int} (hb : 2 ≤ b) (h : (Wr.pieces m c).ok) (hn : 0 ≤ n) : (Wr.pieces m c).gr b n ≤ (Wr.pieces m c).gr b (n + 1) := by
  simp only [Wr.ok] at h
  simp only [Wr.gr]
  have r0 := Int.emod_nonneg n (show m ≠ 0 by omega)
  have r1 := Int.emod_lt_of_pos n (show 0 < m by omega)
  have e := Int.mul_ediv_add_emod n m
  by_cases z : n % m + 1 < m
  · have d : (n + 1) / m = n / m := by
      have e2 : n + 1 = (n % m + 1) + m * (n / m) := by omega
      rw [e2, Int.add_mul_ediv_left _ _ (by omega), Int.ediv_eq_zero_of_lt (by omega) z]
      have e3 : ((n % m + 1) + m * (n / m)) = n + 1 := by omega
      omega
    have r : (n + 1) % m = n % m + 1 := by
      have e3 := Int.mul_ediv_add_emod (n + 1) m
      rw [d] at e3
      omega
    rw [d, r, if_pos (show 0 < n % m + 1 by omega)]
    have f0 := figF_pos (b := b) (n := n % m + 1) hb
    have f1 := figF_mono (b := b) (n := n % m) (m := n % m + 1) hb (by omega)
    split <;> omega
  · have rm : n % m = m - 1 := by omega
    have e2 : n + 1 = 0 + m * (n / m + 1) := by rw [Int.mul_add, Int.mul_one]; omega
    have d : (n + 1) / m = n / m + 1 := by
      rw [e2, Int.add_mul_ediv_left _ _ (by omega), Int.zero_ediv]
      omega
    have r : (n + 1) % m = 0 := by
      have e3 := Int.mul_ediv_add_emod (n + 1) m
      rw [d, Int.mul_add, Int.mul_one] at e3
      omega
    rw [d, r, rm, if_neg (show ¬ (0 : Int) < 0 by omega), Int.add_mul, Int.one_mul]
    have f0 := figF_pos (b := b) (n := m) hb
    have f1 := figF_mono (b := b) (n := m - 1) (m := m) hb (by omega)
    split <;> omega
theorem step_le {f : Int → Int} (h : ∀ n, 0 ≤ n → f n ≤ f (n + 1)) {n : Int} (hn : 0 ≤ n) : ∀ k : Nat, f n ≤ f (n + k)
  | 0 => by simp
  | k + 1 => by
    have ih := step_le h hn k
    have := h (n + k) (by omega)
    have e : n + ((k + 1 : Nat) : Int) = n + k + 1 := by omega
    rw [e]
    omega
theorem gr_mono {b : Int} {a : Wr} (hb : 2 ≤ b) (h : a.ok) {n k : Int} (hn : 0 ≤ n) (hk : n ≤ k) : a.gr b n ≤ a.gr b k := by
  cases a with
  | plus c => simp only [Wr.gr]; omega
  | told c =>
    simp only [Wr.gr]
    have := figF_mono (b := b) hb hk
    omega
  | whole c =>
    simp only [Wr.ok] at h
    exact totF_mono hb (by omega) (by omega)
  | pieces m c =>
    have := step_le (f := (Wr.pieces m c).gr b) (fun n hn => pieces_step hb h hn) hn (k - n).toNat
    have e : n + ((k - n).toNat : Int) = k := by omega
    rw [e] at this
    exact this
  | cut m c =>
    simp only [Wr.ok] at h
    simp only [Wr.gr]
    have := Int.mul_le_mul_of_nonneg_right (beg_mono h.1 hk) (show 0 ≤ c by omega)
    omega
  | coded m c =>
    simp only [Wr.ok] at h
    exact Int.mul_le_mul_of_nonneg_right (beg_mono h.1 hk) (show 0 ≤ c by omega)
  | filled m =>
    simp only [Wr.ok] at h
    exact Int.mul_le_mul_of_nonneg_right (beg_mono h.1 hk) (show 0 ≤ m by omega)
/-- a size is no less than its length -/
theorem gr_ge {b : Int} {a : Wr} (hb : 2 ≤ b) (h : a.ok) {n : Int} (hn : 0 ≤ n) : n ≤ a.gr b n := by
  have bg : ∀ m : Int, 1 ≤ m → n ≤ beg n m * m := fun m hm => by
    have e := Int.mul_ediv_add_emod n m
    have r0 := Int.emod_nonneg n (show m ≠ 0 by omega)
    have r1 := Int.emod_lt_of_pos n (show 0 < m by omega)
    rw [beg_parts hm, Int.add_mul]
    have c := Int.mul_comm m (n / m)
    split
    · rw [Int.one_mul]
      omega
    · rw [Int.zero_mul]
      omega
  cases a with
  | plus c =>
    simp only [Wr.ok] at h
    simp only [Wr.gr]
    omega
  | told c =>
    simp only [Wr.ok] at h
    simp only [Wr.gr]
    have := figF_pos (b := b) (n := n) hb
    omega
  | whole c =>
    simp only [Wr.ok] at h
    simp only [Wr.gr]
    have := isTot_pos (totF_is (b := b) (n := n + c) hb (by omega)).tot
    omega
  | pieces m c =>
    simp only [Wr.ok] at h
    simp only [Wr.gr]
    have e := Int.mul_ediv_add_emod n m
    have r0 := Int.emod_nonneg n (show m ≠ 0 by omega)
    have q0 := Int.ediv_nonneg hn (show 0 ≤ m by omega)
    have f0 := figF_pos (b := b) (n := m) hb
    have f1 := figF_pos (b := b) (n := n % m) hb
    have p := Int.mul_le_mul_of_nonneg_left (show m ≤ m + c + figF b m by omega) q0
    have c := Int.mul_comm m (n / m)
    split <;> omega
  | cut m c =>
    simp only [Wr.ok] at h
    simp only [Wr.gr]
    have := Int.mul_nonneg (beg_le hn h.1).2 (show 0 ≤ c by omega)
    omega
  | coded m c =>
    simp only [Wr.ok] at h
    simp only [Wr.gr]
    have h1 := bg m h.1
    have := Int.mul_le_mul_of_nonneg_left (show m ≤ c by omega) (beg_le hn h.1).2
    omega
  | filled m =>
    simp only [Wr.ok] at h
    exact bg m h.1
end Sz
/-! data that can be shown and compared: how deep, how long the text -/
namespace Sz
open PySem PySem.Spec PyProof.Rows L2
/-- can be shown: at most so deep, at most so long -/
structure Sho (d : PyData) (k m : Nat) : Prop where
  able : d.showable = true
  nod : d.hasDict = false
  deep : d.depth ≤ k
  long : d.shown.length ≤ m
theorem Sho.mono {d : PyData} {k m k' m' : Nat} (h : Sho d k m) (hk : k ≤ k') (hm : m ≤ m') : Sho d k' m' := ⟨h.able, h.nod, Nat.le_trans h.deep hk, Nat.le_trans h.long hm⟩
theorem sho_int {i : Int} (k : Nat) (hk : 0 < k) (hk2 : k ≤ 500) (h : i.natAbs < 10 ^ k) : Sho (.int i) 0 (k + 1) := by
  refine ⟨?_, rfl, Nat.le_refl _, ?_⟩
  · have h2 : i.natAbs < 2 ^ 1800 := Nat.lt_of_lt_of_le h (Nat.le_trans (Nat.pow_le_pow_right (by decide) hk2) (by decide))
    show decide (i.natAbs.log2 < 1920) = true
    exact decide_eq_true (Nat.lt_of_lt_of_le (PySem.Flt.log2_lt_of (by decide) h2) (by decide))
  · have h1 := int_text_length_le10 hk h
    have e : (Str.ofString (toString i)).length = (toString i : String).length := PySem.ofString_length _
    show (Str.ofString (toString i)).length ≤ k + 1
    omega
theorem sho_bool (b : Bool) : Sho (.bool b) 0 5 := by cases b <;> exact ⟨rfl, rfl, Nat.le_refl _, by decide⟩
theorem sho_none : Sho .none 0 4 := ⟨rfl, rfl, Nat.le_refl _, by decide⟩
theorem sho_all {k m : Nat} : ∀ ds : List PyData, (∀ d ∈ ds, Sho d k m) → PyData.showableAll ds = true ∧ PyData.hasDictAll ds = false ∧ PyData.depthAll ds ≤ k ∧ ((PyData.shownAll ds).map (·.length)).sum ≤ m * ds.length ∧ (PyData.shownAll ds).length = ds.length
  | [], _ => ⟨rfl, rfl, Nat.zero_le _, by simp [PyData.shownAll], rfl⟩
  | d :: ds, h => by
    obtain ⟨h1, h2, h3, h4, h5⟩ := sho_all ds fun y hy => h y (List.mem_cons_of_mem _ hy)
    obtain ⟨g1, g2, g3, g4⟩ := h d (List.mem_cons_self ..)
    refine ⟨?_, ?_, ?_, ?_, ?_⟩
    · show (d.showable && PyData.showableAll ds) = true
      rw [g1, h1]
      rfl
    · show (d.hasDict || PyData.hasDictAll ds) = false
      rw [g2, h2]
      rfl
    · show max d.depth (PyData.depthAll ds) ≤ k
      omega
    · show ((d.shown :: PyData.shownAll ds).map (·.length)).sum ≤ m * (ds.length + 1)
      rw [List.map_cons, List.sum_cons, Nat.mul_add, Nat.mul_one]
      omega
    · show (PyData.shownAll ds).length + 1 = ds.length + 1
      rw [h5]
theorem sho_tuple {k m : Nat} {ds : List PyData} (h : ∀ d ∈ ds, Sho d k m) : Sho (.tuple ds) (k + 1) ((m + 2) * ds.length + 4) := by
  obtain ⟨h1, h2, h3, h4, h5⟩ := sho_all ds h
  refine ⟨h1, h2, ?_, ?_⟩
  · show PyData.depthAll ds + 1 ≤ k + 1
    omega
  · show (tupleText (PyData.shownAll ds)).length ≤ _
    have h6 := tupleText_len_le (PyData.shownAll ds)
    rw [h5] at h6
    rw [Nat.add_mul]
    omega
theorem sho_list {k m : Nat} {ds : List PyData} (h : ∀ d ∈ ds, Sho d k m) : Sho (.list ds) (k + 1) ((m + 2) * ds.length + 4) := by
  obtain ⟨h1, h2, h3, h4, h5⟩ := sho_all ds h
  refine ⟨h1, h2, ?_, ?_⟩
  · show PyData.depthAll ds + 1 ≤ k + 1
    omega
  · show (listText (PyData.shownAll ds)).length ≤ _
    have h6 := listText_len_le (PyData.shownAll ds)
    rw [h5] at h6
    rw [Nat.add_mul]
    omega
/-! what can be laid and compared -/
structure Shp (d : PyData) (k : Nat) : Prop where
  lay : d.canLay0 = true
  deep : d.depth ≤ k
theorem Shp.mono {d : PyData} {k k' : Nat} (h : Shp d k) (hk : k ≤ k') : Shp d k' := ⟨h.lay, Nat.le_trans h.deep hk⟩
theorem Shp.shaped {d : PyData} {k : Nat} (h : Shp d k) (hk : k ≤ 30 := by decide) : SeqAt.shaped d = true := by
  have h2 := h.deep
  simp [SeqAt.shaped, h.lay]
  omega
theorem shp_int (i : Int) : Shp (.int i) 0 := ⟨rfl, Nat.le_refl _⟩
theorem shp_str {s : Str} (h : PyData.strOk s = true) : Shp (.str s) 0 := ⟨h, Nat.le_refl _⟩
theorem shp_bool (b : Bool) : Shp (.bool b) 0 := ⟨rfl, Nat.le_refl _⟩
theorem shp_none : Shp .none 0 := ⟨rfl, Nat.le_refl _⟩
theorem shp_all {k : Nat} : ∀ ds : List PyData, (∀ d ∈ ds, Shp d k) → PyData.canLayAll0 ds = true ∧ PyData.depthAll ds ≤ k
  | [], _ => ⟨rfl, Nat.zero_le _⟩
  | d :: ds, h => by
    obtain ⟨h1, h2⟩ := shp_all ds fun y hy => h y (List.mem_cons_of_mem _ hy)
    obtain ⟨g1, g2⟩ := h d (List.mem_cons_self ..)
    refine ⟨?_, ?_⟩
    · show (d.canLay0 && PyData.canLayAll0 ds) = true
      rw [g1, h1]
      rfl
    · show max d.depth (PyData.depthAll ds) ≤ k
      omega
theorem shp_tuple {k : Nat} {ds : List PyData} (h : ∀ d ∈ ds, Shp d k) : Shp (.tuple ds) (k + 1) := by
  obtain ⟨h1, h2⟩ := shp_all ds h
  refine ⟨h1, ?_⟩
  show PyData.depthAll ds + 1 ≤ k + 1
  omega
theorem shp_list {k : Nat} {ds : List PyData} (h : ∀ d ∈ ds, Shp d k) : Shp (.list ds) (k + 1) := by
  obtain ⟨h1, h2⟩ := shp_all ds h
  refine ⟨h1, ?_⟩
  show PyData.depthAll ds + 1 ≤ k + 1
  omega
theorem shp_ints_t (xs : List Int) : Shp (.tuple (xs.map PyData.int)) 1 := shp_tuple (k := 0) fun d hd => by
  obtain ⟨i, _, rfl⟩ := List.mem_map.mp hd
  exact shp_int i
theorem shp_ints_l (xs : List Int) : Shp (.list (xs.map PyData.int)) 1 := shp_list (k := 0) fun d hd => by
  obtain ⟨i, _, rfl⟩ := List.mem_map.mp hd
  exact shp_int i
end Sz
/-! set comprehensions of ints (the walk is that of HandS.SetBool, turned to ints), sorted(set) of any number -/
namespace Sz
open PySem PySem.Spec PyProof.Rows L2 PpSet
section
variable {X : Cx}
theorem addI_ok {pins : List (Addr × Obj)} {σ : L2.St} {H : Hp} {s : Shared} {E : Value → Shared → Prop} {D : Addr} {S : Int → Bool} {n : Nat} {y : Int} {tk : Tok} {Q : Value → Shared → Prop} (I : Inv X pins σ H s) (hD : H D = some (SetO X.w D S n)) (room : n + 1 < scanBound)
    (h : ∀ s', Inv X pins σ (upd H D (SetO X.w D (fun j => S j || decide (j = y)) (if S y = true then n else n + 1))) s' → Q .none s') : wpAny (model X.prog X.w) X.A (call (.builtin "set.add") [.ref D, .int y tk]) Q E s := by
  have R := setO_get I hD
  refine setR_add R room fun h' sb new => ?_
  have he : ∃ u, h'.get? D = some u := by
    have ⟨o, _, _, _, ho, _⟩ := new
    exact ⟨o, ho⟩
  exact h _ (I.write (e := D) (t' := s.toks + 1) (by rw [hD]; trivial) (.inl rfl) (fun b u hb hu => (sb.2 b hb).trans hu) he (setO_new new))
def tScI (w : World) (wi : TI) (g : TG) (tt : TT) (te : TE) (vs : List Nat) : TE := fun σ H Q => wi σ H fun J H1 => ∀ D, H1 D = none → ∃ W : Nat → Nat → Hp → Prop, (∃ m, W 0 m (upd H1 D (SetO w D (fun _ => false) 0))) ∧ ∀ i m H, W i m H →
  (J.stop i H ∧ Q (.ref D) H) ∨ (J.go i H ∧ ∃ Nx : Hp → Prop, (∀ H', Nx H' → ∃ m', m' < m ∧ W (i + 1) m' H') ∧ ∀ x H', J.yld i H x H' → g x (wipe σ vs) H' fun σ2 H2 => wipe σ2 vs = wipe σ vs ∧ tt σ2 H2 fun b H3 =>
    if b = true then te σ2 H3 fun y H4 => ∃ (c : Int) (S : Int → Bool) (n : Nat), y = .int c ∧ H4 D = some (SetO w D S n) ∧ n + 1 < scanBound ∧ Nx (upd H4 D (SetO w D (fun j => S j || decide (j = c)) (if S c = true then n else n + 1))) else Nx H3)
theorem sc_coreI {pins : List (Addr × Obj)} {s : Shared} {σ : L2.St} {H : Hp} {Q : VK} {elt tg iter : Expr} {ifs : List Expr} {scope : Scope} {own : List (PySem.Str × Nat)} {pos pos' : Pos} {wi : TI} {g : TG} {tt : TT} {te : TE} {use : Option (Value → Sem Unit)} {Qf : Value → Shared → Prop}
    (hc : X.calm = true) (hN : X.N.Nodup) (I : Inv X pins σ H s) (hi : PI X tg iter wi) (ok : BlkOk X.N X.env.scope scope own)
    (hg : ∀ (s : Shared) (H : Hp) (C : Addr) (cl : List (PySem.Str × Addr)) (fp : List Addr), PG (X.blk s H scope (compEnvC scope cl C X.env) fp) tg g) (ht : ∀ (s : Shared) (H : Hp) (C : Addr) (cl : List (PySem.Str × Addr)) (fp : List Addr), PTs (X.blk s H scope (compEnvC scope cl C X.env) fp) ifs tt)
    (he : ∀ (s : Shared) (H : Hp) (C : Addr) (cl : List (PySem.Str × Addr)) (fp : List Addr), PE (X.blk s H scope (compEnvC scope cl C X.env) fp) elt te) (hs : ∀ x, foldedSetIterable iter X.env x = pure x)
    (h : tScI X.w wi g tt te (own.map (·.2)) σ H Q)
    (hRR : ∀ D C s' m H', Inv X pins σ H' s' → Q (.ref D) H' → s'.heap.Ns C m → FpOk X pins H' C → compPost (model X.prog X.w) X.A X.xe use Qf (.ref D) C (.ok .next) s') :
    wpAny (model X.prog X.w) X.A (comprehension (.SetComp elt [⟨tg, iter, ifs, 0⟩] scope pos) scope X.env pos' (newSet (.type "set")) false (eval iter X.env) use) Qf X.xe s := by
  have hfree : ∀ y ∈ scope.names, y.2 = .free → ∃ c, X.env.cells.lookup y.1 = some c := fun y hy e => by
    rcases ok.free y hy e with k | k
    · exact I.ok.has _ (.inl k)
    · exact I.ok.has _ (.inr k)
  refine wpAny_comprehension_free (use := use) rfl hs (closure_ok hfree) ok.kind (fun y hy e => by rw [ok.uniq y hy, e])
    (thn (hi.run pins s σ H _ I h) fun xv s1 hx => thn hx fun itv s2 h2 => ?_)
  obtain ⟨it, fp, tn, J, H2, e, I2, T, st2, f2, q⟩ := h2
  subst e
  refine newSet_ok (newEnv_comp ?_)
  generalize hD : s2.heap.objs.size = D
  have hDn : H2 D = none := I2.hok.fresh (Nat.le_of_eq hD)
  obtain ⟨W, ⟨m0, w0⟩, turn⟩ := q D hDn
  -- the new list
  generalize hs3 : ({ s2 with heap := s2.heap.push { cls := .type "set", dict := none, data := .set #[] 0 (.fresh 0 0 (!X.w.params.followText "set-order")) } } : Shared) = s3
  have I3 : Inv X pins σ (upd H2 D (SetO X.w D (fun _ => false) 0)) s3 := by
    rw [← hs3]
    refine I2.laid (t' := s2.toks) (fun b o e => Heap.get?_push_of_some _ e) (Nat.le_of_eq hD) ?_
    rw [← hD]
    exact setO_new (setR_fresh X.w)
  have h3 : s3.heap = s2.heap.push { cls := .type "set", dict := none, data := .set #[] 0 (.fresh 0 0 (!X.w.params.followText "set-order")) } := by rw [← hs3]
  have sz : ∀ b ∈ fp, b < s2.heap.objs.size := fun b hb => by
    obtain ⟨o, e, _⟩ := T.obj _ _ st2 b hb
    exact Heap.lt_size e
  have f3 : ∀ b ∈ fp, FpOk X pins (upd H2 D (SetO X.w D (fun _ => false) 0)) b ∧ b < s3.heap.objs.size := fun b hb => by
    have hlt := sz b hb
    refine ⟨⟨?_, (f2 b hb).2⟩, by rw [h3, Heap.size_push]; exact Nat.lt_succ_of_lt hlt⟩
    rw [upd_ne (by rw [← hD]; exact Nat.ne_of_lt hlt)]
    exact (f2 b hb).1
  have st3 : tn 0 s3.heap := T.keep _ _ _ st2 fun b _ o e => by rw [h3]; exact Heap.get?_push_of_some _ e
  have I4 := block_start I3 ok hN f3
  have pg := hg s3 (upd H2 D (SetO X.w D (fun _ => false) 0)) s3.heap.objs.size (cellsFrom (s3.heap.objs.size + 1) scope.names (cloFrom X.env.cells scope.names [])) fp
  have pt := ht s3 (upd H2 D (SetO X.w D (fun _ => false) 0)) s3.heap.objs.size (cellsFrom (s3.heap.objs.size + 1) scope.names (cloFrom X.env.cells scope.names [])) fp
  have pe := he s3 (upd H2 D (SetO X.w D (fun _ => false) 0)) s3.heap.objs.size (cellsFrom (s3.heap.objs.size + 1) scope.names (cloFrom X.env.cells scope.names [])) fp
  show codeAny _ _ (.compStart (.SetComp elt [⟨tg, iter, ifs, 0⟩] scope pos) 0 (.ref it) (.ref D) (compEnvC scope (cellsFrom (s3.heap.objs.size + 1) scope.names (cloFrom X.env.cells scope.names [])) s3.heap.objs.size X.env)) (compPost (model X.prog X.w) X.A X.xe use Qf (.ref D) s3.heap.objs.size) { s3 with heap := pushCells (s3.heap.push { cls := .type "dict", data := .dict #[] }) scope.names }
  have nfp : ∀ b ∈ fp, (upd H2 D (SetO X.w D (fun _ => false) 0)) b = none := fun b hb => (f3 b hb).1.1
  generalize hce : compEnvC scope (cellsFrom (s3.heap.objs.size + 1) scope.names (cloFrom X.env.cells scope.names [])) s3.heap.objs.size X.env = ce at I4 pg pt pe ⊢
  have cL : ce.locals = s3.heap.objs.size := by subst hce; rfl
  generalize hH3 : upd H2 D (SetO X.w D (fun _ => false) 0) = H3 at I3 I4 pg pt pe w0 nfp f3
  generalize hs4 : ({ s3 with heap := pushCells (s3.heap.push { cls := .type "dict", data := .dict #[] }) scope.names } : Shared) = s4 at I4 ⊢
  have st4 : tn 0 s4.heap := T.keep _ _ _ st3 fun b _ o e => by rw [← hs4]; exact pushCells_keeps _ _ _ _ (Heap.get?_push_of_some _ e)
  have stat : ∀ {σ' : L2.St} {H' : Hp} {s' : Shared}, Inv (X.blk s3 H3 scope ce fp) [] σ' H' s' → (∀ b ∈ fp, H' b = none) → ∀ b ∈ fp, FpOk (X.blk s3 H3 scope ce fp) [] H' b := fun {σ' H' s'} I' hn b hb =>
    ⟨hn b hb, (I'.ok.exf b hb).1, I'.ok.exfs b hb, .inl hb, fun x c e => (I'.ok.exf b hb).2 x c e, fun p hp => absurd (show p ∈ ([] : List (Addr × Obj)) ++ [] from hp) (by simp)⟩
  have loop : codeAny (model X.prog X.w) X.A (.compLoop (.SetComp elt [⟨tg, iter, ifs, 0⟩] scope pos) 0 (.ref it) (.ref D) ce) (compPost (model X.prog X.w) X.A X.xe use Qf (.ref D) s3.heap.objs.size) s4 := by
    refine compLoopS_any (fun n s' => ∃ i H', Inv (X.blk s3 H3 scope ce fp) [] (wipe σ (own.map (·.2))) H' s' ∧ tn i s'.heap ∧ (∀ b ∈ fp, H' b = none) ∧ W i n H') ?_ m0 ⟨0, H3, I4, st4, nfp, w0⟩
    rintro n s5 ⟨i, H5, I5, st5, n5, w5⟩
    rcases turn i n H5 w5 with ⟨stop, qq⟩ | ⟨go, Nx, hNx, step⟩
    · have td := T.done (X.blk s3 H3 scope ce fp) rfl rfl rfl hc i [] s5 _ H5 (fun _ _ => False) I5 (stat I5 n5) st5 stop
      refine thnF td fun r s6 ⟨hr, I6⟩ => ?_
      subst hr
      -- back in the def's context
      have I7 : Inv X pins σ H5 s6 := I3.call' (ch := fp) I6.os I6.base I6.hok I6.bare fun b hb => ⟨(f3 b hb).1.2.2.2.1, (f3 b hb).1.2.1, (f3 b hb).1.2.2.2.2.1, (f3 b hb).1.2.2.2.2.2⟩
      have nC : H5 s3.heap.objs.size = none := by
        have z : H5 ce.locals = none := I6.free
        rw [cL] at z
        exact z
      obtain ⟨m, hn, _⟩ := I6.loc
      have hn : s6.heap.Ns ce.locals m := hn
      rw [cL] at hn
      exact hRR D s3.heap.objs.size s6 m H5 I7 qq hn (I3.fpOk (Nat.le_refl _) nC)
    · have ti := T.item (X.blk s3 H3 scope ce fp) rfl rfl rfl hc i [] s5 _ H5 (fun _ _ => False) I5 (stat I5 n5) st5 go
      refine thnF ti fun r s6 ⟨u, hr, h6⟩ => ?_
      subst hr
      refine thnF h6 fun _ s7 ⟨x, H7, I7, r7, y7, st7, n7⟩ => ?_
      have I7' := I7.pinned (stat I7 n7) (T.obj _ _ st7)
      refine thnF (pg.run _ s7 _ H7 x u _ I7' r7 (step x H7 y7)) fun _ s8 ⟨σ8, H8, I8, hw8, q8⟩ => ?_
      refine thnF (pt.run _ s8 σ8 H8 _ I8 q8) fun b s9 ⟨H9, I9, q9⟩ => ?_
      -- the turn's end
      have fin : ∀ {s' : Shared} {H' : Hp}, Inv (X.blk s3 H3 scope ce fp) ([] ++ pinsAt fp s7.heap) σ8 H' s' → Nx H' → ∃ m, m < n ∧ ∃ i H', Inv (X.blk s3 H3 scope ce fp) [] (wipe σ (own.map (·.2))) H' s' ∧ tn i s'.heap ∧ (∀ b ∈ fp, H' b = none) ∧ W i m H' := fun {s' H'} I' nx => by
        obtain ⟨m', hm, w'⟩ := hNx H' nx
        have pin' : ∀ b ∈ fp, ∀ o, s7.heap.get? b = some o → s'.heap.get? b = some o ∧ H' b = none := fun b hb o e =>
          let z := I'.pin (b, o) (List.mem_append_right _ (List.mem_append_right _ (mem_pinsAt hb e)))
          ⟨z.1, z.2.1⟩
        have hl : (wipe σ (own.map (·.2))).length = σ8.length := by rw [← hw8, wipe_length]
        refine ⟨m', hm, i + 1, H', (I'.unpinned (pins := [])).weak hl (fun j v e => ?_), T.keep _ _ _ st7 fun b hb o e => (pin' b hb o e).1, fun b hb => ?_, w'⟩
        · rw [← hw8] at e
          exact (wipe_some e).1
        · obtain ⟨o, e, _⟩ := T.obj _ _ st7 b hb
          exact (pin' b hb o e).2
      cases b with
      | false =>
        simp only [Bool.false_eq_true, if_false] at q9 ⊢
        exact fin I9 q9
      | true =>
        simp only [if_true] at q9 ⊢
        refine thnF (pe.run _ s9 σ8 H9 _ I9 q9) fun z s10 ⟨yv, H10, I10, r10, cb, S0, n0, ey, hD10, hz10, nx⟩ => ?_
        subst ey
        obtain ⟨tk, rfl⟩ := r10
        exact addI_ok (X := X.blk s3 H3 scope ce fp) I10 hD10 hz10 fun s11 I11 => fin I11 nx
  exact codeAny_compStart_set loop (T.self X.A 0 _ _ _ st4 loop)
/-- as a value -/
theorem pe_scI {elt tg iter : Expr} {ifs : List Expr} {scope : Scope} {own : List (PySem.Str × Nat)} {pos : Pos} {wi : TI} {g : TG} {tt : TT} {te : TE} (hc : X.calm = true) (hN : X.N.Nodup) (hi : PI X tg iter wi) (ok : BlkOk X.N X.env.scope scope own)
    (hg : ∀ (s : Shared) (H : Hp) (C : Addr) (cl : List (PySem.Str × Addr)) (fp : List Addr), PG (X.blk s H scope (compEnvC scope cl C X.env) fp) tg g) (ht : ∀ (s : Shared) (H : Hp) (C : Addr) (cl : List (PySem.Str × Addr)) (fp : List Addr), PTs (X.blk s H scope (compEnvC scope cl C X.env) fp) ifs tt)
    (he : ∀ (s : Shared) (H : Hp) (C : Addr) (cl : List (PySem.Str × Addr)) (fp : List Addr), PE (X.blk s H scope (compEnvC scope cl C X.env) fp) elt te) (hs : ∀ x, foldedSetIterable iter X.env x = pure x := by intro _; rfl) :
    PE X (.SetComp elt [⟨tg, iter, ifs, 0⟩] scope pos) (tScI X.w wi g tt te (own.map (·.2))) := by
  refine ⟨fun pins s σ H Q I h => ?_⟩
  rw [eval_SetComp]
  refine sc_coreI hc hN I hi ok hg ht he hs h fun D C s' m H' I' q hn f => ⟨m, hn, fun h'' sb => ?_⟩
  obtain ⟨f0, f1, f2, f3, f4, f5⟩ := f
  exact ⟨.ref D, H', I'.turned (t' := s'.toks) (fun b o hb e => (sb.2 b hb).trans e) f0 f1 f3 f4 f5, rfl, q⟩
/-- over a list that the block leaves as it is -/
theorem sc_listI {w : World} {K : PySem.W.Frag} {a : Addr} {xs : List V} {g : TG} {tt : TT} {te : TE} {vs : List Nat} {σ : L2.St} {H1 : Hp} {D : Addr} {Qd : Hp → Prop} (Pv : Nat → Hp → Prop) (h0 : Pv 0 (upd H1 D (SetO w D (fun _ => false) 0))) (hl : ∀ i H, i ≤ xs.length → Pv i H → SqL K H a xs)
    (hs : ∀ i x H, xs[i]? = some x → Pv i H → g x (wipe σ vs) H fun σ2 H2 => wipe σ2 vs = wipe σ vs ∧ tt σ2 H2 fun b H3 =>
      if b = true then te σ2 H3 fun y H4 => ∃ (c : Int) (S : Int → Bool) (n : Nat), y = .int c ∧ H4 D = some (SetO w D S n) ∧ n + 1 < scanBound ∧ Pv (i + 1) (upd H4 D (SetO w D (fun j => S j || decide (j = c)) (if S c = true then n else n + 1))) else Pv (i + 1) H3) (hd : ∀ H, Pv xs.length H → Qd H) :
    ∃ W : Nat → Nat → Hp → Prop, (∃ m, W 0 m (upd H1 D (SetO w D (fun _ => false) 0))) ∧ ∀ i m H, W i m H →
      ((Itl K a).stop i H ∧ Qd H) ∨ ((Itl K a).go i H ∧ ∃ Nx : Hp → Prop, (∀ H', Nx H' → ∃ m', m' < m ∧ W (i + 1) m' H') ∧ ∀ x H', (Itl K a).yld i H x H' → g x (wipe σ vs) H' fun σ2 H2 => wipe σ2 vs = wipe σ vs ∧ tt σ2 H2 fun b H3 =>
        if b = true then te σ2 H3 fun y H4 => ∃ (c : Int) (S : Int → Bool) (n : Nat), y = .int c ∧ H4 D = some (SetO w D S n) ∧ n + 1 < scanBound ∧ Nx (upd H4 D (SetO w D (fun j => S j || decide (j = c)) (if S c = true then n else n + 1))) else Nx H3) := by
  refine ⟨fun i m H => m = xs.length - i ∧ i ≤ xs.length ∧ Pv i H, ⟨xs.length, by simp, Nat.zero_le _, h0⟩, ?_⟩
  rintro i m H ⟨rfl, hi, p⟩
  have q := hl i H hi p
  by_cases hlt : i < xs.length
  · refine .inr ⟨⟨xs, xs[i], q, by simp [hlt]⟩, Pv (i + 1), fun H' p' => ⟨xs.length - (i + 1), by omega, rfl, hlt, p'⟩, fun x H' y => ?_⟩
    obtain ⟨e, y⟩ := y
    subst e
    exact hs i x _ (y xs q) p
  · have e : i = xs.length := by omega
    subst e
    exact .inl ⟨⟨xs, q, Nat.le_refl _⟩, hd H p⟩
/-- over a tuple that the block leaves as it is -/
theorem sc_tupI {w : World} {K : PySem.W.Frag} {a : Addr} {xs : List V} {g : TG} {tt : TT} {te : TE} {vs : List Nat} {σ : L2.St} {H1 : Hp} {D : Addr} {Qd : Hp → Prop} (Pv : Nat → Hp → Prop) (h0 : Pv 0 (upd H1 D (SetO w D (fun _ => false) 0))) (hl : ∀ i H, i ≤ xs.length → Pv i H → SqT K H a xs)
    (hs : ∀ i x H, xs[i]? = some x → Pv i H → g x (wipe σ vs) H fun σ2 H2 => wipe σ2 vs = wipe σ vs ∧ tt σ2 H2 fun b H3 =>
      if b = true then te σ2 H3 fun y H4 => ∃ (c : Int) (S : Int → Bool) (n : Nat), y = .int c ∧ H4 D = some (SetO w D S n) ∧ n + 1 < scanBound ∧ Pv (i + 1) (upd H4 D (SetO w D (fun j => S j || decide (j = c)) (if S c = true then n else n + 1))) else Pv (i + 1) H3) (hd : ∀ H, Pv xs.length H → Qd H) :
    ∃ W : Nat → Nat → Hp → Prop, (∃ m, W 0 m (upd H1 D (SetO w D (fun _ => false) 0))) ∧ ∀ i m H, W i m H →
      ((Itt K a).stop i H ∧ Qd H) ∨ ((Itt K a).go i H ∧ ∃ Nx : Hp → Prop, (∀ H', Nx H' → ∃ m', m' < m ∧ W (i + 1) m' H') ∧ ∀ x H', (Itt K a).yld i H x H' → g x (wipe σ vs) H' fun σ2 H2 => wipe σ2 vs = wipe σ vs ∧ tt σ2 H2 fun b H3 =>
        if b = true then te σ2 H3 fun y H4 => ∃ (c : Int) (S : Int → Bool) (n : Nat), y = .int c ∧ H4 D = some (SetO w D S n) ∧ n + 1 < scanBound ∧ Nx (upd H4 D (SetO w D (fun j => S j || decide (j = c)) (if S c = true then n else n + 1))) else Nx H3) := by
  refine ⟨fun i m H => m = xs.length - i ∧ i ≤ xs.length ∧ Pv i H, ⟨xs.length, by simp, Nat.zero_le _, h0⟩, ?_⟩
  rintro i m H ⟨rfl, hi, p⟩
  have q := hl i H hi p
  by_cases hlt : i < xs.length
  · refine .inr ⟨⟨xs, xs[i], q, by simp [hlt]⟩, Pv (i + 1), fun H' p' => ⟨xs.length - (i + 1), by omega, rfl, hlt, p'⟩, fun x H' y => ?_⟩
    obtain ⟨e, y⟩ := y
    subst e
    exact hs i x _ (y xs q) p
  · have e : i = xs.length := by omega
    subst e
    exact .inl ⟨⟨xs, q, Nat.le_refl _⟩, hd H p⟩
/-- sorted(set) -/
theorem sorted_setA {P : Program} {w : World} {A : Around} {E : Value → Shared → Prop} {s : Shared} {a : Addr} {S : Int → Bool} {n : Nat} {Q : Value → Shared → Prop} (R : SetR w s.heap a S n) (hh : A.handled = none)
    (hQ : ∀ s' p (out : List Value) (c : Nat) (ns : List Int), (∀ b o, s.heap.get? b = some o → s'.heap.get? b = some o) → s'.gens = s.gens → s'.os = s.os → s.heap.objs.size ≤ p →
      s'.heap.get? p = some (seqObj "list" out.toArray c) → IntsAre out ns → ns.Pairwise (· < ·) → (∀ k, k ∈ ns ↔ S k = true) → ns.length = n → Q (.ref p) s') :
    wpAny (model P w) A (call (.builtin "sorted") [.ref a]) Q E s := by
  obtain ⟨o, es, ep, t, ho, hex, hd, g, nd, hm, hb, hf, hn, hr, hl⟩ := R
  have hb2 : n < 4096 := by rw [← hn]; exact hb
  refine Calls.call_function_entry kind_sorted plain_sorted entry_sorted (args_sorted1 _) ?_
  unfold Builtin.«sorted»
  refine wpAny_bind (m := checkCount "sorted" 1 1 _) (wpAny_pure ?_)
  refine wpAny_bind (collect_set (A := A.in1) hh ⟨o, ho, hex.1, hd⟩ hf hb hr hl fun s1 vs k1 hz g1 o1 pm => ?_)
  have hvl : vs.length = n := by rw [pm.length_eq, List.length_map, Array.length_toList]; exact hn
  have hI : IntsAre vs (vs.map Builtin.Re.reRawOf) := ints_of vs fun v hv => by
    obtain ⟨e, he, q⟩ := List.mem_map.mp (pm.mem_iff.mp hv)
    obtain ⟨k, tk, h1, _⟩ := g e he
    exact ⟨k, tk, by rw [← q]; exact h1⟩
  have pk : (vs.map Builtin.Re.reRawOf).Perm (es.toList.map keyOf) := by
    have q := pm.map Builtin.Re.reRawOf
    rw [List.map_map] at q
    exact q
  have hvz : vs.length ≤ sizeLine := by rw [hvl, sizeLine_eq]; omega
  refine wpAny_bind (wpAny_newList ?_ hvz)
  have hoL : (s1.heap.push (seqObj "list" vs.toArray 0)).get? s1.heap.objs.size = some (seqObj "list" vs.toArray 0) := Heap.get?_push_size _ rfl
  refine wpAny_bind (wpAny_holding (wpAny_call_entry slot_list_sort ⟨_, hoL, rfl⟩ entry_list_sort (SrtO.list_sort_ord SrtO.swo_int hoL hvz (fun h2 => SrtO.ints_sortable hI h2) fun out h1 h2 => ⟨_, rfl, ?_⟩) (args_list_sort _)))
  obtain ⟨a1, a2, a3⟩ := SrtO.ints_out hI h1 h2
  obtain ⟨c, hc⟩ := sortedHeap_at (vs := vs) (out := out.toArray) hoL
  have pn : (out.map SrtO.iv).Perm (es.toList.map keyOf) := a2.trans pk
  refine wpAny_pure ⟨_, rfl, hQ _ s1.heap.objs.size out c _ (fun b u e => ?_) g1 o1 hz hc a1 (lt_of_le_nodup _ a3 (pn.nodup_iff.mpr nd)) (fun k => by rw [pn.mem_iff, ← hm k]) ?_⟩
  · have q := k1 b u e
    have hlt := Heap.lt_size q
    show (sortedHeap (s1.heap.push (seqObj "list" vs.toArray 0)) s1.heap.objs.size vs out.toArray).get? b = some u
    rw [sortedHeap_old (Nat.ne_of_lt hlt) (by rw [size_push']; exact Nat.lt_succ_of_lt hlt)]
    exact Heap.get?_push_of_some _ q
  · rw [pn.length_eq, List.length_map, Array.length_toList]; exact hn
def rSortedSetA (w : World) : List V → Hp → VK → Prop := fun vs H Q => ∃ (a : Addr) (S : Int → Bool) (n : Nat), vs = [V.ref a] ∧ H a = some (SetO w a S n) ∧ n < 4096 ∧
  ∀ (ns : List Int) (p : Addr), ns.Pairwise (· < ·) → (∀ k : Int, k ∈ ns ↔ S k = true) → ns.length = n → H p = none → Q (.ref p) (upd H p (.lst (ns.map V.int)))
theorem cr_sortedSetA (hc : X.calm = true) : CallR X (.builtin "sorted") (rSortedSetA X.w) := by
  intro pins s σ H vs us Q I r h
  obtain ⟨a, S, n, rfl, ha, h4, q⟩ := h
  have R := setO_get I ha
  rw [Vals.ref1 r]
  refine sorted_setA R (I.ok.hd hc) fun s' p out c ns k g o hp hg hi hs hm hl => ?_
  have hlen : (ns.map V.int).length ≤ sizeLine := by rw [List.length_map, hl, sizeLine_eq]; omega
  have hn : H p = none := I.hok.fresh hp
  have J : Inv X pins σ (upd H p (.lst (ns.map V.int))) { s with heap := s'.heap, gens := s'.gens, drawn := s'.drawn, toks := s'.toks } :=
    I.call (ch := []) (Un.laid k hp hn) (I.hok.laid k hp ⟨hlen, out, c, vals_of_ints hi, hg⟩) (by rw [g]; exact I.bare) (fun _ z => nomatch z)
  have e : s' = { s with heap := s'.heap, gens := s'.gens, drawn := s'.drawn, toks := s'.toks } := by
    cases s'
    cases s
    cases o
    rfl
  rw [e]
  exact ⟨.ref p, _, J, rfl, q ns p hs hm hl hn⟩
end
end Sz
/-! a <= b <= c <= .. as a test, of any length -/
namespace Sz
open PySem PySem.Spec PyProof.Rows L2
/-- len within a comprehension -/
def rLenS (K : PySem.W.Frag) : List V → Hp → VK → Prop := fun xs H Q => ∃ p ys, xs = [V.ref p] ∧ (SqL K H p ys ∨ SqT K H p ys) ∧ Q (V.int (ys.length : Nat)) H
abbrev TL := V → L2.St → Hp → (Bool → Hp → Prop) → Prop
section
variable {X : Cx} {a b c : Expr} {cs : List Expr} {op op' : CmpOp} {ops : List CmpOp} {ta tb : TE} {r : R2} {t : TL} {pos : Pos}
/-- the rest of a chain, behind a value -/
def PL (X : Cx) (ops : List CmpOp) (cs : List Expr) (t : TL) : Prop :=
  ∀ (pos : Pos) (pins : List (Addr × Obj)) (s : Shared) (σ : L2.St) (H : Hp) (x : V) (v : Value) (Q : Bool → Hp → Prop), Inv X pins σ H s → RelV x v → t x σ H Q →
    wpAny (model X.prog X.w) X.A (testChain pos v ops (evalEach cs X.env)) (fun k s' => ∃ H', Inv X pins σ H' s' ∧ Q k H') X.xe s
def tlLast (r : R2) (tb : TE) : TL := fun x σ H Q => tb σ H fun y H2 => r x y H2 fun z H3 => ∃ k, z = .bl k ∧ Q k H3
def tlMore (r : R2) (tb : TE) (t : TL) : TL := fun x σ H Q => tb σ H fun y H2 => r x y H2 fun z H3 => ∃ k, z = .bl k ∧ if k = true then t y σ H3 Q else Q false H3
theorem pl_last (ho : OpR X (compareOp op) r) (hb : PE X b tb) : PL X [op] [b] (tlLast r tb) := by
  intro pos pins s σ H x v Q I rx h
  refine test_last (thn (hb.run pins s σ H _ I h) fun u s2 ⟨y, H2, I2, r2, q2⟩ => thn (ho pins s2 σ H2 x y v u _ I2 rx r2 q2) fun d s3 ⟨z, H3, I3, r3, k, e, q3⟩ => ?_)
  subst e
  cases r3
  exact wpAny_truthy_bool ⟨H3, I3, q3⟩
theorem pl_more (ho : OpR X (compareOp op) r) (hb : PE X b tb) (hr : PL X (op' :: ops) (c :: cs) t) : PL X (op :: op' :: ops) (b :: c :: cs) (tlMore r tb t) := by
  intro pos pins s σ H x v Q I rx h
  refine test_link (thn (hb.run pins s σ H _ I h) fun u s2 ⟨y, H2, I2, r2, q2⟩ => thn (ho pins s2 σ H2 x y v u _ I2 rx r2 q2) fun d s3 ⟨z, H3, I3, r3, k, e, q3⟩ => ?_)
  subst e
  cases r3
  refine wpAny_truthy_bool ?_
  cases k with
  | false => exact ite_ff ⟨H3, I3, q3⟩
  | true => exact ite_tt (hr pos pins s3 σ H3 y u Q I3 r2 q3)
def tChs (ta : TE) (t : TL) : TT := fun σ H Q => ta σ H fun x H1 => t x σ H1 Q
theorem pt_chains (ha : PE X a ta) (hr : PL X (op :: op' :: ops) (b :: c :: cs) t) (hm : lastMarks (op :: op' :: ops) (b :: c :: cs) = false := by with_unfolding_all rfl) :
    PT X (.Compare a (op :: op' :: ops) (b :: c :: cs) pos) (tChs ta t) := by
  refine ⟨fun pins s σ H Q I h => ?_⟩
  exact isTrue_chain (thn (ha.run pins s σ H _ I h) fun v s1 ⟨x, H1, I1, r1, q1⟩ => hr pos pins s1 σ H1 x v Q I1 r1 q1) hm
end
end Sz
/-! str(x), f"{x}" by an own __str__; x == y, x != y by an own __eq__ -/
namespace Sz
open PySem PySem.Spec PyProof.Rows L2
/-- what the class must have -/
structure StrK (K : PySem.W.Frag) (C : Addr) : Prop where
  fmt : PySem.W.findIn K (.ref C) "__format__" = some (some (.builtin "object.__format__"))
  mro : PySem.W.mroIn K C (.type "object") = some true
  ne : PySem.W.findIn K (.ref C) "__ne__" = some (some (.builtin "object.__ne__"))
def strB (K : PySem.W.Frag) (C : Addr) : Bool := He.eqO (PySem.W.findIn K (.ref C) "__format__") (some (some (.builtin "object.__format__"))) && (decide (PySem.W.mroIn K C (.type "object") = some true) && He.eqO (PySem.W.findIn K (.ref C) "__ne__") (some (some (.builtin "object.__ne__"))))
theorem strB_ok {K : PySem.W.Frag} {C : Addr} (h : strB K C = true) : StrK K C := by
  obtain ⟨h1, h⟩ := He.ba h
  obtain ⟨h2, h3⟩ := He.ba h
  exact ⟨He.eqO_ok h1, of_decide_eq_true h2, He.eqO_ok h3⟩
section
variable {X : Cx} {CX : CXT} {k n : Nat} {C : Str} {ps : List Str} {sp : Sp} {E : XK}
/-- the own method of an instance is called somewhere below the running body -/
theorem run_own {m : Str} (G : PromM X.prog X.w X.K X.mg X.base CX k C m ps sp) (hx : Passes CX X E) {A : Around} (sb : L2.Sub X k A) {pins : List (Addr × Obj)} {s : Shared} {σ : L2.St} {H : Hp} {vs : List V} {us : List Value} {Q : VK}
    (I : Inv X pins σ H s) (r : Vals vs us) (h : sp vs H Q E) : wpAny (model X.prog X.w) A (call (.ref (He.ma X.K (He.ga X.K C) m)) us) (EP X pins σ Q) X.xe s := by
  obtain ⟨fd, F, b⟩ := G.ex
  have hl := F.len _ _ _ _ h
  have e0 : Env0 X.prog X.w X.K X.mg X.base A X.stack s H := by
    have e := I.env0
    exact ⟨by rw [sb.fr]; exact e.frames, e.mod, e.bs, e.bsz, e.funs, e.frf, e.hok, e.bare⟩
  have hl2 : us.length = ps.length := by rw [← hl]; exact r.length.symm
  refine wpAny_call (codeAny_mono (F.run A X.stack s H ⟨us, []⟩ us vs _ E sb.room e0 (by
    have := b s us I.kIn (by simpa using hl2)
    simpa using this) r h) fun rr s' hq => ?_)
  cases rr with
  | error e => exact hx pins σ H s e s' I hq
  | ok fl =>
    cases fl with
    | ret v =>
      obtain ⟨z, H', I', rz, q⟩ := I.after hq
      exact ⟨z, H', I', rz, q⟩
    | next => exact False.elim hq
    | brk => exact False.elim hq
    | cont => exact False.elim hq
theorem strBack_of {pins : List (Addr × Obj)} {σ : L2.St} {Q : VK} {v : Value} {s' : Shared} (h : EP X pins σ (fun v H => ∃ y : Str, v = .str y ∧ Q (.str y) H) v s') : PySem.W.StrBack (EP X pins σ Q) v s' := by
  obtain ⟨z, H', I', rz, y, rfl, q⟩ := h
  obtain ⟨t, rfl⟩ := rz
  exact ⟨.str y, H', I', ⟨t, rfl⟩, q⟩
/-- f"{x}" by an own __str__ -/
def tFmtO (C : Addr) (sp : Sp) (E : XK) (te : TE) : TE := fun σ H Q => te σ H fun x H1 => ∃ p dx fs, x = .ref p ∧ H1 p = some (.ins C dx fs) ∧ sp [.ref p] H1 (fun v H2 => ∃ y : Str, v = .str y ∧ Q (.str y) H2) E
theorem pe_fmtO {e : Expr} {te : TE} {pos : Pos} (a : StrK X.K (He.ga X.K C)) (G : PromM X.prog X.w X.K X.mg X.base CX k C "__str__" ps sp) (hr : Room (k + 1) X.A) (hx : Passes CX X E) (he : PE X e te) :
    PE X (.FormattedValue e (-1) none pos) (tFmtO (He.ga X.K C) sp E te) := by
  refine ⟨fun pins s σ H Q I h => ?_⟩
  refine wpAny_FormattedValue_plain (thn (he.run pins s σ H _ I h) fun v s1 hv => ?_)
  obtain ⟨x, H1, I1, r1, p, dx, fs, rfl, hp, q⟩ := hv
  obtain rfl : v = Value.ref p := r1
  obtain ⟨m1, O1, _⟩ := ins_get I1.hok hp
  obtain ⟨od1, J1, _⟩ := O1.look
  refine PySem.W.kfo_fieldS hr.in1.units0 I1.kIn J1 a.fmt a.mro G.me.at_ G.me.fn ?_
  exact wpAny_mono (run_own G hx (A := X.A.in1) ⟨hr.in1, rfl⟩ (vs := [.ref p]) (us := [.ref p]) (I1.tok _) (.cons rfl .nil) q) (fun v s' z => strBack_of z) fun _ _ z => z
/-- str(x) by an own __str__ -/
theorem cr_strO (G : PromM X.prog X.w X.K X.mg X.base CX k C "__str__" ps sp) (hr : Room (k + 2) X.A) (hx : Passes CX X E) :
    CallR X (.type "str") (fun xs H Q => ∃ p dx fs, xs = [.ref p] ∧ H p = some (.ins (He.ga X.K C) dx fs) ∧ sp [.ref p] H (fun v H2 => ∃ y : Str, v = .str y ∧ Q (.str y) H2) E) := by
  intro pins s σ H xs us Q I r h
  obtain ⟨p, dx, fs, rfl, hp, h⟩ := h
  obtain ⟨u, rfl, ru⟩ := vals1 r
  obtain rfl : u = Value.ref p := ru
  obtain ⟨m1, O1, _⟩ := ins_get I.hok hp
  obtain ⟨od1, J1, _⟩ := O1.look
  refine callType_codes (T := "str") (Bi := Builtin.«object.__init__») (Q₁ := fun r s₁ => ∃ y u, r = .str y u ∧ EP X pins σ Q r s₁) PySem.F.called_str (PySem.F.typeCall_str_1 _) PySem.F.entry_object_init ?_ ?_
  · refine codeAny_of_tree ?_
    show wpAny _ X.A.in1.in1 (do checkBuiltinCall "str.__new__" ⟨[.type "str", .ref p], []⟩; again (.builtin "str.__new__" ⟨[.type "str", .ref p], []⟩)) _ _ s
    refine wpAny_bind (wpAny_of_eq (PySem.F.newCall_str_1 _) (wpAny_pure ⟨plainId_quiet (by decide +kernel) _, codeAny_builtin PySem.F.entry_str_new ?_⟩))
    rw [Around.under_plainId (by decide +kernel) _]
    rw [str_new_tree]
    refine wpAny_bind (wpAny_pure ?_)
    refine wpAny_bind (wpAny_of_eq isSubtype_str_str ?_)
    have key : wpAny (model X.prog X.w) X.A.in1.in1 (PySem.Builtin.Str.strOf (.ref p)) (fun r s₁ => ∃ y u, r = .str y u ∧ EP X pins σ Q r s₁) X.xe s := by
      unfold PySem.Builtin.Str.strOf
      rw [show PySem.Builtin.Str.isExactStr (.ref p) = false from rfl]
      refine wpAny_bind (m := cRoomFor _ _) (wpAny_cRoomFor hr.in1.in1.units0 ?_)
      refine wpAny_bind (m := callSpecial? (.ref p) (Str.ofString "__str__")) (PySem.W.special_fn I.kIn J1 G.me.at_ (beq_iff_eq.mp G.me.fn) (wpAny_mono (run_own G hx (A := X.A.in1.in1) ⟨hr.in1.in1, rfl⟩ (vs := [.ref p]) (us := [.ref p]) I (.cons rfl .nil) h) (fun v s' z => ?_) fun _ _ y => y))
      obtain ⟨z, H', I', rz, y, rfl, q⟩ := z
      obtain ⟨t, rfl⟩ := rz
      exact wpAny_pure ⟨_, _, rfl, .str y, H', I', ⟨t, rfl⟩, q⟩
    exact wpAny_bind (wpAny_mono key (fun r s₁ hr => wpAny_pure hr) fun _ _ y => y)
  · rintro obj s₁ ⟨y, u, rfl, hq⟩
    exact ⟨typeIs_str _ _ _, PySem.F.args_object_init_2 _ _, object_init_meets PySem.F.called_str.init.lookup PySem.F.called_str.made (by decide) X.prog X.w X.A.in1 _ s₁ ⟨typeIs_str _ _ _, rfl, hq⟩⟩
/-- x == y by an own __eq__ -/
theorem op_eqO (G : PromM X.prog X.w X.K X.mg X.base CX k C "__eq__" ps sp) (hr : Room k X.A) (hx : Passes CX X E) :
    OpR X (compareOp .Eq) (fun x y H Q => ∃ p q dx fs dy gs, x = .ref p ∧ y = .ref q ∧ H p = some (.ins (He.ga X.K C) dx fs) ∧ H q = some (.ins (He.ga X.K C) dy gs) ∧ sp [.ref p, .ref q] H (fun v H2 => ∃ b : Bool, v = .bl b ∧ Q (.bl b) H2) E) := by
  intro pins s σ H x y v u Q I rx ry h
  obtain ⟨p, q, dx, fs, dy, gs, rfl, rfl, hp, hq, h⟩ := h
  obtain rfl : v = Value.ref p := rx
  obtain rfl : u = Value.ref q := ry
  obtain ⟨m1, O1, _⟩ := ins_get I.hok hp
  obtain ⟨od1, J1, _⟩ := O1.look
  obtain ⟨m2, O2, _⟩ := ins_get I.hok hq
  obtain ⟨od2, J2, _⟩ := O2.look
  obtain ⟨m, hF⟩ := I.fr
  show wpAny (model X.prog X.w) X.A (richCompare .Eq (.ref p) (.ref q)) (EP X pins σ Q) X.xe s
  refine PySem.W.cmp_K (op := .Eq) (tb := .ref (He.ga X.K C)) hr.units0 hF I.ok.mod.kin J1 J2.type (by simp [PySem.W.notFirst]) G.me.at_ G.me.fn ?_
  refine wpAny_mono (run_own G hx (A := X.A) ⟨hr, rfl⟩ (vs := [.ref p, .ref q]) (us := [.ref p, .ref q]) I (.cons rfl (.cons rfl .nil)) h) (fun v s' z => ?_) fun _ _ y => y
  obtain ⟨z, H', I', rz, b, rfl, q⟩ := z
  cases rz
  exact ⟨.bl b, H', I', rfl, q⟩
/-- x != y by an own __eq__ -/
theorem op_neO (a : StrK X.K (He.ga X.K C)) (G : PromM X.prog X.w X.K X.mg X.base CX k C "__eq__" ps sp) (hr : Room (k + 1) X.A) (hx : Passes CX X E) :
    OpR X (compareOp .NotEq) (fun x y H Q => ∃ p q dx fs dy gs, x = .ref p ∧ y = .ref q ∧ H p = some (.ins (He.ga X.K C) dx fs) ∧ H q = some (.ins (He.ga X.K C) dy gs) ∧ sp [.ref p, .ref q] H (fun v H2 => ∃ b : Bool, v = .bl b ∧ Q (.bl !b) H2) E) := by
  intro pins s σ H x y v u Q I rx ry h
  obtain ⟨p, q, dx, fs, dy, gs, rfl, rfl, hp, hq, h⟩ := h
  obtain rfl : v = Value.ref p := rx
  obtain rfl : u = Value.ref q := ry
  obtain ⟨m1, O1, _⟩ := ins_get I.hok hp
  obtain ⟨od1, J1, _⟩ := O1.look
  obtain ⟨m2, O2, _⟩ := ins_get I.hok hq
  obtain ⟨od2, J2, _⟩ := O2.look
  show wpAny (model X.prog X.w) X.A (richCompare .NotEq (.ref p) (.ref q)) (EP X pins σ Q) X.xe s
  have one : wpAny (model X.prog X.w) X.A (tryCompare (.ref p) "__ne__" (.ref q)) (fun r s' => ∃ v, r = some v ∧ EP X pins σ Q v s') X.xe s := by
    unfold tryCompare
    refine wpAny_bind ?_
    simp only [callSpecialIfBound?, bindSpecialIfBound?]
    refine wpAny_holding (wpAny_bind (wpAny_bind (wpAny_bind (J1.type.here ((PySem.W.looks_findIn I.kIn a.ne).here ?_)))))
    refine wpAny_bind (wpAny_askSetting (wpAny_ite ?_))
    have run : wpAny (model X.prog X.w) X.A (call (.builtin "object.__ne__") [.ref p, .ref q]) (fun r s' => ∃ b : Bool, r = .bool b ∧ EP X pins σ Q (.bool b) s') X.xe s := by
      refine wpAny_call (codeAny_call_builtin PySem.F.slot_object_ne.plain PySem.F.entry_object_ne (PySem.W.check_slot (i := "object.__ne__") (owner := "object") (n := "__ne__") (by decide +kernel) (by decide +kernel) (J1.type.andThen (PySem.W.looks_mroIn I.kIn a.mro)) (PySem.F.args_object_ne_2 _ _) ?_))
      unfold Builtin.«object.__ne__»
      refine wpAny_bind (m := slotArgs "__ne__" 1 _) (wpAny_pure ?_)
      refine wpAny_bind (m := cRoomFor _ _) (wpAny_cRoomFor hr.in1.units0 ?_)
      refine wpAny_bind (m := callSpecialIfBound? (.ref p) (Str.ofString "__eq__") _) (PySem.W.ifBound_K I.kIn J1 G.me.at_ G.me.fn (wpAny_mono (run_own G hx (A := X.A.in1) ⟨hr.in1, rfl⟩ (vs := [.ref p, .ref q]) (us := [.ref p, .ref q]) I (.cons rfl (.cons rfl .nil)) h) (fun r s' z => ?_) fun _ _ y => y))
      obtain ⟨z, H', I', rz, b, rfl, q⟩ := z
      cases rz
      exact wpAny_bind (wpAny_truthy_bool (wpAny_pure ⟨!b, rfl, .bl !b, H', I', rfl, q⟩))
    have fin : wpAny (model X.prog X.w) X.A (call (.builtin "object.__ne__") ([.ref p] ++ [.ref q]) >>= fun v => pure (some v)) (fun r s2 => ∃ b : Bool, r = some (.bool b) ∧ EP X pins σ Q (.bool b) s2) X.xe s :=
      wpAny_bind (wpAny_mono run (fun v s' h' => wpAny_pure (by obtain ⟨b, rfl, h'⟩ := h'; exact ⟨b, rfl, h'⟩)) fun _ _ h' => h')
    have fin2 := wpAny_mono (Q' := fun r s2 => wpAny (model X.prog X.w) X.A (match r with
      | some .notImplemented => pure none
      | none => pure none
      | some v => pure (some v) : Sem (Option Value)) (fun r s' => ∃ v, r = some v ∧ EP X pins σ Q v s') X.xe s2) fin (fun r s2 z => by
        obtain ⟨b, e, z⟩ := z
        subst e
        exact wpAny_pure ⟨_, rfl, z⟩) fun _ _ z => z
    split
    · exact wpAny_bind (wpAny_of_eq (PySem.F.slot_object_ne.bind _) (wpAny_pure (by exact fin2)))
    · exact wpAny_tryCatch (wpAny_bind (wpAny_of_eq (PySem.F.slot_object_ne.bind _) (wpAny_pure (by exact fin2))))
  unfold richCompare
  simp only [oneThing_ref]
  refine wpAny_holding (wpAny_bind (wpAny_cRoomFor hr.units0 ?_))
  rw [cmpInfo_NotEq]
  dsimp only
  refine wpAny_bind (J1.type.here (wpAny_bind (J2.type.here ?_)))
  rw [show (Value.ref (He.ga X.K C) != Value.ref (He.ga X.K C)) = false from by simp]
  simp only [Bool.false_eq_true, if_false]
  refine wpAny_bind (wpAny_pure ?_)
  simp only [Bool.false_eq_true, if_false]
  refine wpAny_bind (wpAny_mono one (fun r s' z => ?_) fun _ _ e => e)
  obtain ⟨v, rfl, hq⟩ := z
  exact wpAny_pure hq
end
end Sz
/-! repr(x) by an own __repr__ -/
namespace Sz
open PySem PySem.Spec PyProof.Rows L2
section
variable {X : Cx} {CX : CXT} {k n : Nat} {C : Str} {ps : List Str} {sp : Sp} {E : XK}
theorem cr_reprO (G : PromM X.prog X.w X.K X.mg X.base CX k C "__repr__" ps sp) (hr : Room (k + 1) X.A) (hx : Passes CX X E) :
    CallR X (.builtin "repr") (fun xs H Q => ∃ p dx fs, xs = [.ref p] ∧ H p = some (.ins (He.ga X.K C) dx fs) ∧ sp [.ref p] H (fun v H2 => ∃ y : Str, v = .str y ∧ Q (.str y) H2) E) := by
  intro pins s σ H xs us Q I r h
  obtain ⟨p, dx, fs, rfl, hp, h⟩ := h
  obtain ⟨u, rfl, ru⟩ := vals1 r
  obtain rfl : u = Value.ref p := ru
  obtain ⟨m1, O1, _⟩ := ins_get I.hok hp
  obtain ⟨od1, J1, _⟩ := O1.look
  obtain ⟨m, hF⟩ := I.fr
  refine PySem.W.repr_K hr.in1.units0 hF I.ok.mod.kin J1 G.me.at_ G.me.fn ?_
  exact wpAny_mono (run_own G hx (A := X.A.in1) ⟨hr.in1, rfl⟩ (vs := [.ref p]) (us := [.ref p]) I (.cons rfl .nil) h) (fun v s' z => strBack_of z) fun _ _ z => z
end
end Sz
/-! == by an own __eq__ that is promised to say True -/
namespace Sz
open PySem PySem.Spec PyProof.Rows L2
section
variable {X : Cx} {CX : CXT} {k : Nat} {C : Str} {ps : List Str} {R : Addr → Addr → Hp → Prop} {E : XK}
theorem rcG_insP (G : PromM X.prog X.w X.K X.mg X.base CX k C "__eq__" ps (spEq R)) (hx : Passes CX X E) : RcG X k (DIns (He.ga X.K C) R) := by
  obtain ⟨fd, F, b⟩ := G.ex
  exact rcG_ins F G.me.at_ G.me.fn b hx
theorem eqG_insP (G : PromM X.prog X.w X.K X.mg X.base CX k C "__eq__" ps (spEq R)) (hx : Passes CX X E) : EqG X k (DIns (He.ga X.K C) R) := by
  obtain ⟨fd, F, b⟩ := G.ex
  exact eqG_ins F G.me.at_ G.me.fn b hx
end
end Sz
/-! lists or tuples walked, a class with plain parameters, two tuples zipped -/
namespace Sz
open PySem PySem.Spec PyProof.Rows L2
section
variable {X : Cx} {tg l : Expr} {tl : TE}
/-- for x in s, s a list or a tuple -/
theorem pi_seq (hl : PE X l tl) : PI X tg l (fun σ H R => iList X.K tl σ H R ∨ iTup X.K tl σ H R) := by
  refine ⟨fun pins s σ H R I h => ?_⟩
  rcases h with h | h
  · exact (pi_list (tg := tg) hl).run pins s σ H R I h
  · exact (pi_tup (tg := tg) hl).run pins s σ H R I h
end
section
variable {K : PySem.W.Frag} {a b : Addr} {xs ys : List V} {n : Nat}
theorem walk_zipT (hn : n = min xs.length ys.length) : Walk (RZ.ItzT K a b) n (fun H => SqT K H a xs ∧ SqT K H b ys) (YPair (fun i => xs[i]?) (fun i => ys[i]?)) := by
  refine ⟨fun i H hi g => ?_, fun H g => ⟨xs, ys, g.1, g.2, by omega⟩, fun i H x H' hi g y => ?_⟩
  · have h1 : i < xs.length := by omega
    have h2 : i < ys.length := by omega
    exact ⟨xs, ys, xs[i], ys[i], g.1, g.2, List.getElem?_eq_getElem h1, List.getElem?_eq_getElem h2⟩
  · obtain ⟨T, x1, y1, e1, e2, e3, e4, e5⟩ := y
    exact ⟨T, x1, y1, e1, e2, e3, e4 xs g.1, e5 ys g.2⟩
end
section
variable {P : Program} {w : World} {K : PySem.W.Frag} {mg : Str → Option Value} {base : Heap}
/-- a class whose __init__ takes its parameters one by one -/
theorem PromC.plain {C q : Str} {st : Stmt} {N ps : List Str} {sp sp0 : Sp} {k : Nat} (mk : Mk K (He.ga K C) (He.ma K (He.ga K C) "__init__")) (hm : mg C = some (.ref (He.ga K C))) (D : DefAtM K C "__init__" q st) (S : FnScope N ps (defScope st))
    (len : ∀ vs H Q E, sp0 vs H Q E → vs.length = ps.length)
    (hb : ∀ (kV doc pm : Value) (an : Option Addr) (cdv ct : Value) (us : List Value), us.length = ps.length → bindArgs (PySem.W.fnOf "__init__" q (defArgs st) (defBody st) (defScope st) .none kV doc pm an cdv ct) ⟨us, []⟩ = pure (ps.zip us))
    (hbody : ∀ (f : Addr) (cdv : Value) (A : Around) (outer : List Env) (s : Shared) (H : Hp) (vs : List V) (Q : VK) (E : XK), Room k (A.deeper (envOfC q (defScope st) s.heap.objs.size f cdv)) → sp0 vs H Q E →
      ∃ t, PSs (cxOf CX0 P w K mg base N q (defScope st) f cdv A outer s H E).nox (defBody st) t ∧ t { nx := fun _ H' => Q .non H', rt := Q } (start N vs) H)
    (hsp : ∀ vs H Q E, sp vs H Q E → ∀ x dx, H x = none → H dx = none → dx ≠ x → sp0 (.ref x :: vs) (upd (upd H dx (.own x)) x (.ins (He.ga K C) dx [])) (fun u H2 => u = .non ∧ Q (.ref x) H2) E) :
    PromC P w K mg base CX0 (k + 1) C sp := by
  obtain ⟨fd, F⟩ := D
  have F1 : FnOk P w K mg base CX0 (k + 1) (He.ma K (He.ga K C) "__init__") fd ps sp0 := F.ok S len (fun cdv A outer s H vs Q E hr hs => by
    obtain ⟨t, h1, h2⟩ := hbody _ cdv A outer s H vs Q E hr hs
    exact ⟨t, h1.nox, h2⟩)
  refine ⟨mk, hm, _, F1.raw (F.bindsN hb) .nil, fun vs H Q E hs x dx hx hdx ne => ?_⟩
  rw [List.append_nil]
  exact hsp vs H Q E hs x dx hx hdx ne
end
end Sz
/-! a != b, two lists whose items are the same: flat, one object, or lists again -/
namespace Sz
open PySem PySem.Spec PyProof.Rows L2
def EqL (K : PySem.W.Frag) (H : Hp) : Nat → V → V → Prop
  | 0 => fun _ _ => False
  | n + 1 => fun x y => (x = y ∧ flatB x = true) ∨ (∃ a, x = .ref a ∧ y = .ref a) ∨ ∃ (a b : Addr) (xs ys : List V), x = .ref a ∧ y = .ref b ∧ SqL K H a xs ∧ SqL K H b ys ∧ Paired (EqL K H n) xs ys
theorem items_at {A : Around} {s : Shared} {F : V → V → Prop} (ih : ∀ x y v u, F x y → RelV x v → RelV y u → SeqAt.EqAt A s v u true) {xs ys : List V} (hp : Paired F xs ys) :
    ∀ {us ws : List Value}, Vals xs us → Vals ys ws → ∀ j (h1 : j < us.length) (h2 : j < ws.length), SeqAt.EqAt A s us[j] ws[j] true := by
  induction hp with
  | nil =>
    intro us ws r1 r2 j h1 h2
    cases r1
    exact absurd h1 (Nat.not_lt_zero j)
  | cons h _ k =>
    intro us ws r1 r2 j h1 h2
    cases r1 with
    | cons a1 b1 =>
      cases r2 with
      | cons a2 b2 =>
        cases j with
        | zero => exact ih _ _ _ _ h a1 a2
        | succ j => exact k b1 b2 j (Nat.lt_of_succ_lt_succ h1) (Nat.lt_of_succ_lt_succ h2)
section
variable {X : Cx} {pins : List (Addr × Obj)} {σ : L2.St} {H : Hp} {s : Shared}
theorem eqL_at (I : Inv X pins σ H s) : ∀ (n : Nat) (A : Around), A.units + n < cLine → ∀ (x y : V) (v u : Value), EqL X.K H n x y → RelV x v → RelV y u → SeqAt.EqAt A s v u true
  | 0, _, _, _, _, _, _, h, _, _ => (show False from h).elim
  | n + 1, A, hu, x, y, v, u, h, rx, ry => by
    rcases h with ⟨rfl, f⟩ | ⟨a, rfl, rfl⟩ | ⟨a, b, xs, ys, rfl, rfl, ha, hb, hp⟩
    · exact eqAt_same rx ry f
    · cases (show v = Value.ref a from rx)
      cases (show u = Value.ref a from ry)
      exact SeqAt.EqAt.same _
    · cases (show v = Value.ref a from rx)
      cases (show u = Value.ref b from ry)
      by_cases e : a = b
      · subst e
        exact SeqAt.EqAt.same _
      · obtain ⟨us, r1, p1, _⟩ := I.list ha
        obtain ⟨ws, r2, p2, _⟩ := I.list hb
        have hsz : us.toArray.size = ws.toArray.size := by
          rw [List.size_toArray, List.size_toArray, ← r1.length, ← r2.length]
          exact Paired.length hp
        have step : SeqAt.RcAt A s (.ref a) (.ref b) ((List.range us.toArray.size).all fun _ => true) := SeqAt.RcAt.lists (e := fun _ => true) p1.isList p2.isList hsz (by omega) (fun j h1 h2 => by
          have k := items_at (eqL_at I n A.in1 (by show A.units + 1 + n < cLine; omega)) hp r1 r2 j (by simpa using h1) (by simpa using h2)
          simpa using k)
        rw [show ((List.range us.toArray.size).all fun _ => true) = true from List.all_eq_true.mpr fun _ _ => rfl] at step
        exact SeqAt.EqAt.of_refs e step
end
def rNeL (K : PySem.W.Frag) : R2 := fun x y H Q => ∃ n, n ≤ 60 ∧ (∃ (a b : Addr) (xs ys : List V), x = .ref a ∧ y = .ref b ∧ SqL K H a xs ∧ SqL K H b ys ∧ Paired (EqL K H n) xs ys) ∧ Q (.bl false) H
theorem op_neL {X : Cx} (hu : X.A.units + 64 < cLine) : OpR X (compareOp .NotEq) (rNeL X.K) := by
  intro pins s σ H x y v u Q I rx ry h
  obtain ⟨n, hn, ⟨a, b, xs, ys, rfl, rfl, ha, hb, hp⟩, q⟩ := h
  cases (show v = Value.ref a from rx)
  cases (show u = Value.ref b from ry)
  obtain ⟨us, r1, p1, _⟩ := I.list ha
  obtain ⟨ws, r2, p2, _⟩ := I.list hb
  have hsz : us.toArray.size = ws.toArray.size := by
    rw [List.size_toArray, List.size_toArray, ← r1.length, ← r2.length]
    exact Paired.length hp
  have step := SeqAt.RcNeAt.lists (A := X.A) (e := fun _ => true) p1.isList p2.isList hsz (by omega) (fun j h1 h2 => by
    have k := items_at (eqL_at I n X.A.in1 (by show X.A.units + 1 + n < cLine; omega)) hp r1 r2 j (by simpa using h1) (by simpa using h2)
    simpa using k)
  rw [show ((List.range us.toArray.size).all fun _ => true) = true from List.all_eq_true.mpr fun _ _ => rfl] at step
  exact step X.prog X.w _ _ ⟨.bl false, H, I, rfl, q⟩
end Sz
/-! d[k] as one of several targets -/
namespace Sz
open PySem PySem.Spec PyProof.Rows L2
def tSetD : TSet := fun x y v H Q => ∃ (a : Addr) (H' : Hp), x = .ref a ∧ DPut H a y v H' ∧ Q H'
theorem set_dict {X : Cx} (hu : X.A.units + 1 < cLine) : PSet X tSetD := by
  intro pins s σ H o i v ov iv u Q I ro ri rv h
  obtain ⟨a, H', rfl, g, q⟩ := h
  obtain rfl : ov = Value.ref a := ro
  exact d_setItem hu I g ri rv fun s' I' => ⟨H', I', q⟩
end Sz
/-! list(zip(a, b)): the pairs are kept, so that zip makes each one anew -/
namespace PySem
open Sem (wp)
abbrev IsZipK (h : Heap) (z TI TO : Addr) (T : Addr) (b : Bool) : Prop :=
  h.get? z = some { cls := .type "zip", dict := none, data := .fields #[rawInt T, .bool b, .bool false, .ref TI, .ref TO], slots := #[] }
theorem wpAny_alive {M : Model} {A : Around} {E : Value → Shared → Prop} {a : Addr} {s : Shared} {Q : Option Obj → Shared → Prop} (h : Q (s.heap.get? a) s) : wpAny M A (loadIfAlive a) Q E s := fun Γ p _ => by
  show wp M Γ (.loadIfAlive a .pure) _ _ p s
  rw [Sem.wp_loadIfAlive]
  exact h
section
variable {prog : Program} {w : World} {A : Around} {E : Value → Shared → Prop} {s : Shared} {z TI TO i1 i2 T0 : Addr} {fp1 fp2 : List Addr} {n1 n2 i : Nat} {P1 P2 : Nat → Value → Prop} {St1 St2 : Nat → Heap → Prop} {o0 : Obj} {b : Bool}
/-- the pair is kept: it is not free -/
theorem zipK_kept {Q : Bool → Shared → Prop} (hz : IsZipK s.heap z TI TO T0 b) (h0 : s.heap.get? T0 = some o0)
    (h : ∀ h', IsZipK h' z TI TO T0 true → Heap.SameBut z s.heap h' → Q false { s with heap := h' }) : wpAny (model prog w) A (Builtin.SmallTypes.ownedTupleIsFree (.ref z)) Q E s := by
  unfold Builtin.SmallTypes.ownedTupleIsFree
  refine wpAny_bind (wpAny_field hz rfl (x := rawInt T0) rfl ?_)
  show wpAny _ _ (loadIfAlive ((T0 : Int).toNat) >>= _) _ _ s
  refine wpAny_bind (wpAny_alive ?_)
  rw [Int.toNat_natCast, h0]
  simp only [Option.isNone_some, Bool.false_eq_true, if_false]
  refine wpAny_bind (wpAny_field hz rfl (x := .bool b) rfl ?_)
  cases b with
  | true =>
    rw [if_neg (by decide)]
    refine wpAny_pure (h _ hz (Heap.SameBut.refl _ _))
  | false =>
    rw [if_pos (by decide)]
    refine wpAny_bind (wpAny_setField_rec hz (by simp) fun g0 hz0 hs0 => wpAny_pure (h _ hz0 hs0))
/-- a pair more, made anew -/
theorem zipK_item {Q : Value → Shared → Prop} (S : ZipSep2 z TI TO i1 i2 fp1 fp2) (D1 : Draws prog w A i1 fp1 n1 P1 St1) (D2 : Draws prog w A i2 fp2 n2 P2 St2)
    (hz : IsZipK s.heap z TI TO T0 b) (h0 : s.heap.get? T0 = some o0) (hTI : IsTupOf2 s.heap TI (.ref i1) (.ref i2)) (st1 : St1 i s.heap) (st2 : St2 i s.heap) (hlt1 : i < n1) (hlt2 : i < n2)
    (hQ : ∀ x1 x2 h' tk, P1 i x1 → P2 i x2 → IsZipK h' z TI TO T0 true → St1 (i + 1) h' → St2 (i + 1) h' → IsTupOf2 h' s.heap.objs.size x1 x2 → h'.objs.size = s.heap.objs.size + 1 →
      (∀ c o, c ≠ z → c ≠ i1 → c ≠ i2 → s.heap.get? c = some o → h'.get? c = some o) → Q (.ref s.heap.objs.size) { s with heap := h', toks := tk }) :
    wpAny (model prog w) A (Builtin.«zip.__next__» ⟨[.ref z], []⟩) (fun fin s' => ∃ v, fin = .done (.ret v) ∧ Q v s') E s := by
  obtain ⟨hp, g, d, tk0, os⟩ := s
  show wpAny _ _ (field (.ref z) 2 >>= _) _ _ _
  refine wpAny_bind (wpAny_field hz rfl (x := .bool false) rfl ?_)
  show wpAny _ _ (field (.ref z) 3 >>= _) _ _ _
  refine wpAny_bind (wpAny_field hz rfl (x := .ref TI) rfl ?_)
  refine wpAny_bind (wpAny_seqItems hTI rfl ?_)
  show wpAny _ _ (Builtin.SmallTypes.ownedTupleIsFree (.ref z) >>= _) _ _ _
  refine wpAny_bind (zipK_kept hz h0 fun g0 hz0 hs0 => ?_)
  replace hs0 : Heap.SameBut z hp g0 := hs0
  simp only [Bool.false_eq_true, if_false]
  simp only [List.forIn_toArray, List.forIn_cons, List.forIn_nil]
  refine wpAny_bind (wpAny_bind (wpAny_bind (wpAny_holding ?_)))
  show wpAny _ _ (Builtin.SmallTypes.nextOf (.ref i1) >>= _) _ _ ⟨g0, g, d, tk0, os⟩
  refine wpAny_bind (D1.item i _ _ _ hlt1 (D1.over st1 hs0 S.zf1) fun x1 p1 tk1 hx1 sn1 hp1 => wpAny_pure ?_)
  replace hp1 : Heap.SameBut i1 g0 p1 := hp1
  refine wpAny_pure ?_
  refine wpAny_bind (wpAny_bind (wpAny_holding ?_))
  show wpAny _ _ (Builtin.SmallTypes.nextOf (.ref i2) >>= _) _ _ ⟨p1, g, d, tk1, os⟩
  refine wpAny_bind (D2.item i _ _ _ hlt2 (D2.over (D2.over st2 hs0 S.zf2) hp1 S.sep1_2) fun x2 p2 tk2 hx2 sn2 hp2 => wpAny_pure ?_)
  replace hp2 : Heap.SameBut i2 p1 p2 := hp2
  refine wpAny_pure (wpAny_pure ?_)
  show wpAny _ _ (newTuple [x1, x2] >>= _) _ _ ⟨p2, g, d, tk2, os⟩
  refine wpAny_bind (wpAny_newTuple ?_)
  have hsz : p2.objs.size = hp.objs.size := by rw [hp2.1, hp1.1, hs0.1]
  refine wpAny_pure ⟨_, rfl, ?_⟩
  show Q (.ref p2.objs.size) ⟨p2.push { cls := .type "tuple", data := .seq #[x1, x2] }, g, d, tk2, os⟩
  rw [hsz]
  refine hQ x1 x2 _ tk2 hx1 hx2 ?_ ?_ ?_ ?_ ?_ ?_
  · exact Heap.get?_push_of_some _ (hp2.extBut _ _ S.zi2 (hp1.extBut _ _ S.zi1 hz0))
  · exact D1.frame _ _ _ (D1.over sn1 hp2 S.sep2_1) fun b _ o e => Heap.get?_push_of_some _ e
  · exact D2.frame _ _ _ sn2 fun b _ o e => Heap.get?_push_of_some _ e
  · have := Heap.get?_push_size p2 (o := { cls := .type "tuple", data := .seq #[x1, x2] }) rfl
    rw [hsz] at this
    exact this
  · rw [Heap.size_push, hsz]
  · exact fun c o cz c1 c2 e => Heap.get?_push_of_some _ (hp2.extBut _ _ c2 (hp1.extBut _ _ c1 (hs0.extBut _ _ cz e)))
theorem zipK_end {Q : Fin → Shared → Prop} (S : ZipSep2 z TI TO i1 i2 fp1 fp2) (D1 : Draws prog w A i1 fp1 n1 P1 St1) (D2 : Draws prog w A i2 fp2 n2 P2 St2)
    (hz : IsZipK s.heap z TI TO T0 b) (h0 : s.heap.get? T0 = some o0) (hTI : IsTupOf2 s.heap TI (.ref i1) (.ref i2)) (st1 : St1 n1 s.heap)
    (hE : ∀ h' tk e, (∀ c o, c ≠ z → c ≠ i1 → c ≠ i2 → s.heap.get? c = some o → h'.get? c = some o) → (∃ o, h'.get? e = some o ∧ o.cls = .type "StopIteration") → E (.ref e) { s with heap := h', toks := tk }) :
    wpAny (model prog w) A (Builtin.«zip.__next__» ⟨[.ref z], []⟩) Q E s := by
  obtain ⟨hp, g, d, tk0, os⟩ := s
  show wpAny _ _ (field (.ref z) 2 >>= _) _ _ _
  refine wpAny_bind (wpAny_field hz rfl (x := .bool false) rfl ?_)
  show wpAny _ _ (field (.ref z) 3 >>= _) _ _ _
  refine wpAny_bind (wpAny_field hz rfl (x := .ref TI) rfl ?_)
  refine wpAny_bind (wpAny_seqItems hTI rfl ?_)
  show wpAny _ _ (Builtin.SmallTypes.ownedTupleIsFree (.ref z) >>= _) _ _ _
  refine wpAny_bind (zipK_kept hz h0 fun g0 hz0 hs0 => ?_)
  replace hs0 : Heap.SameBut z hp g0 := hs0
  simp only [Bool.false_eq_true, if_false]
  simp only [List.forIn_toArray, List.forIn_cons, List.forIn_nil]
  refine wpAny_bind (wpAny_bind (wpAny_bind (wpAny_holding ?_)))
  show wpAny _ _ (Builtin.SmallTypes.nextOf (.ref i1) >>= _) _ _ ⟨g0, g, d, tk0, os⟩
  refine wpAny_bind (D1.done ⟨g0, g, d, tk0, os⟩ _ _ (D1.over st1 hs0 S.zf1) fun q e hq he => ?_)
  replace hq : Heap.ExtBut i1 g0 q := hq
  exact hE q tk0 e (fun c o cz c1 c2 x => hq _ _ c1 (hs0.extBut _ _ cz x)) he
theorem pyNext_zipK_item {Q : Option Value → Shared → Prop} (S : ZipSep2 z TI TO i1 i2 fp1 fp2) (D1 : Draws prog w A.in1 i1 fp1 n1 P1 St1) (D2 : Draws prog w A.in1 i2 fp2 n2 P2 St2)
    (hz : IsZipK s.heap z TI TO T0 b) (h0 : s.heap.get? T0 = some o0) (hTI : IsTupOf2 s.heap TI (.ref i1) (.ref i2)) (st1 : St1 i s.heap) (st2 : St2 i s.heap) (hlt1 : i < n1) (hlt2 : i < n2)
    (hQ : ∀ x1 x2 h' tk, P1 i x1 → P2 i x2 → IsZipK h' z TI TO T0 true → St1 (i + 1) h' → St2 (i + 1) h' → IsTupOf2 h' s.heap.objs.size x1 x2 → h'.objs.size = s.heap.objs.size + 1 →
      (∀ c o, c ≠ z → c ≠ i1 → c ≠ i2 → s.heap.get? c = some o → h'.get? c = some o) → Q (some (.ref s.heap.objs.size)) { s with heap := h', toks := tk }) :
    wpAny (model prog w) A (pyNext (.ref z)) Q E s := by
  have hT : s.TypeIs (.ref z) "zip" := ⟨_, hz, rfl⟩
  unfold pyNext
  exact wpAny_bind (wpAny_attempt (wpAny_callSpecial?_slot (name := Str.ofString "__next__") hT F.slot_zip_next
    (wpAny_call_entry F.slot_zip_next hT F.entry_zip_next
      (zipK_item S D1 D2 hz h0 hTI st1 st2 hlt1 hlt2 fun x1 x2 h' tk y1 y2 b1 b2 d1 d2 b5 b6 => wpAny_pure (hQ x1 x2 h' tk y1 y2 b1 b2 d1 d2 b5 b6)) (F.args_zip_next_1 _))))
theorem pyNext_zipK_end {Q : Option Value → Shared → Prop} (S : ZipSep2 z TI TO i1 i2 fp1 fp2) (D1 : Draws prog w A.in1 i1 fp1 n1 P1 St1) (D2 : Draws prog w A.in1 i2 fp2 n2 P2 St2)
    (hz : IsZipK s.heap z TI TO T0 b) (h0 : s.heap.get? T0 = some o0) (hTI : IsTupOf2 s.heap TI (.ref i1) (.ref i2)) (st1 : St1 n1 s.heap)
    (hQ : ∀ h' tk, (∀ c o, c ≠ z → c ≠ i1 → c ≠ i2 → s.heap.get? c = some o → h'.get? c = some o) → Q none { s with heap := h', toks := tk }) : wpAny (model prog w) A (pyNext (.ref z)) Q E s := by
  have hT : s.TypeIs (.ref z) "zip" := ⟨_, hz, rfl⟩
  unfold pyNext
  refine wpAny_bind (wpAny_attempt (wpAny_callSpecial?_slot (name := Str.ofString "__next__") hT F.slot_zip_next
    (wpAny_call_entry F.slot_zip_next hT F.entry_zip_next (zipK_end S D1 D2 hz h0 hTI st1 fun h' tk e hk he => ?_) (F.args_zip_next_1 _))))
  obtain ⟨o, ho, hc⟩ := he
  refine wpAny_bind (wpAny_isInstance (T := "StopIteration") (b := true) ⟨o, ho, hc⟩ isSubtype_stop ?_)
  exact wpAny_pure (hQ _ _ hk)
end
/-- the pairs laid so far -/
def ZPairs (h : Heap) (P1 P2 : Nat → Value → Prop) (N : Nat) (acc : Array Value) (i : Nat) : Prop :=
  acc.size = i ∧ (∀ j, j < i → ∃ T x1 x2, acc[j]? = some (.ref T) ∧ P1 j x1 ∧ P2 j x2 ∧ IsTupOf2 h T x1 x2 ∧ N ≤ T) ∧ ∀ (j k : Nat) (T : Addr), j < k → acc[j]? = some (Value.ref T) → acc[k]? = some (Value.ref T) → False
theorem ZPairs.nil {h : Heap} {P1 P2 : Nat → Value → Prop} {N : Nat} : ZPairs h P1 P2 N #[] 0 := ⟨rfl, fun j hj => absurd hj (Nat.not_lt_zero _), fun j k T _ e => by simp at e⟩
theorem ZPairs.off {h : Heap} {P1 P2 : Nat → Value → Prop} {N : Nat} {acc : Array Value} {i : Nat} (z : ZPairs h P1 P2 N acc i) : ∀ j : Nat, acc[j]? = some (Value.ref h.objs.size) → False := fun j e => by
  have hj : j < i := by
    have := (Array.getElem?_eq_some_iff.mp e).1
    rw [z.1] at this
    exact this
  obtain ⟨T, x1, x2, a, b, c, d, f⟩ := z.2.1 j hj
  rw [a] at e
  cases e
  exact Nat.lt_irrefl _ (Heap.lt_size d)
theorem ZPairs.keep {h h' : Heap} {P1 P2 : Nat → Value → Prop} {N : Nat} {acc : Array Value} {i : Nat} (z : ZPairs h P1 P2 N acc i) (k : ∀ T, N ≤ T → ∀ o, h.get? T = some o → h'.get? T = some o) : ZPairs h' P1 P2 N acc i :=
  ⟨z.1, fun j hj => (let ⟨T, x1, x2, a, b, c, d, e⟩ := z.2.1 j hj; ⟨T, x1, x2, a, b, c, k T e _ d, e⟩), z.2.2⟩
theorem ZPairs.push {h : Heap} {P1 P2 : Nat → Value → Prop} {N T : Nat} {acc : Array Value} {i : Nat} {x1 x2 : Value} (z : ZPairs h P1 P2 N acc i) (p1 : P1 i x1) (p2 : P2 i x2) (t : IsTupOf2 h T x1 x2) (n : N ≤ T) (ne : ∀ j : Nat, acc[j]? = some (Value.ref T) → False) : ZPairs h P1 P2 N (acc.push (.ref T)) (i + 1) := by
  have old : ∀ j, j < i → (acc.push (.ref T))[j]? = acc[j]? := fun j hj => by
    have h1 : j < acc.size := by rw [z.1]; exact hj
    rw [Array.getElem?_push_lt h1]
    simp [h1]
  have new : (acc.push (.ref T))[i]? = some (.ref T) := by
    have := z.1
    subst this
    simp
  refine ⟨by rw [Array.size_push, z.1], fun j hj => ?_, fun j k U hjk e1 e2 => ?_⟩
  · by_cases e : j = i
    · subst e
      exact ⟨T, x1, x2, new, p1, p2, t, n⟩
    · obtain ⟨T', y1, y2, a, b⟩ := z.2.1 j (by omega)
      exact ⟨T', y1, y2, (old j (by omega)).trans a, b⟩
  · have hk : k < i + 1 := by
      have := (Array.getElem?_eq_some_iff.mp e2).1
      rw [Array.size_push, z.1] at this
      exact this
    rw [old j (by omega)] at e1
    by_cases e : k = i
    · subst e
      rw [new] at e2
      cases e2
      exact ne j e1
    · rw [old k (by omega)] at e2
      exact z.2.2 j k U hjk e1 e2
section
variable {prog : Program} {w : World} {A : Around} {R : Result → Shared → Prop} {z TI TO i1 i2 T0 L : Addr} {fp1 fp2 : List Addr} {n N : Nat} {P1 P2 : Nat → Value → Prop} {St1 St2 : Nat → Heap → Prop}
theorem zipK_loop (S : ZipSep2 z TI TO i1 i2 fp1 fp2) (D1 : Draws prog w A.in1.in1 i1 fp1 n P1 St1) (D2 : Draws prog w A.in1.in1 i2 fp2 n P2 St2) (hn : n ≤ sizeLine) (lz : L ≠ z) (lt : L ≠ TI) (l1 : L ∉ fp1) (l2 : L ∉ fp2) (nz : z < N) (nl : L < N) (n1 : i1 < N) (n2 : i2 < N) (hT0 : N ≤ T0) (res : Value) :
    ∀ (k i : Nat) (s : Shared) (acc : Array Value) (c : Nat) (b : Bool), n - i = k → i ≤ n → IsZipK s.heap z TI TO T0 b → (∃ o0, s.heap.get? T0 = some o0) → IsTupOf2 s.heap TI (.ref i1) (.ref i2) → St1 i s.heap → St2 i s.heap → N ≤ s.heap.objs.size →
      s.heap.get? L = some { cls := .type "list", dict := none, data := .seq acc c, slots := #[] } → ZPairs s.heap P1 P2 N acc i →
      (∀ h' tk acc' c', (∀ a o, a ≠ z → a ≠ i1 → a ≠ i2 → a ≠ L → s.heap.get? a = some o → h'.get? a = some o) → h'.get? L = some { cls := .type "list", dict := none, data := .seq acc' c', slots := #[] } → ZPairs h' P1 P2 N acc' n → R (.ok (.ret res)) { s with heap := h', toks := tk }) →
      codeAny (model prog w) A (.builtin "list.extend.loop" ⟨[.ref L, .ref z, res], []⟩) R s := by
  have gt : ∀ {x T : Addr}, x < N → N ≤ T → T ≠ x := fun h1 h2 => Nat.ne_of_gt (Nat.lt_of_lt_of_le h1 h2)
  have m1 : L ≠ i1 := fun e => l1 (e ▸ S.mem1)
  have m2 : L ≠ i2 := fun e => l2 (e ▸ S.mem2)
  intro k
  induction k with
  | zero =>
    intro i s acc c b hk hi hz ⟨o0, h0⟩ hTI st1 st2 hN hL hacc hR
    have hin : i = n := by omega
    subst hin
    refine codeAny_builtin F.entry_extend_loop ?_
    rw [Around.under_plainId F.plain_extend_loop _]
    show wpAny _ A.in1 (pyNext (.ref z) >>= _) _ _ s
    refine wpAny_bind (pyNext_zipK_end S D1 D2 hz h0 hTI st1 fun h' tk kk => ?_)
    refine wpAny_pure (hR h' tk acc c (fun a o a1 a2 a3 _ e => kk a o a1 a2 a3 e) (kk _ _ lz m1 m2 hL) (hacc.keep fun T hT o e => kk T o (gt nz hT) (gt n1 hT) (gt n2 hT) e))
  | succ k ih =>
    intro i s acc c b hk hi hz ⟨o0, h0⟩ hTI st1 st2 hN hL hacc hR
    have hlt : i < n := by omega
    refine codeAny_builtin F.entry_extend_loop ?_
    rw [Around.under_plainId F.plain_extend_loop _]
    show wpAny _ A.in1 (pyNext (.ref z) >>= _) _ _ s
    refine wpAny_bind (pyNext_zipK_item S D1 D2 hz h0 hTI st1 st2 hlt hlt fun x1 x2 h' tk y1 y2 b1 b2 b3 b4 b5 kk => ?_)
    have hL' := kk _ _ lz m1 m2 hL
    show wpAny _ A.in1 (updateSeq L (·.push (.ref s.heap.objs.size)) >>= _) _ _ _
    refine wpAny_bind ?_
    have oth : ∀ a o, a ≠ L → h'.get? a = some o → (h'.update L (Obj.mapSeq (·.push (.ref s.heap.objs.size)))).get? a = some o := fun a o ne e => (Heap.get?_update_other _ _ (Ne.symm ne)).trans e
    refine wpAny_updateSeq hL' rfl (wpAny_pure ⟨plainId_quiet F.plain_extend_loop _, ih (i + 1) _ (acc.push (.ref s.heap.objs.size)) _ true (by omega) hlt (oth _ _ (Ne.symm lz) b1) ⟨o0, oth _ _ (gt nl hT0) (kk _ _ (gt nz hT0) (gt n1 hT0) (gt n2 hT0) h0)⟩ (oth _ _ (Ne.symm lt) (kk _ _ S.TIz S.TIi1 S.TIi2 hTI))
      (D1.frame _ _ _ b2 fun b hb o e => oth b o (fun q => l1 (q ▸ hb)) e) (D2.frame _ _ _ b3 fun b hb o e => oth b o (fun q => l2 (q ▸ hb)) e) ?_ (Heap.get?_update_self _ hL' rfl) ?_ fun h'' tk'' acc' c' k2 hL2 hacc2 => ?_⟩)
      (by rw [hacc.1]; omega) (by show (acc.push _).size ≤ sizeLine + 1; rw [Array.size_push, hacc.1]; omega)
    · show N ≤ (h'.update L _).objs.size
      rw [Heap.size_update, b5]
      exact Nat.le_succ_of_le hN
    · refine (hacc.keep fun T hT o e => oth T o (gt nl hT) (kk T o (gt nz hT) (gt n1 hT) (gt n2 hT) e)).push y1 y2 (oth _ _ (gt nl hN) b4) hN hacc.off
    · exact hR h'' tk'' acc' c' (fun a o a1 a2 a3 a4 e => k2 a o a1 a2 a3 a4 (oth a o a4 (kk a o a1 a2 a3 e))) hL2 hacc2
/-- from the first pair on -/
theorem zipL_loop (S : ZipSep2 z TI TO i1 i2 fp1 fp2) (D1 : Draws prog w A.in1.in1 i1 fp1 n P1 St1) (D2 : Draws prog w A.in1.in1 i2 fp2 n P2 St2) (hn : n ≤ sizeLine) (lz : L ≠ z) (lt : L ≠ TI) (lo : L ≠ TO) (l1 : L ∉ fp1) (l2 : L ∉ fp2) (nz : z < N) (nl : L < N) (n1 : i1 < N) (n2 : i2 < N) (no : TO < N) (res : Value)
    {s : Shared} {c : Nat} (hz : IsZip s.heap z TI TO .none) (hTI : IsTupOf2 s.heap TI (.ref i1) (.ref i2)) (hTO : IsTupOf2 s.heap TO .none .none) (st1 : St1 0 s.heap) (st2 : St2 0 s.heap) (hN : N ≤ s.heap.objs.size)
    (hL : s.heap.get? L = some { cls := .type "list", dict := none, data := .seq #[] c, slots := #[] })
    (hR : ∀ h' tk acc' c', (∀ a o, a ≠ z → a ≠ TO → a ≠ i1 → a ≠ i2 → a ≠ L → s.heap.get? a = some o → h'.get? a = some o) → h'.get? L = some { cls := .type "list", dict := none, data := .seq acc' c', slots := #[] } → ZPairs h' P1 P2 N acc' n → R (.ok (.ret res)) { s with heap := h', toks := tk }) :
    codeAny (model prog w) A (.builtin "list.extend.loop" ⟨[.ref L, .ref z, res], []⟩) R s := by
  have gt : ∀ {x T : Addr}, x < N → N ≤ T → T ≠ x := fun h1 h2 => Nat.ne_of_gt (Nat.lt_of_lt_of_le h1 h2)
  have m1 : L ≠ i1 := fun e => l1 (e ▸ S.mem1)
  have m2 : L ≠ i2 := fun e => l2 (e ▸ S.mem2)
  refine codeAny_builtin F.entry_extend_loop ?_
  rw [Around.under_plainId F.plain_extend_loop _]
  show wpAny _ A.in1 (pyNext (.ref z) >>= _) _ _ s
  by_cases h0 : n = 0
  · subst h0
    refine wpAny_bind (wpAny_pyNext_zipD2_end S D1 D2 hz hTI hTO st1 st2 (Nat.le_refl _) (Nat.le_refl _) (.inl rfl) fun h' tk kk => ?_)
    exact wpAny_pure (hR h' tk #[] c (fun a o a1 a2 a3 a4 _ e => kk a o a1 a2 a3 a4 e) (kk _ _ lz lo m1 m2 hL) .nil)
  · have hlt : 0 < n := Nat.pos_of_ne_zero h0
    refine wpAny_bind (wpAny_pyNext_zipD2_item S D1 D2 hz hTI hTO st1 st2 hlt hlt fun x1 x2 h' tk y1 y2 b1 b2 b3 b4 b5 b6 kk => ?_)
    have hL' := kk _ _ lz lo m1 m2 hL
    show wpAny _ A.in1 (updateSeq L (·.push (.ref s.heap.objs.size)) >>= _) _ _ _
    refine wpAny_bind ?_
    have oth : ∀ a o, a ≠ L → h'.get? a = some o → (h'.update L (Obj.mapSeq (·.push (.ref s.heap.objs.size)))).get? a = some o := fun a o ne e => (Heap.get?_update_other _ _ (Ne.symm ne)).trans e
    refine wpAny_updateSeq hL' rfl (wpAny_pure ⟨plainId_quiet F.plain_extend_loop _, zipK_loop S D1 D2 hn lz lt l1 l2 nz nl n1 n2 (T0 := s.heap.objs.size) hN res (n - 1) 1 _ _ _ false rfl hlt (oth _ _ (Ne.symm lz) b1) ⟨_, oth _ _ (gt nl hN) b5⟩ (oth _ _ (Ne.symm lt) (kk _ _ S.TIz S.TITO S.TIi1 S.TIi2 hTI))
      (D1.frame _ _ _ b3 fun b hb o e => oth b o (fun q => l1 (q ▸ hb)) e) (D2.frame _ _ _ b4 fun b hb o e => oth b o (fun q => l2 (q ▸ hb)) e) ?_ (Heap.get?_update_self _ hL' rfl) ?_ fun h'' tk'' acc' c' k2 hL2 hacc2 => ?_⟩)
      (by show (0 : Nat) ≤ _; exact Nat.zero_le _) (by show (1 : Nat) ≤ sizeLine + 1; omega)
    · show N ≤ (h'.update L _).objs.size
      rw [Heap.size_update, b6]
      exact Nat.le_succ_of_le hN
    · exact ZPairs.push .nil y1 y2 (oth _ _ (gt nl hN) b5) hN (fun j e => by simp at e)
    · exact hR h'' tk'' acc' c' (fun a o a1 a0 a2 a3 a4 e => k2 a o a1 a2 a3 a4 (oth a o a4 (kk a o a1 a0 a2 a3 e))) hL2 hacc2
end
theorem zip_nolen : typeLookup (.type "zip") "__len__" = pure none := by rw [typeLookup_type, builtinLookup_eq_fast]; kernel_rfl
theorem zip_nohint : typeLookup (.type "zip") "__length_hint__" = pure none := by rw [typeLookup_type, builtinLookup_eq_fast]; kernel_rfl
section
variable {prog : Program} {w : World} {A : Around} {E : Value → Shared → Prop} {s : Shared}
theorem zipL_hint {r : Addr} {Q : Bool → Shared → Prop} (hT : s.TypeIs (.ref r) "zip") (h : Q true s) : wpAny (model prog w) A (Builtin.List.listLengthHint (.ref r)) Q E s := by
  unfold Builtin.List.listLengthHint
  refine wpAny_bind (wpAny_specialOf hT zip_nolen ?_)
  show wpAny _ A (specialOf (Value.ref r) (Str.ofString "__length_hint__") >>= _) _ _ _
  refine wpAny_bind (wpAny_specialOf hT zip_nohint ?_)
  exact wpAny_pure h
/-- list(z), z a new zip over two lists of one length -/
theorem zipL_call {z TI TO i1 i2 : Addr} {fp1 fp2 : List Addr} {n : Nat} {P1 P2 : Nat → Value → Prop} {St1 St2 : Nat → Heap → Prop} {Q : Value → Shared → Prop} (S : ZipSep2 z TI TO i1 i2 fp1 fp2) (D1 : ∀ A : Around, A.handled = none → Draws prog w A i1 fp1 n P1 St1) (D2 : ∀ A : Around, A.handled = none → Draws prog w A i2 fp2 n P2 St2) (hh : A.handled = none) (hn : n ≤ sizeLine)
    (hz : IsZip s.heap z TI TO .none) (hTI : IsTupOf2 s.heap TI (.ref i1) (.ref i2)) (hTO : IsTupOf2 s.heap TO .none .none) (st1 : St1 0 s.heap) (st2 : St2 0 s.heap) (f1 : ∀ b ∈ fp1, b < s.heap.objs.size) (f2 : ∀ b ∈ fp2, b < s.heap.objs.size)
    (hQ : ∀ h' tk acc c, (∀ a o, a ≠ z → a ≠ TO → a ≠ i1 → a ≠ i2 → s.heap.get? a = some o → h'.get? a = some o) → h'.get? s.heap.objs.size = some { cls := .type "list", dict := none, data := .seq acc c, slots := #[] } → ZPairs h' P1 P2 (s.heap.objs.size + 1) acc n → Q (.ref s.heap.objs.size) { s with heap := h', toks := tk }) :
    wpAny (model prog w) A (call (.type "list") [.ref z]) Q E s := by
  refine callType_codes (Q₁ := fun obj s₁ => obj = .ref s.heap.objs.size ∧ s₁ = { s with heap := s.heap.push { cls := .type "list", data := .seq #[] } }) PySem.F.called_list (PySem.F.typeCall_list_1 _) PySem.F.entry_list_init
    (code_list_new _ ⟨rfl, rfl⟩) fun obj s₁ h₁ => ?_
  obtain ⟨rfl, rfl⟩ := h₁
  obtain ⟨hp, g, d, tk, os⟩ := s
  have hS : (hp.push { cls := .type "list", data := .seq #[] }).get? hp.objs.size = some { cls := .type "list", data := .seq #[] } := Heap.get?_push_size _ rfl
  have kp : ∀ b o, hp.get? b = some o → (hp.push { cls := .type "list", data := .seq #[] }).get? b = some o := fun b o e => Heap.get?_push_of_some _ e
  have lt : ∀ {b : Addr} {o : Obj}, hp.get? b = some o → hp.objs.size ≠ b := fun e => Nat.ne_of_gt (Heap.lt_size e)
  have lt2 : ∀ {b : Addr} {o : Obj}, hp.get? b = some o → b < hp.objs.size + 1 := fun e => Nat.lt_succ_of_lt (Heap.lt_size e)
  refine ⟨⟨_, hS, rfl⟩, PySem.F.args_list_init_2 _ _, ?_⟩
  show wpAny _ _ (do let old ← Builtin.List.listItems (.ref hp.objs.size); Builtin.List.listUpdate (.ref hp.objs.size) (fun _ => #[]); letGo old.toList.reverse; Builtin.List.listExtendWith (.ref hp.objs.size) (.ref z) .none) _ _ _
  refine wpAny_bind ?_
  unfold Builtin.List.listItems
  refine wpAny_bind (wpAny_seqItems hS rfl (wpAny_pure ?_))
  show wpAny _ _ (updateSeq hp.objs.size (fun _ => #[]) >>= fun _ => letGo (#[] : Array Value).toList.reverse >>= fun _ => Builtin.List.listExtendWith (.ref hp.objs.size) (.ref z) .none) _ _ _
  refine wpAny_bind (wpAny_updateSeq hS rfl ?_)
  have hS₂ := Heap.get?_update_self (Obj.mapSeq (fun _ => (#[] : Array Value))) hS rfl
  have oth : ∀ b o, b ≠ hp.objs.size → hp.get? b = some o → ((hp.push { cls := .type "list", data := .seq #[] }).update hp.objs.size (Obj.mapSeq (fun _ => (#[] : Array Value)))).get? b = some o :=
    fun b o hb e => (Heap.get?_update_other _ _ (Ne.symm hb)).trans (kp b o e)
  refine wpAny_bind (wpAny_letGo ?_)
  unfold Builtin.List.listExtendWith
  have hz2 := oth _ _ (Ne.symm (lt hz)) hz
  refine wpAny_bind (wpAny_typeOf (T := "zip") ⟨_, hz2, rfl⟩ ?_)
  have h1 : Builtin.List.listSameRef (.ref hp.objs.size) (.ref z) = false := by simp [Builtin.List.listSameRef, lt hz]
  rw [if_neg (by rw [h1]; decide)]
  refine wpAny_bind (wpAny_pyIter_zip hz2 ?_)
  refine wpAny_bind (wpAny_holding (zipL_hint ⟨_, hz2, rfl⟩ ?_))
  rw [if_pos (by simp)]
  refine wpAny_bind (wpAny_rule ?_)
  refine wpAny_bind ?_
  show wpAny _ _ (updateSeq hp.objs.size (·.push .none) >>= fun _ => updateSeq hp.objs.size (·.pop)) _ _ _
  refine wpAny_bind (wpAny_updateSeq hS₂ rfl ?_)
  have hS₃ := Heap.get?_update_self (Obj.mapSeq (·.push Value.none)) hS₂ rfl
  refine wpAny_updateSeq (hz := by seq_fits) hS₃ rfl ?_
  have hS₄ := Heap.get?_update_self (Obj.mapSeq (·.pop)) hS₃ rfl
  have oth4 : ∀ b o, b ≠ hp.objs.size → hp.get? b = some o → ((((hp.push { cls := .type "list", data := .seq #[] }).update hp.objs.size (Obj.mapSeq (fun _ => (#[] : Array Value)))).update hp.objs.size (Obj.mapSeq (·.push Value.none))).update hp.objs.size (Obj.mapSeq (·.pop))).get? b = some o :=
    fun b o hb e => (Heap.get?_update_other _ _ (Ne.symm hb)).trans ((Heap.get?_update_other _ _ (Ne.symm hb)).trans (oth b o hb e))
  have af : A.in1.in1.in1.handled = none := hh
  have ne1 : hp.objs.size ∉ fp1 := fun q => Nat.lt_irrefl _ (f1 _ q)
  have ne2 : hp.objs.size ∉ fp2 := fun q => Nat.lt_irrefl _ (f2 _ q)
  refine wpAny_pure ⟨plainId_quiet PySem.F.plain_extend_loop _, zipL_loop (A := A.in1) (N := hp.objs.size + 1) S (D1 _ af) (D2 _ af) hn (lt hz) (lt hTI) (lt hTO) ne1 ne2 (lt2 hz) (Nat.lt_succ_self _) (Nat.lt_succ_of_lt (f1 _ S.mem1)) (Nat.lt_succ_of_lt (f2 _ S.mem2)) (lt2 hTO) .none
    (oth4 _ _ (Ne.symm (lt hz)) hz) (oth4 _ _ (Ne.symm (lt hTI)) hTI) (oth4 _ _ (Ne.symm (lt hTO)) hTO) ((D1 _ af).frame _ _ _ st1 fun b hb o e => oth4 b o (fun q => ne1 (q ▸ hb)) e) ((D2 _ af).frame _ _ _ st2 fun b hb o e => oth4 b o (fun q => ne2 (q ▸ hb)) e) ?_ hS₄ fun h' tk' acc' c' k2 hL hz' => ?_⟩
  · show _ ≤ (((((hp.push { cls := .type "list", data := .seq #[] }).update _ _).update _ _).update _ _)).objs.size
    rw [Heap.size_update, Heap.size_update, Heap.size_update, Heap.size_push]
    exact Nat.le_refl _
  · exact ⟨rfl, hQ h' tk' acc' c' (fun a o a1 a2 a3 a4 e => k2 a o a1 a2 a3 a4 (Ne.symm (lt e)) (oth4 a o (Ne.symm (lt e)) e)) hL hz'⟩
end
end PySem
namespace Sz
open PySem PySem.Spec PyProof.Rows L2
section
variable {X : Cx} {pins : List (Addr × Obj)} {σ : L2.St} {H H' : Hp} {s : Shared} {h' : Heap} {t' : Nat}
/-- many new objects at once -/
theorem inv_many (I : Inv X pins σ H s) (k : ∀ b u, s.heap.get? b = some u → h'.get? b = some u) (sm : Same H H') (nw : ∀ b u, H' b = some u → H b = some u ∨ (s.heap.objs.size ≤ b ∧ ObjOk X.prog X.w H' h' b u)) : Inv X pins σ H' { s with heap := h', toks := t' } := by
  refine I.un ⟨fun b u q _ _ _ => k b u q, fun b u q _ _ _ => ⟨u.slots, k b u q⟩, fun b u q n _ => ?_, fun b u q _ => ⟨u, k b u q⟩, fun b xs q => sm _ _ q, fun b o u q => sm _ _ q, fun b ps q => ⟨#[], by rw [sm _ _ q]; simp⟩⟩ (fun b u e => ?_)
  · cases z : H' b with
    | none => rfl
    | some v =>
      rcases nw b v z with a | ⟨a, _⟩
      · rw [n] at a; cases a
      · exact absurd (Heap.lt_size q) (Nat.not_lt.mpr a)
  · rcases nw b u e with a | ⟨_, a⟩
    · exact (I.hok b u a).stay (fun c v _ q => k c v q) (fun c q => sm _ _ q) fun c xs q => sm _ _ q
    · exact a
end
open Classical in
/-- n pairs, at T 0, T 1, .. -/
noncomputable def pairsH (n : Nat) (T : Nat → Addr) (xs ys : List V) (b : Addr) : Option HO := if h : ∃ j, j < n ∧ T j = b then some (.tup [xs.getD (Classical.choose h) .non, ys.getD (Classical.choose h) .non]) else none
theorem pairsH_at {n : Nat} {T : Nat → Addr} {xs ys : List V} {j : Nat} (inj : ∀ i k, i < n → k < n → T i = T k → i = k) (hj : j < n) : pairsH n T xs ys (T j) = some (.tup [xs.getD j .non, ys.getD j .non]) := by
  have h : ∃ i, i < n ∧ T i = T j := ⟨j, hj, rfl⟩
  have e : Classical.choose h = j := inj _ _ (Classical.choose_spec h).1 hj (Classical.choose_spec h).2
  unfold pairsH
  rw [dif_pos h, e]
theorem pairsH_some {n : Nat} {T : Nat → Addr} {xs ys : List V} {b : Addr} {u : HO} (h : pairsH n T xs ys b = some u) : ∃ j, j < n ∧ T j = b ∧ u = .tup [xs.getD j .non, ys.getD j .non] := by
  unfold pairsH at h
  split at h
  · rename_i z
    cases h
    exact ⟨_, (Classical.choose_spec z).1, (Classical.choose_spec z).2, rfl⟩
  · cases h
def tLstZip (K : PySem.W.Frag) (ta : TA) : TE := fun σ H Q => ta σ H fun vs H1 => ∃ a b xs ys, vs = [.ref a, .ref b] ∧ SqL K H1 a xs ∧ SqL K H1 b ys ∧ xs.length = ys.length ∧
  ∀ (p : Addr) (H2 : Hp) (ts : List V), H1 p = none → Same H1 H2 → H2 p = some (.lst ts) → ts.length = xs.length → (∀ (j : Nat) x y, xs[j]? = some x → ys[j]? = some y → ∃ T, ts[j]? = some (V.ref T) ∧ H1 T = none ∧ H2 T = some (.tup [x, y])) → Q (.ref p) H2
theorem pe_listZip {X : Cx} {e e2 : Expr} {ta : TA} {p p2 pos pos2 : Pos} (hc : X.calm = true) (hgl : Gl X "list") (hml : X.mg "list" = none) (hg : Gl X "zip") (hm : X.mg "zip" = none) (ha : PA X [e, e2] ta)
    (hs : starEach [e, e2] X.env = (false, eval e X.env) :: starEach [e2] X.env := by rfl) (hpl : (backTo pos2 (starEach [e2] X.env)).any (·.1) = false := by rfl)
    (na : starEach [.Call (.Name "zip" p2) [e, e2] [] pos2] X.env = (false, eval (.Call (.Name "zip" p2) [e, e2] [] pos2) X.env) :: starEach [] X.env := by rfl) :
    PE X (.Call (.Name "list" p) [.Call (.Name "zip" p2) [e, e2] [] pos2] [] pos) (tLstZip X.K ta) := by
  refine ⟨fun pins s σ H Q I h => ?_⟩
  refine Call_ (ld_blt I hgl hml boot_list (PyProof.Rows.callWith_type1 (args_cons ?_ na) na))
  refine Call_ (ld_blt I hg hm PyProof.Rows.boot_zip (PyProof.Rows.callWith_type1 (thn (ha.run pos2 pins s σ H _ I h) fun us s1 ⟨vs, H1, I1, r1, q1⟩ => ?_) hs hpl))
  obtain ⟨a, b, xs, ys, ex, hqx, hqy, hl, q⟩ := q1
  subst ex
  cases r1 with
  | cons r rr =>
    cases rr with
    | cons r' rr =>
      cases rr
      cases r
      cases r'
      obtain ⟨its, rv, p1, zs⟩ := I1.list hqx
      obtain ⟨its2, rv2, p2', _⟩ := I1.list hqy
      have la : a < s1.heap.objs.size := p1.lt
      have lb : b < s1.heap.objs.size := p2'.lt
      have e1 : its.length = xs.length := rv.length.symm
      have e2 : its2.length = its.length := by rw [e1, hl]; exact rv2.length.symm
      refine zip_begins2 (begins_list a its.toArray) (begins_list b its2.toArray) p1.isList p2'.isList fun h1 hz hTI hTO g1 g2 hsz hk => args_nil ?_
      have hd := I1.ok.hd hc
      refine zipL_call (s := { s1 with heap := h1 }) (fp1 := [s1.heap.objs.size, a]) (fp2 := [s1.heap.objs.size + 1, b]) (n := its.toArray.size) (P1 := fun i v => its.toArray[i]? = some v) (P2 := fun i v => its2.toArray[i]? = some v) (St1 := fun i h => h.IsListIter s1.heap.objs.size a i ∧ h.IsList a its.toArray) (St2 := fun i h => h.IsListIter (s1.heap.objs.size + 1) b i ∧ h.IsList b its2.toArray)
        (zip_sep2 (N := s1.heap.objs.size) (fp1 := [a]) (fp2 := [b]) (by simpa using la) (by simpa using lb)) (fun A hA => Draws.list hA _ a (Nat.ne_of_lt la) its.toArray) (fun A hA => ?_) hd ?_ hz hTI hTO ⟨⟨_, g1, rfl, rfl⟩, ?_⟩ ⟨⟨_, g2, rfl, rfl⟩, ?_⟩ ?_ ?_ fun h2 tk acc c k2 hL zp => ?_
      · rw [show its.toArray.size = its2.toArray.size by simp [e2]]
        exact Draws.list hA _ b (Nat.ne_of_lt (Nat.lt_succ_of_lt lb)) its2.toArray
      · show its.length ≤ sizeLine
        first | exact zs | (rw [e1]; exact zs) | omega
      · exact p1.isList.at fun o e => hk a o e
      · exact p2'.isList.at fun o e => hk b o e
      · intro c hcm
        show c < h1.objs.size
        rw [hsz]
        rcases List.mem_cons.mp hcm with z | z
        · rw [z]; exact Nat.lt_add_of_pos_right (by decide)
        · rw [List.mem_singleton.mp z]; exact Nat.lt_of_lt_of_le la (Nat.le_add_right _ _)
      · intro c hcm
        show c < h1.objs.size
        rw [hsz]
        rcases List.mem_cons.mp hcm with z | z
        · rw [z]; exact Nat.add_lt_add_left (by decide) _
        · rw [List.mem_singleton.mp z]; exact Nat.lt_of_lt_of_le lb (Nat.le_add_right _ _)
      · replace hL : h2.get? h1.objs.size = some { cls := .type "list", dict := none, data := .seq acc c, slots := #[] } := hL
        show EP X pins σ Q (.ref h1.objs.size) { s1 with heap := h2, toks := tk }
        replace zp : ZPairs h2 (fun i v => its.toArray[i]? = some v) (fun i v => its2.toArray[i]? = some v) (h1.objs.size + 1) acc its.toArray.size := zp
        rw [hsz] at hL zp ⊢
        have hn : its.toArray.size = xs.length := by simp [e1]
        rw [hn] at zp
        let T : Nat → Addr := fun j => match acc[j]? with
          | some (.ref a) => a
          | _ => 0
        have hT : ∀ j, j < xs.length → ∃ x1 x2, acc[j]? = some (.ref (T j)) ∧ its[j]? = some x1 ∧ its2[j]? = some x2 ∧ IsTupOf2 h2 (T j) x1 x2 ∧ s1.heap.objs.size + 6 ≤ T j := fun j hj => by
          obtain ⟨U, x1, x2, a1, a2, a3, a4, a5⟩ := zp.2.1 j hj
          have : T j = U := by show (match acc[j]? with | some (.ref a) => a | _ => 0) = U; rw [a1]
          rw [this]
          exact ⟨x1, x2, a1, by simpa using a2, by simpa using a3, a4, a5⟩
        have inj : ∀ i k, i < xs.length → k < xs.length → T i = T k → i = k := fun i k hi hk e => by
          obtain ⟨_, _, b1, _⟩ := hT i hi
          obtain ⟨_, _, b2, _⟩ := hT k hk
          rcases Nat.lt_trichotomy i k with z | z | z
          · rw [← e] at b2
            exact (zp.2.2 i k _ z b1 b2).elim
          · exact z
          · rw [e] at b1
            exact (zp.2.2 k i _ z b2 b1).elim
        have ge : ∀ j, j < xs.length → s1.heap.objs.size + 6 ≤ T j := fun j hj => let ⟨_, _, _, _, _, _, z⟩ := hT j hj; z
        let ts : List V := (List.range xs.length).map fun j => V.ref (T j)
        let H2 : Hp := fun b => if b = s1.heap.objs.size + 5 then some (.lst ts) else match pairsH xs.length T xs ys b with
          | some u => some u
          | none => H1 b
        have hp5 : H1 (s1.heap.objs.size + 5) = none := I1.hok.fresh (Nat.le_add_right _ _)
        have sm : Same H1 H2 := fun b u e => by
          show (if b = s1.heap.objs.size + 5 then some (.lst ts) else match pairsH xs.length T xs ys b with
            | some u => some u
            | none => H1 b) = some u
          rw [if_neg (ne_of_none e hp5)]
          cases z : pairsH xs.length T xs ys b with
          | none => exact e
          | some v =>
            obtain ⟨j, hj, rfl, _⟩ := pairsH_some z
            rw [I1.hok.fresh (Nat.le_trans (Nat.le_add_right _ 6) (ge j hj))] at e
            cases e
        have tl : ts.length = xs.length := by simp [ts]
        have hts : H2 (s1.heap.objs.size + 5) = some (.lst ts) := if_pos rfl
        refine ⟨.ref (s1.heap.objs.size + 5), H2, inv_many I1 (fun b u e => ?_) sm (fun b u e => ?_), rfl, q _ H2 ts hp5 sm hts tl fun j x y hx hy => ?_⟩
        · have hlt := Heap.lt_size e
          refine k2 b u ?_ ?_ ?_ ?_ (hk b u e)
          · exact Nat.ne_of_lt (Nat.lt_of_lt_of_le hlt (Nat.le_add_right _ _))
          · exact Nat.ne_of_lt (Nat.lt_of_lt_of_le hlt (Nat.le_add_right _ _))
          · exact Nat.ne_of_lt hlt
          · exact Nat.ne_of_lt (Nat.lt_of_lt_of_le hlt (Nat.le_add_right _ _))
        · replace e : (if b = s1.heap.objs.size + 5 then some (.lst ts) else match pairsH xs.length T xs ys b with
            | some u => some u
            | none => H1 b) = some u := e
          by_cases hb : b = s1.heap.objs.size + 5
          · rw [if_pos hb] at e
            cases e
            subst hb
            refine .inr ⟨Nat.le_add_right _ _, ?_⟩
            refine ⟨by rw [tl]; first | exact zs | (rw [← e1]; exact zs), acc.toList, c, ?_, by simpa using hL⟩
            have al : acc.toList.length = xs.length := by rw [Array.length_toList]; exact zp.1
            show Vals ((List.range xs.length).map fun j => V.ref (T j)) acc.toList
            rw [← al]
            refine vals_of_get acc.toList _ fun j u hu => ?_
            have hj : j < xs.length := by
              rw [← al]
              exact (List.getElem?_eq_some_iff.mp hu).1
            obtain ⟨_, _, b1, _⟩ := hT j hj
            have b2 : acc[j]? = some u := by simpa using hu
            rw [b1] at b2
            cases b2
            rfl
          · rw [if_neg hb] at e
            cases z : pairsH xs.length T xs ys b with
            | none =>
              rw [z] at e
              exact .inl e
            | some v =>
              rw [z] at e
              cases e
              obtain ⟨j, hj, rfl, rfl⟩ := pairsH_some z
              obtain ⟨x1, x2, c1, c2, c3, c4, c5⟩ := hT j hj
              refine .inr ⟨Nat.le_trans (Nat.le_add_right _ 6) c5, (by show 2 ≤ sizeLine; decide), [x1, x2], ?_, ⟨_, c4, rfl, _, rfl⟩⟩
              obtain ⟨x, hx⟩ : ∃ x, xs[j]? = some x := ⟨_, List.getElem?_eq_getElem hj⟩
              obtain ⟨y, hy⟩ : ∃ y, ys[j]? = some y := ⟨_, List.getElem?_eq_getElem (show j < ys.length by omega)⟩
              obtain ⟨u, hu, ru⟩ := rv.get hx
              obtain ⟨v, hv, rw2⟩ := rv2.get hy
              rw [c2] at hu
              rw [c3] at hv
              cases hu
              cases hv
              refine .cons ?_ (.cons ?_ .nil)
              · simpa [List.getD_eq_getElem?_getD, hx] using ru
              · simpa [List.getD_eq_getElem?_getD, hy] using rw2
        · have hj : j < xs.length := (List.getElem?_eq_some_iff.mp hx).1
          refine ⟨T j, by simp [ts, hj], I1.hok.fresh (Nat.le_trans (Nat.le_add_right _ 6) (ge j hj)), ?_⟩
          show (if T j = s1.heap.objs.size + 5 then some (.lst ts) else match pairsH xs.length T xs ys (T j) with
            | some u => some u
            | none => H1 (T j)) = _
          rw [if_neg (Nat.ne_of_gt (Nat.lt_of_lt_of_le (Nat.lt_succ_self _) (ge j hj))), pairsH_at inj hj]
          simp [List.getD_eq_getElem?_getD, hx, hy]
end Sz
/-! enumerate(zip(a, b)), both lists empty; suites that are never run -/
namespace Sz
open PySem PySem.Spec PyProof.Rows L2
section
variable {prog : Program} {w : World} {A : Around} {E : Value → Shared → Prop} {s : Shared}
/-- the iterator of an iterator is itself -/
theorem call_enumZ {z TI TO : Addr} {Q : Value → Shared → Prop} (hz : IsZip s.heap z TI TO .none)
    (k : ∀ h', IsEnum h' s.heap.objs.size z 0 .none → (∀ b u, s.heap.get? b = some u → h'.get? b = some u) → Q (.ref s.heap.objs.size) { s with heap := h' }) :
    wpAny (model prog w) A (call (.type "enumerate") [.ref z]) Q E s := by
  have key : Meets (Builtin.«enumerate.__new__» ⟨[.type "enumerate", .ref z], []⟩) (fun _ R s => (∃ TI TO, IsZip s.heap z TI TO .none) ∧ R (.ok (.ret (.ref s.heap.objs.size)))
    { s with heap := s.heap.push { cls := .type "enumerate", data := .fields #[.none, .bool false, .ref z, rawInt 0, .none, .none] } }) := .of_wp fun prog w A R s h => by
    obtain ⟨hp, g, d, tk, os⟩ := s
    obtain ⟨⟨TI, TO, hz⟩, h⟩ := h
    have hsub := sub_enumerate
    have it1 : ∀ {A' : Around} {Ex : Value → Shared → Prop} {Q : Value → Shared → Prop}, Q (.ref z) ⟨hp, g, d, tk, os⟩ → wpAny (model prog w) A' (pyIter (.ref z)) Q Ex ⟨hp, g, d, tk, os⟩ := fun q => wpAny_pyIter_zip hz q
    wp_walk using it1
    refine wpAny_stack_any (fun st => wpAny_pure ?_)
    split
    · rename_i c _ _ _ _ _
      cases (c == Value.type "enumerate") <;> (wp_walk using it1; exact ⟨_, rfl, h⟩)
    · wp_walk using it1
      exact ⟨_, rfl, h⟩
  refine callType_new F.called_enumerate (by decide) (F.typeCall_enumerate_1 _) (F.newCall_enumerate_1 _) (fun obj => F.args_object_init_2 obj _) F.entry_enumerate_new key ⟨⟨TI, TO, hz⟩, ?_⟩
  have e := Heap.get?_push_size s.heap (o := { cls := .type "enumerate", data := .fields #[.none, .bool false, .ref z, rawInt 0, .none, .none] }) rfl
  exact ⟨⟨_, e, rfl⟩, k _ e fun b u x => Heap.get?_push_of_some _ x⟩
/-- the enumeration of an empty zip is over -/
theorem enumZ_done {e z TI TO i1 i2 : Addr} {fp1 fp2 : List Addr} {P1 P2 : Nat → Value → Prop} {St1 St2 : Nat → Heap → Prop} {old a1 a2 : Value} {Q : Option Value → Shared → Prop} (S : ZipSep2 z TI TO i1 i2 fp1 fp2) (D1 : ∀ A : Around, A.handled = none → Draws prog w A i1 fp1 0 P1 St1) (D2 : ∀ A : Around, A.handled = none → Draws prog w A i2 fp2 0 P2 St2) (hh : A.handled = none)
    (he : IsEnum s.heap e z 0 old) (hz : IsZip s.heap z TI TO .none) (hTI : IsTupOf2 s.heap TI (.ref i1) (.ref i2)) (hTO : IsTupOf2 s.heap TO a1 a2) (st1 : St1 0 s.heap) (st2 : St2 0 s.heap)
    (k : ∀ h' tk, (∀ c o, c ≠ z → c ≠ TO → c ≠ i1 → c ≠ i2 → s.heap.get? c = some o → h'.get? c = some o) → Q none { s with heap := h', toks := tk }) : wpAny (model prog w) A (pyNext (.ref e)) Q E s := by
  unfold pyNext
  refine wpAny_bind (wpAny_attempt (wpAny_callSpecial?_slot (name := Str.ofString "__next__") ⟨_, he, rfl⟩ F.slot_enumerate_next (wpAny_call_entry F.slot_enumerate_next ⟨_, he, rfl⟩ F.entry_enumerate_next ?_ (F.args_enumerate_next_1 _))))
  show wpAny _ _ (field (.ref e) 2 >>= _) _ _ s
  refine wpAny_bind (wpAny_field he rfl (x := .ref z) rfl (wpAny_bind ?_))
  have hT : s.TypeIs (.ref z) "zip" := ⟨_, hz, rfl⟩
  unfold Builtin.SmallTypes.nextOf
  refine wpAny_bind (wpAny_callSpecial?_slot (name := Str.ofString "__next__") hT F.slot_zip_next
    (wpAny_call_entry F.slot_zip_next hT F.entry_zip_next (zipD2_next_end S (D1 _ hh) (D2 _ hh) hz hTI hTO st1 st2 (Nat.le_refl _) (Nat.le_refl _) (.inl rfl) fun h' tk x hk ⟨o, ho, hc⟩ => ?_) (F.args_zip_next_1 _)))
  exact wpAny_bind (wpAny_isInstance (T := "StopIteration") (b := true) ⟨o, ho, hc⟩ isSubtype_stop (wpAny_pure (k _ _ hk)))
end
/-- nothing comes -/
def ItNo (K : PySem.W.Frag) (a b : Addr) : It where
  go := fun _ _ => False
  yld := fun _ _ _ _ => False
  stop := fun _ H => SqL K H a [] ∧ SqL K H b []
theorem turn_enumZ {P : Program} {w : World} {K : PySem.W.Frag} {tg : Expr} {a b N : Addr} (la : a < N) (lb : b < N) :
    Turn P w K tg (ItNo K a b) [N + 5, N + 4, N + 2, N + 3, N, N + 1] (N + 5) (fun _ h => (∃ old, IsEnum h (N + 5) (N + 4) 0 old) ∧ IsZip h (N + 4) (N + 2) (N + 3) .none ∧ IsTupOf2 h (N + 2) (.ref N) (.ref (N + 1)) ∧ (∃ x y, IsTupOf2 h (N + 3) x y) ∧ h.IsListIter N a 0 ∧ h.IsListIter (N + 1) b 0) where
  mem := List.mem_cons_self ..
  obj := fun i h ⟨⟨old, he⟩, hz, hTI, ⟨x, y, hTO⟩, ⟨o1, g1, _, d1⟩, ⟨o2, g2, _, d2⟩⟩ c hc => by
    have hc' : c = N + 5 ∨ c = N + 4 ∨ c = N + 2 ∨ c = N + 3 ∨ c = N ∨ c = N + 1 := by simpa using hc
    rcases hc' with z | z | z | z | z | z <;> subst z
    · exact ⟨_, he, fun v q => nomatch q⟩
    · exact ⟨_, hz, fun v q => nomatch q⟩
    · exact ⟨_, hTI, fun v q => nomatch q⟩
    · exact ⟨_, hTO, fun v q => nomatch q⟩
    · exact ⟨o1, g1, fun v q => by rw [d1] at q; cases q⟩
    · exact ⟨o2, g2, fun v q => by rw [d2] at q; cases q⟩
  keep := fun i h h' ⟨⟨old, he⟩, hz, hTI, ⟨x, y, hTO⟩, l1, l2⟩ k => ⟨⟨old, k _ (by simp) _ he⟩, k _ (by simp) _ hz, k _ (by simp) _ hTI, ⟨x, y, k _ (by simp) _ hTO⟩, l1.at fun o q => k _ (by simp) o q, l2.at fun o q => k _ (by simp) o q⟩
  item := fun X _ _ _ _ i pins s σ H E _ _ _ hg => hg.elim
  done := by
    intro X hP hw hK hc i pins s σ H E I hf ⟨⟨old, he⟩, hz, hTI, ⟨x, y, hTO⟩, l1, l2⟩ ⟨ha, hb⟩
    subst hP hw hK
    obtain ⟨its, rv, p1, _⟩ := I.list ha
    obtain ⟨its2, rv2, p2, _⟩ := I.list hb
    cases rv
    cases rv2
    refine enumZ_done (fp1 := [N, a]) (fp2 := [N + 1, b]) (P1 := fun i v => (#[] : Array Value)[i]? = some v) (P2 := fun i v => (#[] : Array Value)[i]? = some v) (St1 := fun i h => h.IsListIter N a i ∧ h.IsList a #[]) (St2 := fun i h => h.IsListIter (N + 1) b i ∧ h.IsList b #[])
      (zip_sep2 (N := N) (fp1 := [a]) (fp2 := [b]) (by simpa using la) (by simpa using lb)) (fun A hA => Draws.list hA _ a (Nat.ne_of_lt la) #[]) (fun A hA => Draws.list hA _ b (Nat.ne_of_lt (Nat.lt_succ_of_lt lb)) #[]) (I.ok.hd hc) he hz hTI hTO ⟨l1, p1.isList⟩ ⟨l2, p2.isList⟩ fun h' tk hk => ⟨rfl, ?_⟩
    exact I.turnedL (t' := tk) (ch := [N + 5, N + 4, N + 2, N + 3, N, N + 1]) (fun c o hb q => hk c o (fun q' => hb (by simp [q'])) (fun q' => hb (by simp [q'])) (fun q' => hb (by simp [q'])) (fun q' => hb (by simp [q'])) q) hf
  self := fun A i s Q E ⟨⟨_, he⟩, _⟩ h => wpAny_pyIter_enum he h
def iEnumZ (K : PySem.W.Frag) (ta : TA) : TI := fun σ H R => ta σ H fun vs H1 => ∃ a b, vs = [.ref a, .ref b] ∧ SqL K H1 a [] ∧ SqL K H1 b [] ∧ R (ItNo K a b) H1
theorem pi_enumZ {X : Cx} {tg e e2 : Expr} {ta : TA} {p p2 pos pos2 : Pos} (hge : Gl X "enumerate") (hme : X.mg "enumerate" = none) (hg : Gl X "zip") (hm : X.mg "zip" = none) (ha : PA X [e, e2] ta)
    (hs : starEach [e, e2] X.env = (false, eval e X.env) :: starEach [e2] X.env := by rfl) (hpl : (backTo pos2 (starEach [e2] X.env)).any (·.1) = false := by rfl)
    (na : starEach [.Call (.Name "zip" p2) [e, e2] [] pos2] X.env = (false, eval (.Call (.Name "zip" p2) [e, e2] [] pos2) X.env) :: starEach [] X.env := by rfl) :
    PI X tg (.Call (.Name "enumerate" p) [.Call (.Name "zip" p2) [e, e2] [] pos2] [] pos) (iEnumZ X.K ta) := by
  refine ⟨fun pins s σ H R I h => ?_⟩
  refine Call_ (ld_blt I hge hme boot_enumerate (PyProof.Rows.callWith_type1 (args_cons ?_ na) na))
  refine Call_ (ld_blt I hg hm PyProof.Rows.boot_zip (PyProof.Rows.callWith_type1 (thn (ha.run pos2 pins s σ H _ I h) fun us s1 ⟨vs, H1, I1, r1, q1⟩ => ?_) hs hpl))
  obtain ⟨a, b, ex, hqx, hqy, q⟩ := q1
  subst ex
  cases r1 with
  | cons r rr =>
    cases rr with
    | cons r' rr =>
      cases rr
      cases r
      cases r'
      obtain ⟨its, rv, p1, zs⟩ := I1.list hqx
      obtain ⟨its2, rv2, p2', _⟩ := I1.list hqy
      have la : a < s1.heap.objs.size := p1.lt
      have lb : b < s1.heap.objs.size := p2'.lt
      refine zip_begins2 (begins_list a its.toArray) (begins_list b its2.toArray) p1.isList p2'.isList fun h1 hz hTI hTO g1 g2 hsz hk => args_nil ?_
      refine call_enumZ (s := { s1 with heap := h1 }) hz fun h2 he hk2 => ?_
      rw [show ({ s1 with heap := h1 } : Shared).heap.objs.size = s1.heap.objs.size + 5 from hsz] at he ⊢
      refine wpAny_pyIter_enum he ?_
      have up := fun b u x => hk2 b u (hk b u x)
      refine ⟨s1.heap.objs.size + 5, _, _, _, H1, rfl, I1.kept (t' := s1.toks) up, turn_enumZ la lb, ⟨⟨_, he⟩, hk2 _ _ hz, hk2 _ _ hTI, ⟨_, _, hk2 _ _ hTO⟩, ⟨_, hk2 _ _ g1, rfl, rfl⟩, ⟨_, hk2 _ _ g2, rfl, rfl⟩⟩, fun c hcm => ?_, q⟩
      have hle : s1.heap.objs.size ≤ c := by
        have hc' : c = s1.heap.objs.size + 5 ∨ c = s1.heap.objs.size + 4 ∨ c = s1.heap.objs.size + 2 ∨ c = s1.heap.objs.size + 3 ∨ c = s1.heap.objs.size ∨ c = s1.heap.objs.size + 1 := by simpa using hcm
        rcases hc' with z | z | z | z | z | z <;> rw [z]
        · exact Nat.le_add_right _ _
        · exact Nat.le_add_right _ _
        · exact Nat.le_add_right _ _
        · exact Nat.le_add_right _ _
        · exact Nat.le_refl _
        · exact Nat.le_add_right _ _
      exact I1.fpOk hle (I1.hok.fresh hle)
/-- a suite, a target that are never come to -/
theorem pss_no {X : Cx} {l : List Stmt} : PSs X l (fun _ _ _ => False) := ⟨fun _ _ _ _ _ _ h => h.elim⟩
theorem pg_no {X : Cx} {tg : Expr} : PG X tg (fun _ _ _ _ => False) := ⟨fun _ _ _ _ _ _ _ _ _ h => h.elim⟩
end Sz
/-! enumerate(zip(a, b)) over two lists of one length: the pair stands in the enumeration's own pair, so zip keeps it or makes it anew -/
namespace PySem
open Sem (wp)
/-- a zip, by the pair that it handed out last -/
abbrev IsZipG (h : Heap) (z TI TO : Addr) (v : Value) (b : Bool) : Prop :=
  h.get? z = some { cls := .type "zip", dict := none, data := .fields #[v, .bool b, .bool false, .ref TI, .ref TO], slots := #[] }
/-- that pair is let go -/
def GoneZ (h : Heap) (v : Value) : Prop := v = .none ∨ ∃ T0 : Addr, v = rawInt T0 ∧ h.get? T0 = none
section
variable {prog : Program} {w : World} {A : Around} {E : Value → Shared → Prop} {s : Shared} {z TI TO i1 i2 : Addr} {fp1 fp2 : List Addr} {n1 n2 i : Nat} {P1 P2 : Nat → Value → Prop} {St1 St2 : Nat → Heap → Prop} {y1 y2 v : Value} {b : Bool}
theorem gone_free {Q : Bool → Shared → Prop} (hz : IsZipG s.heap z TI TO v b) (gn : GoneZ s.heap v) (q : Q true s) : wpAny (model prog w) A (Builtin.SmallTypes.ownedTupleIsFree (.ref z)) Q E s := by
  unfold Builtin.SmallTypes.ownedTupleIsFree
  refine wpAny_bind (wpAny_field hz rfl (x := v) rfl ?_)
  rcases gn with rfl | ⟨T0, rfl, gn⟩
  · exact wpAny_pure q
  · show wpAny _ _ (loadIfAlive ((T0 : Int).toNat) >>= _) _ _ s
    refine wpAny_bind (wpAny_alive ?_)
    rw [Int.toNat_natCast, gn]
    simp only [Option.isNone_none, if_true]
    exact wpAny_pure q
/-- a turn, the pair let go: the same tuple is filled again -/
theorem zipG_item {Q : Value → Shared → Prop} (S : ZipSep2 z TI TO i1 i2 fp1 fp2) (D1 : Draws prog w A i1 fp1 n1 P1 St1) (D2 : Draws prog w A i2 fp2 n2 P2 St2)
    (hz : IsZipG s.heap z TI TO v b) (gn : GoneZ s.heap v) (hI : IsTupOf2 s.heap TI (.ref i1) (.ref i2)) (hO : IsTupOf2 s.heap TO y1 y2) (st1 : St1 i s.heap) (st2 : St2 i s.heap) (lt1 : i < n1) (lt2 : i < n2)
    (k : ∀ x1 x2 h' tk, P1 i x1 → P2 i x2 → IsZipG h' z TI TO (rawInt s.heap.objs.size) false → IsTupOf2 h' TO x1 x2 → St1 (i + 1) h' → St2 (i + 1) h' → IsTupOf2 h' s.heap.objs.size x1 x2 → h'.objs.size = s.heap.objs.size + 1 →
      (∀ c o, c ≠ z → c ≠ TO → c ≠ i1 → c ≠ i2 → s.heap.get? c = some o → h'.get? c = some o) → Q (.ref s.heap.objs.size) { s with heap := h', toks := tk }) :
    wpAny (model prog w) A (Builtin.«zip.__next__» ⟨[.ref z], []⟩) (fun fin s' => ∃ u, fin = .done (.ret u) ∧ Q u s') E s := by
  obtain ⟨hp, g, d, t0, os⟩ := s
  show wpAny _ _ (field (.ref z) 2 >>= _) _ _ _
  refine wpAny_bind (wpAny_field hz rfl (x := .bool false) rfl ?_)
  show wpAny _ _ (field (.ref z) 3 >>= _) _ _ _
  refine wpAny_bind (wpAny_field hz rfl (x := .ref TI) rfl (wpAny_bind (wpAny_seqItems hI rfl ?_)))
  show wpAny _ _ (Builtin.SmallTypes.ownedTupleIsFree (.ref z) >>= _) _ _ _
  refine wpAny_bind (gone_free hz gn ?_)
  simp only [if_true]
  refine wpAny_bind (wpAny_rule (wpAny_bind (wpAny_field hz rfl (x := .ref TO) rfl ?_)))
  refine wpAny_bind (wpAny_setField_rec hz (by simp) fun q0 z0 e0 => ?_)
  have z0 : IsZipG q0 z TI TO .ellipsis b := z0
  have e0 : Heap.SameBut z hp q0 := e0
  refine wpAny_bind ?_
  simp only [List.zipIdx_cons, List.zipIdx_nil, List.forIn_cons, List.forIn_nil]
  refine wpAny_bind (wpAny_bind (wpAny_onRaise ?_))
  show wpAny _ _ (Builtin.SmallTypes.nextOf (.ref i1) >>= _) _ _ ⟨q0, g, d, t0, os⟩
  refine wpAny_bind (D1.item i _ _ _ lt1 (D1.over st1 e0 S.zf1) fun x1 q1 t1 hx1 n1' e1 => wpAny_pure ?_)
  have e1 : Heap.SameBut i1 q0 q1 := e1
  have u1 : IsTupOf2 q1 TO y1 y2 := e1.extBut _ _ S.Ti1 (e0.extBut _ _ S.TOz hO)
  refine wpAny_bind (wpAny_seqItems (s := ⟨q1, g, d, t1, os⟩) u1 rfl (wpAny_bind (updateSeq_IsTupOf2 (s := ⟨q1, g, d, t1, os⟩) u1 fun q2 f1 e2 => ?_)))
  have f1 : IsTupOf2 q2 TO x1 y2 := f1
  have e2 : Heap.SameBut TO q1 q2 := e2
  refine wpAny_bind (wpAny_letGo (wpAny_pure (wpAny_bind (wpAny_bind (wpAny_onRaise ?_)))))
  show wpAny _ _ (Builtin.SmallTypes.nextOf (.ref i2) >>= _) _ _ ⟨q2, g, d, t1, os⟩
  refine wpAny_bind (D2.item i _ _ _ lt2 (D2.over (D2.over (D2.over st2 e0 S.zf2) e1 S.sep1_2) e2 S.Tf2) fun x2 q3 t2 hx2 n2' e3 => wpAny_pure ?_)
  have e3 : Heap.SameBut i2 q2 q3 := e3
  have u2 : IsTupOf2 q3 TO x1 y2 := e3.extBut _ _ S.Ti2 f1
  refine wpAny_bind (wpAny_seqItems (s := ⟨q3, g, d, t2, os⟩) u2 rfl (wpAny_bind (updateSeq_IsTupOf2 (s := ⟨q3, g, d, t2, os⟩) u2 fun q4 f2 e4 => ?_)))
  have f2 : IsTupOf2 q4 TO x1 x2 := f2
  have e4 : Heap.SameBut TO q3 q4 := e4
  refine wpAny_bind (wpAny_letGo (wpAny_pure (wpAny_pure (wpAny_bind (wpAny_seqItems (s := ⟨q4, g, d, t2, os⟩) f2 rfl (wpAny_bind (wpAny_newTuple ?_)))))))
  have sz : q4.objs.size = hp.objs.size := by rw [e4.1, e3.1, e2.1, e1.1, e0.1]
  have z4 : IsZipG q4 z TI TO .ellipsis b := e4.extBut _ _ S.TOz.symm (e3.extBut _ _ S.zi2 (e2.extBut _ _ S.TOz.symm (e1.extBut _ _ S.zi1 z0)))
  have up4 : ∀ c o, c ≠ z → c ≠ TO → c ≠ i1 → c ≠ i2 → hp.get? c = some o → q4.get? c = some o := fun c o c1 c2 c3 c4 e =>
    e4.extBut _ _ c2 (e3.extBut _ _ c4 (e2.extBut _ _ c2 (e1.extBut _ _ c3 (e0.extBut _ _ c1 e))))
  have j1 : St1 (i + 1) q4 := D1.over (D1.over (D1.over n1' e2 S.Tf1) e3 S.sep2_1) e4 S.Tf1
  have j2 : St2 (i + 1) q4 := D2.over n2' e4 S.Tf2
  have zl : z < q4.objs.size := Heap.lt_size z4
  show wpAny _ _ (Builtin.SmallTypes.ownedTupleHandOut (.ref z) (.ref q4.objs.size) >>= _) _ _ ⟨q4.push { cls := .type "tuple", data := .seq #[x1, x2] }, g, d, t2, os⟩
  refine wpAny_bind ?_
  unfold Builtin.SmallTypes.ownedTupleHandOut
  have z5 : IsZipG (q4.push { cls := .type "tuple", data := .seq #[x1, x2] }) z TI TO .ellipsis b := Heap.get?_push_of_some _ z4
  refine wpAny_bind (wpAny_setField_rec z5 (by simp) fun q6 z6 e6 => ?_)
  have z6 : IsZipG q6 z TI TO (rawInt q4.objs.size) b := z6
  refine wpAny_setField_rec z6 (by simp) fun q7 z7 e7 => ?_
  have z7 : IsZipG q7 z TI TO (rawInt q4.objs.size) false := z7
  have e6 : Heap.SameBut z (q4.push { cls := .type "tuple", data := .seq #[x1, x2] }) q6 := e6
  have e7 : Heap.SameBut z q6 q7 := e7
  have up : ∀ c o, c ≠ z → q4.get? c = some o → q7.get? c = some o := fun c o c1 e => e7.extBut _ _ c1 (e6.extBut _ _ c1 (Heap.get?_push_of_some _ e))
  have t7 : IsTupOf2 q7 q4.objs.size x1 x2 := e7.extBut _ _ (Nat.ne_of_gt zl) (e6.extBut _ _ (Nat.ne_of_gt zl) (Heap.get?_push_size _ rfl))
  have s7 : q7.objs.size = q4.objs.size + 1 := by rw [e7.1, e6.1, Heap.size_push]
  rw [sz] at z7 t7 s7
  refine wpAny_pure ⟨_, rfl, ?_⟩
  show Q (.ref q4.objs.size) ⟨q7, g, d, t2, os⟩
  rw [sz]
  exact k x1 x2 q7 t2 hx1 hx2 z7 (up _ _ S.TOz f2) (D1.frame _ _ _ j1 fun b hb o e => up b o (fun q => S.zf1 (q ▸ hb)) e) (D2.frame _ _ _ j2 fun b hb o e => up b o (fun q => S.zf2 (q ▸ hb)) e) t7 s7 fun c o c1 c2 c3 c4 e => up c o c1 (up4 c o c1 c2 c3 c4 e)
/-- no turn more, the pair let go -/
theorem zipG_end {Q : Fin → Shared → Prop} (S : ZipSep2 z TI TO i1 i2 fp1 fp2) (D1 : Draws prog w A i1 fp1 n1 P1 St1) (hz : IsZipG s.heap z TI TO v b) (gn : GoneZ s.heap v) (hI : IsTupOf2 s.heap TI (.ref i1) (.ref i2)) (st1 : St1 n1 s.heap)
    (k : ∀ h' tk e, (∀ c o, c ≠ z → c ≠ i1 → s.heap.get? c = some o → h'.get? c = some o) → (∃ o, h'.get? e = some o ∧ o.cls = .type "StopIteration") → E (.ref e) { s with heap := h', toks := tk }) :
    wpAny (model prog w) A (Builtin.«zip.__next__» ⟨[.ref z], []⟩) Q E s := by
  obtain ⟨hp, g, d, t0, os⟩ := s
  show wpAny _ _ (field (.ref z) 2 >>= _) _ _ _
  refine wpAny_bind (wpAny_field hz rfl (x := .bool false) rfl ?_)
  show wpAny _ _ (field (.ref z) 3 >>= _) _ _ _
  refine wpAny_bind (wpAny_field hz rfl (x := .ref TI) rfl (wpAny_bind (wpAny_seqItems hI rfl ?_)))
  show wpAny _ _ (Builtin.SmallTypes.ownedTupleIsFree (.ref z) >>= _) _ _ _
  refine wpAny_bind (gone_free hz gn ?_)
  simp only [if_true]
  refine wpAny_bind (wpAny_rule (wpAny_bind (wpAny_field hz rfl (x := .ref TO) rfl ?_)))
  refine wpAny_bind (wpAny_setField_rec hz (by simp) fun q0 z0 e0 => ?_)
  have z0 : IsZipG q0 z TI TO .ellipsis b := z0
  have e0 : Heap.SameBut z hp q0 := e0
  refine wpAny_bind ?_
  simp only [List.zipIdx_cons, List.zipIdx_nil, List.forIn_cons, List.forIn_nil]
  refine wpAny_bind (wpAny_bind (wpAny_onRaise ?_))
  show wpAny _ _ (Builtin.SmallTypes.nextOf (.ref i1) >>= _) _ _ ⟨q0, g, d, t0, os⟩
  refine wpAny_bind (D1.done ⟨q0, g, d, t0, os⟩ _ _ (D1.over st1 e0 S.zf1) fun q1 e e1 he => ?_)
  have e1 : Heap.ExtBut i1 q0 q1 := e1
  obtain ⟨oe, hoe, hce⟩ := he
  have hoe : q1.get? e = some oe := hoe
  have z1 : IsZipG q1 z TI TO .ellipsis b := e1 _ _ S.zi1 z0
  have ez : e ≠ z := fun x => by
    subst x
    rw [z1] at hoe
    cases hoe
    simp at hce
  refine wpAny_setField_rec (s := ⟨q1, g, d, t0, os⟩) z1 (by simp) fun q2 _ e2 => ?_
  have e2 : Heap.SameBut z q1 q2 := e2
  exact k q2 t0 e (fun c o c1 c2 x => e2.extBut _ _ c1 (e1 _ _ c2 (e0.extBut _ _ c1 x))) ⟨oe, e2.extBut _ _ ez hoe, hce⟩
/-- next of a zip, its last pair let go or not -/
theorem zipG_nextOf {Q : Value → Shared → Prop} (S : ZipSep2 z TI TO i1 i2 fp1 fp2) (D1 : ∀ A : Around, A.handled = none → Draws prog w A i1 fp1 n1 P1 St1) (D2 : ∀ A : Around, A.handled = none → Draws prog w A i2 fp2 n2 P2 St2) (hh : A.handled = none)
    (hz : IsZipG s.heap z TI TO v b) (hv : v = .none ∨ ∃ T0 : Addr, v = rawInt T0) (hI : IsTupOf2 s.heap TI (.ref i1) (.ref i2)) (hO : IsTupOf2 s.heap TO y1 y2) (st1 : St1 i s.heap) (st2 : St2 i s.heap) (lt1 : i < n1) (lt2 : i < n2)
    (k : ∀ x1 x2 T0 b' u1 u2 h' tk, P1 i x1 → P2 i x2 → IsZipG h' z TI TO (rawInt (T0 : Addr)) b' → IsTupOf2 h' TO u1 u2 → St1 (i + 1) h' → St2 (i + 1) h' → IsTupOf2 h' s.heap.objs.size x1 x2 → h'.objs.size = s.heap.objs.size + 1 →
      (∀ c o, c ≠ z → c ≠ TO → c ≠ i1 → c ≠ i2 → s.heap.get? c = some o → h'.get? c = some o) → Q (.ref s.heap.objs.size) { s with heap := h', toks := tk }) :
    wpAny (model prog w) A (Builtin.SmallTypes.nextOf (.ref z)) Q E s := by
  have hT : s.TypeIs (.ref z) "zip" := ⟨_, hz, rfl⟩
  have key : GoneZ s.heap v ∨ ∃ (T0 : Addr) (o0 : Obj), v = rawInt T0 ∧ s.heap.get? T0 = some o0 := by
    rcases hv with rfl | ⟨T0, rfl⟩
    · exact .inl (.inl rfl)
    · cases e : s.heap.get? T0 with
      | none => exact .inl (.inr ⟨T0, rfl, e⟩)
      | some o => exact .inr ⟨T0, o, rfl, e⟩
  unfold Builtin.SmallTypes.nextOf
  rcases key with gn | ⟨T0, o0, rfl, h0⟩
  · refine wpAny_bind (wpAny_callSpecial?_slot (name := Str.ofString "__next__") hT F.slot_zip_next (wpAny_call_entry F.slot_zip_next hT F.entry_zip_next
      (zipG_item S (D1 _ hh) (D2 _ hh) hz gn hI hO st1 st2 lt1 lt2 fun x1 x2 h' tk p1 p2 a1 a2 a3 a4 a5 a6 a7 => ?_) (F.args_zip_next_1 _)))
    exact wpAny_pure (k x1 x2 _ _ _ _ h' tk p1 p2 a1 a2 a3 a4 a5 a6 a7)
  · refine wpAny_bind (wpAny_callSpecial?_slot (name := Str.ofString "__next__") hT F.slot_zip_next (wpAny_call_entry F.slot_zip_next hT F.entry_zip_next
      (zipK_item S (D1 _ hh) (D2 _ hh) hz h0 hI st1 st2 lt1 lt2 fun x1 x2 h' tk p1 p2 a1 a3 a4 a5 a6 a7 => ?_) (F.args_zip_next_1 _)))
    exact wpAny_pure (k x1 x2 _ _ _ _ h' tk p1 p2 a1 (a7 _ _ S.TOz S.Ti1 S.Ti2 hO) a3 a4 a5 a6 fun c o c1 _ c3 c4 e => a7 c o c1 c3 c4 e)
/-- end of a zip, its last pair let go or not -/
theorem zipG_nextEnd {Q : Value → Shared → Prop} (S : ZipSep2 z TI TO i1 i2 fp1 fp2) (D1 : ∀ A : Around, A.handled = none → Draws prog w A i1 fp1 n1 P1 St1) (D2 : ∀ A : Around, A.handled = none → Draws prog w A i2 fp2 n2 P2 St2) (hh : A.handled = none)
    (hz : IsZipG s.heap z TI TO v b) (hv : v = .none ∨ ∃ T0 : Addr, v = rawInt T0) (hI : IsTupOf2 s.heap TI (.ref i1) (.ref i2)) (st1 : St1 n1 s.heap)
    (k : ∀ h' tk e, (∀ c o, c ≠ z → c ≠ i1 → c ≠ i2 → s.heap.get? c = some o → h'.get? c = some o) → (∃ o, h'.get? e = some o ∧ o.cls = .type "StopIteration") → E (.ref e) { s with heap := h', toks := tk }) :
    wpAny (model prog w) A (Builtin.SmallTypes.nextOf (.ref z)) Q E s := by
  have hT : s.TypeIs (.ref z) "zip" := ⟨_, hz, rfl⟩
  have key : GoneZ s.heap v ∨ ∃ (T0 : Addr) (o0 : Obj), v = rawInt T0 ∧ s.heap.get? T0 = some o0 := by
    rcases hv with rfl | ⟨T0, rfl⟩
    · exact .inl (.inl rfl)
    · cases e : s.heap.get? T0 with
      | none => exact .inl (.inr ⟨T0, rfl, e⟩)
      | some o => exact .inr ⟨T0, o, rfl, e⟩
  unfold Builtin.SmallTypes.nextOf
  rcases key with gn | ⟨T0, o0, rfl, h0⟩
  · exact wpAny_bind (wpAny_callSpecial?_slot (name := Str.ofString "__next__") hT F.slot_zip_next (wpAny_call_entry F.slot_zip_next hT F.entry_zip_next
      (zipG_end S (D1 _ hh) hz gn hI st1 fun h' tk e a b => k h' tk e (fun c o c1 c2 _ x => a c o c1 c2 x) b) (F.args_zip_next_1 _)))
  · exact wpAny_bind (wpAny_callSpecial?_slot (name := Str.ofString "__next__") hT F.slot_zip_next (wpAny_call_entry F.slot_zip_next hT F.entry_zip_next
      (zipK_end S (D1 _ hh) (D2 _ hh) hz h0 hI st1 fun h' tk e a b => k h' tk e a b) (F.args_zip_next_1 _)))
/-- a turn of an enumeration over anything -/
theorem enumG_item {e : Addr} {old : Value} {R : Value → Heap → Nat → Prop} {Q : Option Value → Shared → Prop} (he : IsEnum s.heap e z i old)
    (step : ∀ (Q' : Value → Shared → Prop) (E' : Value → Shared → Prop), (∀ x h1 tk, R x h1 tk → Q' x { s with heap := h1, toks := tk }) → wpAny (model prog w) A.in1 (Builtin.SmallTypes.nextOf (.ref z)) Q' E' s)
    (kp : ∀ x h1 tk, R x h1 tk → IsEnum h1 e z i old)
    (k : ∀ x h1 t0 h', R x h1 t0 → IsEnumOut h' e z ((i : Int) + 1) x h1.objs.size → h'.get? h1.objs.size = some { cls := .type "tuple", data := .seq #[.int i t0, x] } → h'.objs.size = h1.objs.size + 1 →
      (∀ c o, c ≠ e → h1.get? c = some o → h'.get? c = some o) → Q (some (.ref h1.objs.size)) { s with heap := h', toks := t0 + 1 }) : wpAny (model prog w) A (pyNext (.ref e)) Q E s := by
  have hT : s.TypeIs (.ref e) "enumerate" := ⟨_, he, rfl⟩
  unfold pyNext
  refine wpAny_bind (wpAny_attempt (wpAny_callSpecial?_slot (name := Str.ofString "__next__") hT F.slot_enumerate_next (wpAny_call_entry F.slot_enumerate_next hT F.entry_enumerate_next ?_ (F.args_enumerate_next_1 _))))
  obtain ⟨hp, g, d, tk, os⟩ := s
  show wpAny _ _ (field (.ref e) 2 >>= _) _ _ _
  refine wpAny_bind (wpAny_field he rfl (x := .ref z) rfl (wpAny_bind (step _ _ fun x q1 t0 r => ?_)))
  have g1 : IsEnum q1 e z i old := kp x q1 t0 r
  show wpAny _ _ (field (.ref e) 3 >>= _) _ _ ⟨q1, g, d, t0, os⟩
  refine wpAny_bind (wpAny_field g1 rfl (x := rawInt i) rfl ?_)
  show wpAny _ _ (field (.ref e) 4 >>= _) _ _ ⟨q1, g, d, t0, os⟩
  refine wpAny_bind (wpAny_field g1 rfl (x := .none) rfl ?_)
  show wpAny _ _ (mkInt i >>= _) _ _ ⟨q1, g, d, t0, os⟩
  refine wpAny_bind (wpAny_mkInt ?_)
  show wpAny _ _ (setField (.ref e) 3 (rawInt ((i : Int) + 1)) >>= _) _ _ ⟨q1, g, d, t0 + 1, os⟩
  refine wpAny_bind (wpAny_setField_rec g1 (by simp) fun q2 g2 e2 => ?_)
  have e2 : Heap.SameBut e q1 q2 := e2
  have g2 : IsEnum q2 e z ((i : Int) + 1) old := g2
  show wpAny _ _ (setField (.ref e) 4 .none >>= _) _ _ ⟨q2, g, d, t0 + 1, os⟩
  refine wpAny_bind (wpAny_setField_rec g2 (by simp) fun q3 g3 e3 => ?_)
  have e3 : Heap.SameBut e q2 q3 := e3
  have g3 : IsEnum q3 e z ((i : Int) + 1) old := g3
  show wpAny _ _ (newTuple [.int i t0, x] >>= _) _ _ ⟨q3, g, d, t0 + 1, os⟩
  refine wpAny_bind (wpAny_newTuple ?_)
  have sz : q3.objs.size = q1.objs.size := by rw [e3.1, e2.1]
  have el : e < q1.objs.size := Heap.lt_size g1
  have g4 : IsEnum (q3.push { cls := .type "tuple", data := .seq #[.int i t0, x] }) e z ((i : Int) + 1) old := Heap.get?_push_of_some _ g3
  generalize hq4 : q3.push { cls := .type "tuple", data := .seq #[.int i t0, x] } = q4 at g4
  have t4 : q4.get? q1.objs.size = some { cls := .type "tuple", data := .seq #[.int i t0, x] } := by rw [← hq4, ← sz]; exact Heap.get?_push_size _ rfl
  have s4 : q4.objs.size = q1.objs.size + 1 := by rw [← hq4, Heap.size_push, sz]
  have up4 : ∀ c o, c ≠ e → q1.get? c = some o → q4.get? c = some o := fun c o c1 x => by
    rw [← hq4]; exact Heap.get?_push_of_some _ (e3.extBut c o c1 (e2.extBut c o c1 x))
  show wpAny _ _ (Builtin.SmallTypes.ownedTupleIsFree (.ref e) >>= _) _ _ ⟨q4, g, d, t0 + 1, os⟩
  rw [sz]
  refine wpAny_bind ?_
  unfold Builtin.SmallTypes.ownedTupleIsFree
  refine wpAny_bind (wpAny_field g4 rfl (x := .none) rfl (wpAny_pure ?_))
  simp only [if_true]
  refine wpAny_bind (wpAny_rule (wpAny_bind (wpAny_field g4 rfl (x := old) rfl ?_)))
  refine wpAny_bind (wpAny_setField_rec g4 (by simp) fun q5 g5 e5 => ?_)
  have e5 : Heap.SameBut e q4 q5 := e5
  have g5 : IsEnum q5 e z ((i : Int) + 1) x := g5
  show wpAny _ _ (Builtin.SmallTypes.ownedTupleHandOut (.ref e) (.ref q1.objs.size) >>= _) _ _ ⟨q5, g, d, t0 + 1, os⟩
  refine wpAny_bind ?_
  unfold Builtin.SmallTypes.ownedTupleHandOut
  refine wpAny_bind (wpAny_setField_rec g5 (by simp) fun q6 g6 e6 => ?_)
  have e6 : Heap.SameBut e q5 q6 := e6
  have g6 : IsEnumOut q6 e z ((i : Int) + 1) x q1.objs.size := g6
  refine wpAny_setField_rec g6 (by simp) fun q7 g7 e7 => ?_
  have e7 : Heap.SameBut e q6 q7 := e7
  have g7 : IsEnumOut q7 e z ((i : Int) + 1) x q1.objs.size := g7
  have up7 : ∀ c o, c ≠ e → q4.get? c = some o → q7.get? c = some o := fun c o c1 x => e7.extBut c o c1 (e6.extBut c o c1 (e5.extBut c o c1 x))
  refine wpAny_bind (wpAny_letGo (wpAny_pure ⟨_, rfl, wpAny_pure ?_⟩))
  exact k x q1 t0 q7 r g7 (up7 _ _ (Nat.ne_of_gt el) t4) (by rw [e7.1, e6.1, e5.1, s4]) fun c o c1 x => up7 c o c1 (up4 c o c1 x)
theorem enumG_end {e : Addr} {old : Value} {c0 : Int} {R : Shared → Prop} {Q : Option Value → Shared → Prop} (he : IsEnum s.heap e z c0 old)
    (step : ∀ (Q' : Value → Shared → Prop) (E' : Value → Shared → Prop), (∀ h' tk x, (∃ o, h'.get? x = some o ∧ o.cls = .type "StopIteration") → R { s with heap := h', toks := tk } → E' (.ref x) { s with heap := h', toks := tk }) → wpAny (model prog w) A.in1 (Builtin.SmallTypes.nextOf (.ref z)) Q' E' s)
    (k : ∀ s', R s' → Q none s') : wpAny (model prog w) A (pyNext (.ref e)) Q E s := by
  have hT : s.TypeIs (.ref e) "enumerate" := ⟨_, he, rfl⟩
  unfold pyNext
  refine wpAny_bind (wpAny_attempt (wpAny_callSpecial?_slot (name := Str.ofString "__next__") hT F.slot_enumerate_next (wpAny_call_entry F.slot_enumerate_next hT F.entry_enumerate_next ?_ (F.args_enumerate_next_1 _))))
  show wpAny _ _ (field (.ref e) 2 >>= _) _ _ s
  refine wpAny_bind (wpAny_field he rfl (x := .ref z) rfl (wpAny_bind (step _ _ fun h' tk x ⟨o, ho, hc⟩ r => ?_)))
  exact wpAny_bind (wpAny_isInstance (T := "StopIteration") (b := true) ⟨o, ho, hc⟩ isSubtype_stop (wpAny_pure (k _ r)))
end
end PySem
namespace Sz
open PySem PySem.Spec PyProof.Rows L2
/-- two lists of one length, the items in new pairs, each in a new pair with its number -/
def IteZ (K : PySem.W.Frag) (a b : Addr) : It where
  go := fun i H => ∃ (xs ys : List V) (x y : V), SqL K H a xs ∧ SqL K H b ys ∧ xs[i]? = some x ∧ ys[i]? = some y
  yld := fun i H v H' => ∃ T1 T2 x y, v = .ref T2 ∧ H T1 = none ∧ H T2 = none ∧ T1 ≠ T2 ∧ H' = upd (upd H T1 (.tup [x, y])) T2 (.tup [.int (i : Nat), .ref T1]) ∧ (∀ xs, SqL K H a xs → xs[i]? = some x) ∧ ∀ ys, SqL K H b ys → ys[i]? = some y
  stop := fun i H => ∃ xs ys : List V, SqL K H a xs ∧ SqL K H b ys ∧ xs.length = i ∧ ys.length = i
theorem adN (N : Nat) : N + 5 ≠ N + 4 ∧ N + 5 ≠ N + 3 ∧ N + 5 ≠ N ∧ N + 5 ≠ N + 1 ∧ N + 2 ≠ N + 4 ∧ N + 2 ≠ N + 3 ∧ N + 2 ≠ N ∧ N + 2 ≠ N + 1 ∧ N + 4 ≠ N + 5 ∧ N + 3 ≠ N + 5 ∧ N ≠ N + 5 ∧ N + 1 ≠ N + 5 ∧ N + 2 ≠ N + 5 := by omega
theorem adL {N M c : Nat} (h : N + 5 < M) (hc : c = N + 5 ∨ c = N + 4 ∨ c = N + 2 ∨ c = N + 3 ∨ c = N ∨ c = N + 1) : c ≠ M ∧ c ≠ M + 1 ∧ N ≤ c := by omega
theorem adG {N c : Nat} (hc : c = N + 5 ∨ c = N + 4 ∨ c = N + 2 ∨ c = N + 3 ∨ c = N ∨ c = N + 1) : N ≤ c := by omega
theorem turn_enumZN {P : Program} {w : World} {K : PySem.W.Frag} {elts : List Expr} {kk : Nat} {tpos : Pos} {a b N : Addr} (la : a < N) (lb : b < N) :
    Turn P w K (.Tuple elts kk tpos) (IteZ K a b) [N + 5, N + 4, N + 2, N + 3, N, N + 1] (N + 5) (fun i h => (∃ old, IsEnum h (N + 5) (N + 4) ((i : Nat) : Int) old) ∧ (∃ v c, IsZipG h (N + 4) (N + 2) (N + 3) v c ∧ (v = .none ∨ ∃ T0 : Addr, v = rawInt T0)) ∧ IsTupOf2 h (N + 2) (.ref N) (.ref (N + 1)) ∧ (∃ x y, IsTupOf2 h (N + 3) x y) ∧ h.IsListIter N a i ∧ h.IsListIter (N + 1) b i) where
  mem := List.mem_cons_self ..
  obj := fun i h ⟨⟨old, he⟩, ⟨v, c', hz, _⟩, hTI, ⟨x, y, hTO⟩, ⟨o1, g1, _, d1⟩, ⟨o2, g2, _, d2⟩⟩ c hc => by
    have hc' : c = N + 5 ∨ c = N + 4 ∨ c = N + 2 ∨ c = N + 3 ∨ c = N ∨ c = N + 1 := by simpa using hc
    rcases hc' with z | z | z | z | z | z <;> subst z
    · exact ⟨_, he, fun v q => nomatch q⟩
    · exact ⟨_, hz, fun v q => nomatch q⟩
    · exact ⟨_, hTI, fun v q => nomatch q⟩
    · exact ⟨_, hTO, fun v q => nomatch q⟩
    · exact ⟨o1, g1, fun v q => by rw [d1] at q; cases q⟩
    · exact ⟨o2, g2, fun v q => by rw [d2] at q; cases q⟩
  keep := fun i h h' ⟨⟨old, he⟩, ⟨v, c, hz, hv⟩, hTI, ⟨x, y, hTO⟩, l1, l2⟩ k => ⟨⟨old, k _ (by simp) _ he⟩, ⟨v, c, k _ (by simp) _ hz, hv⟩, k _ (by simp) _ hTI, ⟨x, y, k _ (by simp) _ hTO⟩, l1.at fun o q => k _ (by simp) o q, l2.at fun o q => k _ (by simp) o q⟩
  item := by
    intro X hP hw hK hc i pins s σ H E I hf ⟨⟨old, he⟩, ⟨v, cc, hz, hv⟩, hTI, ⟨u1, u2, hTO⟩, l1, l2⟩ ⟨xs, ys, x, y, ha, hb, hx, hy⟩
    subst hP hw hK
    obtain ⟨its, rv, p1, _⟩ := I.list ha
    obtain ⟨its2, rv2, p2, _⟩ := I.list hb
    obtain ⟨r1, hr1, rr1⟩ := rv.get hx
    obtain ⟨r2, hr2, rr2⟩ := rv2.get hy
    have S := zip_sep2 (N := N) (fp1 := [a]) (fp2 := [b]) (by simpa using la) (by simpa using lb)
    obtain ⟨n54, n53, n50, n51, n24, n23, n20, n21, n45, n35, n05, n15, n25⟩ := adN N
    have lt : ∀ {c o}, s.heap.get? c = some o → c < s.heap.objs.size := fun e => Heap.lt_size e
    refine enumG_item (R := fun v h1 tk => ∃ x1 x2 T0 b' w1 w2, v = .ref s.heap.objs.size ∧ its.toArray[i]? = some x1 ∧ its2.toArray[i]? = some x2 ∧ IsZipG h1 (N + 4) (N + 2) (N + 3) (rawInt (T0 : Addr)) b' ∧ IsTupOf2 h1 (N + 3) w1 w2 ∧ h1.IsListIter N a (i + 1) ∧ h1.IsListIter (N + 1) b (i + 1) ∧ IsTupOf2 h1 s.heap.objs.size x1 x2 ∧ h1.objs.size = s.heap.objs.size + 1 ∧
      (∀ c o, c ≠ N + 4 → c ≠ N + 3 → c ≠ N → c ≠ N + 1 → s.heap.get? c = some o → h1.get? c = some o)) he ?_ ?_ ?_
    · intro Q' E' kk
      refine zipG_nextOf (P1 := fun i v => its.toArray[i]? = some v) (P2 := fun i v => its2.toArray[i]? = some v) (St1 := fun i h => h.IsListIter N a i ∧ h.IsList a its.toArray) (St2 := fun i h => h.IsListIter (N + 1) b i ∧ h.IsList b its2.toArray) S
        (fun A hA => Draws.list hA _ a (Nat.ne_of_lt la) its.toArray) (fun A hA => Draws.list hA _ b (Nat.ne_of_lt (Nat.lt_succ_of_lt lb)) its2.toArray) (I.ok.hd hc) hz hv hTI hTO ⟨l1, p1.isList⟩ ⟨l2, p2.isList⟩ ?_ ?_ fun x1 x2 T0 b' w1 w2 h' tk a1 a2 a3 a4 a5 a6 a7 a8 a9 => ?_
      · have := (List.getElem?_eq_some_iff.mp hr1).1
        simpa using this
      · have := (List.getElem?_eq_some_iff.mp hr2).1
        simpa using this
      · exact kk _ h' tk ⟨x1, x2, T0, b', w1, w2, rfl, a1, a2, a3, a4, a5.1, a6.1, a7, a8, a9⟩
    · rintro v h1 tk ⟨x1, x2, T0, b', w1, w2, rfl, a1, a2, a3, a4, a5, a6, a7, a8, a9⟩
      exact a9 _ _ n54 n53 n50 n51 he
    · rintro v h1 t0 h' ⟨x1, x2, T0, b', w1, w2, rfl, a1, a2, a3, a4, a5, a6, a7, a8, a9⟩ b1 b2 b3 b4
      have ex1 : x1 = r1 := by
        have : its[i]? = some x1 := by simpa using a1
        rw [hr1] at this
        exact (Option.some.inj this).symm
      have ex2 : x2 = r2 := by
        have : its2[i]? = some x2 := by simpa using a2
        rw [hr2] at this
        exact (Option.some.inj this).symm
      subst ex1
      subst ex2
      have eN : N + 5 < s.heap.objs.size := lt he
      refine ⟨_, rfl, wpAny_letOwnedTupleGo_enum (s := { s with heap := h', toks := t0 + 1 }) b1 fun h2 he' sb => ?_⟩
      have old1 : ∀ c o, c ∉ [N + 5, N + 4, N + 2, N + 3, N, N + 1] → s.heap.get? c = some o → h1.get? c = some o := fun c o hm e => a9 c o (fun q => hm (by simp [q])) (fun q => hm (by simp [q])) (fun q => hm (by simp [q])) (fun q => hm (by simp [q])) e
      have up2 : ∀ c o, c ≠ N + 5 → h1.get? c = some o → h2.get? c = some o := fun c o hm e => (sb.2 c hm).trans (b4 c o hm e)
      have I1 : Inv X pins σ (upd H s.heap.objs.size (.tup [x, y])) { s with heap := h1, toks := t0 } := I.turnedNew (t' := t0) (ch := [N + 5, N + 4, N + 2, N + 3, N, N + 1]) old1 hf (Nat.le_refl _)
        ⟨by show 2 ≤ sizeLine; decide, [x1, x2], .cons rr1 (.cons rr2 .nil), ⟨_, a7, rfl, _, rfl⟩⟩
      have fr1 : H s.heap.objs.size = none := I.hok.fresh (Nat.le_refl _)
      have fr2 : (upd H s.heap.objs.size (.tup [x, y])) h1.objs.size = none := I1.hok.fresh (Nat.le_refl _)
      have n12 : s.heap.objs.size ≠ h1.objs.size := by
        rw [a8]
        exact (Nat.succ_ne_self _).symm
      have hf1 : ∀ c ∈ [N + 5, N + 4, N + 2, N + 3, N, N + 1], (upd H s.heap.objs.size (.tup [x, y])) c = none := fun c hm => by
        have hc' : c = N + 5 ∨ c = N + 4 ∨ c = N + 2 ∨ c = N + 3 ∨ c = N ∨ c = N + 1 := by simpa using hm
        rw [upd_ne (adL eN hc').1]
        exact (hf c hm).1
      have I2 : Inv X pins σ (upd (upd H s.heap.objs.size (.tup [x, y])) h1.objs.size (.tup [.int (i : Nat), .ref s.heap.objs.size])) { s with heap := h2, toks := t0 + 1 } := I1.turnedNew (t' := t0 + 1) (ch := [N + 5]) (fun c o hm e => up2 c o (by simpa using hm) e) (fun c hm => by
          have hm : c = N + 5 := by simpa using hm
          subst hm
          exact ⟨hf1 _ (by simp), (hf _ (by simp)).2⟩) (Nat.le_refl _)
        ⟨by show 2 ≤ sizeLine; decide, [.int i t0, .ref s.heap.objs.size], .cons ⟨_, rfl⟩ (.cons rfl .nil), ⟨_, (sb.2 _ (by rw [a8]; exact (adL eN (.inl rfl)).2.1.symm)).trans b2, rfl, _, rfl⟩⟩
      have e1 : ((i + 1 : Nat) : Int) = (i : Int) + 1 := by omega
      refine ⟨.ref h1.objs.size, _, I2, rfl, ⟨_, _, x, y, rfl, fr1, ?_, n12, rfl, fun l hl => by rw [I.list_inj hl ha]; exact hx, fun l hl => by rw [I.list_inj hl hb]; exact hy⟩, ⟨⟨_, by rw [e1]; exact he'⟩, ⟨_, b', up2 _ _ n45 a3, .inr ⟨T0, rfl⟩⟩, up2 _ _ n25 (a9 _ _ n24 n23 n20 n21 hTI), ⟨w1, w2, up2 _ _ n35 a4⟩, a5.at fun o q => up2 _ _ n05 q, a6.at fun o q => up2 _ _ n15 q⟩, fun c hm => ?_⟩
      · rw [upd_ne n12.symm] at fr2
        exact fr2
      · have hc' : c = N + 5 ∨ c = N + 4 ∨ c = N + 2 ∨ c = N + 3 ∨ c = N ∨ c = N + 1 := by simpa using hm
        rw [upd_ne (by rw [a8]; exact (adL eN hc').2.1)]
        exact hf1 c hm
  done := by
    intro X hP hw hK hc i pins s σ H E I hf ⟨⟨old, he⟩, ⟨v, cc, hz, hv⟩, hTI, ⟨u1, u2, hTO⟩, l1, l2⟩ ⟨xs, ys, ha, hb, hx, hy⟩
    subst hP hw hK
    obtain ⟨its, rv, p1, _⟩ := I.list ha
    obtain ⟨its2, rv2, p2, _⟩ := I.list hb
    have S := zip_sep2 (N := N) (fp1 := [a]) (fp2 := [b]) (by simpa using la) (by simpa using lb)
    have ei : its.toArray.size = i := by
      have := rv.length
      simp
      omega
    refine enumG_end (R := fun s' => Inv X pins σ H s') he ?_ fun s' hs' => ⟨rfl, hs'⟩
    intro Q' E' kk
    refine zipG_nextEnd (P1 := fun i v => its.toArray[i]? = some v) (P2 := fun i v => its2.toArray[i]? = some v) (St1 := fun i h => h.IsListIter N a i ∧ h.IsList a its.toArray) (St2 := fun i h => h.IsListIter (N + 1) b i ∧ h.IsList b its2.toArray) (n2 := its2.toArray.size) S
        (fun A hA => Draws.list hA _ a (Nat.ne_of_lt la) its.toArray) (fun A hA => Draws.list hA _ b (Nat.ne_of_lt (Nat.lt_succ_of_lt lb)) its2.toArray) (I.ok.hd hc) hz hv hTI ⟨by rw [ei]; exact l1, p1.isList⟩ fun h' tk e a9 he => ?_
    exact kk h' tk e he (I.turnedL (t' := tk) (ch := [N + 5, N + 4, N + 2, N + 3, N, N + 1]) (fun c o hm q => a9 c o (fun z => hm (by simp [z])) (fun z => hm (by simp [z])) (fun z => hm (by simp [z])) q) hf)
  self := fun A i s Q E ⟨⟨_, he⟩, _⟩ h => wpAny_pyIter_enum he h
def iEnumZN (K : PySem.W.Frag) (ta : TA) : TI := fun σ H R => ta σ H fun vs H1 => ∃ a b xs ys, vs = [.ref a, .ref b] ∧ SqL K H1 a xs ∧ SqL K H1 b ys ∧ R (IteZ K a b) H1
theorem pi_enumZN {X : Cx} {elts : List Expr} {kk : Nat} {tpos : Pos} {e e2 : Expr} {ta : TA} {p p2 pos pos2 : Pos} (hge : Gl X "enumerate") (hme : X.mg "enumerate" = none) (hg : Gl X "zip") (hm : X.mg "zip" = none) (ha : PA X [e, e2] ta)
    (hs : starEach [e, e2] X.env = (false, eval e X.env) :: starEach [e2] X.env := by rfl) (hpl : (backTo pos2 (starEach [e2] X.env)).any (·.1) = false := by rfl)
    (na : starEach [.Call (.Name "zip" p2) [e, e2] [] pos2] X.env = (false, eval (.Call (.Name "zip" p2) [e, e2] [] pos2) X.env) :: starEach [] X.env := by rfl) :
    PI X (.Tuple elts kk tpos) (.Call (.Name "enumerate" p) [.Call (.Name "zip" p2) [e, e2] [] pos2] [] pos) (iEnumZN X.K ta) := by
  refine ⟨fun pins s σ H R I h => ?_⟩
  refine Call_ (ld_blt I hge hme boot_enumerate (PyProof.Rows.callWith_type1 (args_cons ?_ na) na))
  refine Call_ (ld_blt I hg hm PyProof.Rows.boot_zip (PyProof.Rows.callWith_type1 (thn (ha.run pos2 pins s σ H _ I h) fun us s1 ⟨vs, H1, I1, r1, q1⟩ => ?_) hs hpl))
  obtain ⟨a, b, xs, ys, ex, hqx, hqy, q⟩ := q1
  subst ex
  cases r1 with
  | cons r rr =>
    cases rr with
    | cons r' rr =>
      cases rr
      cases r
      cases r'
      obtain ⟨its, rv, p1, zs⟩ := I1.list hqx
      obtain ⟨its2, rv2, p2', _⟩ := I1.list hqy
      have la : a < s1.heap.objs.size := p1.lt
      have lb : b < s1.heap.objs.size := p2'.lt
      refine zip_begins2 (begins_list a its.toArray) (begins_list b its2.toArray) p1.isList p2'.isList fun h1 hz hTI hTO g1 g2 hsz hk => args_nil ?_
      refine call_enumZ (s := { s1 with heap := h1 }) hz fun h2 he hk2 => ?_
      rw [show ({ s1 with heap := h1 } : Shared).heap.objs.size = s1.heap.objs.size + 5 from hsz] at he ⊢
      refine wpAny_pyIter_enum he ?_
      have up := fun b u x => hk2 b u (hk b u x)
      refine ⟨s1.heap.objs.size + 5, _, _, _, H1, rfl, I1.kept (t' := s1.toks) up, turn_enumZN la lb, ⟨⟨_, he⟩, ⟨.none, false, hk2 _ _ hz, .inl rfl⟩, hk2 _ _ hTI, ⟨_, _, hk2 _ _ hTO⟩, ⟨_, hk2 _ _ g1, rfl, rfl⟩, ⟨_, hk2 _ _ g2, rfl, rfl⟩⟩, fun c hcm => ?_, q⟩
      have hle : s1.heap.objs.size ≤ c := by
        have hc' : c = s1.heap.objs.size + 5 ∨ c = s1.heap.objs.size + 4 ∨ c = s1.heap.objs.size + 2 ∨ c = s1.heap.objs.size + 3 ∨ c = s1.heap.objs.size ∨ c = s1.heap.objs.size + 1 := by simpa using hcm
        exact adG hc'
      exact I1.fpOk hle (I1.hok.fresh hle)
theorem walk_enumZ {K : PySem.W.Frag} {a b : Addr} {xs ys : List V} (hl : ys.length = xs.length) : Walk (IteZ K a b) xs.length (fun H => SqL K H a xs ∧ SqL K H b ys) (fun i H v H' => ∃ T1 T2 x y, v = .ref T2 ∧ H T1 = none ∧ H T2 = none ∧ T1 ≠ T2 ∧ H' = upd (upd H T1 (.tup [x, y])) T2 (.tup [.int (i : Nat), .ref T1]) ∧ xs[i]? = some x ∧ ys[i]? = some y) := by
  refine ⟨fun i _ hi q => ⟨xs, ys, xs[i], ys[i], q.1, q.2, by simp [hi], by simp [hl, hi]⟩, fun _ q => ⟨xs, ys, q.1, q.2, rfl, hl⟩, fun i H v H' _ q y => ?_⟩
  obtain ⟨T1, T2, x, z, h1, h2, h3, h4, h5, h6, h7⟩ := y
  exact ⟨T1, T2, x, z, h1, h2, h3, h4, h5, h6 xs q.1, h7 ys q.2⟩
end Sz
/-! sorted(d) of a dict of any number of integer keys -/
namespace Sz
open PySem PySem.Spec PyProof.Rows L2
theorem ints_keys {acc : List Value} {vs : List (L2.Key × Value)} {ks : List Int} (hk : vs.map (·.1) = ks.map Sum.inl) (hl : acc.length = ks.length) (h : ∀ (j : Nat) (v : Value), acc[j]? = some v → ∃ (k : L2.Key) (x : Value), vs[j]? = some (k, x) ∧ keyIs k v = true) : IntsAre acc ks :=
  ints_each hl fun j v e => by
    obtain ⟨k, x, e1, e2⟩ := h j v e
    have e3 : (vs.map (·.1))[j]? = some k := by
      rw [List.getElem?_map, e1]
      rfl
    rw [hk, List.getElem?_map] at e3
    cases e4 : ks[j]? with
    | none =>
      rw [e4] at e3
      cases e3
    | some y =>
      rw [e4] at e3
      have e5 : Sum.inl y = k := Option.some.inj e3
      subst e5
      rcases keyIs_shape (show keyIs (Sum.inl y) v = true from e2) with ⟨i, t, ek, ev⟩ | ⟨z, t, ek, ev⟩
      · cases ek
        exact ⟨y, t, rfl, ev⟩
      · cases ek
def rSortDX : List V → Hp → VK → Prop := fun xs H Q => ∃ (a : Addr) (kvs : List (L2.Key × V)) (ks : List Int), xs = [.ref a] ∧ Rd H a (.dK kvs) ∧ kvs.map (·.1) = ks.map Sum.inl ∧ ∀ (ys : List Int) (p : Addr), ys.Perm ks → ys.Pairwise (· ≤ ·) → H p = none → Q (.ref p) (upd H p (.lst (ys.map V.int)))
theorem call_sortedDX {X : Cx} (hcalm : X.calm = true) : CallR X (.builtin "sorted") rSortDX := by
  intro pins s σ H xs us Q I r ⟨a, kvs, ks, ex, hd, hks, q⟩
  subst ex
  obtain ⟨u, eu, rx⟩ := vals1 r
  subst eu
  cases rx
  obtain ⟨z, lo, vs, rel, dd⟩ := dk_rd I.hok hd
  obtain ⟨ep, hat⟩ := dd.dictAt
  have hkeys : vs.map (·.1) = ks.map Sum.inl := rel.keys.symm.trans hks
  have hl : vs.length = ks.length := by simpa using congrArg List.length hkeys
  have hz : vs.length ≤ sizeLine := by
    rw [← rel.length]
    exact z
  refine Calls.call_function_entry kind_sorted plain_sorted entry_sorted (args_sorted1 _) ?_
  unfold Builtin.«sorted»
  refine wpAny_bind (m := checkCount "sorted" 1 1 _) (wpAny_pure (wpAny_bind ?_))
  refine PySem.W.kdu_collect (A := X.A.in1) (PySem.W.kdl_dict (knd := mixKind X.prog X.w) (kvs := vs) (ep := ep) lo) (I.ok.hd hcalm) hat hz fun h' tk acc hk hacc => ?_
  have hal : acc.toList.length = ks.length := by rw [Array.length_toList, hacc.1, hl]
  have hS : IntsAre acc.toList ks := ints_keys hkeys hal fun j v e => hacc.2 j v (by rw [← Array.getElem?_toList]; exact e)
  have hz2 : acc.toList.length ≤ sizeLine := by omega
  have I1 : Inv X pins σ H { s with heap := h', toks := tk } := I.kept hk
  refine wpAny_bind (wpAny_newList ?_ hz2)
  have hoL : (h'.push (seqObj "list" acc.toList.toArray 0)).get? h'.objs.size = some (seqObj "list" acc.toList.toArray 0) := Heap.get?_push_size _ rfl
  show wpAny _ _ _ _ _ { s with heap := h'.push (seqObj "list" acc.toList.toArray 0), toks := tk }
  refine wpAny_bind (wpAny_holding (wpAny_call_entry slot_list_sort ⟨_, hoL, rfl⟩ entry_list_sort (SrtO.list_sort_ord (s := { s with heap := h'.push (seqObj "list" acc.toList.toArray 0), toks := tk }) SrtO.swo_int hoL hz2 (fun h2 => SrtO.ints_sortable hS h2) fun out h1 h2 => ⟨_, rfl, ?_⟩) (args_list_sort _)))
  obtain ⟨k1, k2, k3⟩ := SrtO.ints_out hS h1 h2
  obtain ⟨e', he'⟩ := sortedHeap_at (vs := acc.toList) (out := out.toArray) hoL
  have hlen : ((out.map SrtO.iv).map V.int).length ≤ sizeLine := by
    rw [List.length_map, k2.length_eq, ← hal]
    exact hz2
  refine wpAny_pure ⟨_, rfl, .ref h'.objs.size, upd H h'.objs.size (.lst ((out.map SrtO.iv).map V.int)), I1.laid (t' := tk) (fun b u e => ?_) (Nat.le_refl _) (show ObjOk X.prog X.w _ _ _ (.lst ((out.map SrtO.iv).map V.int)) from ⟨hlen, out, e', vals_of_ints k1, he'⟩), rfl, q _ _ k2 k3 (I1.hok.fresh (Nat.le_refl _))⟩
  have hb : b < h'.objs.size := Heap.lt_size e
  rw [sortedHeap_old (Nat.ne_of_lt hb) (by rw [size_push']; exact Nat.lt_succ_of_lt hb)]
  exact Heap.get?_push_of_some _ e
end Sz
/-! errors: defs that raise, a try with a tuple of classes, a def that looks at the error that is handled -/
namespace Sz
open PySem PySem.Spec PyProof.Rows L2
section
variable {P : Program} {w : World} {K : PySem.W.Frag} {mg : Str → Option Value} {base : Heap}
/-- a def that may raise -/
theorem Prom.ofX {x : Str} {st : Stmt} {ps N : List Str} {sp : Sp} {k : Nat} (D : DefAt K mg x st) (S : FnScope N ps (defScope st)) (len : ∀ vs H Q E, sp vs H Q E → vs.length = ps.length)
    (hb : ∀ (kV doc pm : Value) (an : Option Addr) (cdv ct : Value) (us : List Value), us.length = ps.length → bindArgs (PySem.W.fnOf x x (defArgs st) (defBody st) (defScope st) .none kV doc pm an cdv ct) ⟨us, []⟩ = pure (ps.zip us))
    (hbody : ∀ (f : Addr) (cdv : Value) (A : Around) (outer : List Env) (s : Shared) (H : Hp) (vs : List V) (Q : VK) (E : XK), Room k (A.deeper (envOfC x (defScope st) s.heap.objs.size f cdv)) → sp vs H Q E →
      ∃ t, PSs (cxOf (L2.CX P w) P w K mg base N x (defScope st) f cdv A outer s H E) (defBody st) t ∧ t { nx := fun _ H' => Q .non H', rt := Q } (start N vs) H) :
    Prom P w K mg base (L2.CX P w) (k + 1) x st ps sp := by
  obtain ⟨f, fd, F, hm⟩ := D
  exact ⟨f, fd, F.ok S len (fun cdv A outer s H vs Q E hr hs => hbody f cdv A outer s H vs Q E hr hs), hm, F, F.bindsN hb⟩
end
/-! ### a def that is handed the error, called in the except suite: p, the error's address and object -/
structure FnP (P : Program) (w : World) (K : PySem.W.Frag) (mg : Str → Option Value) (base : Heap) (k : Nat) (f : Addr) (fd : FuncData) (ps : List Str) (sp : Addr × Obj → Sp) : Prop where
  len : ∀ p vs H Q E, sp p vs H Q E → vs.length = ps.length
  run : ∀ (A : Around) (outer : List Env) (s : Shared) (H : Hp) (args : Args) (us : List Value) (vs : List V) (Q : VK) (E : XK) (p : Addr × Obj), L2H.RoomH k A → A.guards = some [] → L2H.PinOk outer H s p → Env0 P w K mg base A outer s H →
    BindsTo s fd args (ps.zip us) → Vals vs us → sp p vs H Q E → codeAny (model P w) A (.call (.ref f) args) (CR CX0 outer P w H s Q E) s
theorem fnP_of {P : Program} {w : World} {K : PySem.W.Frag} {mg : Str → Option Value} {base : Heap} {k : Nat} {f : Addr} {x q : Str} {pr : Arguments} {bd : List Stmt} {sc : Scope} {dvs : List V} {kws : List (Str × V)} {fd : FuncData} {N ps : List Str} {sp : Addr × Obj → Sp}
    (F : FunD K x q pr bd sc dvs kws f fd) (S : FnScope N ps sc) (len : ∀ p vs H Q E, sp p vs H Q E → vs.length = ps.length)
    (hbody : ∀ (cdv : Value) (A : Around) (outer : List Env) (s : Shared) (H : Hp) (vs : List V) (Q : VK) (E : XK) (p : Addr × Obj), L2H.RoomH k (A.deeper (envOfC q sc s.heap.objs.size f cdv)) → (A.deeper (envOfC q sc s.heap.objs.size f cdv)).guards = some [] → sp p vs H Q E →
      ∃ t, PSs (L2H.cxH CX0 P w K mg base N q sc f cdv A outer s H E p).nox bd t ∧ t { nx := fun _ H' => Q .non H', rt := Q } (start N vs) H) : FnP P w K mg base (k + 1) f fd ps sp := by
  obtain ⟨c1, c2, c3, c4, c5, c6, c7, cdv, c9, c10, rfl, look, code, _, _⟩ := F.ex
  refine ⟨len, fun A outer s H args us vs Q E p room gd pin e0 hbind rel want => ?_⟩
  have old : ∀ b o, base.get? b = some o → s.heap.get? b = some o := fun b o e => (e0.bs b o e).1
  have inK : K.In s.heap := e0.mod.kin.keeps old
  have kinds : ∀ y ∈ ps.zip us, sc.names.lookup y.1 = some .local ∨ (sc.names.lookup y.1 = some .cell ∧ ((cellsFrom (s.heap.objs.size + 1) sc.names []).lookup y.1).isSome = true) := by
    rintro ⟨n, v⟩ hy
    have hm : n ∈ ps := (List.of_mem_zip hy).1
    cases S.par n hm with
    | inl z => exact Or.inl z
    | inr z => exact Or.inr ⟨z, PySem.W.cellsFrom_some _ _ _ (.inl z)⟩
  obtain ⟨t, dt, rt⟩ := hbody cdv A outer s H vs Q E p (room.deeper _) gd want
  have dt := dt.nox
  refine codeAny_call_function room.depth (inK _ _ look) rfl S.co S.gen rfl (PySem.W.codeRec_of inK code) ?_
  refine hbind _ _ _ _ (wpAny_newFunctionEnv_cells S.kind kinds ?_)
  rintro _ rfl s1 ic
  refine ⟨(e0.mod.nolimit.keeps old).keeps ic.toInCall.keep, codeAny_func ?_⟩
  refine wpAny_mono (dt.run [] s1 (start N vs) H _ (L2H.inv_startH S pin e0 (len _ _ _ _ _ want) rel ic) rt) ?_ (fun _ _ z => z)
  intro fl s' hs
  cases fl with
  | ret u => exact let ⟨v, _, H', J, rv, qv⟩ := hs; ⟨v, H', J.os, J.bare, J.base, J.hok, rv, qv⟩
  | next => exact let ⟨_, H', J, qv⟩ := hs; ⟨.non, H', J.os, J.bare, J.base, J.hok, rfl, qv⟩
  | brk => exact let ⟨_, _, _, qv⟩ := hs; False.elim qv
  | cont => exact let ⟨_, _, _, qv⟩ := hs; False.elim qv
/-- the def named x keeps the promise sp of the error at p -/
structure PromP (P : Program) (w : World) (K : PySem.W.Frag) (mg : Str → Option Value) (base : Heap) (k : Nat) (x : Str) (st : Stmt) (ps : List Str) (sp : Addr × Obj → Sp) : Prop where
  ex : ∃ f fd, FnP P w K mg base k f fd ps sp ∧ mg x = some (.ref f) ∧ FunD K x x (defArgs st) (defBody st) (defScope st) [] [] f fd ∧ Binds K fd ps []
theorem PromP.of {P : Program} {w : World} {K : PySem.W.Frag} {mg : Str → Option Value} {base : Heap} {x : Str} {st : Stmt} {ps N : List Str} {sp : Addr × Obj → Sp} {k : Nat} (D : DefAt K mg x st) (S : FnScope N ps (defScope st)) (len : ∀ p vs H Q E, sp p vs H Q E → vs.length = ps.length)
    (hb : ∀ (kV doc pm : Value) (an : Option Addr) (cdv ct : Value) (us : List Value), us.length = ps.length → bindArgs (PySem.W.fnOf x x (defArgs st) (defBody st) (defScope st) .none kV doc pm an cdv ct) ⟨us, []⟩ = pure (ps.zip us))
    (hbody : ∀ (f : Addr) (cdv : Value) (A : Around) (outer : List Env) (s : Shared) (H : Hp) (vs : List V) (Q : VK) (E : XK) (p : Addr × Obj), L2H.RoomH k (A.deeper (envOfC x (defScope st) s.heap.objs.size f cdv)) → (A.deeper (envOfC x (defScope st) s.heap.objs.size f cdv)).guards = some [] → sp p vs H Q E →
      ∃ t, PSs (L2H.cxH CX0 P w K mg base N x (defScope st) f cdv A outer s H E p).nox (defBody st) t ∧ t { nx := fun _ H' => Q .non H', rt := Q } (start N vs) H) :
    PromP P w K mg base (k + 1) x st ps sp := by
  obtain ⟨f, fd, F, hm⟩ := D
  exact ⟨f, fd, fnP_of F S len (fun cdv A outer s H vs Q E p hr hg hs => hbody f cdv A outer s H vs Q E p hr hg hs), hm, F, F.bindsN hb⟩
section
variable {X : Cx} {k : Nat} {x : Str} {st : Stmt} {ps : List Str} {sp : Addr × Obj → Sp} {e : Expr} {es : List Expr} {t : TA} {p pos : Pos} {a : Addr} {oe : Obj} {pn : List (Addr × Obj)}
/-- f(..) in the suite that handles the error at a -/
theorem pe_callE (G : PromP X.prog X.w X.K X.mg X.base k x st ps sp) (gd : X.A.guards = some []) (hr : L2H.RoomH k X.A) (hg : Gl X x) (hs : X.stack = X.env :: X.outer) (ha : PA (X.suite a ((a, oe) :: pn)) (e :: es) t)
    (hdb : (x == ("__debug__" : Str)) = false := by decide) (he : starEach (e :: es) X.env = (false, eval e X.env) :: starEach es X.env := by rfl) (hpl : (backTo pos (starEach es X.env)).any (·.1) = false := by rfl) :
    PE (X.suite a ((a, oe) :: pn)) (.Call (.Name x p) (e :: es) [] pos) (tCall (sp (a, oe)) [] E0 t) := by
  obtain ⟨f, fd, F, hm, D, hb⟩ := G.ex
  constructor
  intro pins s σ H Q I h
  refine wpAny_Call_Name_kw (ld_glob I hg hm (PySem.W.callWith_K (h₀ := X.base) I.ok.mod.kin D.kp (thn (ha.run pos pins s σ H _ I h) ?_) he hpl) hdb)
  rintro us s1 ⟨vs, H1, I1, rel, want⟩
  have pin : L2H.PinOk X.stack H1 s1 (a, oe) := by
    obtain ⟨p1, p2, p3, p4, p5⟩ := I1.pin (a, oe) (List.mem_append_left _ (List.mem_cons_self ..))
    refine ⟨p1, p2, fun z => ?_, p5⟩
    rw [hs] at z
    obtain ⟨en, hen, q⟩ := List.mem_filterMap.mp z
    rcases List.mem_cons.mp hen with z | z
    · subst z
      have nf := I1.ok.stk
      rcases nf with nf | ⟨_, nf⟩
      · have nf : X.stack = X.outer := nf
        rw [hs] at nf
        exact absurd (congrArg List.length nf) (by simp)
      · have nf : X.env.frame = some X.env.locals := nf
        rw [nf] at q
        exact p3 (Option.some.inj q).symm
    · exact p4 (List.mem_filterMap.mpr ⟨en, z, q⟩)
  refine ⟨I1.kIn, wpAny_call (codeAny_mono (F.run (X.A.mark (some (.ref a))) X.stack s1 H1 ⟨us, []⟩ (us ++ []) (vs ++ []) Q E0 (a, oe) ⟨hr.dp, hr.un⟩ gd pin I1.env0 (hb s1 us I1.kIn ?_) (rel.append .nil) want) ?_)⟩
  · rw [← (rel.append Paired.nil).length]
    exact F.len _ _ _ _ _ want
  · intro r s' hq
    cases r with
    | error z => exact False.elim hq
    | ok fl =>
      cases fl with
      | ret u => exact I1.after hq
      | next => exact False.elim hq
      | brk => exact False.elim hq
      | cont => exact False.elim hq
end
/-! ### except clauses with names, by a class or by three of them -/
/-- what the test of a clause does: nothing but new objects, and the word whether the error is of one of these classes -/
def TestOk (X : Cx) (t : Expr) (cs : List Value) : Prop := ∀ (a : Addr) (oe : Obj) (pn pins : List (Addr × Obj)) (s : Shared) (σ : L2.St) (H : Hp) (b : Bool) (Q : Bool → Shared → Prop) (E : Value → Shared → Prop),
  Inv (X.suite a ((a, oe) :: pn)) pins σ H s → PySem.W.exmAny X.K oe.cls cs = some b → (∀ h', (∀ c o, s.heap.get? c = some o → h'.get? c = some o) → Q b { s with heap := h' }) →
  wpAny (model X.prog X.w) (X.A.mark (some (.ref a))) (eval t X.env) (fun c s1 => wpAny (model X.prog X.w) (X.A.mark (some (.ref a))) (excMatches (.ref a) c) Q E s1) E s
theorem exmAny_one {K : PySem.W.Frag} {cls c : Value} {b : Bool} (h : PySem.W.exmAny K cls [c] = some b) : PySem.W.exmOne K cls c = some b := by
  obtain ⟨b1, d1, e1, e2, e3⟩ := PySem.W.exmAny_cons h
  have e2 : some false = some d1 := e2
  cases e2
  rw [e1, e3, Bool.or_false]
section
variable {X : Cx}
theorem looks_cls {a : Addr} {oe : Obj} {pn pins : List (Addr × Obj)} {s : Shared} {σ : L2.St} {H : Hp} (I : Inv (X.suite a ((a, oe) :: pn)) pins σ H s) : PySem.W.Looks (model X.prog X.w) s.heap (typeOf (.ref a)) oe.cls := fun A Q E s' k q =>
  wpAny_typeOf_ref (k _ _ (I.pin (a, oe) (List.mem_append_left _ (List.mem_cons_self ..))).1) q
theorem test_name {x : Str} {c : Value} {np : Pos} (hg : Gl X x) (hm : X.mg x = some c) (hd : (x == ("__debug__" : Str)) = false := by decide) : TestOk X (.Name x np) [c] := fun a oe pn pins s σ H b Q E I hx k => by
  refine ld_glob I hg hm ?_ hd
  exact (PySem.W.exm_one (M := model X.prog X.w) I.kIn (looks_cls I) (exmAny_one hx)).here (k s.heap fun _ _ z => z)
theorem test_tup {x y z : Str} {c1 c2 c3 : Value} {p1 p2 p3 tp : Pos} {e1} (g1 : Gl X x) (g2 : Gl X y) (g3 : Gl X z) (m1 : X.mg x = some c1) (m2 : X.mg y = some c2) (m3 : X.mg z = some c3)
    (d1 : (x == ("__debug__" : Str)) = false := by decide) (d2 : (y == ("__debug__" : Str)) = false := by decide) (d3 : (z == ("__debug__" : Str)) = false := by decide) :
    TestOk X (.Tuple [.Name x p1, .Name y p2, .Name z p3] e1 tp) [c1, c2, c3] := fun a oe pn pins s σ H b Q E I hx k => by
  refine wpAny_Tuple_spliced ?_
  show wpAny _ _ (spliced [(false, eval (.Name x p1) X.env), (false, eval (.Name y p2) X.env), (false, eval (.Name z p3) X.env)]) _ _ _
  refine Calls.spliced_cons (ld_glob I g1 m1 (Calls.spliced_cons (ld_glob I g2 m2 (Calls.spliced_cons (ld_glob I g3 m3 (Calls.spliced_nil ⟨(by show 3 ≤ sizeLine; decide), ?_⟩) d3)) d2)) d1)
  have kk : ∀ c o, s.heap.get? c = some o → (s.heap.push { cls := .type "tuple", data := .seq [c1, c2, c3].toArray }).get? c = some o := fun c o e => Heap.get?_push_of_some _ e
  exact (PySem.W.exm_tup3 (M := model X.prog X.w) (I.kIn.keeps kk) ((looks_cls I).keeps kk) (Heap.get?_push_size _ rfl) hx).here (k _ kk)
end
theorem fly_kept {B h h' : Heap} {l : List Env} {e : Addr} {Z : Obj → Prop} (k : ∀ b o, h.get? b = some o → h'.get? b = some o) (x : HandSPX.FlyingZ B l e Z h) : HandSPX.FlyingZ B l e Z h' := by
  obtain ⟨st, no, fr, oe, vs, T, oT, ts, a1, a2, a3, a4, a5, a6, a7, a8⟩ := x
  exact ⟨fun b o e => k b o (st b o e), no, Heap.FunFrames.of_keeps (fun b o e _ => ⟨o, k b o e, rfl⟩) fr, oe, vs, T, oT, ts, k _ _ a1, a2, a3, a4, a5, a6, k _ _ a7, a8⟩
/-- a clause: the classes, the slot of its name, the reading of its suite -/
structure Clause where
  cs : List Value
  i : Nat
  ts : Addr → Obj → Value → Option Addr → TS
/-- behind the suite the name is gone -/
def Ends.gone (D : Ends) (i : Nat) : Ends := { nx := fun σ H => D.nx (σ.set i none) H, rt := D.rt, bk := fun σ H => D.bk (σ.set i none) H, ct := fun σ H => D.ct (σ.set i none) H }
def wCl (K : PySem.W.Frag) (Wout : WX) (D : Ends) : List Clause → WX
  | [] => Wout
  | c :: r => fun cls d σ H => ∃ b, PySem.W.exmAny K cls c.cs = some b ∧ (b = true → ∀ a oe, Zc cls d oe → (∃ vs, oe.data = .fields vs) → H a = none → c.ts a oe cls d (Ends.gone D c.i) (σ.set c.i (some (.ref a))) H) ∧ (b = false → wCl K Wout D r cls d σ H)
inductive ClOk (X : Cx) : List ExceptHandler → List Clause → Prop
  | nil : ClOk X [] []
  | cons {t : Expr} {n : Str} {i : Nat} {b0 : Stmt} {suite : List Stmt} {pos : Pos} {cs : List Value} {ts : Addr → Obj → Value → Option Addr → TS} {hds : List ExceptHandler} {l : List Clause} (ht : TestOk X t cs) (hi : X.N[i]? = some n) (hl : X.env.kindOf n = some .local)
      (hs : ∀ (a : Addr) (oe : Obj) (cls : Value) (d : Option Addr) (pn : List (Addr × Obj)), Zc cls d oe → (∃ vs, oe.data = .fields vs) → PSs (X.suite a ((a, oe) :: pn)) (b0 :: suite) (ts a oe cls d)) (r : ClOk X hds l) : ClOk X (.ExceptHandler (some t) (some n) (b0 :: suite) pos :: hds) (⟨cs, i, ts⟩ :: l)
section
variable {X : Cx} {body : List Stmt} {h0 : ExceptHandler} {hds : List ExceptHandler} {l : List Clause} {pos : Pos} {tb : WX → TS} {Wout : WX}
/-- the error lies on the ground and is looked at by the clauses -/
theorem clauses_run {pins : List (Addr × Obj)} {σ : L2.St} {H : Hp} {D : Ends} {sI s' : Shared} {B : Heap} {a : Addr} {cls : Value} {d : Option Addr} (hs : X.stack = X.env :: X.outer) (hf : X.env.frame = some X.env.locals) (hN : X.N.Nodup) (tk : Takes X Wout) (J : Inv X pins σ H sI)
    (nb : ∀ b o, sI.heap.get? b = some o → b ∉ frs X.stack → B.get? b = some o) (na : H a = none) (os : s'.os = sI.os) (ag : AllBare s'.gens) {hds : List ExceptHandler} {l : List Clause} (hk : ClOk X hds l) :
    ∀ (h : Heap), HandSPX.FlyingZ B (X.env :: X.outer) a (Zc cls d) h → sI.heap.UpToSlots h → wCl X.K Wout D l cls d σ H → wpAny (model X.prog X.w) X.A (handleBy (.ref a) X.env hds) (SP X pins D) X.xe { s' with heap := h } := by
  have ok := J.ok
  have place : ∀ {h : Heap}, HandSPX.FlyingZ B (X.env :: X.outer) a (Zc cls d) h → a ≠ X.env.locals ∧ a ∉ X.fs := fun {h} fl => by
    obtain ⟨oe, vs, he, hz, hd⟩ := fl.there
    have nfr : a ∉ frs (X.env :: X.outer) := fun hm => by
      obtain ⟨_, o', e', hnf⟩ := fl.2.2.1.mem hm
      rw [he] at e'
      cases e'
      exact hnf _ hd
    exact ⟨fun z => nfr (List.mem_filterMap.mpr ⟨X.env, List.mem_cons_self, by rw [hf, z]⟩), fun hm => by
      obtain ⟨e, he, q⟩ := List.mem_filterMap.mp hm
      exact nfr (List.mem_filterMap.mpr ⟨e, List.mem_cons_of_mem _ he, q⟩)⟩
  induction hk with
  | nil =>
    intro h fl up want
    refine wpAny_handleBy_nil ?_
    obtain ⟨k1, k2, k3, oe, vs, T, oT, us, he, hz, hd, h1, hr⟩ := id fl
    unfold PySem.passOn
    refine wpAny_bind (wpAny_field he hd h1 ?_)
    rw [if_neg (show ¬ ((Value.ref T == Value.none) = true) from by simp)]
    have fin : wpAny (model X.prog X.w) X.A (setFlight (.ref a) X.env.frame) (fun _ s4 => wpAny (model X.prog X.w) X.A (throw (.ref a) : Sem Flow) (SP X pins D) X.xe s4) X.xe { s' with heap := h } := by
      rw [hf]
      exact HandSPX.setFlight_upZ fl fun h4 hh4 up4 => wpAny_throw (tk _ _ ⟨a, B, sI, pins, σ, H, cls, d, rfl, J, nb, up.trans up4, .inr (.inr (by rw [hs]; exact hh4)), na, os, ag, want⟩)
    first
      | exact wpAny_bind (wpAny_pure (wpAny_bind fin))
      | exact wpAny_bind fin
  | @cons t n i b0 suite pos cs ts hds2 l2 ht hi hln hsu r ih =>
    intro h fl up want
    obtain ⟨b, hb, yes, no⟩ := want
    obtain ⟨oe, vs, he, hz, hd⟩ := fl.there
    obtain ⟨nL, nF⟩ := place fl
    have J3 : Inv X pins σ H { s' with heap := h } := J.landed nb fl.1 up os ag
    refine wpAny_handleBy_cons (codeAny_handlers_test (ht a oe (X.pn ++ pins) [] _ σ H b _ _ (J3.suite he hd na nL nF) (by rw [hz.1]; exact hb) fun h5 k5 => ?_)) (by intro q; cases q)
    have fl5 := fly_kept k5 fl
    have up5 := up.trans (Heap.UpToSlots.of_keeps k5)
    cases b with
    | false => exact ih h5 fl5 up5 (no rfl)
    | true =>
      refine codeAny_handlers_suite_as (HandSPX.lands_againZ fl5 fun h6 fl6 up6 => ?_)
      obtain ⟨oe6, vs6, he6, hz6, hd6⟩ := fl6.there
      have J6 : Inv X pins σ H { s' with heap := h6 } := J.landed nb fl6.1 (up5.trans up6) os ag
      refine store_ok (X := X.suite a ((a, oe6) :: (X.pn ++ pins))) (v := .ref a) (J6.suite he6 hd6 na nL nF) hN hi (.inl hln) rfl (fun s7 S7 => ?_) (.inr hln)
      refine wpAny_mono ((hsu a oe6 cls d (X.pn ++ pins) hz6 ⟨_, hd6⟩).run [] s7 _ H _ S7 (yes rfl a oe6 hz6 ⟨_, hd6⟩ na)) (fun f s8 hsp => ?_) (fun _ _ z => False.elim z)
      have leave : ∀ {σ8 : L2.St} {H8 : Hp} {Q : Shared → Prop}, Inv (X.suite a ((a, oe6) :: (X.pn ++ pins))) [] σ8 H8 s8 → (∀ s9, Inv X pins (σ8.set i none) H8 s9 → Q s9) →
          wpAny (model X.prog X.w) X.A (do bindName X.env n .none; unbindBehindTheSuite X.env n pos) (fun _ s9 => Q s9) X.xe s8 := fun {σ8 H8 Q} S8 hq => gone_ok (S8.unsuite ok) hN hi hln hq
      cases f with
      | next => exact let ⟨_, _, S8, q8⟩ := hsp; leave S8 fun _ J9 => ⟨_, _, J9, q8⟩
      | brk => exact let ⟨_, _, S8, q8⟩ := hsp; leave S8 fun _ J9 => ⟨_, _, J9, q8⟩
      | cont => exact let ⟨_, _, S8, q8⟩ := hsp; leave S8 fun _ J9 => ⟨_, _, J9, q8⟩
      | ret u => exact let ⟨_, _, _, S8, r8, q8⟩ := hsp; leave S8 fun _ J9 => ⟨_, _, _, J9, r8, q8⟩
/-- try: body, except T as n: suite, .. -/
theorem ps_tryA (hs : X.stack = X.env :: X.outer) (hf : X.env.frame = some X.env.locals) (hN : X.N.Nodup) (tk : Takes X Wout)
    (hb : ∀ (W : WX) (pn : List (Addr × Obj)) (xe : Value → Shared → Prop), Takes (X.tr pn xe) W → PassesOwn (model X.prog X.w) X.A X.env xe → PSs (X.tr pn xe) body (tb W)) (hh : ClOk X (h0 :: hds) l) :
    PS X (.Try body (h0 :: hds) [] [] pos) (fun D σ H => tb (wCl X.K Wout D l) D σ H) := by
  constructor
  intro pins s σ H D I h
  have ok := I.ok
  have hfr : X.A.frames = some (X.env :: X.outer) := by rw [ok.frames, hs]
  refine wpAny_Try_except (wpAny_mono ((hb (wCl X.K Wout D l) (X.pn ++ pins) (fun e s1 => wpAny (model X.prog X.w) X.A (noteFrame e X.env) (fun _ s2 => wpAny (model X.prog X.w) X.A (setFlight e none) (fun _ s3 =>
    wpAny (model X.prog X.w) X.A (handleBy e X.env (h0 :: hds)) (SP X pins D) X.xe s3) X.xe s2) X.xe s1) (fun u s' xx => ?_) PassesOwn.looking).run [] s σ H D (I.toTry _) h) (fun f s1 hsp => ?_) (fun e s1 he => he))
  · obtain ⟨a, B, sI, pins', σ', H', cls, d, rfl, J', nb, up, sky, na, os, ag, want⟩ := xx
    have sky' : Sky B (X.env :: X.outer) a (Zc cls d) X.env.locals s'.heap := by rw [← hs]; exact sky
    show wpAny (model X.prog X.w) X.A (noteFrame (.ref a) X.env) _ _ _
    exact Sky.land Zc.steady hfr hf sky' fun h3 fl3 up3 => clauses_run hs hf hN tk (J'.ofTry ok) nb na os ag hh h3 fl3 (up.trans up3) want
  · cases f with
    | next => exact let ⟨σ', H', J', q⟩ := hsp; wpAny_execs_nil ⟨σ', H', J'.ofTry ok, q⟩
    | brk => exact let ⟨σ', H', J', q⟩ := hsp; ⟨σ', H', J'.ofTry ok, q⟩
    | cont => exact let ⟨σ', H', J', q⟩ := hsp; ⟨σ', H', J'.ofTry ok, q⟩
    | ret u => exact let ⟨v, σ', H', J', r, q⟩ := hsp; ⟨v, σ', H', J'.ofTry ok, r, q⟩
end
end Sz
/-! own errors with one field, over any built-in base -/
namespace Sz
open PySem PySem.Spec PyProof.Rows L2
/-- what is written of the error class at C: its __init__ at fI sets the field f -/
structure ErrC (K : PySem.W.Frag) (C fI : Addr) (f : Str) : Prop where
  ex : ∃ (B newId initId : String) (bmB : List Value), ExcBaseFacts B newId initId bmB ∧ StoreFacts B bmB "object.__setattr__" "object" ∧ PySem.W.excInitIn K C bmB newId = true ∧ PySem.W.excOver K C bmB = true
  sa : PySem.W.findIn K (.ref C) "__setattr__" = some (some (.builtin "object.__setattr__"))
  tk : PySem.W.takerIn K C f = some none
  hd : PySem.W.hasDictIn K C = true
  exC : PySem.W.subIn K (.ref C) (.type "BaseException") = some true
  tyC : PySem.W.typeIn K (.ref C) = some (.type "type")
  kC : PySem.W.keepIn K (.ref C) = true
  iC : PySem.W.findIn K (.ref C) "__init__" = some (some (.ref fI))
  tI : PySem.W.typeIn K (.ref fI) = some (.type "function")
section
open Builtin Builtin.ObjectAttr
variable {prog : Program} {w : World} {A : Around} {R : Result → Shared → Prop} {hp : Heap} {g : Array GenState} {d : Drawn} {t : Nat} {os : OsState}
/-- the first field of an error -/
theorem err_osa {K : PySem.W.Frag} {C fI : Addr} {f : Str} {tk : Tok} {v : Value} {x : Addr} {fv : Array Value} (T : ErrC K C fI f) (X : K.In hp) (hx : hp.get? x = some { cls := .ref C, data := .fields fv })
    (hq : ∀ h' tk' dx, (∀ b o, b ≠ x → hp.get? b = some o → h'.get? b = some o) → hp.objs.size ≤ dx → dx ≠ x → h'.get? x = some { cls := .ref C, dict := some dx, data := .fields fv } →
      h'.Ns1 dx (fun y => if y = f then some v else none) → R (.ok (.ret .none)) ⟨h', g, d, tk', os⟩) :
    codeAny (model prog w) A (.call (.builtin "object.__setattr__") ⟨[.ref x, .str f tk, v], []⟩) R ⟨hp, g, d, t, os⟩ := by
  obtain ⟨B, newId, initId, bmB, FB, SF, _, ov⟩ := T.ex
  have hxs : x ≠ hp.objs.size := Nat.ne_of_lt (Heap.lt_size hx)
  refine PySem.W.osa_openX (s := ⟨hp, g, d, t, os⟩) (od := none) SF X ⟨hx, rfl, rfl, trivial⟩ ov T.tk fun b => ?_
  show wpAny _ _ (storeInOwnDict (.ref x) (.ref C) (.str f tk) f v b) _ _ _
  obtain ⟨cd, hc, hh⟩ := PySem.W.any_some T.hd
  have hcls : PySem.W.Looks (model prog w) hp (classData C) cd := PySem.W.looks_clsIn X hc
  obtain ⟨nm, bs, mro, ns, qn, hd, sn, sb, ab, col, del⟩ := cd
  dsimp only at hh
  subst hh
  unfold storeInOwnDict ownDictForStores
  repeat (first | with_reducible refine HandSPX.store_in_new ?_ ?_ | with_reducible refine wpAny_loadPart_at hx ?_ | with_reducible refine hcls.at ?_ | wp_step)
  · exact ⟨_, #[], _, (Heap.get?_update_ne _ _ _ _ hxs.symm).trans (Heap.get?_push_at rfl rfl), rfl, fun e he => absurd he (by simp), fun _ => rfl⟩
  · intro h' tk' hn' hs
    have h1 : (hp.push { cls := .type "dict", data := .dict #[] }).get? x = some { cls := .ref C, data := .fields fv } := Heap.get?_push_of_some _ hx
    refine hq h' tk' hp.objs.size (fun b o hb ho => ?_) (Nat.le_refl _) hxs.symm ?_ hn'
    · exact (hs.2 b (Nat.ne_of_lt (Heap.lt_size ho))).trans ((Heap.get?_update_ne _ _ _ _ hb).trans (Heap.get?_push_of_some _ ho))
    · exact (hs.2 x hxs).trans (Heap.get?_update_self _ h1 rfl)
end
section
variable {X : Cx} {pins : List (Addr × Obj)} {σ : L2.St} {H : Hp} {s : Shared} {a C fI dx : Addr} {f : Str} {y : V} {u : Value}
theorem err_first {A : Around} {Q : Unit → Shared → Prop} {E : Value → Shared → Prop} (T : ErrC X.K C fI f) (I : Inv X pins σ H s) (e : H a = some (exo a C none)) (ry : RelV y u)
    (h : ∀ dx s', H dx = none → dx ≠ a → Inv X pins σ (upd (upd H dx (exd dx [(f, y)])) a (exo a C (some dx))) s' → Q () s') : wpAny (model X.prog X.w) A (setAttr (.ref a) f u) Q E s := by
  obtain ⟨t1, ho⟩ := exo_at I.hok e
  obtain ⟨hp, g, dr, t, os⟩ := s
  refine PySem.W.set_plain I.kIn (ox := { cls := .ref C, dict := none, data := .fields #[.ref t1, .none, .none, .none, .bool false, .none] }) (od := none) ⟨ho, rfl, rfl, trivial⟩ T.sa (err_osa T I.kIn ho fun h' tk' dx k dn dne hx hn => ?_)
  have free : H dx = none := I.hok.fresh dn
  have old : ∀ {b : Addr} {o : Obj}, hp.get? b = some o → b ≠ dx := fun z => Nat.ne_of_lt (Nat.lt_of_lt_of_le (Heap.lt_size z) dn)
  have off : ∀ {b : Addr}, H b = none → b ≠ a := fun n z => by
    rw [z, e] at n
    cases n
  have same : ∀ {b : Addr} {o : HO}, H b = some o → exo a C none ≠ o → (upd (upd H dx (exd dx [(f, y)])) a (exo a C (some dx))) b = some o := fun z ne => by
    rw [upd_ne (at_ne e z ne), upd_ne (ne_of_none z free)]
    exact z
  refine h dx _ free dne (I.un (t' := tk') ⟨fun b o z n _ _ => k b o (off n) z, fun b o z n _ _ => ⟨o.slots, k b o (off n) z⟩, fun b o z n _ => by rw [upd_ne (off n), upd_ne (old z)]; exact n, fun b o z _ => ?_, fun b xs z => same z exo_tup, fun b o v z => same z exo_frz, fun b ps z => ⟨#[], by rw [same z exo_tbl]; simp⟩⟩ fun b o z => ?_)
  · by_cases hb : b = a
    · exact ⟨_, by rw [hb]; exact hx⟩
    · exact ⟨o, k b o hb z⟩
  · by_cases hb : b = a
    · subst hb
      rw [upd_same] at z
      cases z
      exact exo_ok hx
    · rw [upd_ne hb] at z
      by_cases hd : b = dx
      · subst hd
        rw [upd_same] at z
        cases z
        exact exd_ok hn (relO_put (fs := []) ry fun _ => True.intro)
      · rw [upd_ne hd] at z
        refine (I.hok b o z).stay (fun c v hc q => k c v ?_ q) (fun c hc => same hc exo_own) (fun c xs hc => same hc exo_tup)
        rcases hc with hc | hc
        · rw [hc]
          exact hb
        · exact at_ne e hc exo_own
/-- self.f = e in an error's __init__ -/
theorem ps_errFld {o v : Expr} {p' pos : Pos} {to te : TE} (hop : PE X o to) (hv : PE X v te) (hs : swapsWith v (some (.Attribute o f p')) pos.line X.env = pure false := by rfl) :
    PS X (.Assign [.Attribute o f p'] v pos) (fun D σ H => te σ H fun y H1 => to σ H1 fun x H2 => ∃ a C fI : Addr, x = .ref a ∧ ErrC X.K C fI f ∧ H2 a = some (exo a C none) ∧ ∀ dx, H2 dx = none → dx ≠ a → D.nx σ (upd (upd H2 dx (exd dx [(f, y)])) a (exo a C (some dx)))) := by
  constructor
  intro pins s σ H D I h
  refine plainObj_wpAny_Assign_Attribute (thn (hv.run pins s σ H _ I h) fun w1 s1 ⟨y, H1, I1, r1, q1⟩ => thn (hop.run pins s1 σ H1 _ I1 q1) fun w2 s2 ⟨x, H2, I2, r2, a, C, fI, ex, T, ea, q⟩ => ?_) hs
  subst ex
  obtain rfl : w2 = Value.ref a := r2
  exact err_first T I2 ea r1 fun dx s' n ne J => ⟨σ, _, J, q dx n ne⟩
end
/-- what __init__ of an error class promises -/
def spErr (K : PySem.W.Frag) (C fI : Addr) (f : Str) : Sp := fun vs H Q _ => ∃ (a : Addr) (v : V), vs = [.ref a, v] ∧ ErrC K C fI f ∧ H a = some (exo a C none) ∧ ∀ dx, H dx = none → dx ≠ a → Q .non (upd (upd H dx (exd dx [(f, v)])) a (exo a C (some dx)))
/-- raise C(e) asks: the field's value, then the wish of the error with its own dict -/
def tErr (C : Addr) (f : Str) (te : TE) : L2.St → Hp → XK → Prop := fun σ H Q => te σ H fun v H1 => ∀ d, H1 d = none → Q (.ref C) (some d) (upd H1 d (.xd [(f, v)]))
section
variable {X : Cx} {x : Str} {C fI : Addr} {f : Str} {e : Expr} {te : TE} {k : Nat} {p pos : Pos} {fd : FuncData} {ps : List Str}
theorem pmk_err (T : ErrC X.K C fI f) (F1 : FnOk X.prog X.w X.K X.mg X.base CX0 k fI fd ps (spErr X.K C fI f)) (hb : Binds X.K fd ps []) (hr : Room (k + 1) X.A) (hg : Gl X x) (hm : X.mg x = some (.ref C)) (he : PE X e te)
    (hdb : (x == ("__debug__" : Str)) = false := by decide) (hst : starEach [e] X.env = (false, eval e X.env) :: starEach [] X.env := by rfl) (hpl : (backTo pos (starEach [] X.env)).any (·.1) = false := by rfl) :
    PMk X (.Call (.Name x p) [e] [] pos) (tErr C f te) := by
  intro pins s σ H Q I h
  obtain ⟨B, newId, initId, bmB, FB, SF, ini, _⟩ := T.ex
  refine wpAny_Call_Name_kw (ld_glob I hg hm ?_ hdb)
  refine PySem.W.callWith_K (h₀ := X.base) I.ok.mod.kin T.kC (thn ((pa_cons he pa_nil hst).run pos pins s σ H (fun vs H1 => match vs with | [v] => ∀ d, H1 d = none → Q (.ref C) (some d) (upd H1 d (.xd [(f, v)])) | _ => False) I h) ?_) hst hpl
  rintro us s1 ⟨vs, H1, I1, r1, q⟩
  match vs, r1, q with
  | [v], r1, q =>
    obtain ⟨uv, rfl, ru⟩ := vals1 r1
    refine ⟨I1.kIn, ?_⟩
    show wpAny _ _ (call (.ref C) [uv]) _ _ _
    obtain ⟨nm, N', qn, bs, bm, hdct, sn, sub, ab, col, dd, k0, k1, k2, k3, k5, hC, hT⟩ := PySem.W.excInit_of I1.kIn ini
    obtain ⟨hp, g, dr, tk, os⟩ := s1
    have hsz : hp.objs.size ≤ hp.objs.size + 1 := Nat.le_succ _
    have hn : H1 (hp.objs.size + 1) = none := I1.hok.fresh hsz
    have kk : ∀ b o, hp.get? b = some o → ((hp.push (PySem.W.kdv_tup [uv])).push (HandSPX.excO C hp.objs.size)).get? b = some o := fun b o z => Heap.get?_push_of_some _ (Heap.get?_push_of_some _ z)
    have hget : ((hp.push (PySem.W.kdv_tup [uv])).push (HandSPX.excO C hp.objs.size)).get? (hp.objs.size + 1) = some (HandSPX.excO C hp.objs.size) := by heap_get
    have I2 : Inv X pins σ (upd H1 (hp.objs.size + 1) (exo (hp.objs.size + 1) C none)) ⟨(hp.push (PySem.W.kdv_tup [uv])).push (HandSPX.excO C hp.objs.size), g, dr, tk, os⟩ := I1.laid (t' := tk) kk hsz (exo_ok hget)
    have r2 : Vals [V.ref (hp.objs.size + 1), v] [Value.ref (hp.objs.size + 1), uv] := .cons rfl (.cons ru .nil)
    have want : spErr X.K C fI f [V.ref (hp.objs.size + 1), v] (upd H1 (hp.objs.size + 1) (exo (hp.objs.size + 1) C none)) (fun z H2 => z = .non ∧ ∃ (d : Addr) (fs : List (Str × V)), H2 (hp.objs.size + 1) = some (exo (hp.objs.size + 1) C (some d)) ∧ H2 d = some (exd d fs) ∧ H1 d = none ∧
        Q (.ref C) (some d) (upd (del H2 (hp.objs.size + 1)) d (.xd fs))) (fun _ _ _ => False) := by
      refine ⟨_, v, rfl, T, upd_same, fun dx hdx ndx => ⟨rfl, dx, [(f, v)], upd_same, ?_, ?_, ?_⟩⟩
      · rw [upd_ne ndx, upd_same]
      · rw [upd_ne ndx] at hdx
        exact hdx
      · rw [upd_ne ndx] at hdx
        have eq : upd (del (upd (upd (upd H1 (hp.objs.size + 1) (exo (hp.objs.size + 1) C none)) dx (exd dx [(f, v)])) (hp.objs.size + 1) (exo (hp.objs.size + 1) C (some dx))) (hp.objs.size + 1)) dx (.xd [(f, v)]) = upd H1 dx (.xd [(f, v)]) := by
          funext b
          by_cases hb : b = dx
          · rw [hb, upd_same, upd_same]
          · rw [upd_ne hb, upd_ne hb]
            by_cases ha : b = hp.objs.size + 1
            · rw [ha, del_same, hn]
            · rw [del_ne ha, upd_ne ha, upd_ne hb, upd_ne ha]
        rw [eq]
        exact q dx hdx
    have hl : [Value.ref (hp.objs.size + 1), uv].length = ps.length := F1.len _ _ _ _ want
    refine wpAny_call (HandSPX.call_own FB hT hC (PySem.W.looks_findIn I1.kIn T.iC) (fun self => PySem.W.bind_fn I1.kIn self T.tI) (by show 1 ≤ sizeLine; decide)
      (codeAny_mono (F1.run _ X.stack _ _ ⟨[Value.ref (hp.objs.size + 1), uv], []⟩ ([Value.ref (hp.objs.size + 1), uv] ++ []) ([V.ref (hp.objs.size + 1), v] ++ []) _ (fun _ _ _ => False) (hr.make C [uv] []) (I2.env0.make C [uv] []) (hb _ [Value.ref (hp.objs.size + 1), uv] I2.kIn hl) (r2.append .nil) want) fun r s' hq => ?_))
    cases r with
    | error er => exact False.elim hq
    | ok fl =>
      cases fl with
      | ret u =>
        obtain ⟨z, H2, os2, bare2, un2, hok2, rv, ez, d, fs, ea, ed, hd1, q2⟩ := hq
        subst ez
        obtain ⟨h2, g2, d2, t2, os'⟩ := s'
        exact ⟨rv, mk_end (raises_own T.exC T.tyC) I1 hsz kk un2 hok2 os2 bare2 ea ed hd1 q2⟩
      | next => exact False.elim hq
      | brk => exact False.elim hq
      | cont => exact False.elim hq
end
end Sz
/-! isinstance and the fields of the error that is pinned -/
namespace Sz
open PySem PySem.Spec PyProof.Rows L2
section
open PySem.W PySem.Calls
variable {prog : Program} {w : World} {A : Around} {E : Value → Shared → Prop} {s : Shared} {K : Frag} {x D : Addr} {ox : Obj} {od : Option Obj}
/-- x.__class__ of an error, with a dict or without -/
theorem err_class {Q : Option Value → Shared → Prop} (T : ExcC K D) (X : K.In s.heap) (I : InstAt s.heap x ox D od) (h : Q (some (.ref D)) { s with toks := s.toks + 1 }) : wpAny (model prog w) A (getAttr? (.ref x) "__class__") Q E s := by
  have isC : (clsIn K D).isSome = true := by obtain ⟨cd, hc, _⟩ := any_some T.hd; rw [hc]; rfl
  have found : findObj K D od "__class__" = some (.bind (.builtin "getset_descriptor.__get__") (.builtin "object.__class__")) := by
    cases od with
    | none => exact findObj_dataN isC T.ha T.hn T.ht
    | some o => exact findObj_data isC T.ha T.hn T.ht
  obtain ⟨hp, g, dr, t, os⟩ := s
  have l0 := I.type (M := model prog w)
  have l1 := looks_findIn (M := model prog w) X T.hg
  have l2 := looks_findIn (M := model prog w) X T.hk
  have l3 := looks_find (M := model prog w) X I found
  have sub : Looks (model prog w) hp (isInstance (.ref x) (.type "BaseException")) true := l0.andThen (looks_subIn X T.hs)
  have n2 : (Value.builtin "BaseException.__getattribute__" == Value.builtin "object.__getattribute__") = false := by decide +kernel
  have n1 : (onTheHeap (Value.ref D) && Value.builtin "BaseException.__getattribute__" == Value.builtin "object.__getattribute__") = false := by rw [n2]; rfl
  unfold getAttr? getAttrBy? getAttrBy
  refine wpAny_bind (wpAny_mkText (wpAny_bind (wpAny_attempt (wpAny_holding (wpAny_bind (l0.at (wpAny_bind (l1.at ?_))))))))
  show wpAny _ _ (if (onTheHeap (Value.ref D) && Value.builtin "BaseException.__getattribute__" == Value.builtin "object.__getattribute__") = true then _ else _) _ _ _
  rw [n1, if_neg Bool.false_ne_true]
  unfold getAttrByItsOwn hookBefore
  refine wpAny_bind ?_
  rw [if_pos (show onTheHeap (Value.ref D) = true from rfl)]
  refine l2.at (wpAny_bind (wpAny_attempt (wpAny_holding ?_)))
  unfold callGetattribute
  rw [show (false && onTheHeap (Value.builtin "BaseException.__getattribute__")) = false from rfl, if_neg Bool.false_ne_true]
  unfold boundAndCalled
  rw [PySem.F.excAttr_ValueError.ga.bind (.ref x)]
  refine wpAny_bind (wpAny_pure ?_)
  show wpAny _ _ (call (.builtin "BaseException.__getattribute__") [.ref x, .str "__class__" t]) _ _ _
  refine wpAny_call (codeAny_call_builtin PySem.F.excAttr_ValueError.ga.plain PySem.F.entry_bexc_ga (@check_slot (model prog w) _ _ ⟨hp, g, dr, t + 1, os⟩ "BaseException.__getattribute__" "BaseException" "__getattribute__" (.ref x) [.str "__class__" t] [] _ (by decide +kernel) (by decide +kernel) sub (PySem.F.args_bexc_ga (.ref x) (.str "__class__" t)) ?_))
  unfold Builtin.«object.__getattribute__»
  refine wpAny_bind (wpAny_of_eq (a := ((Value.ref x : Value), [Value.str "__class__" t])) (by first | rfl | (simp only [slotArgs]; rfl)) ?_)
  refine wpAny_bind (wpAny_pure (wpAny_bind (l0.at (wpAny_bind (l3.at ?_)))))
  show wpAny _ _ (holding [Value.builtin "object.__class__"] (call (.builtin "getset_descriptor.__get__") [.builtin "object.__class__", .ref x, .ref D]) >>= ret) _ _ _
  refine wpAny_bind (wpAny_holding (wpAny_call (class_get (s := ⟨hp, g, dr, t + 1, os⟩) (ox := ox) (od := od) X I T.hm ?_)))
  refine wpAny_pure ?_
  show wpAny _ _ (handedOut (.ref D)) _ _ _
  rw [handedOut_of (v := .ref D) rfl]
  first
    | exact wpAny_pure (wpAny_pure h)
    | exact wpAny_pure h
    | exact wpAny_pure (wpAny_bind (wpAny_pure (wpAny_pure h)))
theorem cls_obj {cd : ClassData} (hc : clsIn K D = some cd) : ∃ c dd sl, K.lookup D = some ⟨c, dd, .cls cd, sl⟩ := by
  unfold clsIn at hc
  split at hc
  · rename_i c dd cd' sl ho
    cases hc
    exact ⟨_, _, _, ho⟩
  · cases hc
theorem kit_err (T : ExcC K D) : KitX K (.ref x) (.ref D) (fun h => ∃ od, InstAt h x ox D od) := by
  obtain ⟨cd, hc, _⟩ := any_some T.hd
  obtain ⟨c, dd, sl, ho⟩ := cls_obj hc
  refine ⟨fun _ _ _ ⟨od, I⟩ => I.type, fun _ _ X _ A' Q' E' s' k q => ?_, fun h tp dd' its n sl' X htp => ?_, fun X ⟨od, I⟩ k => err_class T X I k⟩
  · unfold isType loadHead
    exact wpAny_bind (wpAny_loadPart (k _ _ (X _ _ ho)) (wpAny_pure q))
  · refine Bool.eq_false_iff.mpr fun q => ?_
    have e : D = tp := Value.ref.inj (beq_iff_eq.mp q)
    subst e
    cases (X _ _ ho).symm.trans htp
end
section
variable {X : Cx} {a : Addr} {oe : Obj}
/-- isinstance(e, c), e the pinned error -/
def rIsP (K : PySem.W.Frag) (a : Addr) (oe : Obj) : List V → Hp → VK → Prop := fun xs H Q => ∃ (c : V) (cv : Value) (D : Addr) (b : Bool), xs = [.ref a, c] ∧ (∀ u, RelV c u → u = cv) ∧ oe.cls = .ref D ∧ ExcC K D ∧ (∃ vs, oe.data = .fields vs) ∧ (oe.dict = none ∨ ∃ (d : Addr) (fs : List (Str × V)), oe.dict = some d ∧ H d = some (.xd fs)) ∧ PySem.W.kitOne K (.ref D) cv = some b ∧ Q (.bl b) H
theorem inst_pin {pins : List (Addr × Obj)} {σ : L2.St} {H : Hp} {s : Shared} {D : Addr} (hp : (a, oe) ∈ X.pn) (I : Inv X pins σ H s) (hc : oe.cls = .ref D) (hv : ∃ vs, oe.data = .fields vs) (hd : oe.dict = none ∨ ∃ (d : Addr) (fs : List (Str × V)), oe.dict = some d ∧ H d = some (.xd fs)) :
    ∃ od, PySem.W.InstAt s.heap a oe D od := by
  have hg := (I.pin (a, oe) (List.mem_append_left _ hp)).1
  obtain ⟨vs, hv⟩ := hv
  have nc : PySem.W.notCls oe = true := by unfold PySem.W.notCls; rw [hv] <;> rfl
  rcases hd with hd | ⟨d, fs, hd, he⟩
  · exact ⟨none, hg, hc, nc, by rw [hd]; trivial⟩
  · have hx : ObjOk X.prog X.w H s.heap d (.xd fs) := I.hok d _ he
    obtain ⟨mA, hns, _⟩ := hx
    obtain ⟨od, ho, _⟩ := lookIn_ns hns
    exact ⟨some od, hg, hc, nc, by rw [hd]; exact ho⟩
theorem call_isP (hp : (a, oe) ∈ X.pn) : CallR X (.builtin "isinstance") (rIsP X.K a oe) := by
  intro pins s σ H xs us Q I r h
  obtain ⟨c, cv, D, b, rfl, hcv, hc, T, hv, hd, e, q⟩ := h
  cases r with
  | cons rx rr =>
    cases rr with
    | cons rt rr =>
      cases rr
      cases rx
      cases hcv _ rt
      exact PySem.W.kia_one (kit_err T) I.kIn (inst_pin hp I hc hv hd) e (fun z => nomatch z) fun tk => ⟨.bl b, H, I.kept (t' := tk) fun _ _ z => z, rfl, q⟩
/-- e.f, e the pinned error -/
def tXfP (K : PySem.W.Frag) (a : Addr) (oe : Obj) (f : Str) (te : TE) : TE := fun σ H Q => te σ H fun x H1 => x = .ref a ∧ ∃ (D d : Addr) (fs : List (Str × V)) (v : V), oe.cls = .ref D ∧ oe.dict = some d ∧ (∃ vs, oe.data = .fields vs) ∧ XfC K D ∧ PySem.W.findIn K (.ref D) f = some none ∧ H1 d = some (.xd fs) ∧ fs.lookup f = some v ∧ Q v H1
theorem pe_xfP {e : Expr} {te : TE} {pos : Pos} {n : Str} (hp : (a, oe) ∈ X.pn) (he : PE X e te) (hb : attributeBase e n X.env (eval e X.env) = eval e X.env := by rfl) : PE X (.Attribute e n pos) (tXfP X.K a oe n te) := by
  constructor
  intro pins s σ H Q I h
  refine attr_of hb (thn (he.run pins s σ H _ I h) fun u s1 hh => ?_)
  obtain ⟨x, H1, I1, rx, rfl, D, d, fs, v, hc, hd, ⟨vs, hv⟩, T, hno, ea, l, q⟩ := hh
  obtain rfl : u = Value.ref a := rx
  have hx : ObjOk X.prog X.w H1 s1.heap d (.xd fs) := I1.hok d _ ea
  obtain ⟨mA, hns, hr⟩ := hx
  obtain ⟨od, ho, hl⟩ := lookIn_ns hns
  obtain ⟨u, hu, ru⟩ := RelO.some_of (v := v) (o := mA n) (by rw [← l]; exact hr n)
  have hg := (I1.pin (a, oe) (List.mem_append_left _ hp)).1
  have J : PySem.W.InstAt s1.heap a oe D (some od) := ⟨hg, hc, by unfold PySem.W.notCls; rw [hv] <;> rfl, by rw [hd]; exact ho⟩
  exact HandSPX.exc_get I1.kIn J T.ga T.gg T.exC (PySem.W.findObj_own T.hdC hno rfl (by rw [hl, hu])) (handed_of ru) ⟨v, H1, I1.tok _, ru, q⟩
end
end Sz
/-! what repr shows of things of many kinds; counting among flat values -/
namespace Sz
open PySem PySem.Spec PyProof.Rows L2
/-- repr of v is z -/
inductive Shw (K : PySem.W.Frag) (H : Hp) : V → Str → Prop
  | flat {v : V} {z : Str} (h : flatShown v = some z) : Shw K H v z
  | str {y : Str} (h : (reprText y).length ≤ sizeLine) : Shw K H (.str y) (reprText y)
  | dat {a : Addr} {d : PyData} (h : Dp K H (.ref a) d) (h1 : d.showable = true) (h2 : d.hasDict = false) (h3 : d.depth ≤ 40) (h4 : d.shown.length ≤ sizeLine) : Shw K H (.ref a) d.shown
  | edict {a : Addr} (h : H a = some (.dK [])) : Shw K H (.ref a) "{}"
def rReprW (K : PySem.W.Frag) : List V → Hp → VK → Prop := fun xs H Q => ∃ (v : V) (z : Str), xs = [v] ∧ Shw K H v z ∧ Q (.str z) H
section
variable {X : Cx}
theorem cr_reprW (gd : X.A.guards = some []) (hu : X.A.units + 64 < cLine) : CallR X (.builtin "repr") (rReprW X.K) := by
  intro pins s σ H xs us Q I r h
  obtain ⟨v, z, rfl, hs, q⟩ := h
  cases hs with
  | flat h => exact cr_repr pins s σ H [v] us Q I r ⟨v, z, rfl, h, q⟩
  | str h => exact cr_reprS pins s σ H _ us Q I r ⟨_, rfl, h, q⟩
  | dat h h1 h2 h3 h4 => exact cr_reprD gd hu pins s σ H _ us Q I r ⟨_, _, rfl, h, h1, h2, h3, h4, q⟩
  | @edict a h =>
    obtain ⟨u, rfl, ru⟩ := vals1 r
    cases (show u = Value.ref a from ru)
    obtain ⟨_, ns, vs, kv, hd⟩ : ([] : List (Key × V)).length ≤ sizeLine ∧ (a == sysModules) = false ∧ ∃ vs, KV [] vs ∧ s.heap.DictOf (mixKind X.prog X.w) a vs := I.hok a _ h
    cases kv
    obtain ⟨o, es, ep, e1, e2, e3, _, e4, _⟩ := hd
    have e5 : es.toList = [] := by
      cases q : es.toList with
      | nil => rfl
      | cons x l =>
        rw [q] at e4
        cases e4
    have rd : Reads s.heap (.ref a) (.dict []) [a] := .dict (as := []) (bs := []) e1 e2.1 e3 (by rw [e5]; exact .nil) (by rw [e5]; exact .nil)
    refine repr_of_reads' rd (by decide) (fun _ z => ?_) gd (by show X.A.units + (1 + 1) < cLine; omega) (fun _ _ z => z) (fun h' tok tk kept => ?_) (by decide +kernel)
    · have z2 : sysModules = a := by simpa using z
      rw [z2] at ns
      simp at ns
    · exact ⟨.str "{}", H, I.kept (t' := tk) kept, ⟨_, by rw [show (PyData.dict []).shown = "{}" by decide +kernel]⟩, q⟩
/-- xs.count(y), flat values -/
def rCntF (K : PySem.W.Frag) : V → List V → Hp → VK → Prop := fun x xs H Q => ∃ (p : Addr) (ys : List V) (y : V), x = .ref p ∧ xs = [y] ∧ SqL K H p ys ∧ flatV y = true ∧ ys.all flatV = true ∧ Q (.int (ys.countP fun z => eqV z y : Nat)) H
theorem cnt_eqU {y : V} : ∀ {ys : List V} {us : List Value}, Vals ys us → ys.all flatV = true → us.countP (eqU y) = ys.countP fun z => eqV z y
  | _, _, .nil, _ => rfl
  | z :: ys, u :: us, .cons r t, f => by
    rw [List.all_cons, Bool.and_eq_true] at f
    rw [List.countP_cons, List.countP_cons, cnt_eqU t f.2, eqU_of r f.1]
theorem mt_countF : MtR X "list.count" (rCntF X.K) := by
  intro pins s σ H x xs v us Q I rx rxs h
  obtain ⟨p, ys, y, rfl, rfl, hs, fy, fys, q⟩ := h
  cases rx
  obtain ⟨u, rfl, ru⟩ := rxs.one
  obtain ⟨its, rv, ⟨⟨cls, dd, data, sl⟩, n, ho, hc, hdn, hd⟩, hlen⟩ := I.list hs
  simp only at hc hd
  subst hc hd
  refine call_meets PySem.F.slot_list_count ⟨_, ho, rfl⟩ PySem.F.entry_list_count (PySem.F.args_list_count_2 _ _)
    (SeqAt.list_countAt p its.toArray n dd sl u (eqU y)) ⟨ho, fun z hz => mem_eqAt ru fy rv fys z (by simpa using hz), ?_⟩
  refine ⟨.int (ys.countP fun z => eqV z y : Nat), H, I.tok _, ⟨s.toks, ?_⟩, q⟩
  show Value.int ((its.toArray.toList.countP (eqU y) : Nat) : Int) s.toks = _
  rw [show its.toArray.toList = its from rfl, cnt_eqU rv fys]
end
end Sz
/-! a head that tells of the tables of code objects too, and the law's call with them -/
namespace Sz
open PySem PySem.Spec PyProof.Rows L2
/-! ### the hook -/
structure SaysU (fb : PySem.W.Frag → Bool) (fa : List He.Fa) (fn : List He.DefD) (ts : List He.Tab) (tf : List He.Defn) (w : World) (h : Heap) (K : PySem.W.Frag) : Prop where
  x : SaysX fb fa fn ts w K
  hd : ∀ p ∈ tf, PySem.W.codeHdIn K (He.cT K p).1 (He.cT K p).2 = true
  out : ∀ p ∈ tf, K.lookup (He.cT K p).2 = none
  empty : ∀ p ∈ tf, h.get? (He.cT K p).2 = some { cls := .none, data := .fields #[] }
def obsUG (n : Nat) (fb : PySem.W.Frag → Bool) (fa : List He.Fa) (fn : List He.DefD) (ts : List He.Tab) (tf : List He.Defn) (g : Addr → Option Obj) : Bool × AlX := (He.tabsB g tf (He.frT g (asX g n)), obsX fb fa fn ts (He.frT g (asX g n)))
def hookU (n : Nat) (fb : PySem.W.Frag → Bool) (fa : List He.Fa) (fn : List He.DefD) (ts : List He.Tab) (tf : List He.Defn) : PySem.W.Hook where
  α := Bool × AlX
  obs := fun s => obsUG n fb fa fn ts tf s.heap.get?
  val := fun w => (true, valX fn ts w)
  says := fun w h => ∃ K : PySem.W.Frag, K.In h ∧ SaysU fb fa fn ts tf w h K
  of := fun w s e => by
    have e1 : He.tabsB s.heap.get? tf (He.frT s.heap.get? (asX s.heap.get? n)) = true := congrArg (fun z : Bool × AlX => z.1) e
    have e2 : obsX fb fa fn ts (He.frT s.heap.get? (asX s.heap.get? n)) = valX fn ts w := congrArg (fun z : Bool × AlX => z.2) e
    have key : ∀ p ∈ tf, PySem.W.codeHdIn (He.frT s.heap.get? (asX s.heap.get? n)) (He.cT (He.frT s.heap.get? (asX s.heap.get? n)) p).1 (He.cT (He.frT s.heap.get? (asX s.heap.get? n)) p).2 = true ∧ ∃ o, s.heap.get? (He.cT (He.frT s.heap.get? (asX s.heap.get? n)) p).2 = some o ∧ He.emptyTab o = true := fun p hp => by
      obtain ⟨h3, h4⟩ := He.ba (List.all_eq_true.mp e1 p hp)
      refine ⟨h3, ?_⟩
      cases q : s.heap.get? (He.cT (He.frT s.heap.get? (asX s.heap.get? n)) p).2 with
      | none =>
        rw [q] at h4
        cases h4
      | some o =>
        rw [q] at h4
        exact ⟨o, rfl, h4⟩
    refine ⟨_, He.frT_in, e2, fun p hp => (key p hp).1, fun p hp => ?_, fun p hp => ?_⟩
    · obtain ⟨_, o, q, z⟩ := key p hp
      exact He.frT_none q z
    · obtain ⟨_, o, q, z⟩ := key p hp
      rw [q, He.emptyTab_eq z]
  keeps := fun _ _ _ ⟨K, hK, c⟩ k => ⟨K, PySem.W.Frag.In.keeps hK k, c.x, c.hd, c.out, fun p hp => k _ _ (c.empty p hp)⟩
theorem obsUG_eq {n : Nat} {fb : PySem.W.Frag → Bool} {fa : List He.Fa} {fn : List He.DefD} {ts : List He.Tab} {tf : List He.Defn} {g : Addr → Option Obj} {s : Shared} (h : ∀ a, g a = s.heap.get? a) : obsUG n fb fa fn ts tf g = (hookU n fb fa fn ts tf).obs s := by
  rw [show g = s.heap.get? from funext h]
  rfl
/-! ### the law's call -/
section
variable {P : Program} {w : World} {K : PySem.W.Frag} {mg mb : Str → Option Value} {k : Nat} {fa a : Addr} {fd : FuncData} {x : Str} {sp : Sp} {st : Shared} {vs : List Value} {ns : List Int} {cs : List (Addr × Addr)}
/-- the script and the tables -/
def scriptHpT (K : PySem.W.Frag) (a : Addr) (vs : List Value) (ns : List Int) (cs : List (Addr × Addr)) : Hp := fun b => if b ∈ cs.map (·.2) then some (.tbl #[]) else scriptHp K a vs ns b
theorem law_callGT (KX : K.In st.heap) (gl : st.heap.Ns mainGlobals mg) (bl : st.heap.Ns builtinsNs mb) (bb : ∀ y : Str, y ≠ "__name__" → mb y = bootBuiltins y) (nl : st.heap.NoLimit) (gn : st.gens = #[])
    (hT : ∀ p ∈ cs, st.heap.get? p.2 = some { cls := .none, data := .fields #[] }) (nT : ∀ p ∈ cs, K.lookup p.2 = none) (C : ∀ p ∈ cs, PySem.W.CodeHd st.heap p.1 p.2)
    (hbm : ∃ (bm : Addr) (ob : Obj), mg "__builtins__" = some (.ref bm) ∧ bm ≠ builtinsNs ∧ st.heap.get? bm = some ob ∧ ob.cls = .type "module" ∧ ob.dict = some builtinsNs ∧ ob.data = .plain)
    (ha : st.heap.get? a = some { cls := .type "list", data := .seq vs.toArray }) (hi : IntsAre vs ns) (hl : ns.length ≤ sizeLine) (room : Room k callerA)
    (F : ∀ base : Heap, K.In base → base.Ns mainGlobals mg → (∀ p ∈ cs, LamX.TabB base mg p.1 p.2) → FnG P w K mg base k fa fd [x] sp) (bind1 : ∀ (s : Shared) (u : Value), BindsTo s fd ⟨[u], []⟩ [(x, u)])
    (want : ∀ H : Hp, (∀ p ∈ cs, H p.2 = some (.tbl #[])) → SqL K H a (ns.map V.int) → sp [.ref a] H (fun v _ => v = .bl true) fun _ _ _ => False) :
    codeAny (model P w) callerA (.call (.ref fa) ⟨[.ref a], []⟩) (fun r s' => r = .ok (.ret (.bool true)) ∧ OldK st.heap s'.heap ∧ s'.os = st.os ∧ AllBare s'.gens) st := by
  have rel : Vals (ns.map V.int) vs := vals_ints hi
  have len : (ns.map V.int).length ≤ sizeLine := by rw [List.length_map]; exact hl
  generalize hH : scriptHpT K a vs ns cs = H
  have isT : ∀ b ∈ cs.map (·.2), st.heap.get? b = some { cls := .none, data := .fields #[] } := fun b hb => by
    obtain ⟨p, hp, e⟩ := List.mem_map.mp hb
    rw [← e]
    exact hT p hp
  have atT : ∀ p ∈ cs, H p.2 = some (.tbl #[]) := fun p hp => by
    rw [← hH]
    exact if_pos (List.mem_map.mpr ⟨p, hp, rfl⟩)
  have aT : a ∉ cs.map (·.2) := fun z => by
    have q := (isT a z).symm.trans ha
    cases q
  have sm : ∀ {b u}, H b = some u → (b ∈ cs.map (·.2) ∧ u = .tbl #[]) ∨ (b ∉ cs.map (·.2) ∧ b = a ∧ K.lookup a = none ∧ u = .frz { cls := .type "list", data := .seq vs.toArray } (.lst (ns.map V.int))) := fun {b u} e => by
    rw [← hH] at e
    by_cases hb : b ∈ cs.map (·.2)
    · exact .inl ⟨hb, (Option.some.inj ((if_pos hb).symm.trans e)).symm⟩
    · exact .inr ⟨hb, scriptHp_some ((if_neg hb).symm.trans e)⟩
  have ok : HOk P w H st.heap := fun b u e => by
    rcases sm e with ⟨hb, rfl⟩ | ⟨_, rfl, _, rfl⟩
    · exact isT b hb
    · exact ⟨ha, len, vs, _, rel, ha⟩
  have sq : SqL K H a (ns.map V.int) := by
    cases lk : K.lookup a with
    | none => exact Or.inl (Or.inr ⟨_, by rw [← hH]; exact (if_neg aT).trans (if_pos ⟨rfl, lk⟩)⟩)
    | some o =>
      have e := (KX a o lk).symm.trans ha
      cases e
      exact Or.inr ⟨_, vs.toArray, _, lk, rfl, rfl, rfl, by rw [List.size_toArray, ← rel.length]; exact len, by simpa using rel⟩
  have hid : ∀ {b o}, st.heap.get? b = some o → H b = none → (hidT st.heap H).get? b = some o := fun e n => hidT_get e n
  -- what is neither a list nor an empty record is not tracked
  have free : ∀ {b : Addr} {o : Obj}, st.heap.get? b = some o → (∀ vs n, o.data ≠ .seq vs n) → o.data ≠ .fields #[] → H b = none := fun {b o} e h1 h2 => by
    cases q : H b with
    | none => rfl
    | some u =>
      rcases sm q with ⟨hb, _⟩ | ⟨_, rfl, _, _⟩
      · cases (isT b hb).symm.trans e
        exact absurd rfl h2
      · cases ha.symm.trans e
        exact absurd rfl (h1 _ _)
  have freeN : ∀ {b : Addr} {m}, st.heap.Ns b m → H b = none := fun {b m} hn => by
    obtain ⟨o, es, ep, e1, e2, _⟩ := hn
    exact free e1 (fun _ _ z => by rw [e2] at z; cases z) (fun z => by rw [e2] at z; cases z)
  have ns1 : ∀ {b : Addr} {m}, st.heap.Ns b m → (hidT st.heap H).Ns b m := fun {b m} hn => by
    have fr := freeN hn
    obtain ⟨o, es, ep, e1, e2⟩ := hn
    exact ⟨o, es, ep, hid e1 fr, e2⟩
  have inB : K.In (hidT st.heap H) := fun b o e => hid (KX b o e) (by
    cases z : H b with
    | none => rfl
    | some u =>
      rcases sm z with ⟨hb, _⟩ | ⟨_, rfl, z2, _⟩
      · obtain ⟨p, hp, ep⟩ := List.mem_map.mp hb
        rw [← ep, nT p hp] at e
        cases e
      · rw [z2] at e
        cases e)
  have md : Mod K mg (hidT st.heap H) := ⟨inB, ns1 gl, ⟨mb, ns1 bl, bb⟩, let ⟨mc, c1, c2⟩ := nl; ⟨mc, ns1 c1, c2⟩⟩
  have TB : ∀ p ∈ cs, LamX.TabB (hidT st.heap H) mg p.1 p.2 := fun p hp => by
    refine ⟨?_, ?_, fun z => ?_⟩
    · obtain ⟨o, us, file, tf, flags, tg, inF, text, tt, e1, r1, r2, r3, r⟩ := C p hp
      exact ⟨o, us, file, tf, flags, tg, inF, text, tt, hid e1 (free e1 (fun _ _ z => by rw [r2] at z; cases z) (fun z => by rw [r2] at z; cases z; simp at r3)), r1, r2, r3, r⟩
    · obtain ⟨bm, ob, b1, b2, b3, b4, b5, b6⟩ := hbm
      refine ⟨bm, ob, b1, b2, fun q => ?_, fun q => ?_, hid b3 (free b3 (fun _ _ z => by rw [b6] at z; cases z) (fun z => by rw [b6] at z; cases z)), b4, b5, b6⟩
      · obtain ⟨o, es, ep, e, hd, _⟩ := gl
        rw [q, e] at b3
        cases b3
        rw [hd] at b6
        cases b6
      · rw [q, hT p hp] at b3
        cases b3
        cases b6
    · obtain ⟨o, es, ep, e, hd, _⟩ := gl
      rw [z, hT p hp] at e
      cases e
      cases hd
  have env : Env0 P w K mg (hidT st.heap H) callerA [] st H := ⟨rfl, md, fun _ _ e => of_hidT e, Nat.le_of_eq (hidT_size _ _), trivial, fun b z => absurd (show b ∈ ([] : List Addr) from z) (by simp), ok, .of_eq gn⟩
  refine codeAny_mono ((F _ inB (ns1 gl) TB).run callerA [] st H ⟨[.ref a], []⟩ [.ref a] [.ref a] _ _ room rfl env (bind1 st (.ref a)) (.cons rfl .nil) (want H atT sq)) fun r s' h => ?_
  cases r with
  | error z => exact False.elim h
  | ok fl =>
    cases fl with
    | next => exact False.elim h
    | brk => exact False.elim h
    | cont => exact False.elim h
    | ret u =>
      obtain ⟨v, H', os, bare, un, ok', ru, qv⟩ := h
      cases (show v = .bl true from qv)
      cases (show u = Value.bool true from ru)
      have old : ∀ b o, b ∉ cs.map (·.2) → st.heap.get? b = some o → s'.heap.get? b = some o := fun b o nb e => by
        cases z : H b with
        | none => exact un.keep b o e z (by intro y; exact absurd (show b ∈ ([] : List Addr) from y) (by simp)) (by simp)
        | some t =>
          rcases sm z with ⟨hb, _⟩ | ⟨_, rfl, _, rfl⟩
          · exact absurd hb nb
          · have e2 := (ok' _ _ (un.frzs _ _ _ z)).1
            cases ha.symm.trans e
            exact e2
      have grown : ∀ p ∈ cs, ∃ more : Array Value, s'.heap.get? p.2 = some { cls := .none, data := .fields more } := fun p hp => by
        obtain ⟨more, z⟩ := un.tbls p.2 #[] (atT p hp)
        exact ⟨_, ok' p.2 _ z⟩
      refine ⟨rfl, ⟨fun b o e => ?_, fun b o e => ?_⟩, os, bare⟩
      · by_cases hb : b ∈ cs.map (·.2)
        · obtain ⟨p, hp, rfl⟩ := List.mem_map.mp hb
          obtain ⟨more, hm⟩ := grown p hp
          cases (hT p hp).symm.trans e
          exact .inr (.inl ⟨((C p hp).tab (hT p hp)).isCodeTable, rfl, #[], more, rfl, by rw [Array.empty_append]; exact hm⟩)
        · exact .inl (old b o hb e)
      · by_cases hb : b ∈ cs.map (·.2)
        · obtain ⟨p, hp, rfl⟩ := List.mem_map.mp hb
          obtain ⟨more, hm⟩ := grown p hp
          exact ⟨_, hm⟩
        · exact ⟨o, old b o hb e⟩
end
/-- a law whose def is a PromG, with tables -/
theorem walk_ofGT {l : PySem.W.OpenLaw} {n k : Nat} {q : Program} {loose : List Str} {XP : (Str → Option Value) → Heap → Prop} {YP : World → Heap → Prop} {d : DefRec} {x : Str}
    (hn : l.most = some n) (hn2 : n ≤ sizeLine) (hdf : d.params.defaults = []) (room : Room k callerA)
    (F : ∀ (w : World) (mg : Str → Option Value) (fa : Addr) (h : Heap), YP w h → h.Ns mainGlobals mg → mg d.name = some (.ref fa) →
      ∃ (K : PySem.W.Frag) (fd : FuncData) (sp : Sp) (cs : List (Addr × Addr)), K.In h ∧ (∀ p ∈ cs, h.get? p.2 = some { cls := .none, data := .fields #[] }) ∧ (∀ p ∈ cs, K.lookup p.2 = none) ∧ (∀ p ∈ cs, PySem.W.CodeHd h p.1 p.2) ∧ (∀ (s : Shared) (u : Value), BindsTo s fd ⟨[u], []⟩ [(x, u)]) ∧
        (∀ (H : Hp) (a : Addr) (ns : List Int), ns.length ≤ n → (∀ z ∈ ns, Builtin.Int.intBits z ≤ 1048576) → (∀ p ∈ cs, H p.2 = some (.tbl #[])) → SqL K H a (ns.map V.int) → sp [.ref a] H (fun v _ => v = .bl true) fun _ _ _ => False) ∧
        ∀ base : Heap, K.In base → base.Ns mainGlobals mg → (∀ p ∈ cs, LamX.TabB base mg p.1 p.2) → FnG l.prog w K mg base k fa fd [x] sp) :
    PySem.W.WalkO q loose XP YP l.row.toRowW d [] (fun f vs => PySem.call f vs) := by
  refine Att.attach_callB hn hdf fun w sA sB mg mb fa o pm cd doc a vs ns G Y ho hd hcd hmg hobj hints hlen hbits hg => ?_
  obtain ⟨K, fd, sp, cs, KX, hT, nT, C, b1, want, hF⟩ := F w mg fa _ Y G.T.g hmg
  exact law_callGT KX G.T.g G.T.b G.T.builtins G.T.nolimit hg hT nT C G.T.bmain hobj hints (Nat.le_trans hlen hn2) room hF b1 (fun H hH hS => want H a ns hlen hbits hH hS)
end Sz
/-! a lambda handed to a def that catches what it raises -/
namespace Sz
open PySem PySem.Spec PyProof.Rows L2
theorem takes_len {X : Cx} {W : WX} (t : Takes X W) : Takes X (fun c d σ H => σ.length = X.N.length → W c d σ H) := fun u s' ⟨a, B, sI, pins, σ, H, cls, d, e, I, nb, up, sky, na, os, ag, w⟩ =>
  t u s' ⟨a, B, sI, pins, σ, H, cls, d, e, I, nb, up, sky, na, os, ag, w I.len⟩
/-- what is wished for may be had by something stronger -/
def tWeak (t : TE) : TE := fun σ H Q => ∃ K : VK, (∀ v H', K v H' → Q v H') ∧ t σ H K
theorem pe_weak {X : Cx} {e : Expr} {t : TE} (h : PE X e t) : PE X e (tWeak t) := ⟨fun pins s σ H Q I ⟨K, hK, ht⟩ => wpAny_mono (h.run pins s σ H K I ht) (fun _ _ ⟨v, H', J, r, q⟩ => ⟨v, H', J, r, hK v H' q⟩) (fun _ _ z => z)⟩
/-- the def that calls what it got, whatever its address -/
def Gives (X : Cx) (Ng : List Str) (x : Str) (st : Stmt) (a : Str) (TT : (XK → Hp → VK → Prop) → Hp → VK → Prop) : Prop := ∀ (g : Addr) (cdg : Value), LamX.GivesTo X Ng x (defScope st) g cdg (defBody st) a (X.env.qual ++ "<lambda>") TT
section
variable {X : Cx}
/-- x(lambda: body) -/
theorem pe_lamP {T : List (Addr × Str)} {TT : (XK → Hp → VK → Prop) → Hp → VK → Prop} {x a : Str} {st : Stmt} {c P : Addr} {k : Nat} {Ng : List Str} {params : Arguments} {body : Expr} {scope : Scope} {t : XK → TE} {p lpos pos : Pos} (D : DefAt X.K X.mg x st) (hg : Gl X x) (Sg : FnScope Ng [a] (defScope st))
    (hb : ∀ (kV doc pm : Value) (an : Option Addr) (cdv ct : Value) (us : List Value), us.length = 1 → bindArgs (PySem.W.fnOf x x (defArgs st) (defBody st) (defScope st) .none kV doc pm an cdv ct) ⟨us, []⟩ = pure ([a].zip us))
    (hNg : Ng[0]? = some a) (hva : Vis (defScope st) a) (hG : Gives X Ng x st a TT) (TB : LamX.TabB X.base X.mg c P) (hcode : X.env.code = .ref c) (hmT : (P, X.env.qual ++ "<lambda>") ∈ T) (hu : ∀ p ∈ T, p.1 = P → p.2 = X.env.qual ++ "<lambda>") (hr : Room (k + 2) X.A)
    (L : LamX.LamS X.env.scope scope)
    (hbody : ∀ (A : Around) (outer : List Env) (s : Shared) (H : Hp) (E : XK) (f c' : Addr), Room k (A.deeper (LamX.lamEnv X scope s.heap.objs.size f c')) → PE (LamX.lamCx X A outer s H E scope f c') body (t E))
    (hdef : defaultsOf params X.env = ([], []) := by rfl)
    (hbind : ∀ (q : Str) (cl : List (Str × Addr)) (pm cv ctv : Value), bindArgs (PySem.W.kla_fn "<lambda>" q params body scope cl pm cv ctv) ⟨[], []⟩ = pure [] := by intros; rfl)
    (hdb : (x == ("__debug__" : Str)) = false := by decide) (hd : (a == ("__debug__" : Str)) = false := by decide) (hcd : (a == ("__classdict__" : Str)) = false := by decide) :
    PE X (.Call (.Name x p) [.Lambda params body scope lpos] [] pos) (LamX.tLam T TT t) := by
  obtain ⟨g, fd, F, hm⟩ := D
  have kp := F.kp
  have bs := F.bindsN (ps := [a]) hb
  obtain ⟨oc, od, dV, kV, doc, pm, an, cdv, ct, osl, rfl, lk, hcd', _, _⟩ := F.ex
  exact LamX.pe_lamcall hg hm kp lk hcd' bs Sg hNg hva (hG g cdv) TB hcode hmT hu hr L hdef hbind hbody hdb hd hcd
end
/-- try: t = a() / except (A, B, C) as e: return h(e) / return ("told", t) -/
def TCaught (K : PySem.W.Frag) (cs : List Value) (sp : Addr × Obj → Sp) : (XK → Hp → VK → Prop) → Hp → VK → Prop := fun tl H Q =>
  tl (fun cls d H' => PySem.W.exmAny K cls cs = some true ∧ ∀ a oe, Zc cls d oe → (∃ vs, oe.data = .fields vs) → H' a = none → sp (a, oe) [.ref a] H' Q E0) H (fun v H' => ∀ t, H' t = none → Q (.ref t) (upd H' t (.tup [.str "told", v])))
theorem caught_gives {X : Cx} {x a t e h : Str} {st sth : Stmt} {A1 A2 A3 : Str} {c1 c2 c3 : Value} {k : Nat} {ps : List Str} {sp : Addr × Obj → Sp} {j : Nat} {p1 p2 p3 p4 p5 p6 p7 p8 p9 p10 p11 p12 p13 p14 p15 p16 p17 p18 : Pos} {x1 x2}
    (hN : [a, t, e].Nodup) (hbd : defBody st = [.Try [.Assign [.Name t p1] (.Call (.Name a p2) [] [] p3) p4] [.ExceptHandler (some (.Tuple [.Name A1 p5, .Name A2 p6, .Name A3 p7] x1 p8)) (some e) [.Return (some (.Call (.Name h p9) [.Name e p10] [] p11)) p12] p13] [] [] p14,
      .Return (some (.Tuple [.Constant (.str "told") j p15, .Name t p16] x2 p17)) p18])
    (ka : (defScope st).names.lookup a = some .local) (kt : (defScope st).names.lookup t = some .local) (ke : (defScope st).names.lookup e = some .local) (g1 : (defScope st).names.lookup A1 = some .globalImplicit) (g2 : (defScope st).names.lookup A2 = some .globalImplicit) (g3 : (defScope st).names.lookup A3 = some .globalImplicit)
    (gh : (defScope st).names.lookup h = some .globalImplicit) (m1 : X.mg A1 = some c1) (m2 : X.mg A2 = some c2) (m3 : X.mg A3 = some c3) (G : PromP X.prog X.w X.K X.mg X.base k h sth ps sp) (gd : X.A.guards = some []) (hr : Room (k + 1) X.A)
    (d1 : (A1 == ("__debug__" : Str)) = false := by decide) (d2 : (A2 == ("__debug__" : Str)) = false := by decide) (d3 : (A3 == ("__debug__" : Str)) = false := by decide) (d4 : (h == ("__debug__" : Str)) = false := by decide)
    (d5 : (e == ("__debug__" : Str)) = false := by decide) (d6 : (e == ("__classdict__" : Str)) = false := by decide) (d7 : (t == ("__debug__" : Str)) = false := by decide) (d8 : (t == ("__classdict__" : Str)) = false := by decide) :
    Gives X [a, t, e] x st a (TCaught X.K [c1, c2, c3] sp) := by
  intro g cdg f c' s H Q tl act hc hq
  rw [hbd]
  refine ⟨_, pss_cons (ps_tryA (X := (cxOf C8.CX0 X.prog X.w X.K X.mg X.base [a, t, e] x (defScope st) g cdg X.A X.stack s H C8.E0).nox) (Wout := fun _ _ _ _ => False)
    (tb := fun W D σ H => ∃ Ech : XK, (∀ cls d σ' H', Ech cls d H' → σ'.length = 3 → W cls d σ' H') ∧ σ[0]? = some (some (.ref f)) ∧ H c' = some (LamX.CodeO c' (X.env.qual ++ "<lambda>")) ∧ ∃ K : VK, (∀ v H', K v H' → D.nx (σ.set 1 (some v)) H') ∧ tl Ech H K)
    rfl rfl hN L2.takes0 (fun W pn xe tk _ => ?_)
    (ClOk.cons (i := 2) (test_tup g1 g2 g3 m1 m2 m3 d1 d2 d3) rfl ke (fun a' oe cls d pn _ _ => pss_one (ps_ret (pe_callE G gd ⟨?_, ?_⟩ gh rfl (pa_cons (pe_var (i := 2) rfl (.inl ke) d5 d6) pa_nil) d4))) .nil))
    (pss_one (ps_ret (pe_tup (pa_cons pe_str (pa_cons (pe_var (i := 1) rfl (.inl kt) d7 d8) pa_nil))))), ?_⟩
  · constructor
    intro pins s' σ H' D I ⟨Ech, hW, h1, h2, K, hK, h3⟩
    have hp := act _ pn xe Ech p2 p3 (takes_len tk) (fun cls d σ' H' z hl => hW cls d σ' H' z hl)
    exact (pss_one (ps_set (i := 1) (pos := p4) hN rfl (.inl kt) (pe_weak hp))).run pins s' σ H' D I ⟨K, hK, h1, h2, h3⟩
  · exact (hr.deeper _).dp
  · exact (hr.deeper _).un
  · refine ⟨_, fun cls d σ' H' z hl => ?_, rfl, hc, _, fun v H' z => ?_, hq⟩
    rotate_left
    · exact ⟨v, rfl, by show 2 ≤ sizeLine; decide, z⟩
    obtain ⟨z1, z2⟩ := z
    refine ⟨true, z1, fun _ a' oe hz hv na => ?_, fun z => Bool.noConfusion z⟩
    refine ⟨.ref a', ?_, z2 a' oe hz hv na⟩
    show (σ'.set 2 (some (.ref a')))[2]? = _
    rw [List.getElem?_set_self (by omega)]
/-- what a callee lets out of the lambda's body -/
theorem LamX_pass {X : Cx} {A : Around} {outer : List Env} {s : Shared} {H : Hp} {E : XK} {scope : Scope} {f c' : Addr} : Passes (L2.CX (LamX.lamCx X A outer s H E scope f c').prog (LamX.lamCx X A outer s H E scope f c').w) (LamX.lamCx X A outer s H E scope f c') E := passes_call (takes_of rfl rfl rfl rfl) (fun _ _ _ _ h => h)
theorem gl_lam {X : Cx} {A : Around} {outer : List Env} {s : Shared} {H : Hp} {E : XK} {scope : Scope} {f c' : Addr} {x : Str} (h : scope.names.lookup x = some .globalImplicit) : Gl (LamX.lamCx X A outer s H E scope f c') x := h
/-- a def of the text whose code object is known by its name -/
def DefC (K : PySem.W.Frag) (mg : Str → Option Value) (x : Str) (st : Stmt) : Prop := ∃ fd, FunD K x x (defArgs st) (defBody st) (defScope st) [] [] (He.fAd K (x, none)) fd ∧ mg x = some (.ref (He.fAd K (x, none)))
theorem PromG.ofT {P : Program} {w : World} {K : PySem.W.Frag} {mg : Str → Option Value} {base : Heap} {x : Str} {st : Stmt} {ps N : List Str} {sp : Sp} {k : Nat} (D : DefC K mg x st) (S : FnScope N ps (defScope st)) (len : ∀ vs H Q E, sp vs H Q E → vs.length = ps.length)
    (hb : ∀ (kV doc pm : Value) (an : Option Addr) (cdv ct : Value) (us : List Value), us.length = ps.length → bindArgs (PySem.W.fnOf x x (defArgs st) (defBody st) (defScope st) .none kV doc pm an cdv ct) ⟨us, []⟩ = pure (ps.zip us))
    (hbody : ∀ (f : Addr) (A : Around) (outer : List Env) (s : Shared) (H : Hp) (vs : List V) (Q : VK) (E : XK), Room k (A.deeper (envOfC x (defScope st) s.heap.objs.size f (.ref (He.codeOf K (x, none))))) → (A.deeper (envOfC x (defScope st) s.heap.objs.size f (.ref (He.codeOf K (x, none))))).guards = some [] → sp vs H Q E →
      ∃ t, PSs (cxOf CX0 P w K mg base N x (defScope st) f (.ref (He.codeOf K (x, none))) A outer s H E).nox (defBody st) t ∧ t { nx := fun _ H' => Q .non H', rt := Q } (start N vs) H) :
    PromG P w K mg base (k + 1) x st ps sp := by
  obtain ⟨fd, F, hm⟩ := D
  have key : ∀ cdv, (∃ (oc : Value) (od : Option Addr) (dV kV doc pm : Value) (an : Option Addr) (ct : Value) (osl : Array (Option Value)), K.lookup (He.fAd K (x, none)) = some ⟨oc, od, .func (PySem.W.fnOf x x (defArgs st) (defBody st) (defScope st) dV kV doc pm an cdv ct), osl⟩ ∧ PySem.W.codeIn K cdv x = true) → cdv = .ref (He.codeOf K (x, none)) := by
    rintro cdv ⟨oc, od, dV, kV, doc, pm, an, ct, osl, lk, hc⟩
    obtain ⟨c, rfl⟩ := He.codeIn_ref hc
    rw [He.codeOf_eq lk rfl]
  obtain ⟨c1, c2, c3, c4, c5, c6, c7, cdv, c9, c10, rfl, look, code, d1, d2⟩ := F.ex
  have e := key cdv ⟨_, _, _, _, _, _, _, _, _, look, code⟩
  subst e
  refine ⟨_, _, ⟨len, fun A outer s H args us vs Q E room gd e0 hbind rel want => ?_⟩, hm, F, F.bindsN hb⟩
  have old : ∀ b o, base.get? b = some o → s.heap.get? b = some o := fun b o e => (e0.bs b o e).1
  have inK : K.In s.heap := e0.mod.kin.keeps old
  have kinds : ∀ y ∈ ps.zip us, (defScope st).names.lookup y.1 = some .local ∨ ((defScope st).names.lookup y.1 = some .cell ∧ ((cellsFrom (s.heap.objs.size + 1) (defScope st).names []).lookup y.1).isSome = true) := by
    rintro ⟨n, v⟩ hy
    have hm : n ∈ ps := (List.of_mem_zip hy).1
    cases S.par n hm with
    | inl z => exact Or.inl z
    | inr z => exact Or.inr ⟨z, PySem.W.cellsFrom_some _ _ _ (.inl z)⟩
  obtain ⟨t, dt, rt⟩ := hbody _ A outer s H vs Q E (room.deeper _) gd want
  have dt := dt.nox
  refine codeAny_call_function room.depth (inK _ _ look) rfl S.co S.gen rfl (PySem.W.codeRec_of inK code) ?_
  refine hbind _ _ _ _ (wpAny_newFunctionEnv_cells S.kind kinds ?_)
  rintro _ rfl s1 ic
  refine ⟨(e0.mod.nolimit.keeps old).keeps ic.toInCall.keep, codeAny_func ?_⟩
  refine wpAny_mono (dt.run [] s1 (start N vs) H _ (inv_start S room.hd e0 (len _ _ _ _ want) rel ic) rt) ?_ (fun _ _ z => z)
  intro fl s' hs
  cases fl with
  | ret u => exact let ⟨v, _, H', J, rv, qv⟩ := hs; ⟨v, H', J.os, J.bare, J.base, J.hok, rv, qv⟩
  | next => exact let ⟨_, H', J, qv⟩ := hs; ⟨.non, H', J.os, J.bare, J.base, J.hok, rfl, qv⟩
  | brk => exact let ⟨_, _, _, qv⟩ := hs; False.elim qv
  | cont => exact let ⟨_, _, _, qv⟩ := hs; False.elim qv
end Sz
/-! error classes of the program by their promises; the table of all error classes -/
namespace Sz
open PySem PySem.Spec PyProof.Rows L2
/-- C(v) makes an error with the field f -/
structure PromE (P : Program) (w : World) (K : PySem.W.Frag) (mg : Str → Option Value) (base : Heap) (k : Nat) (C f : Str) : Prop where
  T : ErrC K (He.ga K C) (He.ma K (He.ga K C) "__init__") f
  mg_ : mg C = some (.ref (He.ga K C))
  ex : ∃ fd ps, FnOk P w K mg base CX0 k (He.ma K (He.ga K C) "__init__") fd ps (spErr K (He.ga K C) (He.ma K (He.ga K C) "__init__") f) ∧ Binds K fd ps []
theorem PromE.of {P : Program} {w : World} {K : PySem.W.Frag} {mg : Str → Option Value} {base : Heap} {C f q p0 p1 : Str} {st : Stmt} {a1 a2 a3 a4 : Pos} (T : ErrC K (He.ga K C) (He.ma K (He.ga K C) "__init__") f) (hm : mg C = some (.ref (He.ga K C))) (D : DefAtM K C "__init__" q st) (S : FnScope [p0, p1] [p0, p1] (defScope st))
    (hbd : defBody st = [.Assign [.Attribute (.Name p0 a1) f a2] (.Name p1 a3) a4]) (l0 : (defScope st).names.lookup p0 = some .local) (l1 : (defScope st).names.lookup p1 = some .local)
    (hb : ∀ (kV doc pm : Value) (an : Option Addr) (cdv ct : Value) (us : List Value), us.length = 2 → bindArgs (PySem.W.fnOf "__init__" q (defArgs st) (defBody st) (defScope st) .none kV doc pm an cdv ct) ⟨us, []⟩ = pure ([p0, p1].zip us))
    (d0 : (p0 == ("__debug__" : Str)) = false := by decide) (d1 : (p1 == ("__debug__" : Str)) = false := by decide) (e0 : (p0 == ("__classdict__" : Str)) = false := by decide) (e1 : (p1 == ("__classdict__" : Str)) = false := by decide) : PromE P w K mg base 1 C f := by
  obtain ⟨fd, F⟩ := D
  refine ⟨T, hm, fd, [p0, p1], F.ok (k := 0) S (fun vs H Q E h => ?_) (fun cdv A outer s H vs Q E hr h => ?_), F.bindsN (ps := [p0, p1]) hb⟩
  · obtain ⟨a, v, rfl, _⟩ := h
    rfl
  · obtain ⟨a, v, rfl, T', ha, k⟩ := h
    rw [hbd]
    exact ⟨_, pss_one (ps_errFld (pe_var (i := 0) rfl (.inl l0) d0 e0) (pe_var (i := 1) rfl (.inl l1) d1 e1)), v, rfl, .ref a, rfl, a, _, _, rfl, T', ha, fun dx h1 h2 => k dx h1 h2⟩
section
variable {X : Cx} {x f : Str} {e : Expr} {te : TE} {k : Nat} {p pos rpos : Pos} {W : WX}
/-- raise C(e) -/
theorem ps_raiseE (G : PromE X.prog X.w X.K X.mg X.base k x f) (hr : Room (k + 1) X.A) (hg : Gl X x) (tk : Takes X W) (he : PE X e te) (hc : X.calm = true := by rfl)
    (hdb : (x == ("__debug__" : Str)) = false := by decide) (hst : starEach [e] X.env = (false, eval e X.env) :: starEach [] X.env := by rfl) (hpl : (backTo pos (starEach [] X.env)).any (·.1) = false := by rfl) :
    PS X (.Raise (some (.Call (.Name x p) [e] [] pos)) none rpos) (fun _ σ H => te σ H fun v H1 => ∀ d, H1 d = none → W (.ref (He.ga X.K x)) (some d) σ (upd H1 d (.xd [(f, v)]))) := by
  obtain ⟨fd, ps, F, b⟩ := G.ex
  exact ps_raise hc tk (pmk_err G.T F b hr hg G.mg_ he hdb hst hpl)
end
/-- what a callee lets out, this def lets out -/
theorem passX {P : Program} {w : World} {K : PySem.W.Frag} {mg : Str → Option Value} {base : Heap} {N : List Str} {q : Str} {sc : Scope} {f : Addr} {cdv : Value} {A : Around} {outer : List Env} {s : Shared} {H : Hp} {E : XK} :
    Passes (L2.CX P w) (cxOf (L2.CX P w) P w K mg base N q sc f cdv A outer s H E) E := passes_call (takes_of rfl rfl rfl rfl) (fun _ _ _ _ h => h)
/-! ### facts by looking -/
/-- the built-in base: 0 ValueError, 1 LookupError, 2 ArithmeticError -/
def ebase : Nat → String
  | 0 => "ValueError"
  | 1 => "LookupError"
  | _ => "ArithmeticError"
def etail (b : Nat) : List Value := [.type (ebase b), .type "Exception", .type "BaseException", .type "object"]
def errCB (K : PySem.W.Frag) (b : Nat) (C : Addr) (f : Str) : Bool :=
  PySem.W.excInitIn K C (etail b) (ebase b ++ ".__new__") && (PySem.W.excOver K C (etail b) && (He.eqO (PySem.W.findIn K (.ref C) "__setattr__") (some (some (.builtin "object.__setattr__"))) && (He.eqO (PySem.W.takerIn K C f) (some none) &&
  (PySem.W.hasDictIn K C && (decide (PySem.W.subIn K (.ref C) (.type "BaseException") = some true) && (decide (PySem.W.typeIn K (.ref C) = some (.type "type")) && (PySem.W.keepIn K (.ref C) && (He.eqO (PySem.W.findIn K (.ref C) "__init__") (some (some (.ref (He.ma K C "__init__")))) &&
  decide (PySem.W.typeIn K (.ref (He.ma K C "__init__")) = some (.type "function"))))))))))
theorem errCB_ok {K : PySem.W.Frag} {b : Nat} {C : Addr} {f : Str} (h : errCB K b C f = true) : ErrC K C (He.ma K C "__init__") f := by
  obtain ⟨h1, h⟩ := He.ba h
  obtain ⟨h2, h⟩ := He.ba h
  obtain ⟨h3, h⟩ := He.ba h
  obtain ⟨h4, h⟩ := He.ba h
  obtain ⟨h5, h⟩ := He.ba h
  obtain ⟨h6, h⟩ := He.ba h
  obtain ⟨h7, h⟩ := He.ba h
  obtain ⟨h8, h⟩ := He.ba h
  obtain ⟨h9, h10⟩ := He.ba h
  refine ⟨?_, He.eqO_ok h3, He.eqO_ok h4, h5, of_decide_eq_true h6, of_decide_eq_true h7, h8, He.eqO_ok h9, of_decide_eq_true h10⟩
  match b, h1, h2 with
  | 0, h1, h2 => exact ⟨_, _, _, _, PySem.F.excBase_ValueError, PySem.F.store_ValueError, h1, h2⟩
  | 1, h1, h2 => exact ⟨_, _, _, _, PySem.F.excBase_LookupError, PySem.F.store_LookupError, h1, h2⟩
  | n + 2, h1, h2 => exact ⟨_, _, _, _, PySem.F.excBase_ArithmeticError, PySem.F.store_ArithmeticError, h1, h2⟩
/-- the words of all error classes -/
def ewords : List Str := ["NotAWrap", "NotAStack", "NotARoad", "InvalidKind", "InvalidBase", "InvalidLength", "InvalidNumber", "InvalidText", "InvalidRow", "InvalidNumbers", "InvalidWraps", "InvalidSeen", "InvalidDeeds", "NothingToPop", "NothingToUndo", "Busy", "TooFine", "TooManyWraps", "TooLong"]
def ew (i : Nat) : Str := ewords.getD i Str.empty
/-- of which base, by its place -/
def eb (i : Nat) : Nat := if i < 13 then 0 else if i < 16 then 1 else 2
def excCB (K : PySem.W.Frag) (D : Addr) : Bool := He.eqO (PySem.W.findIn K (.ref D) "__getattribute__") (some (some (.builtin "BaseException.__getattribute__"))) && (He.eqO (PySem.W.findIn K (.ref D) "__getattr__") (some none) && (decide (PySem.W.subIn K (.ref D) (.type "BaseException") = some true) && (PySem.W.hasDictIn K D &&
  (He.eqO (PySem.W.findIn K (.ref D) "__class__") (some (some (.builtin "object.__class__"))) && (He.eqO (PySem.W.specialIn K (.builtin "object.__class__") "__get__") (some (some (.builtin "getset_descriptor.__get__"))) && (decide (PySem.W.takesIn K (.builtin "object.__class__") = some true) && decide (PySem.W.mroIn K D (.type "object") = some true)))))))
theorem excCB_ok {K : PySem.W.Frag} {D : Addr} (h : excCB K D = true) : ExcC K D ∧ XfC K D := by
  obtain ⟨h1, h⟩ := He.ba h
  obtain ⟨h2, h⟩ := He.ba h
  obtain ⟨h3, h⟩ := He.ba h
  obtain ⟨h4, h⟩ := He.ba h
  obtain ⟨h5, h⟩ := He.ba h
  obtain ⟨h6, h⟩ := He.ba h
  obtain ⟨h7, h8⟩ := He.ba h
  exact ⟨⟨He.eqO_ok h1, He.eqO_ok h2, of_decide_eq_true h3, h4, He.eqO_ok h5, He.eqO_ok h6, of_decide_eq_true h7, of_decide_eq_true h8⟩, He.eqO_ok h1, He.eqO_ok h2, of_decide_eq_true h3, h4⟩
def ebs : List Str := ["Misfit", "Untimely", "Excess"]
/-- all that is asked of the error class at place i -/
def etabB (K : PySem.W.Frag) (i : Nat) : Bool := excCB K (He.ga K (ew i)) && ((List.range 19).all (fun j => decide (PySem.W.kitOne K (.ref (He.ga K (ew i))) (.ref (He.ga K (ew j))) = some (decide (i = j)))) &&
  ((List.range 3).all (fun j => decide (PySem.W.kitOne K (.ref (He.ga K (ew i))) (.ref (He.ga K (ebs.getD j Str.empty))) = some (decide (eb i = j))) && decide (PySem.W.kitOne K (.ref (He.ga K (ew i))) (.type (ebase j)) = some (decide (eb i = j)))) &&
  (([("value" : Str), "index", "limit"]).all (fun f => He.eqO (PySem.W.findIn K (.ref (He.ga K (ew i))) f) (some none)) && decide (PySem.W.exmAny K (.ref (He.ga K (ew i))) [.ref (He.ga K "Misfit"), .ref (He.ga K "Untimely"), .ref (He.ga K "Excess")] = some true))))
structure ErrTab (K : PySem.W.Frag) : Prop where
  exc : ∀ i < 19, ExcC K (He.ga K (ew i))
  xf : ∀ i < 19, XfC K (He.ga K (ew i))
  kit : ∀ i < 19, ∀ j < 19, PySem.W.kitOne K (.ref (He.ga K (ew i))) (.ref (He.ga K (ew j))) = some (decide (i = j))
  kb : ∀ i < 19, ∀ j < 3, PySem.W.kitOne K (.ref (He.ga K (ew i))) (.ref (He.ga K (ebs.getD j Str.empty))) = some (decide (eb i = j))
  ko : ∀ i < 19, ∀ j < 3, PySem.W.kitOne K (.ref (He.ga K (ew i))) (.type (ebase j)) = some (decide (eb i = j))
  no : ∀ i < 19, ∀ f ∈ [("value" : Str), "index", "limit"], PySem.W.findIn K (.ref (He.ga K (ew i))) f = some none
  any : ∀ i < 19, PySem.W.exmAny K (.ref (He.ga K (ew i))) [.ref (He.ga K "Misfit"), .ref (He.ga K "Untimely"), .ref (He.ga K "Excess")] = some true
theorem etab_ok {K : PySem.W.Frag} (h : (List.range 19).all (etabB K) = true) : ErrTab K := by
  have g : ∀ i < 19, etabB K i = true := fun i hi => List.all_eq_true.mp h i (List.mem_range.mpr hi)
  have k : ∀ i < 19, _ := fun i hi => He.ba (g i hi)
  refine ⟨fun i hi => (excCB_ok (He.ba (g i hi)).1).1, fun i hi => (excCB_ok (He.ba (g i hi)).1).2, fun i hi j hj => ?_, fun i hi j hj => ?_, fun i hi j hj => ?_, fun i hi f hf => ?_, fun i hi => ?_⟩
  · exact of_decide_eq_true (List.all_eq_true.mp (He.ba (He.ba (g i hi)).2).1 j (List.mem_range.mpr hj))
  · exact of_decide_eq_true (He.ba (List.all_eq_true.mp (He.ba (He.ba (He.ba (g i hi)).2).2).1 j (List.mem_range.mpr hj))).1
  · exact of_decide_eq_true (He.ba (List.all_eq_true.mp (He.ba (He.ba (He.ba (g i hi)).2).2).1 j (List.mem_range.mpr hj))).2
  · exact He.eqO_ok (List.all_eq_true.mp (He.ba (He.ba (He.ba (He.ba (g i hi)).2).2).2).1 f hf)
  · exact of_decide_eq_true (He.ba (He.ba (He.ba (He.ba (g i hi)).2).2).2).2
end Sz
/-! what isinstance says of things of many kinds, own classes among them; methods that raise, methods in the suite that handles an error -/
namespace Sz
open PySem PySem.Spec PyProof.Rows L2
def btys : List String := ["int", "bool", "NoneType", "str", "list", "tuple", "dict", "float"]
structure KitTab (K : PySem.W.Frag) (Cs : List Str) : Prop where
  bt : ∀ T ∈ btys, ∀ C ∈ Cs, PySem.W.kitOne K (.type T) (.ref (He.ga K C)) = some false
  tb : ∀ C ∈ Cs, ∀ T ∈ btys, PySem.W.kitOne K (.ref (He.ga K C)) (.type T) = some false
  tt : ∀ C ∈ Cs, ∀ D ∈ Cs, PySem.W.kitOne K (.ref (He.ga K C)) (.ref (He.ga K D)) = some (decide (C = D))
def kitTabB (K : PySem.W.Frag) (Cs : List Str) : Bool :=
  (btys.all fun T => Cs.all fun C => decide (PySem.W.kitOne K (.type T) (.ref (He.ga K C)) = some false)) &&
  ((Cs.all fun C => btys.all fun T => decide (PySem.W.kitOne K (.ref (He.ga K C)) (.type T) = some false)) &&
  (Cs.all fun C => Cs.all fun D => decide (PySem.W.kitOne K (.ref (He.ga K C)) (.ref (He.ga K D)) = some (decide (C = D)))))
theorem kitTab_ok {K : PySem.W.Frag} {Cs : List Str} (h : kitTabB K Cs = true) : KitTab K Cs := by
  obtain ⟨h1, h⟩ := He.ba h
  obtain ⟨h2, h3⟩ := He.ba h
  exact ⟨fun T hT C hC => of_decide_eq_true (List.all_eq_true.mp (List.all_eq_true.mp h1 T hT) C hC), fun C hC T hT => of_decide_eq_true (List.all_eq_true.mp (List.all_eq_true.mp h2 C hC) T hT), fun C hC D hD => of_decide_eq_true (List.all_eq_true.mp (List.all_eq_true.mp h3 C hC) D hD)⟩
theorem tyX_same {K : PySem.W.Frag} {H H' : Hp} {v : V} {t : Value} (s : Same H H') (h : TyX K H v t) : TyX K H' v t := by
  cases h with
  | base h =>
    cases h with
    | non => exact .base .non
    | bl x => exact .base (.bl x)
    | int i => exact .base (.int i)
    | str x => exact .base (.str x)
    | flt x => exact .base (.flt x)
    | lst e => exact .base (.lst (s _ _ e))
    | frz e => exact .base (.frz (s _ _ e))
    | tup e => exact .base (.tup (s _ _ e))
    | dK e => exact .base (.dK (s _ _ e))
    | dT e => exact .base (.dT (s _ _ e))
    | ins e a b c d f => exact .base (.ins (s _ _ e) a b c d f)
  | byt b => exact .byt b
  | set e => exact .set (s _ _ e)
  | kList e c => exact .kList e c
  | kTuple e c => exact .kTuple e c
  | kDict e c => exact .kDict e c
  | fTuple e => exact .fTuple (s _ _ e)
  | fDict e => exact .fDict (s _ _ e)
section
variable {P : Program} {w : World} {K : PySem.W.Frag} {mg : Str → Option Value} {base : Heap}
/-- a method that may raise -/
theorem PromM.ofX {C m q : Str} {st : Stmt} {ps N : List Str} {sp : Sp} {k : Nat} (cl : Cls K (He.ga K C)) (me : Meth K (He.ga K C) m (He.ma K (He.ga K C) m)) (D : DefAtM K C m q st) (S : FnScope N ps (defScope st)) (len : ∀ vs H Q E, sp vs H Q E → vs.length = ps.length)
    (hb : ∀ (kV doc pm : Value) (an : Option Addr) (cdv ct : Value) (us : List Value), us.length = ps.length → bindArgs (PySem.W.fnOf m q (defArgs st) (defBody st) (defScope st) .none kV doc pm an cdv ct) ⟨us, []⟩ = pure (ps.zip us))
    (hbody : ∀ (f : Addr) (cdv : Value) (A : Around) (outer : List Env) (s : Shared) (H : Hp) (vs : List V) (Q : VK) (E : XK), Room k (A.deeper (envOfC q (defScope st) s.heap.objs.size f cdv)) → sp vs H Q E →
      ∃ t, PSs (cxOf (L2.CX P w) P w K mg base N q (defScope st) f cdv A outer s H E) (defBody st) t ∧ t { nx := fun _ H' => Q .non H', rt := Q } (start N vs) H) :
    PromM P w K mg base (L2.CX P w) (k + 1) C m ps sp := by
  obtain ⟨fd, F⟩ := D
  exact ⟨cl, me, fd, F.ok S len (fun cdv A outer s H vs Q E hr hs => hbody _ cdv A outer s H vs Q E hr hs), F.bindsN hb⟩
end
/-! ### a method called in the suite that handles an error -/
structure PromMP (P : Program) (w : World) (K : PySem.W.Frag) (mg : Str → Option Value) (base : Heap) (k : Nat) (C m : Str) (ps : List Str) (sp : Sp) : Prop where
  cl : Cls K (He.ga K C)
  me : Meth K (He.ga K C) m (He.ma K (He.ga K C) m)
  ex : ∃ fd, FnP P w K mg base k (He.ma K (He.ga K C) m) fd ps (fun _ => sp) ∧ Binds K fd ps []
theorem PromMP.of {P : Program} {w : World} {K : PySem.W.Frag} {mg : Str → Option Value} {base : Heap} {C m q : Str} {st : Stmt} {ps N : List Str} {sp : Sp} {k : Nat} (cl : Cls K (He.ga K C)) (me : Meth K (He.ga K C) m (He.ma K (He.ga K C) m)) (D : DefAtM K C m q st) (S : FnScope N ps (defScope st)) (len : ∀ vs H Q E, sp vs H Q E → vs.length = ps.length)
    (hb : ∀ (kV doc pm : Value) (an : Option Addr) (cdv ct : Value) (us : List Value), us.length = ps.length → bindArgs (PySem.W.fnOf m q (defArgs st) (defBody st) (defScope st) .none kV doc pm an cdv ct) ⟨us, []⟩ = pure (ps.zip us))
    (hbody : ∀ (f : Addr) (cdv : Value) (A : Around) (outer : List Env) (s : Shared) (H : Hp) (vs : List V) (Q : VK) (E : XK) (p : Addr × Obj), L2H.RoomH k (A.deeper (envOfC q (defScope st) s.heap.objs.size f cdv)) → (A.deeper (envOfC q (defScope st) s.heap.objs.size f cdv)).guards = some [] → sp vs H Q E →
      ∃ t, PSs (L2H.cxH CX0 P w K mg base N q (defScope st) f cdv A outer s H E p).nox (defBody st) t ∧ t { nx := fun _ H' => Q .non H', rt := Q } (start N vs) H) :
    PromMP P w K mg base (k + 1) C m ps sp := by
  obtain ⟨fd, F⟩ := D
  exact ⟨cl, me, fd, fnP_of F S (fun p vs H Q E h => len vs H Q E h) (fun cdv A outer s H vs Q E p hr hg hs => hbody _ cdv A outer s H vs Q E p hr hg hs), F.bindsN hb⟩
section
variable {X : Cx} {k : Nat} {C : Str} {ps : List Str} {sp : Sp} {a : Addr} {oe : Obj}
/-- repr(x) by an own __repr__, while an error is handled -/
theorem cr_reprOP (G : PromMP X.prog X.w X.K X.mg X.base k C "__repr__" ps sp) (gd : X.A.guards = some []) (hr : L2H.RoomH (k + 1) X.A) (hp : (a, oe) ∈ X.pn) (hs : X.stack = X.env :: X.outer) :
    CallR X (.builtin "repr") (fun xs H Q => ∃ p dx fs, xs = [.ref p] ∧ H p = some (.ins (He.ga X.K C) dx fs) ∧ sp [.ref p] H (fun v H2 => ∃ y : Str, v = .str y ∧ Q (.str y) H2) E0) := by
  intro pins s σ H xs us Q I r h
  obtain ⟨p, dx, fs, rfl, hpp, h⟩ := h
  obtain ⟨u, rfl, ru⟩ := vals1 r
  obtain rfl : u = Value.ref p := ru
  obtain ⟨m1, O1, _⟩ := ins_get I.hok hpp
  obtain ⟨od1, J1, _⟩ := O1.look
  obtain ⟨m, hF⟩ := I.fr
  obtain ⟨fd, F, b⟩ := G.ex
  have pin : L2H.PinOk X.stack H s (a, oe) := by
    obtain ⟨p1, p2, p3, p4, p5⟩ := I.pin (a, oe) (List.mem_append_left _ hp)
    refine ⟨p1, p2, fun z => ?_, p5⟩
    rw [hs] at z
    obtain ⟨en, hen, q⟩ := List.mem_filterMap.mp z
    rcases List.mem_cons.mp hen with z | z
    · subst z
      have nf := I.ok.stk
      rcases nf with nf | ⟨_, nf⟩
      · have nf : X.stack = X.outer := nf
        rw [hs] at nf
        exact absurd (congrArg List.length nf) (by simp)
      · have nf : X.env.frame = some X.env.locals := nf
        rw [nf] at q
        exact p3 (Option.some.inj q).symm
    · exact p4 (List.mem_filterMap.mpr ⟨en, z, q⟩)
  have e0 : Env0 X.prog X.w X.K X.mg X.base X.A.in1 X.stack s H := by
    have e := I.env0
    exact ⟨e.frames, e.mod, e.bs, e.bsz, e.funs, e.frf, e.hok, e.bare⟩
  have hl := F.len (a, oe) _ _ _ _ h
  refine PySem.W.repr_K (by have := hr.un; show X.A.units + 1 < cLine; omega) hF I.ok.mod.kin J1 G.me.at_ G.me.fn ?_
  have run : wpAny (model X.prog X.w) X.A.in1 (call (.ref (He.ma X.K (He.ga X.K C) "__repr__")) [.ref p]) (EP X pins σ (fun v H2 => ∃ y : Str, v = .str y ∧ Q (.str y) H2)) X.xe s := by
    refine wpAny_call (codeAny_mono (F.run X.A.in1 X.stack s H ⟨[.ref p], []⟩ [.ref p] [.ref p] _ E0 (a, oe) ⟨by have := hr.dp; show X.A.depth + 3 * k + 5 < _; omega, by have := hr.un; show X.A.units + 1 + 16 * k + 200 < _; omega⟩ gd pin e0 (by
      have := b s [.ref p] I.kIn (by simpa using hl)
      simpa using this) (.cons rfl .nil) h) fun rr s' hq => ?_)
    cases rr with
    | error e => exact False.elim hq
    | ok fl =>
      cases fl with
      | ret v =>
        obtain ⟨z, H', I', rz, q⟩ := I.after hq
        exact ⟨z, H', I', rz, q⟩
      | next => exact False.elim hq
      | brk => exact False.elim hq
      | cont => exact False.elim hq
  exact wpAny_mono run (fun v s' z => strBack_of z) fun _ _ z => z
end
/-! ### what follows a statement, said once -/
def tMid (t : TS) : TS := fun D σ H => ∃ P : L2.St → Hp → Prop, (∀ σ' H', P σ' H' → D.nx σ' H') ∧ t { D with nx := P } σ H
theorem ps_mid {X : Cx} {s : Stmt} {t : TS} (h : PS X s t) : PS X s (tMid t) := by
  refine ⟨fun pins s0 σ H D I ⟨P, hP, ht⟩ => wpAny_mono (h.run pins s0 σ H { D with nx := P } I ht) (fun fl s' z => ?_) fun _ _ z => z⟩
  cases fl with
  | next => exact let ⟨σ', H', J, q⟩ := z; ⟨σ', H', J, hP σ' H' q⟩
  | ret u => exact z
  | brk => exact z
  | cont => exact z
end Sz
/-! x(e, ..) where x tells an instance whose class has an own __call__ -/
namespace Sz
open PySem PySem.Spec PyProof.Rows L2
section
open PySem.W PySem.Calls
theorem callWith_inst {M : Model} {A : Around} {E : Value → Shared → Prop} {s : Shared} {pos : Pos} {y : Addr} {Q : Value → Shared → Prop} {ps : List (Bool × Sem Value)} (np : ps.any (·.1) = false)
    (go : wpAny M A (evalArgs (.ref y) true ps []) (fun a s2 => Looks M s2.heap (keeperOf (.ref y)) .caller ∧ wpAny M A (call (.ref y) ([] ++ a.pos) a.kw) Q E s2) E s) :
    wpAny M A (callWith pos (.ref y) [] ps []) Q E s := by
  have np2 : (ps.any (·.1) || ([] : List (Option Str × Sem Value)).any (·.1.isNone)) = false := by rw [np]; rfl
  unfold callWith
  refine wpAny_bind (wpAny_holding (wpAny_mono go (fun a s2 both => wpAny_bind (wpAny_standAt ?_)) fun _ _ z => z))
  obtain ⟨L, run⟩ := both
  simp only [np2]
  refine wpAny_bind (L.here ?_)
  have ends : ∀ {t : Sem Value}, wpAny M A t Q E s2 → wpAny M A (t >>= fun r => holding [r] point >>= fun _ => pure r) Q E s2 := fun ht =>
    wpAny_bind (wpAny_mono ht (fun r s3 hr => wpAny_bind (wpAny_holding (wpAny_point (wpAny_pure hr)))) fun _ _ z => z)
  exact ends (wpAny_operateT run)
end
/-- the def of a method is a function object -/
theorem fn_in {K : PySem.W.Frag} {C m q : Str} {st : Stmt} (D : DefAtM K C m q st) : PySem.W.fnIn K (He.ma K (He.ga K C) m) = true := by
  obtain ⟨fd, F⟩ := D
  obtain ⟨_, _, _, _, _, _, _, _, _, _, rfl, lk, _⟩ := F.ex
  unfold PySem.W.fnIn
  rw [lk]
def tCallO (C : Addr) (sp : Sp) (E : XK) (to : TE) (t : TA) : TE := fun σ H Q => to σ H fun x H0 => ∃ a : Addr, x = .ref a ∧ t σ H0 fun vs H1 => ∃ (dx : Addr) (fs : List (Str × V)), H1 a = some (.ins C dx fs) ∧ sp (.ref a :: vs) H1 Q E
section
variable {X : Cx} {CX : CXT} {k i : Nat} {C : Str} {ps : List Str} {sp : Sp} {E : XK} {x : Str} {p pos : Pos} {e : Expr} {es : List Expr} {t : TA}
theorem pe_callO (G : PromM X.prog X.w X.K X.mg X.base CX k C "__call__" ps sp) (fn : PySem.W.fnIn X.K (He.ma X.K (He.ga X.K C) "__call__") = true) (hr : Room k X.A) (hN : X.N[i]? = some x) (hv : Vis X.env.scope x) (hx : Passes CX X E) (ha : PA X (e :: es) t)
    (hdb : (x == ("__debug__" : Str)) = false := by decide) (hcd : (x == ("__classdict__" : Str)) = false := by decide)
    (he : starEach (e :: es) X.env = (false, eval e X.env) :: starEach es X.env := by rfl) (hpl : (backTo pos (starEach es X.env)).any (·.1) = false := by rfl) : PE X (.Call (.Name x p) (e :: es) [] pos) (tCallO (He.ga X.K C) sp E (tVar i) t) := by
  obtain ⟨fd, F, hb⟩ := G.ex
  refine ⟨fun pins s σ H Q I h => ?_⟩
  refine wpAny_Call_Name_kw (thn ((pe_var (pos := p) hN hv hdb hcd).run pins s σ H _ I h) fun u s1 ⟨v, H1, I1, r1, q1⟩ => ?_)
  obtain ⟨a, rfl, q1⟩ := q1
  obtain rfl : u = Value.ref a := r1
  refine callWith_inst (by rw [he]; exact hpl) ?_
  rw [he]
  refine PySem.Calls.evalArgs_plain ?_
  have run := ha.run pos pins s1 σ H1 _ I1 q1
  rw [he] at run
  refine thn run fun us s2 ⟨vs, H2, I2, r, dx, fs, ea, q⟩ => ?_
  obtain ⟨mA, O, _⟩ := ins_get I2.hok ea
  obtain ⟨od, J, _⟩ := O.look
  refine ⟨PySem.W.kco_keeper J rfl, ?_⟩
  have r2 : Vals (V.ref a :: vs) (Value.ref a :: us) := .cons rfl r
  have hl : (Value.ref a :: us).length = ps.length := by rw [← r2.length]; exact F.len _ _ _ _ q
  refine wpAny_call (PySem.W.kco_code (f := He.ma X.K (He.ga X.K C) "__call__") I2.kIn J rfl G.me.at_ G.me.fn fn ?_)
  have hb2 := hb s2 (Value.ref a :: us) I2.kIn (by rw [List.append_nil]; exact hl)
  rw [List.append_nil] at hb2
  refine codeAny_mono (F.run X.A X.stack s2 H2 ⟨Value.ref a :: us, []⟩ (Value.ref a :: us) (V.ref a :: vs) Q E hr I2.env0 hb2 r2 q) fun r s' hq => ?_
  cases r with
  | error e => exact hx pins σ H2 s2 e s' I2 hq
  | ok fl =>
    cases fl with
    | ret u => exact I2.after hq
    | next => exact False.elim hq
    | brk => exact False.elim hq
    | cont => exact False.elim hq
/-- f() -/
theorem pe_callP0 {k : Nat} {st : Stmt} (G : Prom X.prog X.w X.K X.mg X.base CX k x st ps sp) (hr : Room k X.A) (hg : Gl X x) (hx : Passes CX X E) (hdb : (x == ("__debug__" : Str)) = false := by decide) : PE X (.Call (.Name x p) [] [] pos) (tCall sp [] E tNil) := by
  obtain ⟨f, fd, F, hm, D, hb⟩ := G.ex
  exact pe_call0 F hr hg hm D.kp hb .nil hx hdb
end
end Sz
namespace Sz
/-! ### lengths with two totals -/
/-- the length whose totals are the power less one and the power -/
def dlen (b c : Int) (j : Nat) : Int := b ^ j - 1 - (j : Int) - c
theorem pow_ge2 {b : Int} (hb : 2 ≤ b) {j : Nat} (hj : 1 ≤ j) : 2 ≤ b ^ j := by
  have h := pow_mono (show 1 ≤ b by omega) (show 0 + 1 ≤ j by omega)
  rw [pow_one] at h
  omega
theorem pow_dbl {b : Int} (hb : 2 ≤ b) (j : Nat) : 2 * b ^ j ≤ b ^ (j + 1) := by
  rw [Int.pow_succ]
  have h := Int.mul_le_mul_of_nonneg_left hb (show 0 ≤ b ^ j by have := pow_pos (show 1 ≤ b by omega) j; omega)
  omega
theorem dlen_lt {b c : Int} (hb : 2 ≤ b) {j : Nat} (hj : 1 ≤ j) : dlen b c j < dlen b c (j + 1) := by
  have h1 := pow_dbl hb j
  have h2 := pow_ge2 hb hj
  unfold dlen
  omega
theorem dlen_mono {b c : Int} (hb : 2 ≤ b) {i : Nat} (hi : 1 ≤ i) : ∀ {j : Nat}, i ≤ j → dlen b c i ≤ dlen b c j
  | 0, h => by omega
  | j + 1, h => by
    by_cases e : i = j + 1
    · rw [e]
      exact Int.le_refl _
    · exact Int.le_trans (dlen_mono hb hi (j := j) (by omega)) (Int.le_of_lt (dlen_lt hb (by omega)))
/-- the first number of figures with such a length -/
structure IsJ (b c : Int) (j : Nat) : Prop where
  pos : 1 ≤ j
  ok : 0 ≤ dlen b c j
  first : ∀ i : Nat, 1 ≤ i → i < j → dlen b c i < 0
theorem isJ_ex {b c : Int} (hb : 2 ≤ b) (hc : 0 ≤ c) : ∃ j, IsJ b c j := by
  have key : ∀ n : Nat, (∃ j, IsJ b c j) ∨ ∀ i : Nat, 1 ≤ i → i < n → dlen b c i < 0 := by
    intro n
    induction n with
    | zero => exact Or.inr fun i _ h => by omega
    | succ n ih =>
      rcases ih with h | h
      · exact Or.inl h
      · by_cases hn : 1 ≤ n
        · by_cases d : 0 ≤ dlen b c n
          · exact Or.inl ⟨n, hn, d, h⟩
          · refine Or.inr fun i h1 h2 => ?_
            by_cases e : i = n
            · rw [e]
              omega
            · exact h i h1 (by omega)
        · exact Or.inr fun i h1 h2 => by omega
  rcases key (c.toNat + 3) with h | h
  · exact h
  · have h1 := h (c.toNat + 2) (by omega) (by omega)
    have h2 := two_mul_le hb (c.toNat + 2)
    unfold dlen at h1
    omega
theorem isJ_eq {b c : Int} {i j : Nat} (h : IsJ b c i) (h2 : IsJ b c j) : i = j := by
  by_cases c1 : i < j
  · have := h2.first i h.pos c1
    have := h.ok
    omega
  · by_cases c2 : j < i
    · have := h.first j h2.pos c2
      have := h2.ok
      omega
    · omega
theorem isJ_iff {b c : Int} {j i : Nat} (hb : 2 ≤ b) (h : IsJ b c j) (hi : 1 ≤ i) : 0 ≤ dlen b c i ↔ j ≤ i := by
  constructor
  · intro d
    by_cases e : j ≤ i
    · exact e
    · have := h.first i hi (by omega)
      omega
  · intro e
    exact Int.le_trans h.ok (dlen_mono hb h.pos e)
/-- it lies near -/
theorem isJ_near {b c : Int} {j : Nat} (hb : 2 ≤ b) (h : IsJ b c j) : (j : Int) ≤ c + 3 ∨ j = 1 := by
  by_cases e : j = 1
  · exact Or.inr e
  · left
    have := h.pos
    have h1 := h.first (j - 1) (by omega) (by omega)
    have h2 := two_mul_le hb (j - 1)
    unfold dlen at h1
    omega
/-- all such lengths up to a number of figures -/
def duel (b c : Int) : Nat → List Int
  | 0 => []
  | j + 1 => if 0 ≤ dlen b c (j + 1) then duel b c j ++ [dlen b c (j + 1)] else duel b c j
theorem duel_eq {b c : Int} {j : Nat} (hb : 2 ≤ b) (h : IsJ b c j) : ∀ n : Nat, duel b c n = (List.range (n + 1 - j)).map fun i => dlen b c (j + i)
  | 0 => by
    have := h.pos
    rw [show 0 + 1 - j = 0 by omega]
    rfl
  | n + 1 => by
    have ih := duel_eq hb h n
    have hi := isJ_iff hb h (show 1 ≤ n + 1 by omega)
    by_cases d : j ≤ n + 1
    · have e : n + 1 + 1 - j = (n + 1 - j) + 1 := by omega
      show (if 0 ≤ dlen b c (n + 1) then duel b c n ++ [dlen b c (n + 1)] else duel b c n) = _
      rw [if_pos (hi.mpr d), ih, e, List.range_succ, List.map_append]
      have e2 : j + (n + 1 - j) = n + 1 := by omega
      show _ = _ ++ [dlen b c (j + (n + 1 - j))]
      rw [e2]
    · have e : n + 1 + 1 - j = 0 := by omega
      have e2 : n + 1 - j = 0 := by omega
      show (if 0 ≤ dlen b c (n + 1) then duel b c n ++ [dlen b c (n + 1)] else duel b c n) = _
      rw [if_neg (fun z => d (hi.mp z)), ih, e, e2]
theorem duel_len (b c : Int) : ∀ n : Nat, (duel b c n).length ≤ n
  | 0 => Nat.le_refl _
  | n + 1 => by
    have ih := duel_len b c n
    unfold duel
    split
    · rw [List.length_append]
      simp only [List.length_singleton]
      omega
    · omega
end Sz
set_option pp.maxSteps 900
namespace Sz
open PySem PySem.Spec PyProof.Rows L2
def top (i : Nat) : Stmt := PySem.Challenge.pw_sizestacks_k67_whole_totals_and_missed.main.body.getD i (.Pass ⟨0, 0, 0, 0⟩)
abbrev s__wall : Stmt := top 0
theorem sc__wall : FnScope ["k"] ["k"] (defScope s__wall) := ⟨rfl, rfl, rfl, by decide +kernel, rfl, by decide +kernel, by decide +kernel⟩
abbrev s_InvalidNumber___init__ : Stmt := inClass (top 11) 0
theorem sc_InvalidNumber___init__ : FnScope ["self", "value"] ["self", "value"] (defScope s_InvalidNumber___init__) := ⟨rfl, rfl, rfl, by decide +kernel, rfl, by decide +kernel, by decide +kernel⟩
abbrev s_TooLong___init__ : Stmt := inClass (top 23) 0
theorem sc_TooLong___init__ : FnScope ["self", "limit"] ["self", "limit"] (defScope s_TooLong___init__) := ⟨rfl, rfl, rfl, by decide +kernel, rfl, by decide +kernel, by decide +kernel⟩
abbrev s_is_integer : Stmt := top 32
theorem sc_is_integer : FnScope ["value"] ["value"] (defScope s_is_integer) := ⟨rfl, rfl, rfl, by decide +kernel, rfl, by decide +kernel, by decide +kernel⟩
abbrev s_is_between : Stmt := top 33
theorem sc_is_between : FnScope ["value", "least", "most"] ["value", "least", "most"] (defScope s_is_between) := ⟨rfl, rfl, rfl, by decide +kernel, rfl, by decide +kernel, by decide +kernel⟩
abbrev s_check_length : Stmt := top 34
theorem sc_check_length : FnScope ["value"] ["value"] (defScope s_check_length) := ⟨rfl, rfl, rfl, by decide +kernel, rfl, by decide +kernel, by decide +kernel⟩
abbrev s_check_base : Stmt := top 35
theorem sc_check_base : FnScope ["value"] ["value"] (defScope s_check_base) := ⟨rfl, rfl, rfl, by decide +kernel, rfl, by decide +kernel, by decide +kernel⟩
abbrev s_figures_of : Stmt := top 36
theorem sc_figures_of : FnScope ["length", "base", "count", "power", "eight", "turn"] ["length", "base"] (defScope s_figures_of) := ⟨rfl, rfl, rfl, by decide +kernel, rfl, by decide +kernel, by decide +kernel⟩
abbrev s_common_divisor : Stmt := top 37
theorem sc_common_divisor : FnScope ["one", "other"] ["one", "other"] (defScope s_common_divisor) := ⟨rfl, rfl, rfl, by decide +kernel, rfl, by decide +kernel, by decide +kernel⟩
abbrev s_amount_of : Stmt := top 38
theorem sc_amount_of : FnScope ["word", "amount", "sign"] ["word"] (defScope s_amount_of) := ⟨rfl, rfl, rfl, by decide +kernel, rfl, by decide +kernel, by decide +kernel⟩
abbrev s_period_of : Stmt := top 42
theorem sc_period_of : FnScope ["stack", "period", "growth", "wrap", "whole", "times", "parts"] ["stack"] (defScope s_period_of) := ⟨rfl, rfl, rfl, by decide +kernel, rfl, by decide +kernel, by decide +kernel⟩
abbrev s_told_lengths : Stmt := top 43
theorem sc_told_lengths : FnScope ["stack", "length", "found", "wrap", "size"] ["stack", "length"] (defScope s_told_lengths) := ⟨rfl, rfl, rfl, by decide +kernel, rfl, by decide +kernel, by decide +kernel⟩
abbrev s_first_reach : Stmt := top 44
theorem sc_first_reach : FnScope ["stack", "place", "power", "low", "high", "first", "last", "guess", "near", "middle"] ["stack", "place", "power", "low", "high"] (defScope s_first_reach) := ⟨rfl, rfl, rfl, by decide +kernel, rfl, by decide +kernel, by decide +kernel⟩
abbrev s_changes : Stmt := top 45
theorem sc_changes : FnScope ["stack", "low", "high", "found", "firsts", "lasts", "place", "first", "last", "power"] ["stack", "low", "high"] (defScope s_changes) := ⟨rfl, rfl, rfl, by decide +kernel, rfl, by decide +kernel, by decide +kernel⟩
abbrev s_stretches : Stmt := top 46
theorem sc_stretches : FnScope ["stack", "low", "high", "starts", "start"] ["stack", "low", "high"] (defScope s_stretches) := ⟨rfl, rfl, rfl, by decide +kernel, rfl, by decide +kernel, by decide +kernel⟩
abbrev s_fault_in : Stmt := top 51
theorem sc_fault_in : FnScope ["kind", "numbers", "index", "least", "most"] ["kind", "numbers"] (defScope s_fault_in) := ⟨rfl, rfl, rfl, by decide +kernel, rfl, by decide +kernel, by decide +kernel⟩
abbrev s_begun : Stmt := top 52
theorem sc_begun : FnScope ["length", "whole"] ["length", "whole"] (defScope s_begun) := ⟨rfl, rfl, rfl, by decide +kernel, rfl, by decide +kernel, by decide +kernel⟩
abbrev s_total_of : Stmt := top 53
theorem sc_total_of : FnScope ["length", "base", "figures"] ["length", "base"] (defScope s_total_of) := ⟨rfl, rfl, rfl, by decide +kernel, rfl, by decide +kernel, by decide +kernel⟩
abbrev s_Wrap___init__ : Stmt := inClass (top 54) 0
theorem sc_Wrap___init__ : FnScope ["self", "kind", "numbers", "fault", "number"] ["self", "kind", "numbers"] (defScope s_Wrap___init__) := ⟨rfl, rfl, rfl, by decide +kernel, rfl, by decide +kernel, by decide +kernel⟩
abbrev s_Wrap_grown : Stmt := inClass (top 54) 2
theorem sc_Wrap_grown : FnScope ["self", "length", "base", "first", "last"] ["self", "length", "base"] (defScope s_Wrap_grown) := ⟨rfl, rfl, rfl, by decide +kernel, rfl, by decide +kernel, by decide +kernel⟩
abbrev s_Wrap___str__ : Stmt := inClass (top 54) 5
theorem sc_Wrap___str__ : FnScope ["self"] ["self"] (defScope s_Wrap___str__) := ⟨rfl, rfl, rfl, by decide +kernel, rfl, by decide +kernel, by decide +kernel⟩
abbrev s_in_pieces : Stmt := top 55
theorem sc_in_pieces : FnScope ["length", "most", "constant", "base", "size", "rest"] ["length", "most", "constant", "base"] (defScope s_in_pieces) := ⟨rfl, rfl, rfl, by decide +kernel, rfl, by decide +kernel, by decide +kernel⟩
abbrev s_wrap_in : Stmt := top 56
theorem sc_wrap_in : FnScope ["text", "words", "kind", "numbers", "word"] ["text"] (defScope s_wrap_in) := ⟨rfl, rfl, rfl, by decide +kernel, rfl, by decide +kernel, by decide +kernel⟩
abbrev s_check_wrap : Stmt := top 57
theorem sc_check_wrap : FnScope ["value"] ["value"] (defScope s_check_wrap) := ⟨rfl, rfl, rfl, by decide +kernel, rfl, by decide +kernel, by decide +kernel⟩
abbrev s_fineness_of : Stmt := top 59
theorem sc_fineness_of : FnScope ["wraps", "product", "wrap"] ["wraps"] (defScope s_fineness_of) := ⟨rfl, rfl, rfl, by decide +kernel, rfl, by decide +kernel, by decide +kernel⟩
abbrev s_check_wraps : Stmt := top 60
theorem sc_check_wraps : FnScope ["values", "most", "index", "value"] ["values", "most"] (defScope s_check_wraps) := ⟨rfl, rfl, rfl, by decide +kernel, rfl, by decide +kernel, by decide +kernel⟩
abbrev s_Stack___init__ : Stmt := inClass (top 61) 0
theorem sc_Stack___init__ : FnScope ["self", "base", "wraps", "fineness"] ["self", "base", "wraps"] (defScope s_Stack___init__) := ⟨rfl, rfl, rfl, by decide +kernel, rfl, by decide +kernel, by decide +kernel⟩
abbrev s_Stack_grown : Stmt := inClass (top 61) 2
theorem sc_Stack_grown : FnScope ["self", "length", "wrap"] ["self", "length"] (defScope s_Stack_grown) := ⟨rfl, rfl, rfl, by decide +kernel, rfl, by decide +kernel, by decide +kernel⟩
abbrev s_Stack_size : Stmt := inClass (top 61) 3
theorem sc_Stack_size : FnScope ["self", "length"] ["self", "length"] (defScope s_Stack_size) := ⟨rfl, rfl, rfl, by decide +kernel, rfl, by decide +kernel, by decide +kernel⟩
abbrev s_Stack___call__ : Stmt := inClass (top 61) 4
theorem sc_Stack___call__ : FnScope ["self", "length"] ["self", "length"] (defScope s_Stack___call__) := ⟨rfl, rfl, rfl, by decide +kernel, rfl, by decide +kernel, by decide +kernel⟩
abbrev s_Stack_sizes : Stmt := inClass (top 61) 5
theorem sc_Stack_sizes : FnScope ["self", "length", "found", "wrap"] ["self", "length"] (defScope s_Stack_sizes) := ⟨rfl, rfl, rfl, by decide +kernel, rfl, by decide +kernel, by decide +kernel⟩
abbrev s_Stack___str__ : Stmt := inClass (top 61) 11
theorem sc_Stack___str__ : FnScope ["self", "wrap"] ["self"] (defScope s_Stack___str__) := ⟨rfl, rfl, rfl, by decide +kernel, rfl, by decide +kernel, by decide +kernel⟩
abbrev s_stack_in : Stmt := top 62
theorem sc_stack_in : FnScope ["text", "rows", "word", "gap", "rest", "base", "wraps", "row"] ["text"] (defScope s_stack_in) := ⟨rfl, rfl, rfl, by decide +kernel, rfl, by decide +kernel, by decide +kernel⟩
abbrev s_check_stack : Stmt := top 63
theorem sc_check_stack : FnScope ["value"] ["value"] (defScope s_check_stack) := ⟨rfl, rfl, rfl, by decide +kernel, rfl, by decide +kernel, by decide +kernel⟩
abbrev s_greatest_within : Stmt := top 66
theorem sc_greatest_within : FnScope ["stack", "bound", "low", "high", "middle"] ["stack", "bound"] (defScope s_greatest_within) := ⟨rfl, rfl, rfl, by decide +kernel, rfl, by decide +kernel, by decide +kernel⟩
abbrev s_rises_between : Stmt := top 67
theorem sc_rises_between : FnScope ["stack", "low", "high", "count", "size", "length", "fresh"] ["stack", "low", "high"] (defScope s_rises_between) := ⟨rfl, rfl, rfl, by decide +kernel, rfl, by decide +kernel, by decide +kernel⟩
abbrev s_rises_along : Stmt := top 68
theorem sc_rises_along : FnScope ["stack", "low", "high", "period", "turns", "last"] ["stack", "low", "high", "period"] (defScope s_rises_along) := ⟨rfl, rfl, rfl, by decide +kernel, rfl, by decide +kernel, by decide +kernel⟩
abbrev s_Stairs___init__ : Stmt := inClass (top 69) 0
theorem sc_Stairs___init__ : FnScope ["self", "stack", "high", "count", "first", "last"] ["self", "stack", "high"] (defScope s_Stairs___init__) := ⟨rfl, rfl, rfl, by decide +kernel, rfl, by decide +kernel, by decide +kernel⟩
abbrev s_Stairs_sizes_up_to : Stmt := inClass (top 69) 1
theorem sc_Stairs_sizes_up_to : FnScope ["self", "length", "first", "count", "row"] ["self", "length"] (defScope s_Stairs_sizes_up_to) := ⟨rfl, rfl, rfl, by decide +kernel, rfl, by decide +kernel, by decide +kernel⟩
abbrev s_Stairs_missed_below : Stmt := inClass (top 69) 2
theorem sc_Stairs_missed_below : FnScope ["self", "length"] ["self", "length"] (defScope s_Stairs_missed_below) := ⟨rfl, rfl, rfl, by decide +kernel, rfl, by decide +kernel, by decide +kernel⟩
abbrev s_missed : Stmt := top 70
theorem sc_missed : FnScope ["stack", "bound", "most"] ["stack", "bound"] (defScope s_missed) := ⟨rfl, rfl, rfl, by decide +kernel, rfl, by decide +kernel, by decide +kernel⟩
abbrev s_missed_at : Stmt := top 71
theorem sc_missed_at : FnScope ["stack", "number", "high", "stairs", "low", "middle", "found"] ["stack", "number"] (defScope s_missed_at) := ⟨rfl, rfl, rfl, by decide +kernel, rfl, by decide +kernel, by decide +kernel⟩
abbrev s_check_constant : Stmt := top 73
theorem sc_check_constant : FnScope ["value"] ["value"] (defScope s_check_constant) := ⟨rfl, rfl, rfl, by decide +kernel, rfl, by decide +kernel, by decide +kernel⟩
abbrev s_totals : Stmt := top 74
theorem sc_totals : FnScope ["base", "constant", "length", "least"] ["base", "constant", "length"] (defScope s_totals) := ⟨rfl, rfl, rfl, by decide +kernel, rfl, by decide +kernel, by decide +kernel⟩
abbrev s_doubled : Stmt := top 75
theorem sc_doubled : FnScope ["base", "constant", "number", "left", "figures", "power", "length"] ["base", "constant", "number"] (defScope s_doubled) := ⟨rfl, rfl, rfl, by decide +kernel, rfl, by decide +kernel, by decide +kernel⟩
abbrev s_L_cell : Stmt := top 77
theorem sc_L_cell : FnScope ["_law_script", "_law_k", "_law_mixed", "_law_part_here"] ["_law_script", "_law_k"] (defScope s_L_cell) := ⟨rfl, rfl, rfl, by decide +kernel, rfl, by decide +kernel, by decide +kernel⟩
abbrev s_L_purse : Stmt := top 78
theorem sc_L_purse : FnScope ["_law_cell_here", "_law_first", "_law_mixed"] ["_law_cell_here"] (defScope s_L_purse) := ⟨rfl, rfl, rfl, by decide +kernel, rfl, by decide +kernel, by decide +kernel⟩
abbrev s_L_take : Stmt := top 79
theorem sc_L_take : FnScope ["_law_purse_here", "_law_many", "_law_digit", "_law_mixed"] ["_law_purse_here", "_law_many"] (defScope s_L_take) := ⟨rfl, rfl, rfl, by decide +kernel, rfl, by decide +kernel, by decide +kernel⟩
abbrev s_L_wide : Stmt := top 80
theorem sc_L_wide : FnScope ["_law_purse_here", "_law_many", "_law_found", "_law_k"] ["_law_purse_here", "_law_many"] (defScope s_L_wide) := ⟨rfl, rfl, rfl, by decide +kernel, rfl, by decide +kernel, by decide +kernel⟩
abbrev s_L_radix : Stmt := top 81
theorem sc_L_radix : FnScope ["_law_purse_here", "_law_way"] ["_law_purse_here"] (defScope s_L_radix) := ⟨rfl, rfl, rfl, by decide +kernel, rfl, by decide +kernel, by decide +kernel⟩
abbrev s_L_extra : Stmt := top 82
theorem sc_L_extra : FnScope ["_law_purse_here", "_law_way"] ["_law_purse_here"] (defScope s_L_extra) := ⟨rfl, rfl, rfl, by decide +kernel, rfl, by decide +kernel, by decide +kernel⟩
abbrev s_L_figures : Stmt := top 83
theorem sc_L_figures : FnScope ["_law_amount", "_law_radix_here", "_law_many", "_law_power"] ["_law_amount", "_law_radix_here"] (defScope s_L_figures) := ⟨rfl, rfl, rfl, by decide +kernel, rfl, by decide +kernel, by decide +kernel⟩
abbrev s_L_far : Stmt := top 84
theorem sc_L_far : FnScope ["_law_purse_here", "_law_radix_here", "_law_extra_here", "_law_way", "_law_power", "_law_many", "_law_turn", "_law_found"] ["_law_purse_here", "_law_radix_here", "_law_extra_here"] (defScope s_L_far) := ⟨rfl, rfl, rfl, by decide +kernel, rfl, by decide +kernel, by decide +kernel⟩
abbrev s_L_error : Stmt := top 85
theorem sc_L_error : FnScope ["_law_e", "_law_words", "_law_fits", "_law_bases", "_law_own", "_law_at"] ["_law_e"] (defScope s_L_error) := ⟨rfl, rfl, rfl, by decide +kernel, rfl, by decide +kernel, by decide +kernel⟩
abbrev s_L_caught : Stmt := top 86
theorem sc_L_caught : FnScope ["_law_deed", "_law_told", "_law_e"] ["_law_deed"] (defScope s_L_caught) := ⟨rfl, rfl, rfl, by decide +kernel, rfl, by decide +kernel, by decide +kernel⟩
abbrev s_L_greater : Stmt := top 87
theorem sc_L_greater : FnScope ["_law_radix_here", "_law_extra_here", "_law_found", "_law_power", "_law_many"] ["_law_radix_here", "_law_extra_here"] (defScope s_L_greater) := ⟨rfl, rfl, rfl, by decide +kernel, rfl, by decide +kernel, by decide +kernel⟩
abbrev s_L_least : Stmt := top 88
theorem sc_L_least : FnScope ["_law_radix_here", "_law_extra_here", "_law_amount", "_law_total"] ["_law_radix_here", "_law_extra_here", "_law_amount", "_law_total"] (defScope s_L_least) := ⟨rfl, rfl, rfl, by decide +kernel, rfl, by decide +kernel, by decide +kernel⟩
abbrev s_L_right : Stmt := top 89
theorem sc_L_right : FnScope ["_law_purse_here", "_law_radix_here", "_law_extra_here", "_law_greater_here", "_law_turn", "_law_amount", "_law_mark", "_law_due", "_law_told", "_law_some", "_law_at", "_law_first", "_law_mine", "_law_power"] ["_law_purse_here"] (defScope s_L_right) := ⟨rfl, rfl, rfl, by decide +kernel, rfl, by decide +kernel, by decide +kernel⟩
abbrev s_law : Stmt := top 90
theorem sc_law : FnScope ["_law_script", "_law_k"] ["_law_script"] (defScope s_law) := ⟨rfl, rfl, rfl, by decide +kernel, rfl, by decide +kernel, by decide +kernel⟩
structure Tx (w : World) (K : PySem.W.Frag) (mg : Str → Option Value) : Prop where
  d__wall : DefAt K mg "_wall" s__wall
  d_is_integer : DefAt K mg "is_integer" s_is_integer
  d_is_between : DefAt K mg "is_between" s_is_between
  d_check_length : DefAt K mg "check_length" s_check_length
  d_check_base : DefAt K mg "check_base" s_check_base
  d_figures_of : DefAt K mg "figures_of" s_figures_of
  d_common_divisor : DefAt K mg "common_divisor" s_common_divisor
  d_amount_of : DefAt K mg "amount_of" s_amount_of
  d_period_of : DefAt K mg "period_of" s_period_of
  d_told_lengths : DefAt K mg "told_lengths" s_told_lengths
  d_first_reach : DefAt K mg "first_reach" s_first_reach
  d_changes : DefAt K mg "changes" s_changes
  d_stretches : DefAt K mg "stretches" s_stretches
  d_fault_in : DefAt K mg "fault_in" s_fault_in
  d_begun : DefAt K mg "begun" s_begun
  d_total_of : DefAt K mg "total_of" s_total_of
  d_in_pieces : DefAt K mg "in_pieces" s_in_pieces
  d_wrap_in : DefAt K mg "wrap_in" s_wrap_in
  d_check_wrap : DefAt K mg "check_wrap" s_check_wrap
  d_fineness_of : DefAt K mg "fineness_of" s_fineness_of
  d_check_wraps : DefAt K mg "check_wraps" s_check_wraps
  d_stack_in : DefAt K mg "stack_in" s_stack_in
  d_check_stack : DefAt K mg "check_stack" s_check_stack
  d_greatest_within : DefAt K mg "greatest_within" s_greatest_within
  d_rises_between : DefAt K mg "rises_between" s_rises_between
  d_rises_along : DefAt K mg "rises_along" s_rises_along
  d_missed : DefAt K mg "missed" s_missed
  d_missed_at : DefAt K mg "missed_at" s_missed_at
  d_check_constant : DefAt K mg "check_constant" s_check_constant
  d_totals : DefAt K mg "totals" s_totals
  d_doubled : DefAt K mg "doubled" s_doubled
  d_L_cell : DefAt K mg "_law_cell" s_L_cell
  d_L_purse : DefAt K mg "_law_purse" s_L_purse
  d_L_take : DefAt K mg "_law_take" s_L_take
  d_L_wide : DefAt K mg "_law_wide" s_L_wide
  d_L_radix : DefAt K mg "_law_radix" s_L_radix
  d_L_extra : DefAt K mg "_law_extra" s_L_extra
  d_L_figures : DefAt K mg "_law_figures" s_L_figures
  d_L_far : DefAt K mg "_law_far" s_L_far
  d_L_error : DefAt K mg "_law_error" s_L_error
  d_L_caught : DefAt K mg "_law_caught" s_L_caught
  d_L_greater : DefAt K mg "_law_greater" s_L_greater
  d_L_least : DefAt K mg "_law_least" s_L_least
  d_L_right : DefAt K mg "_law_right" s_L_right
  d_law : DefAt K mg "law" s_law
  b_ArithmeticError : mg "ArithmeticError" = none
  b_LookupError : mg "LookupError" = none
  b_ValueError : mg "ValueError" = none
  b_abs : mg "abs" = none
  b_all : mg "all" = none
  b_bool : mg "bool" = none
  b_divmod : mg "divmod" = none
  b_enumerate : mg "enumerate" = none
  b_int : mg "int" = none
  b_isinstance : mg "isinstance" = none
  b_len : mg "len" = none
  b_list : mg "list" = none
  b_max : mg "max" = none
  b_min : mg "min" = none
  b_range : mg "range" = none
  b_repr : mg "repr" = none
  b_sorted : mg "sorted" = none
  b_str : mg "str" = none
  b_tuple : mg "tuple" = none
  b_zip : mg "zip" = none
  c_MOST_LENGTH : ∃ u, mg "MOST_LENGTH" = some (.int 1000000000000000000000000000000000000000000000000000000000000 u)
  c_MOST_WRAPS : ∃ u, mg "MOST_WRAPS" = some (.int 6 u)
  c_MOST_FINENESS : ∃ u, mg "MOST_FINENESS" = some (.int 120 u)
  c_MOST_CONSTANT : ∃ u, mg "MOST_CONSTANT" = some (.int 1000 u)
  c_LEAST_BASE : ∃ u, mg "LEAST_BASE" = some (.int 2 u)
  c_MOST_BASE : ∃ u, mg "MOST_BASE" = some (.int 256 u)
  c_LAST : ∃ u, mg "LAST" = some (.int 999999999999999999999999999999999999999999999999999999999999 u)
  c_NEAR : ∃ u, mg "NEAR" = some (.int 2048 u)
  c_MOST_PIECE : ∃ u, mg "MOST_PIECE" = some (.int 60 u)
  c_MOST_CODE : ∃ u, mg "MOST_CODE" = some (.int 120 u)
  c_FIRST_REACH : ∃ u, mg "FIRST_REACH" = some (.int 64 u)
  c_TENS : ∃ u, mg "TENS" = some (.str "0123456789" u)
  k_Wrap : mg "Wrap" = some (.ref (He.ga K "Wrap"))
  cl_Wrap : Cls K (He.ga K "Wrap")
  mk_Wrap : Mk K (He.ga K "Wrap") (He.ma K (He.ga K "Wrap") "__init__")
  is_Wrap : IsiK K (He.ga K "Wrap")
  na_Wrap_kind : NoAttr K (He.ga K "Wrap") "kind"
  na_Wrap_numbers : NoAttr K (He.ga K "Wrap") "numbers"
  na_Wrap_words : NoAttr K (He.ga K "Wrap") "words"
  me_Wrap___init__ : Meth K (He.ga K "Wrap") "__init__" (He.ma K (He.ga K "Wrap") "__init__")
  dm_Wrap___init__ : DefAtM K "Wrap" "__init__" "Wrap.__init__" s_Wrap___init__
  me_Wrap_grown : Meth K (He.ga K "Wrap") "grown" (He.ma K (He.ga K "Wrap") "grown")
  dm_Wrap_grown : DefAtM K "Wrap" "grown" "Wrap.grown" s_Wrap_grown
  me_Wrap___str__ : Meth K (He.ga K "Wrap") "__str__" (He.ma K (He.ga K "Wrap") "__str__")
  dm_Wrap___str__ : DefAtM K "Wrap" "__str__" "Wrap.__str__" s_Wrap___str__
  k_Stack : mg "Stack" = some (.ref (He.ga K "Stack"))
  cl_Stack : Cls K (He.ga K "Stack")
  mk_Stack : Mk K (He.ga K "Stack") (He.ma K (He.ga K "Stack") "__init__")
  is_Stack : IsiK K (He.ga K "Stack")
  na_Stack_base : NoAttr K (He.ga K "Stack") "base"
  na_Stack_wraps : NoAttr K (He.ga K "Stack") "wraps"
  na_Stack_fineness : NoAttr K (He.ga K "Stack") "fineness"
  me_Stack___init__ : Meth K (He.ga K "Stack") "__init__" (He.ma K (He.ga K "Stack") "__init__")
  dm_Stack___init__ : DefAtM K "Stack" "__init__" "Stack.__init__" s_Stack___init__
  me_Stack_grown : Meth K (He.ga K "Stack") "grown" (He.ma K (He.ga K "Stack") "grown")
  dm_Stack_grown : DefAtM K "Stack" "grown" "Stack.grown" s_Stack_grown
  me_Stack_size : Meth K (He.ga K "Stack") "size" (He.ma K (He.ga K "Stack") "size")
  dm_Stack_size : DefAtM K "Stack" "size" "Stack.size" s_Stack_size
  me_Stack___call__ : Meth K (He.ga K "Stack") "__call__" (He.ma K (He.ga K "Stack") "__call__")
  dm_Stack___call__ : DefAtM K "Stack" "__call__" "Stack.__call__" s_Stack___call__
  me_Stack_sizes : Meth K (He.ga K "Stack") "sizes" (He.ma K (He.ga K "Stack") "sizes")
  dm_Stack_sizes : DefAtM K "Stack" "sizes" "Stack.sizes" s_Stack_sizes
  me_Stack___str__ : Meth K (He.ga K "Stack") "__str__" (He.ma K (He.ga K "Stack") "__str__")
  dm_Stack___str__ : DefAtM K "Stack" "__str__" "Stack.__str__" s_Stack___str__
  k_Stairs : mg "Stairs" = some (.ref (He.ga K "Stairs"))
  cl_Stairs : Cls K (He.ga K "Stairs")
  mk_Stairs : Mk K (He.ga K "Stairs") (He.ma K (He.ga K "Stairs") "__init__")
  is_Stairs : IsiK K (He.ga K "Stairs")
  na_Stairs_stack : NoAttr K (He.ga K "Stairs") "stack"
  na_Stairs_period : NoAttr K (He.ga K "Stairs") "period"
  na_Stairs_rows : NoAttr K (He.ga K "Stairs") "rows"
  me_Stairs___init__ : Meth K (He.ga K "Stairs") "__init__" (He.ma K (He.ga K "Stairs") "__init__")
  dm_Stairs___init__ : DefAtM K "Stairs" "__init__" "Stairs.__init__" s_Stairs___init__
  me_Stairs_sizes_up_to : Meth K (He.ga K "Stairs") "sizes_up_to" (He.ma K (He.ga K "Stairs") "sizes_up_to")
  dm_Stairs_sizes_up_to : DefAtM K "Stairs" "sizes_up_to" "Stairs.sizes_up_to" s_Stairs_sizes_up_to
  me_Stairs_missed_below : Meth K (He.ga K "Stairs") "missed_below" (He.ma K (He.ga K "Stairs") "missed_below")
  dm_Stairs_missed_below : DefAtM K "Stairs" "missed_below" "Stairs.missed_below" s_Stairs_missed_below
  st_Stack : StrK K (He.ga K "Stack")
  st_Wrap : StrK K (He.ga K "Wrap")
  ne_Stack_Wrap : He.ga K "Stack" ≠ He.ga K "Wrap"
  er_InvalidNumber : ErrC K (He.ga K "InvalidNumber") (He.ma K (He.ga K "InvalidNumber") "__init__") "value"
  dm_InvalidNumber___init__ : DefAtM K "InvalidNumber" "__init__" "InvalidNumber.__init__" s_InvalidNumber___init__
  er_TooLong : ErrC K (He.ga K "TooLong") (He.ma K (He.ga K "TooLong") "__init__") "limit"
  dm_TooLong___init__ : DefAtM K "TooLong" "__init__" "TooLong.__init__" s_TooLong___init__
  k_InvalidNumber : mg "InvalidNumber" = some (.ref (He.ga K "InvalidNumber"))
  k_TooLong : mg "TooLong" = some (.ref (He.ga K "TooLong"))
  k_NotAWrap : mg "NotAWrap" = some (.ref (He.ga K "NotAWrap"))
  k_NotAStack : mg "NotAStack" = some (.ref (He.ga K "NotAStack"))
  k_NotARoad : mg "NotARoad" = some (.ref (He.ga K "NotARoad"))
  k_InvalidKind : mg "InvalidKind" = some (.ref (He.ga K "InvalidKind"))
  k_InvalidBase : mg "InvalidBase" = some (.ref (He.ga K "InvalidBase"))
  k_InvalidLength : mg "InvalidLength" = some (.ref (He.ga K "InvalidLength"))
  k_InvalidText : mg "InvalidText" = some (.ref (He.ga K "InvalidText"))
  k_InvalidRow : mg "InvalidRow" = some (.ref (He.ga K "InvalidRow"))
  k_InvalidNumbers : mg "InvalidNumbers" = some (.ref (He.ga K "InvalidNumbers"))
  k_InvalidWraps : mg "InvalidWraps" = some (.ref (He.ga K "InvalidWraps"))
  k_InvalidSeen : mg "InvalidSeen" = some (.ref (He.ga K "InvalidSeen"))
  k_InvalidDeeds : mg "InvalidDeeds" = some (.ref (He.ga K "InvalidDeeds"))
  k_NothingToPop : mg "NothingToPop" = some (.ref (He.ga K "NothingToPop"))
  k_NothingToUndo : mg "NothingToUndo" = some (.ref (He.ga K "NothingToUndo"))
  k_Busy : mg "Busy" = some (.ref (He.ga K "Busy"))
  k_TooFine : mg "TooFine" = some (.ref (He.ga K "TooFine"))
  k_TooManyWraps : mg "TooManyWraps" = some (.ref (He.ga K "TooManyWraps"))
  k_Misfit : mg "Misfit" = some (.ref (He.ga K "Misfit"))
  k_Untimely : mg "Untimely" = some (.ref (He.ga K "Untimely"))
  k_Excess : mg "Excess" = some (.ref (He.ga K "Excess"))
  et : ErrTab K
  dt_L_right : DefC K mg "_law_right" s_L_right
  k_RANGES : mg "RANGES" = some (.ref (He.ga K "RANGES"))
  kd : ∃ es n, KDict K w (He.ga K "RANGES") es n
  rg : ∀ a : Wr, Rng K (He.ga K "RANGES") a.kind a.rng
def tfL : List He.Defn := [("_law_right", none)]
def tabsOf (K : PySem.W.Frag) : List (Addr × Str) := [((He.cT K ("_law_right", none)).2, ("_law_right" : Str) ++ ".<locals>." ++ "<lambda>")]
theorem tabs_u {K : PySem.W.Frag} {x : Addr} : ∀ p ∈ tabsOf K, p.1 = x → p.2 = ("_law_right" : Str) ++ ".<locals>." ++ "<lambda>" := fun p hp _ => by rw [List.mem_singleton.mp hp]
abbrev UT (K : PySem.W.Frag) (mg : Str → Option Value) (base : Heap) : Prop := ∀ p ∈ tfL.map (He.cT K), LamX.TabB base mg p.1 p.2
theorem tabs_start {K : PySem.W.Frag} {H : Hp} (h : ∀ p ∈ tfL.map (He.cT K), H p.2 = some (.tbl #[])) : LamX.Tabs (tabsOf K) H := by
  intro p hp
  have key : ∃ d ∈ tfL, (He.cT K d).2 = p.1 := by
    simp only [tabsOf, List.mem_cons, List.not_mem_nil, or_false] at hp
    subst hp
    exact ⟨_, List.mem_cons_self .., rfl⟩
  obtain ⟨d, hd, e⟩ := key
  exact .nil (by rw [← e]; exact h _ (List.mem_map.mpr ⟨d, hd, rfl⟩))
section
variable {P : Program} {w : World} {K : PySem.W.Frag} {mg : Str → Option Value} {base : Heap}
theorem ok_err_InvalidNumber (T : Tx w K mg) : PromE P w K mg base 1 "InvalidNumber" "value" :=
  PromE.of T.er_InvalidNumber T.k_InvalidNumber T.dm_InvalidNumber___init__ sc_InvalidNumber___init__ rfl rfl rfl (fun _ _ _ _ _ _ us hl => match us, hl with | [_, _], _ => rfl)
theorem ok_err_TooLong (T : Tx w K mg) : PromE P w K mg base 1 "TooLong" "limit" :=
  PromE.of T.er_TooLong T.k_TooLong T.dm_TooLong___init__ sc_TooLong___init__ rfl rfl rfl (fun _ _ _ _ _ _ us hl => match us, hl with | [_, _], _ => rfl)
end
def dd__wall : He.DefD := ⟨("_wall", none), "_wall", "_wall", defArgs s__wall, defBody s__wall, defScope s__wall, [], []⟩
def dd_is_integer : He.DefD := ⟨("is_integer", none), "is_integer", "is_integer", defArgs s_is_integer, defBody s_is_integer, defScope s_is_integer, [], []⟩
def dd_is_between : He.DefD := ⟨("is_between", none), "is_between", "is_between", defArgs s_is_between, defBody s_is_between, defScope s_is_between, [], []⟩
def dd_check_length : He.DefD := ⟨("check_length", none), "check_length", "check_length", defArgs s_check_length, defBody s_check_length, defScope s_check_length, [], []⟩
def dd_check_base : He.DefD := ⟨("check_base", none), "check_base", "check_base", defArgs s_check_base, defBody s_check_base, defScope s_check_base, [], []⟩
def dd_figures_of : He.DefD := ⟨("figures_of", none), "figures_of", "figures_of", defArgs s_figures_of, defBody s_figures_of, defScope s_figures_of, [], []⟩
def dd_common_divisor : He.DefD := ⟨("common_divisor", none), "common_divisor", "common_divisor", defArgs s_common_divisor, defBody s_common_divisor, defScope s_common_divisor, [], []⟩
def dd_amount_of : He.DefD := ⟨("amount_of", none), "amount_of", "amount_of", defArgs s_amount_of, defBody s_amount_of, defScope s_amount_of, [], []⟩
def dd_period_of : He.DefD := ⟨("period_of", none), "period_of", "period_of", defArgs s_period_of, defBody s_period_of, defScope s_period_of, [], []⟩
def dd_told_lengths : He.DefD := ⟨("told_lengths", none), "told_lengths", "told_lengths", defArgs s_told_lengths, defBody s_told_lengths, defScope s_told_lengths, [], []⟩
def dd_first_reach : He.DefD := ⟨("first_reach", none), "first_reach", "first_reach", defArgs s_first_reach, defBody s_first_reach, defScope s_first_reach, [], []⟩
def dd_changes : He.DefD := ⟨("changes", none), "changes", "changes", defArgs s_changes, defBody s_changes, defScope s_changes, [], []⟩
def dd_stretches : He.DefD := ⟨("stretches", none), "stretches", "stretches", defArgs s_stretches, defBody s_stretches, defScope s_stretches, [], []⟩
def dd_fault_in : He.DefD := ⟨("fault_in", none), "fault_in", "fault_in", defArgs s_fault_in, defBody s_fault_in, defScope s_fault_in, [], []⟩
def dd_begun : He.DefD := ⟨("begun", none), "begun", "begun", defArgs s_begun, defBody s_begun, defScope s_begun, [], []⟩
def dd_total_of : He.DefD := ⟨("total_of", none), "total_of", "total_of", defArgs s_total_of, defBody s_total_of, defScope s_total_of, [], []⟩
def dd_in_pieces : He.DefD := ⟨("in_pieces", none), "in_pieces", "in_pieces", defArgs s_in_pieces, defBody s_in_pieces, defScope s_in_pieces, [], []⟩
def dd_wrap_in : He.DefD := ⟨("wrap_in", none), "wrap_in", "wrap_in", defArgs s_wrap_in, defBody s_wrap_in, defScope s_wrap_in, [], []⟩
def dd_check_wrap : He.DefD := ⟨("check_wrap", none), "check_wrap", "check_wrap", defArgs s_check_wrap, defBody s_check_wrap, defScope s_check_wrap, [], []⟩
def dd_fineness_of : He.DefD := ⟨("fineness_of", none), "fineness_of", "fineness_of", defArgs s_fineness_of, defBody s_fineness_of, defScope s_fineness_of, [], []⟩
def dd_check_wraps : He.DefD := ⟨("check_wraps", none), "check_wraps", "check_wraps", defArgs s_check_wraps, defBody s_check_wraps, defScope s_check_wraps, [], []⟩
def dd_stack_in : He.DefD := ⟨("stack_in", none), "stack_in", "stack_in", defArgs s_stack_in, defBody s_stack_in, defScope s_stack_in, [], []⟩
def dd_check_stack : He.DefD := ⟨("check_stack", none), "check_stack", "check_stack", defArgs s_check_stack, defBody s_check_stack, defScope s_check_stack, [], []⟩
def dd_greatest_within : He.DefD := ⟨("greatest_within", none), "greatest_within", "greatest_within", defArgs s_greatest_within, defBody s_greatest_within, defScope s_greatest_within, [], []⟩
def dd_rises_between : He.DefD := ⟨("rises_between", none), "rises_between", "rises_between", defArgs s_rises_between, defBody s_rises_between, defScope s_rises_between, [], []⟩
def dd_rises_along : He.DefD := ⟨("rises_along", none), "rises_along", "rises_along", defArgs s_rises_along, defBody s_rises_along, defScope s_rises_along, [], []⟩
def dd_missed : He.DefD := ⟨("missed", none), "missed", "missed", defArgs s_missed, defBody s_missed, defScope s_missed, [], []⟩
def dd_missed_at : He.DefD := ⟨("missed_at", none), "missed_at", "missed_at", defArgs s_missed_at, defBody s_missed_at, defScope s_missed_at, [], []⟩
def dd_check_constant : He.DefD := ⟨("check_constant", none), "check_constant", "check_constant", defArgs s_check_constant, defBody s_check_constant, defScope s_check_constant, [], []⟩
def dd_totals : He.DefD := ⟨("totals", none), "totals", "totals", defArgs s_totals, defBody s_totals, defScope s_totals, [], []⟩
def dd_doubled : He.DefD := ⟨("doubled", none), "doubled", "doubled", defArgs s_doubled, defBody s_doubled, defScope s_doubled, [], []⟩
def dd_L_cell : He.DefD := ⟨("_law_cell", none), "_law_cell", "_law_cell", defArgs s_L_cell, defBody s_L_cell, defScope s_L_cell, [], []⟩
def dd_L_purse : He.DefD := ⟨("_law_purse", none), "_law_purse", "_law_purse", defArgs s_L_purse, defBody s_L_purse, defScope s_L_purse, [], []⟩
def dd_L_take : He.DefD := ⟨("_law_take", none), "_law_take", "_law_take", defArgs s_L_take, defBody s_L_take, defScope s_L_take, [], []⟩
def dd_L_wide : He.DefD := ⟨("_law_wide", none), "_law_wide", "_law_wide", defArgs s_L_wide, defBody s_L_wide, defScope s_L_wide, [], []⟩
def dd_L_radix : He.DefD := ⟨("_law_radix", none), "_law_radix", "_law_radix", defArgs s_L_radix, defBody s_L_radix, defScope s_L_radix, [], []⟩
def dd_L_extra : He.DefD := ⟨("_law_extra", none), "_law_extra", "_law_extra", defArgs s_L_extra, defBody s_L_extra, defScope s_L_extra, [], []⟩
def dd_L_figures : He.DefD := ⟨("_law_figures", none), "_law_figures", "_law_figures", defArgs s_L_figures, defBody s_L_figures, defScope s_L_figures, [], []⟩
def dd_L_far : He.DefD := ⟨("_law_far", none), "_law_far", "_law_far", defArgs s_L_far, defBody s_L_far, defScope s_L_far, [], []⟩
def dd_L_error : He.DefD := ⟨("_law_error", none), "_law_error", "_law_error", defArgs s_L_error, defBody s_L_error, defScope s_L_error, [], []⟩
def dd_L_caught : He.DefD := ⟨("_law_caught", none), "_law_caught", "_law_caught", defArgs s_L_caught, defBody s_L_caught, defScope s_L_caught, [], []⟩
def dd_L_greater : He.DefD := ⟨("_law_greater", none), "_law_greater", "_law_greater", defArgs s_L_greater, defBody s_L_greater, defScope s_L_greater, [], []⟩
def dd_L_least : He.DefD := ⟨("_law_least", none), "_law_least", "_law_least", defArgs s_L_least, defBody s_L_least, defScope s_L_least, [], []⟩
def dd_L_right : He.DefD := ⟨("_law_right", none), "_law_right", "_law_right", defArgs s_L_right, defBody s_L_right, defScope s_L_right, [], []⟩
def dd_law : He.DefD := ⟨("law", none), "law", "law", defArgs s_law, defBody s_law, defScope s_law, [], []⟩
def dd_Wrap___init__ : He.DefD := ⟨("Wrap", some "__init__"), "__init__", "Wrap.__init__", defArgs s_Wrap___init__, defBody s_Wrap___init__, defScope s_Wrap___init__, [], []⟩
def dd_Wrap_grown : He.DefD := ⟨("Wrap", some "grown"), "grown", "Wrap.grown", defArgs s_Wrap_grown, defBody s_Wrap_grown, defScope s_Wrap_grown, [], []⟩
def dd_Wrap___str__ : He.DefD := ⟨("Wrap", some "__str__"), "__str__", "Wrap.__str__", defArgs s_Wrap___str__, defBody s_Wrap___str__, defScope s_Wrap___str__, [], []⟩
def dd_Stack___init__ : He.DefD := ⟨("Stack", some "__init__"), "__init__", "Stack.__init__", defArgs s_Stack___init__, defBody s_Stack___init__, defScope s_Stack___init__, [], []⟩
def dd_Stack_grown : He.DefD := ⟨("Stack", some "grown"), "grown", "Stack.grown", defArgs s_Stack_grown, defBody s_Stack_grown, defScope s_Stack_grown, [], []⟩
def dd_Stack_size : He.DefD := ⟨("Stack", some "size"), "size", "Stack.size", defArgs s_Stack_size, defBody s_Stack_size, defScope s_Stack_size, [], []⟩
def dd_Stack___call__ : He.DefD := ⟨("Stack", some "__call__"), "__call__", "Stack.__call__", defArgs s_Stack___call__, defBody s_Stack___call__, defScope s_Stack___call__, [], []⟩
def dd_Stack_sizes : He.DefD := ⟨("Stack", some "sizes"), "sizes", "Stack.sizes", defArgs s_Stack_sizes, defBody s_Stack_sizes, defScope s_Stack_sizes, [], []⟩
def dd_Stack___str__ : He.DefD := ⟨("Stack", some "__str__"), "__str__", "Stack.__str__", defArgs s_Stack___str__, defBody s_Stack___str__, defScope s_Stack___str__, [], []⟩
def dd_Stairs___init__ : He.DefD := ⟨("Stairs", some "__init__"), "__init__", "Stairs.__init__", defArgs s_Stairs___init__, defBody s_Stairs___init__, defScope s_Stairs___init__, [], []⟩
def dd_Stairs_sizes_up_to : He.DefD := ⟨("Stairs", some "sizes_up_to"), "sizes_up_to", "Stairs.sizes_up_to", defArgs s_Stairs_sizes_up_to, defBody s_Stairs_sizes_up_to, defScope s_Stairs_sizes_up_to, [], []⟩
def dd_Stairs_missed_below : He.DefD := ⟨("Stairs", some "missed_below"), "missed_below", "Stairs.missed_below", defArgs s_Stairs_missed_below, defBody s_Stairs_missed_below, defScope s_Stairs_missed_below, [], []⟩
def dd_InvalidNumber___init__ : He.DefD := ⟨("InvalidNumber", some "__init__"), "__init__", "InvalidNumber.__init__", defArgs s_InvalidNumber___init__, defBody s_InvalidNumber___init__, defScope s_InvalidNumber___init__, [], []⟩
def dd_TooLong___init__ : He.DefD := ⟨("TooLong", some "__init__"), "__init__", "TooLong.__init__", defArgs s_TooLong___init__, defBody s_TooLong___init__, defScope s_TooLong___init__, [], []⟩
def fnL : List He.DefD := [dd__wall, dd_is_integer, dd_is_between, dd_check_length, dd_check_base, dd_figures_of, dd_common_divisor, dd_amount_of, dd_period_of, dd_told_lengths, dd_first_reach, dd_changes, dd_stretches, dd_fault_in, dd_begun, dd_total_of, dd_in_pieces, dd_wrap_in, dd_check_wrap, dd_fineness_of, dd_check_wraps, dd_stack_in, dd_check_stack, dd_greatest_within, dd_rises_between, dd_rises_along, dd_missed, dd_missed_at, dd_check_constant, dd_totals, dd_doubled, dd_L_cell, dd_L_purse, dd_L_take, dd_L_wide, dd_L_radix, dd_L_extra, dd_L_figures, dd_L_far, dd_L_error, dd_L_caught, dd_L_greater, dd_L_least, dd_L_right, dd_law, dd_Wrap___init__, dd_Wrap_grown, dd_Wrap___str__, dd_Stack___init__, dd_Stack_grown, dd_Stack_size, dd_Stack___call__, dd_Stack_sizes, dd_Stack___str__, dd_Stairs___init__, dd_Stairs_sizes_up_to, dd_Stairs_missed_below, dd_InvalidNumber___init__, dd_TooLong___init__]
def faL : List He.Fa := [.glo "_wall", .glo "is_integer", .glo "is_between", .glo "check_length", .glo "check_base", .glo "figures_of", .glo "common_divisor", .glo "amount_of", .glo "period_of", .glo "told_lengths", .glo "first_reach", .glo "changes", .glo "stretches", .glo "fault_in", .glo "begun", .glo "total_of", .glo "in_pieces", .glo "wrap_in", .glo "check_wrap", .glo "fineness_of", .glo "check_wraps", .glo "stack_in", .glo "check_stack", .glo "greatest_within", .glo "rises_between", .glo "rises_along", .glo "missed", .glo "missed_at", .glo "check_constant", .glo "totals", .glo "doubled", .glo "_law_cell", .glo "_law_purse", .glo "_law_take", .glo "_law_wide", .glo "_law_radix", .glo "_law_extra", .glo "_law_figures", .glo "_law_far", .glo "_law_error", .glo "_law_caught", .glo "_law_greater", .glo "_law_least", .glo "_law_right", .glo "law", .free "ArithmeticError", .free "LookupError", .free "ValueError", .free "abs", .free "all", .free "bool", .free "divmod", .free "enumerate", .free "int", .free "isinstance", .free "len", .free "list", .free "max", .free "min", .free "range", .free "repr", .free "sorted", .free "str", .free "tuple", .free "zip", .int "MOST_LENGTH" 1000000000000000000000000000000000000000000000000000000000000, .int "MOST_WRAPS" 6, .int "MOST_FINENESS" 120, .int "MOST_CONSTANT" 1000, .int "LEAST_BASE" 2, .int "MOST_BASE" 256, .int "LAST" 999999999999999999999999999999999999999999999999999999999999, .int "NEAR" 2048, .int "MOST_PIECE" 60, .int "MOST_CODE" 120, .int "FIRST_REACH" 64, .str "TENS" "0123456789", .glo "Wrap", .cls "Wrap", .mkr "Wrap", .noat "Wrap" "kind", .noat "Wrap" "numbers", .noat "Wrap" "words", .meth "Wrap" "__init__", .meth "Wrap" "grown", .meth "Wrap" "__str__", .glo "Stack", .cls "Stack", .mkr "Stack", .noat "Stack" "base", .noat "Stack" "wraps", .noat "Stack" "fineness", .meth "Stack" "__init__", .meth "Stack" "grown", .meth "Stack" "size", .meth "Stack" "__call__", .meth "Stack" "sizes", .meth "Stack" "__str__", .glo "Stairs", .cls "Stairs", .mkr "Stairs", .noat "Stairs" "stack", .noat "Stairs" "period", .noat "Stairs" "rows", .meth "Stairs" "__init__", .meth "Stairs" "sizes_up_to", .meth "Stairs" "missed_below", .glo "InvalidNumber", .glo "TooLong", .glo "NotAWrap", .glo "NotAStack", .glo "NotARoad", .glo "InvalidKind", .glo "InvalidBase", .glo "InvalidLength", .glo "InvalidText", .glo "InvalidRow", .glo "InvalidNumbers", .glo "InvalidWraps", .glo "InvalidSeen", .glo "InvalidDeeds", .glo "NothingToPop", .glo "NothingToUndo", .glo "Busy", .glo "TooFine", .glo "TooManyWraps", .glo "Misfit", .glo "Untimely", .glo "Excess", .glo "RANGES"]
def loose0 : List Str := ["_wall", "is_integer", "is_between", "check_length", "check_base", "figures_of", "common_divisor", "amount_of", "period_of", "told_lengths", "first_reach", "changes", "stretches", "fault_in", "begun", "total_of", "in_pieces", "wrap_in", "check_wrap", "fineness_of", "check_wraps", "stack_in", "check_stack", "greatest_within", "rises_between", "rises_along", "missed", "missed_at", "check_constant", "totals"]
def loose1 : List Str := ["doubled", "_law_cell", "_law_purse", "_law_take", "_law_wide", "_law_radix", "_law_extra", "_law_figures", "_law_far", "_law_error", "_law_caught", "_law_greater", "_law_least", "_law_right", "Misfit", "Untimely", "Excess", "NotAWrap", "NotAStack", "NotARoad", "InvalidKind", "InvalidBase", "InvalidLength", "InvalidNumber", "InvalidText", "InvalidRow", "InvalidNumbers", "InvalidWraps", "InvalidSeen", "InvalidDeeds"]
def loose2 : List Str := ["NothingToPop", "NothingToUndo", "Busy", "TooFine", "TooManyWraps", "TooLong", "Wrap", "Stack", "Stairs", "MOST_LENGTH", "MOST_WRAPS", "MOST_FINENESS", "MOST_CONSTANT", "TENS", "LEAST_BASE", "MOST_BASE", "LAST", "NEAR", "MOST_PIECE", "MOST_CODE", "RANGES", "FIRST_REACH"]
def looseL : List Str := loose0 ++ loose1 ++ loose2
abbrev RR : PySem.W.OpenRow := PySem.W.OpenLaw.row PySem.Challenge.rw_sizestacks_k67_whole_totals_and_missed
def tabL : List He.Tab := [(fun K => He.ga K "RANGES", ["plus", "told", "whole", "pieces", "cut", "coded", "filled"])]
def fbL (K : PySem.W.Frag) : Bool := [isiB K (He.ga K "Wrap"), isiB K (He.ga K "Stack"), isiB K (He.ga K "Stairs"), strB K (He.ga K "Stack"), strB K (He.ga K "Wrap"), decide (He.ga K "Stack" ≠ He.ga K "Wrap"), errCB K 0 (He.ga K "InvalidNumber") "value", errCB K 2 (He.ga K "TooLong") "limit", (List.range 19).all (etabB K), rngB K (He.ga K "RANGES") (Wr.plus 0).kind (Wr.plus 0).rng, rngB K (He.ga K "RANGES") (Wr.told 0).kind (Wr.told 0).rng, rngB K (He.ga K "RANGES") (Wr.whole 0).kind (Wr.whole 0).rng, rngB K (He.ga K "RANGES") (Wr.pieces 0 0).kind (Wr.pieces 0 0).rng, rngB K (He.ga K "RANGES") (Wr.cut 0 0).kind (Wr.cut 0 0).rng, rngB K (He.ga K "RANGES") (Wr.coded 0 0).kind (Wr.coded 0 0).rng, rngB K (He.ga K "RANGES") (Wr.filled 0).kind (Wr.filled 0).rng].all id
abbrev hk : PySem.W.Hook := hookU 5 fbL faL fnL tabL tfL
def ob (z : PySem.W.SharedT) : Bool × AlX := obsUG 5 fbL faL fnL tabL tfL (HandSHeadRun.getT z)
theorem ob_eq (z : PySem.W.SharedT) : ob z = hk.obs z.abs := obsUG_eq (HandSHeadRun.getT_eq z)
theorem runF (w : World) : HandSHeadRun.RunEq RR (PySem.W.view RR.prog [90]) hk ob 30000 looseL (w.withFollow "special-get-raises" false) := by
  intro os
  kernel_rfl
theorem runT (w : World) : HandSHeadRun.RunEq RR (PySem.W.view RR.prog [90]) hk ob 30000 looseL (w.withFollow "special-get-raises" true) := by
  intro os
  kernel_rfl
theorem run (w : World) : HandSHeadRun.RunEq RR (PySem.W.view RR.prog [90]) hk ob 30000 looseL w :=
  PySem.W.byRow2 "special-get-raises" (P := fun w => HandSHeadRun.RunEq RR (PySem.W.view RR.prog [90]) hk ob 30000 looseL w) runF runT w
theorem tx_of {w : World} {K : PySem.W.Frag} {h : Heap} {mg : Str → Option Value} (X : K.In h) (G : h.Ns mainGlobals mg) (c0 : SaysX fbL faL fnL tabL w K) : Tx w K mg := by
  have c : He.SaysD faL fnL K := c0.t.d
  exact {
    d__wall := let ⟨fd, F⟩ := c.def_ 0 (d := dd__wall) rfl; ⟨_, fd, F, He.glo_ok X G (c.fact 0 (f := .glo "_wall") rfl)⟩,
    d_is_integer := let ⟨fd, F⟩ := c.def_ 1 (d := dd_is_integer) rfl; ⟨_, fd, F, He.glo_ok X G (c.fact 1 (f := .glo "is_integer") rfl)⟩,
    d_is_between := let ⟨fd, F⟩ := c.def_ 2 (d := dd_is_between) rfl; ⟨_, fd, F, He.glo_ok X G (c.fact 2 (f := .glo "is_between") rfl)⟩,
    d_check_length := let ⟨fd, F⟩ := c.def_ 3 (d := dd_check_length) rfl; ⟨_, fd, F, He.glo_ok X G (c.fact 3 (f := .glo "check_length") rfl)⟩,
    d_check_base := let ⟨fd, F⟩ := c.def_ 4 (d := dd_check_base) rfl; ⟨_, fd, F, He.glo_ok X G (c.fact 4 (f := .glo "check_base") rfl)⟩,
    d_figures_of := let ⟨fd, F⟩ := c.def_ 5 (d := dd_figures_of) rfl; ⟨_, fd, F, He.glo_ok X G (c.fact 5 (f := .glo "figures_of") rfl)⟩,
    d_common_divisor := let ⟨fd, F⟩ := c.def_ 6 (d := dd_common_divisor) rfl; ⟨_, fd, F, He.glo_ok X G (c.fact 6 (f := .glo "common_divisor") rfl)⟩,
    d_amount_of := let ⟨fd, F⟩ := c.def_ 7 (d := dd_amount_of) rfl; ⟨_, fd, F, He.glo_ok X G (c.fact 7 (f := .glo "amount_of") rfl)⟩,
    d_period_of := let ⟨fd, F⟩ := c.def_ 8 (d := dd_period_of) rfl; ⟨_, fd, F, He.glo_ok X G (c.fact 8 (f := .glo "period_of") rfl)⟩,
    d_told_lengths := let ⟨fd, F⟩ := c.def_ 9 (d := dd_told_lengths) rfl; ⟨_, fd, F, He.glo_ok X G (c.fact 9 (f := .glo "told_lengths") rfl)⟩,
    d_first_reach := let ⟨fd, F⟩ := c.def_ 10 (d := dd_first_reach) rfl; ⟨_, fd, F, He.glo_ok X G (c.fact 10 (f := .glo "first_reach") rfl)⟩,
    d_changes := let ⟨fd, F⟩ := c.def_ 11 (d := dd_changes) rfl; ⟨_, fd, F, He.glo_ok X G (c.fact 11 (f := .glo "changes") rfl)⟩,
    d_stretches := let ⟨fd, F⟩ := c.def_ 12 (d := dd_stretches) rfl; ⟨_, fd, F, He.glo_ok X G (c.fact 12 (f := .glo "stretches") rfl)⟩,
    d_fault_in := let ⟨fd, F⟩ := c.def_ 13 (d := dd_fault_in) rfl; ⟨_, fd, F, He.glo_ok X G (c.fact 13 (f := .glo "fault_in") rfl)⟩,
    d_begun := let ⟨fd, F⟩ := c.def_ 14 (d := dd_begun) rfl; ⟨_, fd, F, He.glo_ok X G (c.fact 14 (f := .glo "begun") rfl)⟩,
    d_total_of := let ⟨fd, F⟩ := c.def_ 15 (d := dd_total_of) rfl; ⟨_, fd, F, He.glo_ok X G (c.fact 15 (f := .glo "total_of") rfl)⟩,
    d_in_pieces := let ⟨fd, F⟩ := c.def_ 16 (d := dd_in_pieces) rfl; ⟨_, fd, F, He.glo_ok X G (c.fact 16 (f := .glo "in_pieces") rfl)⟩,
    d_wrap_in := let ⟨fd, F⟩ := c.def_ 17 (d := dd_wrap_in) rfl; ⟨_, fd, F, He.glo_ok X G (c.fact 17 (f := .glo "wrap_in") rfl)⟩,
    d_check_wrap := let ⟨fd, F⟩ := c.def_ 18 (d := dd_check_wrap) rfl; ⟨_, fd, F, He.glo_ok X G (c.fact 18 (f := .glo "check_wrap") rfl)⟩,
    d_fineness_of := let ⟨fd, F⟩ := c.def_ 19 (d := dd_fineness_of) rfl; ⟨_, fd, F, He.glo_ok X G (c.fact 19 (f := .glo "fineness_of") rfl)⟩,
    d_check_wraps := let ⟨fd, F⟩ := c.def_ 20 (d := dd_check_wraps) rfl; ⟨_, fd, F, He.glo_ok X G (c.fact 20 (f := .glo "check_wraps") rfl)⟩,
    d_stack_in := let ⟨fd, F⟩ := c.def_ 21 (d := dd_stack_in) rfl; ⟨_, fd, F, He.glo_ok X G (c.fact 21 (f := .glo "stack_in") rfl)⟩,
    d_check_stack := let ⟨fd, F⟩ := c.def_ 22 (d := dd_check_stack) rfl; ⟨_, fd, F, He.glo_ok X G (c.fact 22 (f := .glo "check_stack") rfl)⟩,
    d_greatest_within := let ⟨fd, F⟩ := c.def_ 23 (d := dd_greatest_within) rfl; ⟨_, fd, F, He.glo_ok X G (c.fact 23 (f := .glo "greatest_within") rfl)⟩,
    d_rises_between := let ⟨fd, F⟩ := c.def_ 24 (d := dd_rises_between) rfl; ⟨_, fd, F, He.glo_ok X G (c.fact 24 (f := .glo "rises_between") rfl)⟩,
    d_rises_along := let ⟨fd, F⟩ := c.def_ 25 (d := dd_rises_along) rfl; ⟨_, fd, F, He.glo_ok X G (c.fact 25 (f := .glo "rises_along") rfl)⟩,
    d_missed := let ⟨fd, F⟩ := c.def_ 26 (d := dd_missed) rfl; ⟨_, fd, F, He.glo_ok X G (c.fact 26 (f := .glo "missed") rfl)⟩,
    d_missed_at := let ⟨fd, F⟩ := c.def_ 27 (d := dd_missed_at) rfl; ⟨_, fd, F, He.glo_ok X G (c.fact 27 (f := .glo "missed_at") rfl)⟩,
    d_check_constant := let ⟨fd, F⟩ := c.def_ 28 (d := dd_check_constant) rfl; ⟨_, fd, F, He.glo_ok X G (c.fact 28 (f := .glo "check_constant") rfl)⟩,
    d_totals := let ⟨fd, F⟩ := c.def_ 29 (d := dd_totals) rfl; ⟨_, fd, F, He.glo_ok X G (c.fact 29 (f := .glo "totals") rfl)⟩,
    d_doubled := let ⟨fd, F⟩ := c.def_ 30 (d := dd_doubled) rfl; ⟨_, fd, F, He.glo_ok X G (c.fact 30 (f := .glo "doubled") rfl)⟩,
    d_L_cell := let ⟨fd, F⟩ := c.def_ 31 (d := dd_L_cell) rfl; ⟨_, fd, F, He.glo_ok X G (c.fact 31 (f := .glo "_law_cell") rfl)⟩,
    d_L_purse := let ⟨fd, F⟩ := c.def_ 32 (d := dd_L_purse) rfl; ⟨_, fd, F, He.glo_ok X G (c.fact 32 (f := .glo "_law_purse") rfl)⟩,
    d_L_take := let ⟨fd, F⟩ := c.def_ 33 (d := dd_L_take) rfl; ⟨_, fd, F, He.glo_ok X G (c.fact 33 (f := .glo "_law_take") rfl)⟩,
    d_L_wide := let ⟨fd, F⟩ := c.def_ 34 (d := dd_L_wide) rfl; ⟨_, fd, F, He.glo_ok X G (c.fact 34 (f := .glo "_law_wide") rfl)⟩,
    d_L_radix := let ⟨fd, F⟩ := c.def_ 35 (d := dd_L_radix) rfl; ⟨_, fd, F, He.glo_ok X G (c.fact 35 (f := .glo "_law_radix") rfl)⟩,
    d_L_extra := let ⟨fd, F⟩ := c.def_ 36 (d := dd_L_extra) rfl; ⟨_, fd, F, He.glo_ok X G (c.fact 36 (f := .glo "_law_extra") rfl)⟩,
    d_L_figures := let ⟨fd, F⟩ := c.def_ 37 (d := dd_L_figures) rfl; ⟨_, fd, F, He.glo_ok X G (c.fact 37 (f := .glo "_law_figures") rfl)⟩,
    d_L_far := let ⟨fd, F⟩ := c.def_ 38 (d := dd_L_far) rfl; ⟨_, fd, F, He.glo_ok X G (c.fact 38 (f := .glo "_law_far") rfl)⟩,
    d_L_error := let ⟨fd, F⟩ := c.def_ 39 (d := dd_L_error) rfl; ⟨_, fd, F, He.glo_ok X G (c.fact 39 (f := .glo "_law_error") rfl)⟩,
    d_L_caught := let ⟨fd, F⟩ := c.def_ 40 (d := dd_L_caught) rfl; ⟨_, fd, F, He.glo_ok X G (c.fact 40 (f := .glo "_law_caught") rfl)⟩,
    d_L_greater := let ⟨fd, F⟩ := c.def_ 41 (d := dd_L_greater) rfl; ⟨_, fd, F, He.glo_ok X G (c.fact 41 (f := .glo "_law_greater") rfl)⟩,
    d_L_least := let ⟨fd, F⟩ := c.def_ 42 (d := dd_L_least) rfl; ⟨_, fd, F, He.glo_ok X G (c.fact 42 (f := .glo "_law_least") rfl)⟩,
    d_L_right := let ⟨fd, F⟩ := c.def_ 43 (d := dd_L_right) rfl; ⟨_, fd, F, He.glo_ok X G (c.fact 43 (f := .glo "_law_right") rfl)⟩,
    d_law := let ⟨fd, F⟩ := c.def_ 44 (d := dd_law) rfl; ⟨_, fd, F, He.glo_ok X G (c.fact 44 (f := .glo "law") rfl)⟩,
    b_ArithmeticError := He.free_ok X G (c.fact 45 (f := .free "ArithmeticError") rfl),
    b_LookupError := He.free_ok X G (c.fact 46 (f := .free "LookupError") rfl),
    b_ValueError := He.free_ok X G (c.fact 47 (f := .free "ValueError") rfl),
    b_abs := He.free_ok X G (c.fact 48 (f := .free "abs") rfl),
    b_all := He.free_ok X G (c.fact 49 (f := .free "all") rfl),
    b_bool := He.free_ok X G (c.fact 50 (f := .free "bool") rfl),
    b_divmod := He.free_ok X G (c.fact 51 (f := .free "divmod") rfl),
    b_enumerate := He.free_ok X G (c.fact 52 (f := .free "enumerate") rfl),
    b_int := He.free_ok X G (c.fact 53 (f := .free "int") rfl),
    b_isinstance := He.free_ok X G (c.fact 54 (f := .free "isinstance") rfl),
    b_len := He.free_ok X G (c.fact 55 (f := .free "len") rfl),
    b_list := He.free_ok X G (c.fact 56 (f := .free "list") rfl),
    b_max := He.free_ok X G (c.fact 57 (f := .free "max") rfl),
    b_min := He.free_ok X G (c.fact 58 (f := .free "min") rfl),
    b_range := He.free_ok X G (c.fact 59 (f := .free "range") rfl),
    b_repr := He.free_ok X G (c.fact 60 (f := .free "repr") rfl),
    b_sorted := He.free_ok X G (c.fact 61 (f := .free "sorted") rfl),
    b_str := He.free_ok X G (c.fact 62 (f := .free "str") rfl),
    b_tuple := He.free_ok X G (c.fact 63 (f := .free "tuple") rfl),
    b_zip := He.free_ok X G (c.fact 64 (f := .free "zip") rfl),
    c_MOST_LENGTH := He.int_ok X G (c.fact 65 (f := .int "MOST_LENGTH" 1000000000000000000000000000000000000000000000000000000000000) rfl),
    c_MOST_WRAPS := He.int_ok X G (c.fact 66 (f := .int "MOST_WRAPS" 6) rfl),
    c_MOST_FINENESS := He.int_ok X G (c.fact 67 (f := .int "MOST_FINENESS" 120) rfl),
    c_MOST_CONSTANT := He.int_ok X G (c.fact 68 (f := .int "MOST_CONSTANT" 1000) rfl),
    c_LEAST_BASE := He.int_ok X G (c.fact 69 (f := .int "LEAST_BASE" 2) rfl),
    c_MOST_BASE := He.int_ok X G (c.fact 70 (f := .int "MOST_BASE" 256) rfl),
    c_LAST := He.int_ok X G (c.fact 71 (f := .int "LAST" 999999999999999999999999999999999999999999999999999999999999) rfl),
    c_NEAR := He.int_ok X G (c.fact 72 (f := .int "NEAR" 2048) rfl),
    c_MOST_PIECE := He.int_ok X G (c.fact 73 (f := .int "MOST_PIECE" 60) rfl),
    c_MOST_CODE := He.int_ok X G (c.fact 74 (f := .int "MOST_CODE" 120) rfl),
    c_FIRST_REACH := He.int_ok X G (c.fact 75 (f := .int "FIRST_REACH" 64) rfl),
    c_TENS := He.str_ok X G (c.fact 76 (f := .str "TENS" "0123456789") rfl),
    k_Wrap := He.glo_ok X G (c.fact 77 (f := .glo "Wrap") rfl),
    cl_Wrap := He.cls_ok (c.fact 78 (f := .cls "Wrap") rfl),
    mk_Wrap := He.mkr_ok (c.fact 79 (f := .mkr "Wrap") rfl),
    na_Wrap_kind := He.noat_ok (c.fact 80 (f := .noat "Wrap" "kind") rfl),
    na_Wrap_numbers := He.noat_ok (c.fact 81 (f := .noat "Wrap" "numbers") rfl),
    na_Wrap_words := He.noat_ok (c.fact 82 (f := .noat "Wrap" "words") rfl),
    me_Wrap___init__ := He.meth_ok (c.fact 83 (f := .meth "Wrap" "__init__") rfl),
    me_Wrap_grown := He.meth_ok (c.fact 84 (f := .meth "Wrap" "grown") rfl),
    me_Wrap___str__ := He.meth_ok (c.fact 85 (f := .meth "Wrap" "__str__") rfl),
    k_Stack := He.glo_ok X G (c.fact 86 (f := .glo "Stack") rfl),
    cl_Stack := He.cls_ok (c.fact 87 (f := .cls "Stack") rfl),
    mk_Stack := He.mkr_ok (c.fact 88 (f := .mkr "Stack") rfl),
    na_Stack_base := He.noat_ok (c.fact 89 (f := .noat "Stack" "base") rfl),
    na_Stack_wraps := He.noat_ok (c.fact 90 (f := .noat "Stack" "wraps") rfl),
    na_Stack_fineness := He.noat_ok (c.fact 91 (f := .noat "Stack" "fineness") rfl),
    me_Stack___init__ := He.meth_ok (c.fact 92 (f := .meth "Stack" "__init__") rfl),
    me_Stack_grown := He.meth_ok (c.fact 93 (f := .meth "Stack" "grown") rfl),
    me_Stack_size := He.meth_ok (c.fact 94 (f := .meth "Stack" "size") rfl),
    me_Stack___call__ := He.meth_ok (c.fact 95 (f := .meth "Stack" "__call__") rfl),
    me_Stack_sizes := He.meth_ok (c.fact 96 (f := .meth "Stack" "sizes") rfl),
    me_Stack___str__ := He.meth_ok (c.fact 97 (f := .meth "Stack" "__str__") rfl),
    k_Stairs := He.glo_ok X G (c.fact 98 (f := .glo "Stairs") rfl),
    cl_Stairs := He.cls_ok (c.fact 99 (f := .cls "Stairs") rfl),
    mk_Stairs := He.mkr_ok (c.fact 100 (f := .mkr "Stairs") rfl),
    na_Stairs_stack := He.noat_ok (c.fact 101 (f := .noat "Stairs" "stack") rfl),
    na_Stairs_period := He.noat_ok (c.fact 102 (f := .noat "Stairs" "period") rfl),
    na_Stairs_rows := He.noat_ok (c.fact 103 (f := .noat "Stairs" "rows") rfl),
    me_Stairs___init__ := He.meth_ok (c.fact 104 (f := .meth "Stairs" "__init__") rfl),
    me_Stairs_sizes_up_to := He.meth_ok (c.fact 105 (f := .meth "Stairs" "sizes_up_to") rfl),
    me_Stairs_missed_below := He.meth_ok (c.fact 106 (f := .meth "Stairs" "missed_below") rfl),
    k_InvalidNumber := He.glo_ok X G (c.fact 107 (f := .glo "InvalidNumber") rfl),
    k_TooLong := He.glo_ok X G (c.fact 108 (f := .glo "TooLong") rfl),
    k_NotAWrap := He.glo_ok X G (c.fact 109 (f := .glo "NotAWrap") rfl),
    k_NotAStack := He.glo_ok X G (c.fact 110 (f := .glo "NotAStack") rfl),
    k_NotARoad := He.glo_ok X G (c.fact 111 (f := .glo "NotARoad") rfl),
    k_InvalidKind := He.glo_ok X G (c.fact 112 (f := .glo "InvalidKind") rfl),
    k_InvalidBase := He.glo_ok X G (c.fact 113 (f := .glo "InvalidBase") rfl),
    k_InvalidLength := He.glo_ok X G (c.fact 114 (f := .glo "InvalidLength") rfl),
    k_InvalidText := He.glo_ok X G (c.fact 115 (f := .glo "InvalidText") rfl),
    k_InvalidRow := He.glo_ok X G (c.fact 116 (f := .glo "InvalidRow") rfl),
    k_InvalidNumbers := He.glo_ok X G (c.fact 117 (f := .glo "InvalidNumbers") rfl),
    k_InvalidWraps := He.glo_ok X G (c.fact 118 (f := .glo "InvalidWraps") rfl),
    k_InvalidSeen := He.glo_ok X G (c.fact 119 (f := .glo "InvalidSeen") rfl),
    k_InvalidDeeds := He.glo_ok X G (c.fact 120 (f := .glo "InvalidDeeds") rfl),
    k_NothingToPop := He.glo_ok X G (c.fact 121 (f := .glo "NothingToPop") rfl),
    k_NothingToUndo := He.glo_ok X G (c.fact 122 (f := .glo "NothingToUndo") rfl),
    k_Busy := He.glo_ok X G (c.fact 123 (f := .glo "Busy") rfl),
    k_TooFine := He.glo_ok X G (c.fact 124 (f := .glo "TooFine") rfl),
    k_TooManyWraps := He.glo_ok X G (c.fact 125 (f := .glo "TooManyWraps") rfl),
    k_Misfit := He.glo_ok X G (c.fact 126 (f := .glo "Misfit") rfl),
    k_Untimely := He.glo_ok X G (c.fact 127 (f := .glo "Untimely") rfl),
    k_Excess := He.glo_ok X G (c.fact 128 (f := .glo "Excess") rfl),
    k_RANGES := He.glo_ok X G (c.fact 129 (f := .glo "RANGES") rfl),
    dt_L_right := let ⟨fd, F⟩ := c.def_ 43 (d := dd_L_right) rfl; ⟨fd, F, He.glo_ok X G (c.fact 43 (f := .glo "_law_right") rfl)⟩,
    dm_Wrap___init__ := c.def_ 45 (d := dd_Wrap___init__) rfl,
    dm_Wrap_grown := c.def_ 46 (d := dd_Wrap_grown) rfl,
    dm_Wrap___str__ := c.def_ 47 (d := dd_Wrap___str__) rfl,
    dm_Stack___init__ := c.def_ 48 (d := dd_Stack___init__) rfl,
    dm_Stack_grown := c.def_ 49 (d := dd_Stack_grown) rfl,
    dm_Stack_size := c.def_ 50 (d := dd_Stack_size) rfl,
    dm_Stack___call__ := c.def_ 51 (d := dd_Stack___call__) rfl,
    dm_Stack_sizes := c.def_ 52 (d := dd_Stack_sizes) rfl,
    dm_Stack___str__ := c.def_ 53 (d := dd_Stack___str__) rfl,
    dm_Stairs___init__ := c.def_ 54 (d := dd_Stairs___init__) rfl,
    dm_Stairs_sizes_up_to := c.def_ 55 (d := dd_Stairs_sizes_up_to) rfl,
    dm_Stairs_missed_below := c.def_ 56 (d := dd_Stairs_missed_below) rfl,
    dm_InvalidNumber___init__ := c.def_ 57 (d := dd_InvalidNumber___init__) rfl,
    dm_TooLong___init__ := c.def_ 58 (d := dd_TooLong___init__) rfl,
    kd := c0.t.tab 0 (t := (fun K => He.ga K "RANGES", ["plus", "told", "whole", "pieces", "cut", "coded", "filled"])) rfl,
    rg := fun a => by
      cases a with
      | plus _ => exact rngB_ok (K := K) (kd := (Wr.plus 0).kind) (qs := (Wr.plus 0).rng) (List.all_eq_true.mp c0.b _ (.tail _ (.tail _ (.tail _ (.tail _ (.tail _ (.tail _ (.tail _ (.tail _ (.tail _ (.head _)))))))))))
      | told _ => exact rngB_ok (K := K) (kd := (Wr.told 0).kind) (qs := (Wr.told 0).rng) (List.all_eq_true.mp c0.b _ (.tail _ (.tail _ (.tail _ (.tail _ (.tail _ (.tail _ (.tail _ (.tail _ (.tail _ (.tail _ (.head _))))))))))))
      | whole _ => exact rngB_ok (K := K) (kd := (Wr.whole 0).kind) (qs := (Wr.whole 0).rng) (List.all_eq_true.mp c0.b _ (.tail _ (.tail _ (.tail _ (.tail _ (.tail _ (.tail _ (.tail _ (.tail _ (.tail _ (.tail _ (.tail _ (.head _)))))))))))))
      | pieces _ _ => exact rngB_ok (K := K) (kd := (Wr.pieces 0 0).kind) (qs := (Wr.pieces 0 0).rng) (List.all_eq_true.mp c0.b _ (.tail _ (.tail _ (.tail _ (.tail _ (.tail _ (.tail _ (.tail _ (.tail _ (.tail _ (.tail _ (.tail _ (.tail _ (.head _))))))))))))))
      | cut _ _ => exact rngB_ok (K := K) (kd := (Wr.cut 0 0).kind) (qs := (Wr.cut 0 0).rng) (List.all_eq_true.mp c0.b _ (.tail _ (.tail _ (.tail _ (.tail _ (.tail _ (.tail _ (.tail _ (.tail _ (.tail _ (.tail _ (.tail _ (.tail _ (.tail _ (.head _)))))))))))))))
      | coded _ _ => exact rngB_ok (K := K) (kd := (Wr.coded 0 0).kind) (qs := (Wr.coded 0 0).rng) (List.all_eq_true.mp c0.b _ (.tail _ (.tail _ (.tail _ (.tail _ (.tail _ (.tail _ (.tail _ (.tail _ (.tail _ (.tail _ (.tail _ (.tail _ (.tail _ (.tail _ (.head _))))))))))))))))
      | filled _ => exact rngB_ok (K := K) (kd := (Wr.filled 0).kind) (qs := (Wr.filled 0).rng) (List.all_eq_true.mp c0.b _ (.tail _ (.tail _ (.tail _ (.tail _ (.tail _ (.tail _ (.tail _ (.tail _ (.tail _ (.tail _ (.tail _ (.tail _ (.tail _ (.tail _ (.tail _ (.head _))))))))))))))))),
    is_Wrap := isiB_ok (He.cls_ok (c.fact 78 (f := .cls "Wrap") rfl)) (List.all_eq_true.mp c0.b _ (.head _)),
    is_Stack := isiB_ok (He.cls_ok (c.fact 87 (f := .cls "Stack") rfl)) (List.all_eq_true.mp c0.b _ (.tail _ (.head _))),
    is_Stairs := isiB_ok (He.cls_ok (c.fact 99 (f := .cls "Stairs") rfl)) (List.all_eq_true.mp c0.b _ (.tail _ (.tail _ (.head _)))),
    ne_Stack_Wrap := of_decide_eq_true (List.all_eq_true.mp c0.b _ (.tail _ (.tail _ (.tail _ (.tail _ (.tail _ (.head _))))))),
    st_Stack := strB_ok (List.all_eq_true.mp c0.b _ (.tail _ (.tail _ (.tail _ (.head _))))),
    st_Wrap := strB_ok (List.all_eq_true.mp c0.b _ (.tail _ (.tail _ (.tail _ (.tail _ (.head _)))))),
    er_InvalidNumber := errCB_ok (List.all_eq_true.mp c0.b _ (.tail _ (.tail _ (.tail _ (.tail _ (.tail _ (.tail _ (.head _)))))))),
    er_TooLong := errCB_ok (List.all_eq_true.mp c0.b _ (.tail _ (.tail _ (.tail _ (.tail _ (.tail _ (.tail _ (.tail _ (.head _))))))))),
    et := etab_ok (List.all_eq_true.mp c0.b _ (.tail _ (.tail _ (.tail _ (.tail _ (.tail _ (.tail _ (.tail _ (.tail _ (.head _)))))))))) }
def spLaw (K : PySem.W.Frag) : Sp := fun vs H Q _ => ∃ (a : Addr) (ns : List Int), vs = [.ref a] ∧ SqL K H a (ns.map V.int) ∧ ns.length ≤ 63 ∧ (∀ z ∈ ns, Builtin.Int.intBits z ≤ 1048576) ∧ LamX.Tabs (tabsOf K) H ∧ ∀ H', Q (.bl true) H'

/-! ### errors that leave -/
/-- an error of the class C leaves, with v in its field f -/
def Fails (K : PySem.W.Frag) (H : Hp) (E : XK) (C f : Str) (v : V) : Prop := ∀ d, H d = none → E (.ref (He.ga K C)) (some d) (upd H d (.xd [(f, v)]))
/-! ### what a number is (for numbers alone) -/
def spIsInt : Sp := fun vs H Q _ => ∃ i : Int, vs = [.int i] ∧ Q (.bl true) H
def spBetween : Sp := fun vs H Q _ => ∃ v l m : Int, vs = [.int v, .int l, .int m] ∧ Q (.bl (decide (l ≤ v ∧ v ≤ m))) H
def spLength : Sp := fun vs H Q _ => ∃ n : Int, vs = [.int n] ∧ 0 ≤ n ∧ n ≤ 10 ^ 60 - 1 ∧ Q .non H
def spBase : Sp := fun vs H Q _ => ∃ n : Int, vs = [.int n] ∧ 2 ≤ n ∧ n ≤ 256 ∧ Q .non H
def spFig : Sp := fun vs H Q _ => ∃ n b : Int, vs = [.int n, .int b] ∧ 2 ≤ b ∧ b ≤ 256 ∧ n < 2 ^ 4000 ∧ ∀ k, IsF b n k → Q (.int k) H
section
variable {P : Program} {w : World} {K : PySem.W.Frag} {mg : Str → Option Value} {base : Heap}
theorem ok_is_integer (T : Tx w K mg) : Prom P w K mg base CX0 1 "is_integer" s_is_integer ["value"] spIsInt := by
  refine Prom.of T.d_is_integer sc_is_integer (fun vs H Q E h => ?_) (fun _ _ _ _ _ _ us hl => match us, hl with | [_], _ => rfl) (fun f cdv A outer s H vs Q E hr h => ?_)
  · obtain ⟨i, rfl, _⟩ := h
    rfl
  · obtain ⟨i, rfl, k⟩ := h
    refine ⟨_, (pss_one (ps_ret (pe_and (pe_callB call_isi (by rfl) T.b_isinstance (by decide +kernel) (pa_cons (pv 0) (pa_cons (pe_bltn (v := .ty "int") (by rfl) T.b_int (by decide +kernel) rfl) pa_nil))) (pe_and (pe_cmpR op_isnotBl (pv 0) pe_bl (nomark _)) (pe_one (pe_cmpR op_isnotBl (pv 0) pe_bl (nomark _))))))), ?_⟩
    refine ⟨_, rfl, _, _, _, _, true, rfl, .ty _, .base (.int _), kit_ty (by decide +kernel), true, rfl, iteT ?_⟩
    refine ⟨_, rfl, _, rfl, true, rfl, iteT ?_⟩
    exact ⟨_, rfl, _, rfl, k⟩
theorem ok_is_between (T : Tx w K mg) : Prom P w K mg base CX0 2 "is_between" s_is_between ["value", "least", "most"] spBetween := by
  refine Prom.of T.d_is_between sc_is_between (fun vs H Q E h => ?_) (fun _ _ _ _ _ _ us hl => match us, hl with | [_, _, _], _ => rfl) (fun f cdv A outer s H vs Q E hr h => ?_)
  · obtain ⟨v, l, m, rfl, _⟩ := h
    rfl
  · obtain ⟨v, l, m, rfl, k⟩ := h
    refine ⟨_, (pss_one (ps_ret (pe_and (pe_callP (ok_is_integer T) (hr.mono (by decide)) (by rfl) pass0 (pa_cons (pv 0) pa_nil)) (pe_one (pe_chain op_le op_le (pv 1) (pv 0) (pv 2)))))), ?_⟩
    refine ⟨_, rfl, v, rfl, true, rfl, iteT ?_⟩
    refine ⟨_, rfl, _, rfl, _, _, rfl, rfl, _, rfl, ifd (fun h1 => ?_) (fun h1 => ?_)⟩
    · refine ⟨_, rfl, _, _, rfl, rfl, ?_⟩
      show Q (.bl (decide (v ≤ m))) H
      have e : decide (v ≤ m) = decide (l ≤ v ∧ v ≤ m) := by simp [h1]
      rw [e]
      exact k
    · show Q (.bl false) H
      have e : false = decide (l ≤ v ∧ v ≤ m) := by simp [h1]
      rw [e]
      exact k
end
section
variable {P : Program} {w : World} {K : PySem.W.Frag} {mg : Str → Option Value} {base : Heap}
theorem ok_check_length (T : Tx w K mg) : Prom P w K mg base CX0 3 "check_length" s_check_length ["value"] spLength := by
  refine Prom.of T.d_check_length sc_check_length (fun vs H Q E h => ?_) (fun _ _ _ _ _ _ us hl => match us, hl with | [_], _ => rfl) (fun f cdv A outer s H vs Q E hr h => ?_)
  · obtain ⟨i, rfl, _⟩ := h
    rfl
  · obtain ⟨i, rfl, h0, h1, k⟩ := h
    refine ⟨_, (pss_one (ps_if (pt_not (pt_val (pe_callP (ok_is_between T) (hr.mono (by decide)) (by rfl) pass0 (pa_cons (pv 0) (pa_cons pe_int (pa_cons (pe_op op_sub (pe_gint T.c_MOST_LENGTH) pe_int) pa_nil)))))) (pss_one ps_never) pss_nil)), ?_⟩
    refine ⟨_, rfl, _, _, rfl, rfl, _, _, _, rfl, _, rfl, ?_⟩
    exact ifn (fun c => absurd (show (0 : Int) ≤ i ∧ i ≤ _ from ⟨h0, by omega⟩) c) (fun _ => k)
end
section
variable {P : Program} {w : World} {K : PySem.W.Frag} {mg : Str → Option Value} {base : Heap}
theorem ok_check_base (T : Tx w K mg) : Prom P w K mg base CX0 3 "check_base" s_check_base ["value"] spBase := by
  refine Prom.of T.d_check_base sc_check_base (fun vs H Q E h => ?_) (fun _ _ _ _ _ _ us hl => match us, hl with | [_], _ => rfl) (fun f cdv A outer s H vs Q E hr h => ?_)
  · obtain ⟨i, rfl, _⟩ := h
    rfl
  · obtain ⟨i, rfl, h0, h1, k⟩ := h
    refine ⟨_, (pss_one (ps_if (pt_not (pt_val (pe_callP (ok_is_between T) (hr.mono (by decide)) (by rfl) pass0 (pa_cons (pv 0) (pa_cons (pe_gint T.c_LEAST_BASE) (pa_cons (pe_gint T.c_MOST_BASE) pa_nil)))))) (pss_one ps_never) pss_nil)), ?_⟩
    refine ⟨_, rfl, _, _, _, rfl, _, rfl, ?_⟩
    exact ifn (fun c => absurd (show (2 : Int) ≤ i ∧ i ≤ 256 from ⟨h0, h1⟩) c) (fun _ => k)
end
section
variable {P : Program} {w : World} {K : PySem.W.Frag} {mg : Str → Option Value} {base : Heap}
theorem fig_mul {b p e n : Int} {j : Nat} (hb : 2 ≤ b) (hb2 : b ≤ 256) (hn : n < 2 ^ 4000) (hp : p = b ^ (j + 1)) (hj : j = 0 ∨ b ^ j ≤ n) (he : e = b ^ 8) : CMulW p e := by
  have b8 : b ^ 8 ≤ 256 ^ 8 := by
    have g : ∀ m : Nat, b ^ m ≤ 256 ^ m := fun m => by
      induction m with
      | zero => rw [Int.pow_zero, Int.pow_zero]; exact Int.le_refl _
      | succ m ih =>
        rw [Int.pow_succ, Int.pow_succ]
        exact Int.mul_le_mul ih hb2 (by omega) (Int.le_of_lt (Int.lt_of_lt_of_le (by decide) (pow_pos (show (1 : Int) ≤ 256 by decide) m)))
    exact g 8
  have p1 := pow_pos (show 1 ≤ b by omega) (j + 1)
  have p8 := pow_pos (show 1 ≤ b by omega) 8
  have hq : b ^ j ≤ 2 ^ 4000 := by
    rcases hj with h | h
    · rw [h, Int.pow_zero]
      exact pow_pos (by decide) 4000
    · omega
  have pj := pow_pos (show 1 ≤ b by omega) j
  have hp2 : p ≤ 2 ^ 4000 * 256 := by
    rw [hp, Int.pow_succ]
    exact Int.mul_le_mul hq hb2 (by omega) (Int.le_of_lt (Int.lt_of_lt_of_le (by decide) (pow_pos (show (1 : Int) ≤ 2 by decide) 4000)))
  refine wide_mul (a := 4009) (b := 65) ?_ ?_ (by decide) (by decide) (by decide)
  · have h1 : p < 2 ^ 4009 := Int.lt_of_le_of_lt hp2 (by decide)
    have h2 : ((p.natAbs : Nat) : Int) < ((2 ^ 4009 : Nat) : Int) := by
      rw [Int.natCast_pow]
      have e : ((2 : Nat) : Int) = 2 := rfl
      rw [e]
      omega
    exact Int.ofNat_lt.mp h2
  · have h1 : e < 2 ^ 65 := by
      rw [he]
      exact Int.lt_of_le_of_lt b8 (by decide)
    have h2 : ((e.natAbs : Nat) : Int) < ((2 ^ 65 : Nat) : Int) := by
      rw [Int.natCast_pow]
      have e : ((2 : Nat) : Int) = 2 := rfl
      rw [e]
      omega
    exact Int.ofNat_lt.mp h2
theorem ok_figures_of (T : Tx w K mg) : Prom P w K mg base CX0 1 "figures_of" s_figures_of ["length", "base"] spFig := by
  refine Prom.of T.d_figures_of sc_figures_of (fun vs H Q E h => ?_) (fun _ _ _ _ _ _ us hl => match us, hl with | [_, _], _ => rfl) (fun f cdv A outer s H vs Q E hr h => ?_)
  · obtain ⟨n, b, rfl, _⟩ := h
    rfl
  · obtain ⟨n, b, rfl, hb, hb2, hn, k⟩ := h
    refine ⟨_, (pss_cons (ps_par3 (i := 2) (j := 3) (l := 4) (by rfl) sc_figures_of.nd rfl rfl rfl (by decide) (by decide) (by decide) rfl rfl rfl (pa_cons pe_int (pa_cons (pv 1) (pa_cons pe_int pa_nil))) (by rfl))
      (pss_cons (ps_for PassesOwn.never (by rfl) (pi_range1 (by rfl) T.b_range (pa_cons pe_int pa_nil)) (pg_name (i := 5) sc_figures_of.nd rfl (Or.inl rfl)) (pss_one (ps_set (i := 4) sc_figures_of.nd rfl (Or.inl rfl) (pe_op op_mul (pv 4) (pv 1)))))
      (pss_cons (ps_while PassesOwn.never (pt_cmp (pc_le (pe_op op_mulW (pv 3) (pv 4)) (pv 0))) (pss_one (ps_par (i := 2) (j := 3) (by rfl) sc_figures_of.nd rfl rfl (by decide) rfl rfl (pa_cons (pe_op op_add (pv 2) pe_int) (pa_cons (pe_op op_mulW (pv 3) (pv 4)) pa_nil)) (by rfl))))
      (pss_cons (ps_while PassesOwn.never (pt_cmp (pc_le (pv 3) (pv 0))) (pss_one (ps_par (i := 2) (j := 3) (by rfl) sc_figures_of.nd rfl rfl (by decide) rfl rfl (pa_cons (pe_op op_add (pv 2) pe_int) (pa_cons (pe_op op_mul (pv 3) (pv 1)) pa_nil)) (by rfl))))
      (pss_one (ps_ret (pv 2))))))), ?_⟩
    -- count, power, eight = 1, base, 1
    refine ⟨_, rfl, _, _, _, rfl, ?_⟩
    -- for turn in range(8)
    refine ⟨8, rfl, by decide, by decide, for_range (lo := 0) (n := 8) (fun i σ H' => H' = H ∧ ∃ v, σ = [some (.int n), some (.int b), some (.int 1), some (.int b), some (.int (b ^ i)), v]) ⟨rfl, none, by rw [Int.pow_zero]; rfl⟩ ?_ ?_⟩
    · rintro i σ H' hi ⟨rfl, v, rfl⟩
      refine ⟨_, rfl, _, rfl, _, _, rfl, rfl, .inr ⟨by omega, by omega⟩, ?_⟩
      exact ⟨rfl, some (.int (0 + (i : Int))), by rw [Int.pow_succ]; rfl⟩
    · rintro σ H' ⟨rfl, v, rfl⟩
      -- while power * eight <= length
      refine ⟨fun m σ H1 => H1 = H' ∧ ∃ (j : Nat), σ = [some (.int n), some (.int b), some (.int ((j : Int) + 1)), some (.int (b ^ (j + 1))), some (.int (b ^ 8)), v] ∧ (j = 0 ∨ b ^ j ≤ n) ∧ m = (n + 1 - b ^ (j + 1)).toNat,
        ⟨_, rfl, 0, by rw [pow_one b]; rfl, .inl rfl, rfl⟩, ?_⟩
      rintro m σ H1 ⟨rfl, j, rfl, hj, hm⟩
      have p1 := pow_pos (show 1 ≤ b by omega) (j + 1)
      refine ⟨_, rfl, _, rfl, _, _, rfl, rfl, fig_mul hb hb2 hn rfl hj rfl, ?_⟩
      refine ⟨_, rfl, _, _, rfl, rfl, _, rfl, ifd (fun c => ?_) (fun c => ?_)⟩
      · refine ⟨_, fun σ' H' h => h, ?_⟩
        have e9 : b ^ (j + 1) * b ^ 8 = b ^ (j + 8 + 1) := by rw [← Int.pow_add]
        have e8 : b ^ (j + 1) < b ^ (j + 8 + 1) := Int.lt_of_lt_of_le (pow_lt hb (j + 1)) (pow_mono (show 1 ≤ b by omega) (by omega))
        refine ⟨_, rfl, _, _, rfl, rfl, _, rfl, _, rfl, _, _, rfl, rfl, fig_mul hb hb2 hn rfl hj rfl, _, _, rfl, ?_⟩
        refine ⟨_, ?_, rfl, j + 8, ?_, .inr ?_, rfl⟩
        · rw [hm]
          rw [e9] at c
          omega
        · show [some (V.int n), some (V.int b), some (V.int ((j : Int) + 1 + 8)), some (V.int (b ^ (j + 1) * b ^ 8)), some (V.int (b ^ 8)), v] = _
          rw [e9]
          have e : (j : Int) + 1 + 8 = ((j + 8 : Nat) : Int) + 1 := by omega
          rw [e]
        · rw [e9] at c
          exact Int.le_trans (pow_mono (show 1 ≤ b by omega) (by omega)) c
      · -- while power <= length
        refine ⟨fun m σ H2 => H2 = H1 ∧ ∃ (j : Nat), σ = [some (.int n), some (.int b), some (.int ((j : Int) + 1)), some (.int (b ^ (j + 1))), some (.int (b ^ 8)), v] ∧ (j = 0 ∨ b ^ j ≤ n) ∧ m = (n + 1 - b ^ (j + 1)).toNat,
          ⟨_, rfl, j, rfl, hj, rfl⟩, ?_⟩
        clear c hm p1 hj
        rintro m σ H2 ⟨rfl, j, rfl, hj, hm⟩
        have p1 := pow_pos (show 1 ≤ b by omega) (j + 1)
        refine ⟨_, rfl, _, rfl, _, _, rfl, rfl, _, rfl, ifd (fun c => ?_) (fun c => ?_)⟩
        · refine ⟨_, fun σ' H' h => h, ?_⟩
          have e8 := pow_lt hb (j + 1)
          refine ⟨_, rfl, _, _, rfl, rfl, _, rfl, _, rfl, _, _, rfl, rfl, .inr ⟨by omega, by omega⟩, _, _, rfl, ?_⟩
          refine ⟨_, ?_, rfl, j + 1, ?_, .inr c, rfl⟩
          · rw [hm]
            omega
          · show [some (V.int n), some (V.int b), some (V.int ((j : Int) + 1 + 1)), some (V.int (b ^ (j + 1) * b)), some (V.int (b ^ 8)), v] = _
            rw [← Int.pow_succ]
            have e : (j : Int) + 1 + 1 = ((j + 1 : Nat) : Int) + 1 := by omega
            rw [e]
        · exact ⟨_, rfl, k _ ⟨j, rfl, by omega, hj⟩⟩
end
section
variable {P : Program} {w : World} {K : PySem.W.Frag} {mg : Str → Option Value} {base : Heap}
def spTotal : Sp := fun vs H Q _ => ∃ n b : Int, vs = [.int n, .int b] ∧ 2 ≤ b ∧ b ≤ 256 ∧ 0 ≤ n ∧ n < 2 ^ 3900 ∧ ∀ s, IsTot b n s → s ≤ n + 4000 → Q (.int s) H
theorem ok_total_of (T : Tx w K mg) : Prom P w K mg base CX0 2 "total_of" s_total_of ["length", "base"] spTotal := by
  refine Prom.of T.d_total_of sc_total_of (fun vs H Q E h => ?_) (fun _ _ _ _ _ _ us hl => match us, hl with | [_, _], _ => rfl) (fun f cdv A outer s H vs Q E hr h => ?_)
  · obtain ⟨n, b, rfl, _⟩ := h
    rfl
  · obtain ⟨n, b, rfl, b0, b1, n0, n1, k⟩ := h
    have big : ∀ x : Int, x ≤ n + 4000 → x < 2 ^ 4000 := fun x hx => by
      have : (2 : Int) ^ 3900 + 4000 ≤ 2 ^ 4000 := by decide
      omega
    refine ⟨_, (pss_cons (ps_set (i := 2) sc_total_of.nd rfl (Or.inl rfl) (pe_callP (ok_figures_of T) (hr.mono (by decide)) (by rfl) pass0 (pa_cons (pv 0) (pa_cons (pv 1) pa_nil))))
      (pss_cons (ps_while PassesOwn.never (pt_cmp (pc_neI (pe_callP (ok_figures_of T) (hr.mono (by decide)) (by rfl) pass0 (pa_cons (pe_op op_add (pv 0) (pv 2)) (pa_cons (pv 1) pa_nil))) (pv 2))) (pss_one (ps_aug (i := 2) sc_total_of.nd rfl (.inl rfl) pe_int ip_add)))
      (pss_one (ps_ret (pe_op op_add (pv 0) (pv 2)))))), ?_⟩
    refine ⟨_, rfl, _, rfl, n, b, rfl, b0, b1, big n (by omega), fun z hz => ?_⟩
    have z0 := isF_pos hz
    have z1 := isF_bound b0 3900 n1 hz
    refine ⟨fun m σ H1 => H1 = H ∧ ((m = 1 ∧ σ = [some (.int n), some (.int b), some (.int z)]) ∨ (m = 0 ∧ σ = [some (.int n), some (.int b), some (.int (z + 1))] ∧ IsF b (n + z) (z + 1))), ⟨1, rfl, .inl ⟨rfl, rfl⟩⟩, ?_⟩
    rintro m σ H1 ⟨rfl, ⟨rfl, rfl⟩ | ⟨rfl, rfl, h1⟩⟩
    · refine ⟨_, rfl, _, rfl, _, _, rfl, rfl, _, rfl, n + z, b, rfl, b0, b1, big _ (by omega), fun g hg => ?_⟩
      refine ⟨_, rfl, _, _, rfl, rfl, _, rfl, ifn (fun c => ?_) (fun c => ?_)⟩
      · have e : g = z + 1 := (fig_grow b0 n0 hz hg).resolve_left c
        subst e
        exact ⟨_, fun _ _ h => h, _, rfl, _, _, rfl, rfl, 0, by decide, rfl, .inr ⟨rfl, rfl, hg⟩⟩
      · subst c
        exact ⟨_, rfl, _, rfl, _, _, rfl, rfl, k _ (isTot_first b0 hz hg) (by omega)⟩
    · refine ⟨_, rfl, _, rfl, _, _, rfl, rfl, _, rfl, n + (z + 1), b, rfl, b0, b1, big _ (by omega), fun g hg => ?_⟩
      have h2 := fig_next b0 n0 hz h1
      have e0 : n + (z + 1) = n + z + 1 := by omega
      rw [e0] at hg
      have e : g = z + 1 := isF_eq b0 hg h2
      refine ⟨_, rfl, _, _, rfl, rfl, _, rfl, ifn (fun c => absurd e c) (fun c => ?_)⟩
      refine ⟨_, rfl, _, rfl, _, _, rfl, rfl, ?_⟩
      show Q (.int (n + (z + 1))) _
      rw [e0]
      exact k _ (isTot_second b0 n0 hz h1) (by omega)
end
theorem log2_small {i : Int} (h0 : 0 ≤ i) (h1 : i < 10 ^ 70) : i.natAbs.log2 < 1920 := by
  have h3 : i.natAbs < 2 ^ 300 := Nat.lt_of_lt_of_le (show i.natAbs < 10 ^ 70 by omega) (by decide)
  exact Nat.lt_of_lt_of_le (PySem.Flt.log2_lt_of (by decide) h3) (by decide)
/-! ### ints shown -/
theorem shownAll_ints : ∀ xs : List Int, PyData.shownAll (xs.map PyData.int) = xs.map fun i => (toString i : Str)
  | [] => rfl
  | x :: xs => by
    show (toString x : Str) :: PyData.shownAll (xs.map PyData.int) = _
    rw [shownAll_ints xs]
    rfl
theorem sum_short : ∀ (xs : List Int), (∀ x ∈ xs, x.natAbs < 10 ^ 70) → ((xs.map fun i => (toString i : Str)).map (·.length)).sum ≤ 71 * xs.length
  | [], _ => by simp
  | x :: xs, h => by
    have h1 := sum_short xs fun y hy => h y (List.mem_cons_of_mem _ hy)
    have h2 : (toString x : Str).length ≤ 71 := by
      have := int_text_length_le10 (k := 70) (by decide) (h x (List.mem_cons_self ..))
      have e : (Str.ofString (toString x)).length = (toString x : String).length := PySem.ofString_length _
      show (Str.ofString (toString x)).length ≤ 71
      omega
    simp only [List.map_cons, List.sum_cons, List.length_cons]
    omega
def Shows (d : PyData) : Prop := d.showable = true ∧ d.hasDict = false ∧ d.depth ≤ 40 ∧ d.shown.length ≤ sizeLine
theorem ints_showable : ∀ xs : List Int, (∀ x ∈ xs, x.natAbs < 10 ^ 70) → PyData.showableAll (xs.map PyData.int) = true ∧ PyData.hasDictAll (xs.map PyData.int) = false ∧ PyData.depthAll (xs.map PyData.int) ≤ 2
  | [], _ => ⟨rfl, rfl, by decide⟩
  | x :: xs, h => by
    obtain ⟨h1, h2, h3⟩ := ints_showable xs fun y hy => h y (List.mem_cons_of_mem _ hy)
    have hx : x.natAbs.log2 < 1920 := by
      have h4 : x.natAbs < 2 ^ 300 := Nat.lt_of_lt_of_le (h x (List.mem_cons_self ..)) (by decide)
      exact Nat.lt_of_lt_of_le (PySem.Flt.log2_lt_of (by decide) h4) (by decide)
    refine ⟨?_, ?_, ?_⟩
    · show (decide (x.natAbs.log2 < 1920) && PyData.showableAll (xs.map PyData.int)) = true
      rw [h1, decide_eq_true hx] <;> rfl
    · show (false || PyData.hasDictAll (xs.map PyData.int)) = false
      rw [h2] <;> rfl
    · show max (PyData.depth (.int x)) (PyData.depthAll (xs.map PyData.int)) ≤ 2
      have : PyData.depth (.int x) ≤ 1 := by first | exact Nat.le_refl _ | exact Nat.zero_le _ | decide
      omega
theorem shows_tuple {xs : List Int} (h : ∀ x ∈ xs, x.natAbs < 10 ^ 70) (hl : xs.length ≤ 10000) : Shows (.tuple (xs.map PyData.int)) := by
  obtain ⟨h1, h2, h3⟩ := ints_showable xs h
  refine ⟨h1, h2, ?_, ?_⟩
  · show PyData.depthAll (xs.map PyData.int) + 1 ≤ 40
    omega
  · show (tupleText (PyData.shownAll (xs.map PyData.int))).length ≤ sizeLine
    have h4 := tupleText_len_le (PyData.shownAll (xs.map PyData.int))
    rw [shownAll_ints] at h4 ⊢
    have h5 := sum_short xs h
    rw [List.length_map] at h4
    rw [sizeLine_eq]
    omega
theorem shows_list {xs : List Int} (h : ∀ x ∈ xs, x.natAbs < 10 ^ 70) (hl : xs.length ≤ 10000) : Shows (.list (xs.map PyData.int)) := by
  obtain ⟨h1, h2, h3⟩ := ints_showable xs h
  refine ⟨h1, h2, ?_, ?_⟩
  · show PyData.depthAll (xs.map PyData.int) + 1 ≤ 40
    omega
  · show (listText (PyData.shownAll (xs.map PyData.int))).length ≤ sizeLine
    have h4 := listText_len_le (PyData.shownAll (xs.map PyData.int))
    rw [shownAll_ints] at h4 ⊢
    have h5 := sum_short xs h
    rw [List.length_map] at h4
    rw [sizeLine_eq]
    omega
theorem dp_ints {K : PySem.W.Frag} {H : Hp} : ∀ xs : List Int, DpAll K H (xs.map V.int) (xs.map PyData.int)
  | [] => .nil
  | x :: xs => .cons (.int x) (dp_ints xs)
/-! ### wraps -/
/-- the first number that does not do -/
def faultL : List (Int × Int) → List Int → Nat → Option Nat
  | q :: qs, n :: ns, i => if q.1 ≤ n ∧ n ≤ q.2 then faultL qs ns (i + 1) else some i
  | _, _, _ => none
def faultV (a : Wr) (ns : List Int) : V := match faultL a.rng ns 0 with
  | some i => .int (i : Nat)
  | none => if a.kind = "coded" ∧ ns.getD 1 0 < ns.getD 0 0 then .int 1 else .non
theorem faultL_drop : ∀ (qs : List (Int × Int)) (ns : List Int) (j i : Nat), qs.length = ns.length → (∀ m q n, m < i → qs[m]? = some q → ns[m]? = some n → q.1 ≤ n ∧ n ≤ q.2) → i ≤ ns.length → faultL qs ns j = faultL (qs.drop i) (ns.drop i) (j + i)
  | _, _, j, 0, _, _, _ => rfl
  | [], [], j, i + 1, _, _, h => by simp at h
  | [], _ :: _, j, i + 1, h, _, _ => by simp at h
  | _ :: _, [], j, i + 1, h, _, _ => by simp at h
  | q :: qs, n :: ns, j, i + 1, hl, hg, hi => by
    have h0 := hg 0 q n (by omega) rfl rfl
    have ih := faultL_drop qs ns (j + 1) i (by simpa using hl) (fun m q' n' hm h1 h2 => hg (m + 1) q' n' (by omega) (by simpa using h1) (by simpa using h2)) (by simpa using hi)
    show (if q.1 ≤ n ∧ n ≤ q.2 then faultL qs ns (j + 1) else some j) = _
    rw [if_pos h0, ih]
    have e : j + 1 + i = j + (i + 1) := by omega
    rw [e]
    rfl
theorem drop_at {α : Type} : ∀ {xs : List α} {i : Nat} {x : α}, xs[i]? = some x → xs.drop i = x :: xs.drop (i + 1)
  | [], i, x, h => by simp at h
  | y :: ys, 0, x, h => by
    simp at h
    rw [h]
    rfl
  | y :: ys, i + 1, x, h => drop_at (xs := ys) (i := i) (by simpa using h)
def spFault (K : PySem.W.Frag) : Sp := fun vs H Q _ => ∃ (a : Wr) (ns : List Int) (p : Addr), vs = [.str a.kind, .ref p] ∧ (SqL K H p (ns.map V.int) ∨ SqT K H p (ns.map V.int)) ∧ ns.length = a.rng.length ∧ ∀ H', Same H H' → Q (faultV a ns) H'
section
variable {P : Program} {w : World} {K : PySem.W.Frag} {mg : Str → Option Value} {base : Heap}
theorem sq_same {H H' : Hp} {p : Addr} {xs : List V} (s : Same H H') (h : SqL K H p xs ∨ SqT K H p xs) : SqL K H' p xs ∨ SqT K H' p xs := by
  rcases h with h | h
  · exact .inl (s.seq h)
  · refine .inr ?_
    rcases h with (h | ⟨o, h⟩) | h
    · exact .inl (.inl (s _ _ h))
    · exact .inl (.inr ⟨o, s _ _ h⟩)
    · exact .inr h
theorem ok_fault_in (T : Tx w K mg) : Prom P w K mg base CX0 3 "fault_in" s_fault_in ["kind", "numbers"] (spFault K) := by
  refine Prom.of T.d_fault_in sc_fault_in (fun vs H Q E h => ?_) (fun _ _ _ _ _ _ us hl => match us, hl with | [_, _], _ => rfl) (fun f cdv A outer s H vs Q E hr h => ?_)
  · obtain ⟨a, ns, p, rfl, _⟩ := h
    rfl
  · obtain ⟨a, ns, p, rfl, hS, hl, k⟩ := h
    obtain ⟨es, en, kd⟩ := T.kd
    obtain ⟨b, xs, hb, hq, hp⟩ := T.rg a
    have hlx := hp.len
    have at_ : ∀ {H' : Hp} {i : Nat} {n : Int} {Q' : VK}, Same H H' → ns[i]? = some n → Q' (.int n) H' → rIxL K (.ref p) (.int (i : Nat)) H' Q' ∨ rIxT K (.ref p) (.int (i : Nat)) H' Q' := fun {H' i n Q'} hs hn hQ => by
      have en : (ns.map V.int)[i]? = some (V.int n) := by rw [List.getElem?_map, hn]; rfl
      rcases sq_same hs hS with z | z
      · exact .inl ⟨p, _, _, _, rfl, rfl, z, atI_nat en, hQ⟩
      · exact .inr ⟨p, _, _, _, rfl, rfl, z, atI_nat en, hQ⟩
    refine ⟨_, (pss_cons (ps_for PassesOwn.never (by rfl) (pi_enumT (by rfl) T.b_enumerate (pa_cons (pe_ix ix_kdict (pe_glob (v := .ref _) (by rfl) T.k_RANGES rfl) (pv 0) (fun _ _ => rfl)) pa_nil)) (pg_tup rfl (pgs_cons (pg_name (i := 2) sc_fault_in.nd rfl (Or.inl rfl)) (pgs_cons (pg_tup rfl (pgs_cons (pg_name (i := 3) sc_fault_in.nd rfl (Or.inl rfl)) (pgs_cons (pg_name (i := 4) sc_fault_in.nd rfl (Or.inl rfl)) pgs_nil))) pgs_nil))) (pss_one (ps_if (pt_not (pt_val (pe_callP (ok_is_between T) (hr.mono (by decide)) (by rfl) pass0 (pa_cons (pe_ix ix_any (pv 1) (pv 2) (fun _ _ => rfl)) (pa_cons (pv 3) (pa_cons (pv 4) pa_nil)))))) (pss_one (ps_ret (pv 2))) pss_nil)))
      (pss_one (ps_ret (pe_ifExp (PW.pt (pw_and (pt_cmpR op_eq (pv 0) pe_str (nomark _)) (pw_and1 (pt_cmp (pc_lt (pe_ix ix_any (pv 1) pe_int (fun _ _ => rfl)) (pe_ix ix_any (pv 1) pe_int (fun _ _ => rfl))))))) pe_int pe_non)))), ?_⟩
    refine ⟨_, rfl, _, _, .ref b, rfl, rfl, ⟨es, en, _, kd.at_, kd.lit, hb, rfl⟩, b, xs, rfl, hq _, ?_⟩
    refine for_it (walk_enumT (K := K) (a := b) (xs := xs)) (fun i σ H' => Same H H' ∧ (∀ m q n, m < i → a.rng[m]? = some q → ns[m]? = some n → q.1 ≤ n ∧ n ≤ q.2) ∧ ∃ v1 v2 v3, σ = [some (.str a.kind), some (.ref p), v1, v2, v3]) ⟨Same.refl H, fun m q n h => absurd h (Nat.not_lt_zero m), none, none, none, rfl⟩ (fun _ _ H' _ _ => hq H') ?_ ?_
    · rintro i x σ H1 H2 hi ⟨hs, hg, v1, v2, v3, rfl⟩ ⟨t, x1, x2, rfl, ht, rfl, e1, e2⟩
      cases e1
      obtain ⟨c, q, rfl, hq2, hc⟩ := hp.get e2
      have hin : i < ns.length := by omega
      obtain ⟨n, hn⟩ : ∃ n, ns[i]? = some n := ⟨_, List.getElem?_eq_getElem hin⟩
      have hs2 : Same H (upd H1 t (.tup [.int (i : Nat), .ref c])) := fun y o e => by rw [upd_ne (ne_of_none (hs _ _ e) ht)]; exact hs _ _ e
      refine ⟨t, _, rfl, SqT.of upd_same, rfl, _, _, rfl, _, _, rfl, ?_⟩
      refine ⟨c, _, rfl, hc _, rfl, _, _, rfl, _, _, rfl, rfl, rfl, ?_⟩
      refine ⟨_, rfl, _, rfl, at_ hs2 hn ⟨_, rfl, _, rfl, n, q.1, q.2, rfl, _, rfl, ifn (fun c => ?_) (fun c => ?_)⟩⟩
      · have e : faultV a ns = .int (i : Nat) := by
          unfold faultV
          rw [faultL_drop a.rng ns 0 i hl.symm hg (by omega)]
          have d1 : a.rng.drop i = q :: a.rng.drop (i + 1) := drop_at hq2
          have d2 : ns.drop i = n :: ns.drop (i + 1) := drop_at hn
          rw [d1, d2]
          show (match (if q.1 ≤ n ∧ n ≤ q.2 then _ else some (0 + i)) with
            | some i => V.int (i : Nat)
            | none => _) = _
          rw [if_neg c, Nat.zero_add]
        have k2 := k _ hs2
        rw [e] at k2
        exact ⟨_, rfl, k2⟩
      · refine ⟨hs2, fun m q' n' hm h1 h2 => ?_, _, _, _, rfl⟩
        by_cases z : m = i
        · subst z
          rw [hq2] at h1
          rw [hn] at h2
          cases h1
          cases h2
          exact c
        · exact hg m q' n' (by omega) h1 h2
    · rintro σ H' ⟨hs, hg, v1, v2, v3, rfl⟩
      have e0 : faultL a.rng ns 0 = none := by
        rw [faultL_drop a.rng ns 0 ns.length hl.symm (by rw [hlx, ← hl] at hg; exact hg) (Nat.le_refl _)]
        rw [List.drop_length]
        cases a.rng.drop ns.length <;> rfl
      have k2 := k _ hs
      unfold faultV at k2
      rw [e0] at k2
      refine ⟨_, rfl, rfl, _, rfl, ifd (fun c => ?_) (fun c => ?_)⟩
      · have ec : a.kind = "coded" := by
          have c : V.str a.kind = V.str "coded" := c
          injection c
        have l2 : a.rng.length = 2 := by
          cases a with
          | coded _ _ => rfl
          | pieces _ _ => rfl
          | cut _ _ => rfl
          | plus _ => exact absurd (show ("plus" : Str) = "coded" from ec) (by decide)
          | told _ => exact absurd (show ("told" : Str) = "coded" from ec) (by decide)
          | whole _ => exact absurd (show ("whole" : Str) = "coded" from ec) (by decide)
          | filled _ => exact absurd (show ("filled" : Str) = "coded" from ec) (by decide)
        rw [l2] at hl
        obtain ⟨n0, n1, rfl⟩ : ∃ n0 n1, ns = [n0, n1] := by
          match ns, hl with
          | [n0, n1], _ => exact ⟨n0, n1, rfl⟩
        refine ⟨_, rfl, at_ (i := 1) (n := n1) hs rfl ⟨_, rfl, at_ (i := 0) (n := n0) hs rfl ⟨_, _, rfl, rfl, _, rfl, ifd (fun c2 => ?_) (fun c2 => ?_)⟩⟩⟩
        · rw [if_pos ⟨ec, c2⟩] at k2
          exact k2
        · rw [if_neg (fun z => c2 z.2)] at k2
          exact k2
      · rw [if_neg (fun z => c (congrArg V.str z.1))] at k2
        exact k2
end
/-- the text of a wrap -/
def Wr.text (a : Wr) : Str := Txt.join " " (a.kind :: a.nums.map fun i => (toString i : Str))
def wrapFs (a : Wr) (p : Addr) : List (Str × V) := [("kind", .str a.kind), ("numbers", .ref p), ("words", .str a.text)]
/-- a wrap stands there -/
def WrapAt (K : PySem.W.Frag) (H : Hp) (q : Addr) (a : Wr) : Prop := ∃ dx p, H q = some (.ins (He.ga K "Wrap") dx (wrapFs a p)) ∧ H p = some (.tup (a.nums.map V.int))
theorem WrapAt.same {K : PySem.W.Frag} {H H' : Hp} {q : Addr} {a : Wr} (h : WrapAt K H q a) (s : Same H H') : WrapAt K H' q a := by
  obtain ⟨dx, p, h1, h2⟩ := h
  exact ⟨dx, p, s _ _ h1, s _ _ h2⟩
def spInit (K : PySem.W.Frag) : Sp := fun vs H Q _ => ∃ (a : Wr) (x p dx : Addr), vs = [.ref x, .str a.kind, .ref p] ∧ a.ok ∧ H x = some (.ins (He.ga K "Wrap") dx []) ∧ H p = some (.tup (a.nums.map V.int)) ∧
  ∀ H', Kp x H H' → H' x = some (.ins (He.ga K "Wrap") dx (wrapFs a p)) → Q .non H'
def spWrap (K : PySem.W.Frag) : Sp := fun vs H Q _ => ∃ a : Wr, vs = .str a.kind :: a.nums.map V.int ∧ a.ok ∧ ∀ q H', H q = none → Same H H' → WrapAt K H' q a → Q (.ref q) H'
theorem kind_len (a : Wr) : a.kind.length ≤ 6 := by
  cases a with
  | plus _ => exact (show ("plus" : Str).length ≤ 6 by decide)
  | told _ => exact (show ("told" : Str).length ≤ 6 by decide)
  | whole _ => exact (show ("whole" : Str).length ≤ 6 by decide)
  | pieces _ _ => exact (show ("pieces" : Str).length ≤ 6 by decide)
  | cut _ _ => exact (show ("cut" : Str).length ≤ 6 by decide)
  | coded _ _ => exact (show ("coded" : Str).length ≤ 6 by decide)
  | filled _ => exact (show ("filled" : Str).length ≤ 6 by decide)
theorem faultL_one {q : Int × Int} {n : Int} (h : q.1 ≤ n ∧ n ≤ q.2) : faultL [q] [n] 0 = none := by
  show (if q.1 ≤ n ∧ n ≤ q.2 then none else some 0) = none
  rw [if_pos h]
theorem faultL_two {q r : Int × Int} {n m : Int} (h : q.1 ≤ n ∧ n ≤ q.2) (h2 : r.1 ≤ m ∧ m ≤ r.2) : faultL [q, r] [n, m] 0 = none := by
  show (if q.1 ≤ n ∧ n ≤ q.2 then (if r.1 ≤ m ∧ m ≤ r.2 then none else some 1) else some 0) = none
  rw [if_pos h, if_pos h2]
theorem fault_ok {a : Wr} (h : a.ok) : faultV a a.nums = .non := by
  unfold faultV
  cases a with
  | plus c => rw [show faultL (Wr.plus c).rng (Wr.plus c).nums 0 = none from faultL_one h]; rfl
  | told c => rw [show faultL (Wr.told c).rng (Wr.told c).nums 0 = none from faultL_one h]; rfl
  | whole c => rw [show faultL (Wr.whole c).rng (Wr.whole c).nums 0 = none from faultL_one h]; rfl
  | filled c => rw [show faultL (Wr.filled c).rng (Wr.filled c).nums 0 = none from faultL_one h]; rfl
  | pieces m c => rw [show faultL (Wr.pieces m c).rng (Wr.pieces m c).nums 0 = none from faultL_two ⟨h.1, h.2.1⟩ h.2.2]; rfl
  | cut m c => rw [show faultL (Wr.cut m c).rng (Wr.cut m c).nums 0 = none from faultL_two ⟨h.1, h.2.1⟩ h.2.2]; rfl
  | coded m c =>
    simp only [Wr.ok] at h
    rw [show faultL (Wr.coded m c).rng (Wr.coded m c).nums 0 = none from faultL_two ⟨h.1, h.2.1⟩ ⟨show (1 : Int) ≤ c by omega, h.2.2.2⟩]
    exact if_neg (fun z => absurd (show c < m from z.2) (by omega))
section
variable {P : Program} {w : World} {K : PySem.W.Frag} {mg : Str → Option Value} {base : Heap}
theorem ok_Wrap (T : Tx w K mg) : PromC P w K mg base CX0 4 "Wrap" (spWrap K) := by
  refine PromC.star (sp0 := spInit K) T.mk_Wrap T.k_Wrap T.dm_Wrap___init__ sc_Wrap___init__ (fun _ _ _ _ _ _ _ _ => rfl) (fun _ _ _ _ _ _ _ _ _ _ => rfl) (fun f cdv A outer s H vs Q E hr h => ?_) (fun vs H Q E h => ?_)
  · obtain ⟨a, x, p, dx, rfl, ha, hx, hp, k⟩ := h
    obtain ⟨es, en, kd⟩ := T.kd
    obtain ⟨b, xs, hb, hq, hps⟩ := T.rg a
    refine ⟨_, (pss_cons (ps_if (PW.pt (pw_or (pt_not (pt_val (pe_callB call_isi (by rfl) T.b_isinstance (by decide +kernel) (pa_cons (pv 1) (pa_cons (pe_bltn (v := .ty "str") (by rfl) T.b_str (by decide +kernel) rfl) pa_nil))))) (pw_or1 (pt_cmpR (op_notIn_kd kd) (pv 1) (pe_glob (v := .ref _) (by rfl) T.k_RANGES rfl) (by rfl))))) (pss_one ps_never) pss_nil)
      (pss_cons (ps_if (pt_cmp (pc_neI (pe_callB call_len_seq (by rfl) T.b_len (by decide +kernel) (pa_cons (pv 2) pa_nil)) (pe_callB call_len_seq (by rfl) T.b_len (by decide +kernel) (pa_cons (pe_ix ix_kdict (pe_glob (v := .ref _) (by rfl) T.k_RANGES rfl) (pv 1) (fun _ _ => rfl)) pa_nil)))) (pss_one ps_never) pss_nil)
      (pss_cons (ps_set (i := 3) sc_Wrap___init__.nd rfl (Or.inl rfl) (pe_callP (ok_fault_in T) (hr.mono (by decide)) (by rfl) pass0 (pa_cons (pv 1) (pa_cons (pv 2) pa_nil))))
      (pss_cons (ps_if (pt_cmpR op_notN (pv 3) pe_non (nomark _)) (pss_one ps_never) pss_nil)
      (pss_cons (ps_fld (pv 0) (pv 1) rfl)
      (pss_cons (ps_fld (pv 0) (pv 2) rfl)
      (pss_one (ps_fld (pv 0) (pe_join pe_str (pe_lst (pa_cons (pv 1) (StX.pa_star (pe_lc (own := [("number", 4)]) (g := (gName 4)) (tt := tYes) (by rfl) sc_Wrap___init__.nd (pi_tup (pv 2)) (blkOk_by (own := [("number", 4)]) (N := ["self", "kind", "numbers", "fault", "number"]) (sc := defScope s_Wrap___init__) (by decide +kernel)) (fun _ _ _ _ _ => (pg_name (i := 4) sc_Wrap___init__.nd rfl (Or.inl rfl))) (fun _ _ _ _ _ => pts_nil) (fun _ _ _ _ _ => (pe_joined1 (pe_fmt (pv 4))))) pa_nil)))) rfl)))))))), ?_⟩
    refine ⟨_, rfl, _, _, _, _, true, rfl, .ty _, .base (.str _), kit_ty (by decide +kernel), true, rfl, iteF ?_⟩
    refine ⟨_, rfl, _, _, rfl, rfl, hb, _, rfl, iteF ?_⟩
    refine ⟨_, rfl, p, _, rfl, .inr (SqT.of hp), _, rfl, _, _, .ref b, rfl, rfl, ⟨es, en, _, kd.at_, kd.lit, hb, rfl⟩, b, xs, rfl, .inr (hq _), _, _, rfl, rfl, _, rfl, ifn (fun c => ?_) (fun _ => ?_)⟩
    · refine absurd ?_ c
      rw [List.length_map, hps.len, nums_len]
      first | done | rfl
    refine ⟨_, rfl, _, rfl, a, a.nums, p, rfl, .inr (SqT.of hp), nums_len, fun H1 s1 => ?_⟩
    rw [fault_ok ha]
    refine ⟨_, rfl, rfl, _, rfl, iteF ?_⟩
    refine ⟨_, rfl, _, rfl, x, _, dx, _, rfl, s1 _ _ hx, T.cl_Wrap, T.na_Wrap_kind, by decide, ?_⟩
    refine ⟨_, rfl, _, rfl, x, _, dx, _, rfl, upd_same, T.cl_Wrap, T.na_Wrap_numbers, (show (1 : Nat) < 1000 by decide), ?_⟩
    obtain ⟨H3, e3, hx3, kp3⟩ : ∃ H3, upd (upd H1 x (.ins (He.ga K "Wrap") dx (putF "kind" (.str a.kind) []))) x (.ins (He.ga K "Wrap") dx (putF "numbers" (.ref p) (putF "kind" (.str a.kind) []))) = H3 ∧ H3 x = some (.ins (He.ga K "Wrap") dx [("kind", .str a.kind), ("numbers", .ref p)]) ∧ Kp x H H3 :=
      ⟨_, rfl, upd_same, Kp.set (Kp.set fun b o n e => s1 _ _ e)⟩
    rw [e3]
    have npx : p ≠ x := fun z => by
      rw [z, hx] at hp
      cases hp
    have hp3 : H3 p = some (.tup (a.nums.map V.int)) := kp3 _ _ npx hp
    refine ⟨⟨_, rfl⟩, _, rfl, _, rfl, p, rfl, ⟨_, SqT.of hp3⟩, fun D hD => ?_⟩
    refine lc_tup (K := K) (a := p) (xs := a.nums.map V.int) (Pv := fun i H' => Same H3 H' ∧ H' D = some (.lst ((a.nums.take i).map fun z => V.str (toString z)))) ⟨fun z o e => by rw [upd_ne (ne_of_none e hD)]; exact e, upd_same⟩ (fun i H' _ h => SqT.of (h.1 _ _ hp3)) ?_ ?_
    · rintro i y H' hi ⟨hs, hl⟩
      obtain ⟨n, hn, rfl⟩ : ∃ n, a.nums[i]? = some n ∧ y = V.int n := by
        rw [List.getElem?_map] at hi
        cases e : a.nums[i]? with
        | none =>
          rw [e] at hi
          cases hi
        | some n =>
          rw [e] at hi
          exact ⟨n, rfl, (Option.some.inj hi).symm⟩
      have hb := nums_small ha n (List.mem_of_getElem? hn)
      have hlen : a.nums.length ≤ 2 := by cases a <;> simp [Wr.nums]
      have hil : i < a.nums.length := by
        rcases List.getElem?_eq_some_iff.mp hn with ⟨z, _⟩
        exact z
      refine ⟨rfl, _, rfl, .inr ⟨n, rfl, log2_small hb.1 (by omega), _, hl, ?_, fun z o e => ?_, ?_⟩⟩
      · rw [List.length_map, List.length_take, sizeLine_eq]
        omega
      · rw [upd_ne (ne_of_none e hD)]
        exact hs _ _ e
      · rw [upd_same, List.take_succ, hn, List.map_append]
        rfl
    · rintro H' ⟨hs, hl⟩
      rw [List.length_map, List.take_length] at hl
      refine ⟨D, _, rfl, .inr (SqL.of hl), ?_, fun l hl2 => ?_⟩
      · have hlen : a.nums.length ≤ 2 := by cases a <;> simp [Wr.nums]
        simp
        rw [sizeLine_eq]
        omega
      have el : V.str a.kind :: (a.nums.map (fun z => V.str (toString z)) ++ []) = (a.kind :: a.nums.map fun z => (toString z : Str)).map V.str := by simp
      refine ⟨_, l, a.kind :: a.nums.map (fun z => (toString z : Str)), rfl, rfl, .inl (SqL.of (by rw [← el]; exact upd_same)), ?_, ?_⟩
      · have h1 := sum_short a.nums (fun z hz => by have := nums_small ha z hz; omega)
        have hlen : a.nums.length ≤ 2 := by cases a <;> simp [Wr.nums]
        have hk : a.kind.length ≤ 6 := kind_len a
        simp only [List.map_cons, List.sum_cons, List.length_cons, List.length_map]
        have h2 : (" " : Str).length = 1 := by decide
        rw [h2]
        omega
      · have hx5 : (upd H' l (.lst (V.str a.kind :: (a.nums.map (fun z => V.str (toString z)) ++ [])))) x = some (.ins (He.ga K "Wrap") dx [("kind", .str a.kind), ("numbers", .ref p)]) := by rw [upd_ne (ne_of_none (hs _ _ hx3) hl2)]; exact hs _ _ hx3
        refine ⟨_, rfl, x, _, dx, _, rfl, hx5, T.cl_Wrap, T.na_Wrap_words, (show (2 : Nat) < 1000 by decide), ?_⟩
        refine k _ (fun z o n e => ?_) upd_same
        have ez := hs _ _ (kp3 z o n e)
        rw [upd_ne n, upd_ne (ne_of_none ez hl2)]
        exact ez
  · obtain ⟨a, rfl, ha, k⟩ := h
    refine ⟨_, _, rfl, ?_, fun x dx p hx hdx nd np npd hp => ?_⟩
    · rw [List.length_map, sizeLine_eq]
      have hlen : a.nums.length ≤ 2 := by cases a <;> simp [Wr.nums]
      omega
    refine ⟨a, x, p, dx, rfl, ha, by rw [upd_ne (Ne.symm np)]; exact upd_same, upd_same, fun H' kp hx' => ⟨rfl, ?_⟩⟩
    refine k x H' hx (fun z o e => ?_) ⟨dx, p, hx', kp _ _ np upd_same⟩
    have n1 : z ≠ x := ne_of_none e hx
    refine kp _ _ n1 ?_
    rw [upd_ne (ne_of_none e hp), upd_ne n1, upd_ne (ne_of_none e hdx)]
    exact e
end
/-! ### sizes by wraps -/
def spBegun : Sp := fun vs H Q _ => ∃ n m : Int, vs = [.int n, .int m] ∧ 1 ≤ m ∧ m ≤ 1000 ∧ Q (.int (beg n m)) H
def spPieces : Sp := fun vs H Q _ => ∃ n m c b : Int, vs = [.int n, .int m, .int c, .int b] ∧ 0 ≤ n ∧ 1 ≤ m ∧ m ≤ 60 ∧ 0 ≤ c ∧ c ≤ 60 ∧ 2 ≤ b ∧ b ≤ 256 ∧ Q (.int ((Wr.pieces m c).gr b n)) H
def spGrown (K : PySem.W.Frag) : Sp := fun vs H Q _ => ∃ (a : Wr) (q : Addr) (n b : Int), vs = [.ref q, .int n, .int b] ∧ WrapAt K H q a ∧ a.ok ∧ 2 ≤ b ∧ b ≤ 256 ∧ 0 ≤ n ∧ n < 2 ^ 3000 ∧ Q (.int (a.gr b n)) H
def spSize (K : PySem.W.Frag) : Sp := fun vs H Q _ => ∃ (a : Wr) (q : Addr) (n b : Int), vs = [.ref q, .int n, .int b] ∧ WrapAt K H q a ∧ a.ok ∧ 2 ≤ b ∧ b ≤ 256 ∧ 0 ≤ n ∧ n ≤ 10 ^ 60 - 1 ∧ Q (.int (a.gr b n)) H
theorem ifs_neg {x y : Str} {A B : Prop} (h : x ≠ y) (hB : B) : if decide (V.str x = V.str y) = true then A else B := by
  rw [decide_eq_false (fun z => h (by injection z)), if_neg Bool.false_ne_true]
  exact hB
theorem nums_first {a : Wr} : ∃ m, (a.nums.map V.int)[0]? = some (.int m) ∧ ∃ l, atI (a.nums.map V.int) (-1) = some (.int l) := by
  cases a <;> exact ⟨_, rfl, _, rfl⟩
section
variable {P : Program} {w : World} {K : PySem.W.Frag} {mg : Str → Option Value} {base : Heap}
theorem ok_begun (T : Tx w K mg) : Prom P w K mg base CX0 1 "begun" s_begun ["length", "whole"] spBegun := by
  refine Prom.of T.d_begun sc_begun (fun vs H Q E h => ?_) (fun _ _ _ _ _ _ us hl => match us, hl with | [_, _], _ => rfl) (fun f cdv A outer s H vs Q E hr h => ?_)
  · obtain ⟨n, m, rfl, _⟩ := h
    rfl
  · obtain ⟨n, m, rfl, h0, h1, k⟩ := h
    refine ⟨_, (pss_one (ps_ret (pe_op op_fdiv (pe_op op_sub (pe_op op_add (pv 0) (pv 1)) pe_int) (pv 1)))), ?_⟩
    exact ⟨_, rfl, _, rfl, _, _, rfl, rfl, _, _, rfl, rfl, _, rfl, _, _, rfl, rfl, ⟨by omega, by omega⟩, k⟩
theorem ok_in_pieces (T : Tx w K mg) : Prom P w K mg base CX0 2 "in_pieces" s_in_pieces ["length", "most", "constant", "base"] spPieces := by
  refine Prom.of T.d_in_pieces sc_in_pieces (fun vs H Q E h => ?_) (fun _ _ _ _ _ _ us hl => match us, hl with | [_, _, _, _], _ => rfl) (fun f cdv A outer s H vs Q E hr h => ?_)
  · obtain ⟨n, m, c, b, rfl, _⟩ := h
    rfl
  · obtain ⟨n, m, c, b, rfl, n0, m0, m1, c0, c1, b0, b1, k⟩ := h
    have f1 := fig_small (b := b) (m := m) b0 m1
    have f2 := figF_pos (b := b) (n := m) b0
    have r0 := Int.emod_nonneg n (show m ≠ 0 by omega)
    have r1 := Int.emod_lt_of_pos n (show 0 < m by omega)
    have big : ∀ x : Int, x ≤ 60 → x < 2 ^ 4000 := fun x hx => Int.lt_of_le_of_lt hx (by decide)
    refine ⟨_, (pss_cons (ps_set (i := 4) sc_in_pieces.nd rfl (Or.inl rfl) (pe_op op_mul (pe_op op_fdiv (pv 0) (pv 1)) (pe_op op_add (pe_op op_add (pv 1) (pv 2)) (pe_callP (ok_figures_of T) (hr.mono (by decide)) (by rfl) pass0 (pa_cons (pv 1) (pa_cons (pv 3) pa_nil))))))
      (pss_cons (ps_set (i := 5) sc_in_pieces.nd rfl (Or.inl rfl) (pe_op op_mod (pe_callTy call_int1 (by rfl) T.b_int (by decide +kernel) (pa_cons (pv 0) pa_nil)) (pv 1)))
      (pss_cons (ps_if (pt_cmp (pc_gt (pv 5) pe_int)) (pss_one (ps_set (i := 4) sc_in_pieces.nd rfl (Or.inl rfl) (pe_op op_add (pe_op op_add (pe_op op_add (pv 4) (pv 5)) (pv 2)) (pe_callP (ok_figures_of T) (hr.mono (by decide)) (by rfl) pass0 (pa_cons (pv 5) (pa_cons (pv 3) pa_nil)))))) pss_nil)
      (pss_one (ps_ret (pe_op op_add (pe_op op_add (pv 4) (pv 2)) pe_int)))))), ?_⟩
    refine ⟨_, rfl, _, rfl, _, _, rfl, rfl, ⟨by omega, by omega⟩, _, rfl, _, rfl, _, _, rfl, rfl, _, rfl, _, rfl, m, b, rfl, b0, b1, big m m1, fun g hg => ?_⟩
    have eg := figF_eq b0 hg
    subst eg
    refine ⟨_, _, rfl, rfl, _, _, rfl, rfl, .inr ⟨by omega, by omega⟩, ?_⟩
    refine ⟨_, rfl, .inl ⟨_, rfl, _, rfl, _, _, rfl, rfl, (show 0 < m by omega), ?_⟩⟩
    simp only [Wr.gr] at k
    refine ⟨_, rfl, _, _, rfl, rfl, _, rfl, ifd (fun h1 => ?_) (fun h1 => ?_)⟩
    · have h1 : 0 < n % m := h1
      rw [if_pos h1] at k
      refine ⟨_, rfl, _, rfl, _, _, rfl, rfl, _, rfl, _, _, rfl, rfl, _, rfl, _, rfl, n % m, b, rfl, b0, b1, big _ (by omega), fun g hg => ?_⟩
      have eg := figF_eq b0 hg
      subst eg
      refine ⟨_, _, rfl, rfl, ?_⟩
      refine ⟨_, rfl, _, rfl, _, _, rfl, rfl, _, _, rfl, rfl, ?_⟩
      have e : n / m * (m + c + figF b m) + n % m + c + figF b (n % m) + c + 1 = n / m * (m + c + figF b m) + (n % m + c + figF b (n % m)) + c + 1 := by omega
      rw [← e] at k
      exact k
    · have h1 : ¬ 0 < n % m := h1
      rw [if_neg h1] at k
      refine ⟨_, rfl, _, rfl, _, _, rfl, rfl, _, _, rfl, rfl, ?_⟩
      have e : n / m * (m + c + figF b m) + 0 + c + 1 = n / m * (m + c + figF b m) + c + 1 := by omega
      rw [e] at k
      exact k
theorem ok_Wrap_grown (T : Tx w K mg) : PromM P w K mg base CX0 3 "Wrap" "grown" ["self", "length", "base"] (spGrown K) := by
  refine PromM.of T.cl_Wrap T.me_Wrap_grown T.dm_Wrap_grown sc_Wrap_grown (fun vs H Q E h => ?_) (fun _ _ _ _ _ _ us hl => match us, hl with | [_, _, _], _ => rfl) (fun f cdv A outer s H vs Q E hr h => ?_)
  · obtain ⟨a, q, n, b, rfl, _⟩ := h
    rfl
  · obtain ⟨a, q, n, b, rfl, ⟨dx, p, hq, hp⟩, ha, b0, b1, n0, n1, k⟩ := h
    obtain ⟨x1, hm, x2, hl⟩ := nums_first (a := a)
    refine ⟨_, (pss_cons (ps_par (i := 3) (j := 4) (by rfl) sc_Wrap_grown.nd rfl rfl (by decide) rfl rfl (pa_cons (pe_ix ix_tup (pe_fld (pv 0) rfl) pe_int (fun _ _ => rfl)) (pa_cons (pe_ix ix_tup (pe_fld (pv 0) rfl) (pe_un un_neg pe_int) (fun _ _ => rfl)) pa_nil)) (by rfl))
      (pss_cons (ps_if (pt_cmpR op_eq (pe_fld (pv 0) rfl) pe_str (nomark _)) (pss_one (ps_ret (pe_op op_add (pv 1) (pv 3)))) pss_nil)
      (pss_cons (ps_if (pt_cmpR op_eq (pe_fld (pv 0) rfl) pe_str (nomark _)) (pss_one (ps_ret (pe_op op_add (pe_op op_add (pv 1) (pv 3)) (pe_callP (ok_figures_of T) (hr.mono (by decide)) (by rfl) pass0 (pa_cons (pv 1) (pa_cons (pv 2) pa_nil)))))) pss_nil)
      (pss_cons (ps_if (pt_cmpR op_eq (pe_fld (pv 0) rfl) pe_str (nomark _)) (pss_one (ps_ret (pe_callP (ok_total_of T) (hr.mono (by decide)) (by rfl) pass0 (pa_cons (pe_op op_add (pv 1) (pv 3)) (pa_cons (pv 2) pa_nil))))) pss_nil)
      (pss_cons (ps_if (pt_cmpR op_eq (pe_fld (pv 0) rfl) pe_str (nomark _)) (pss_one (ps_ret (pe_op op_mul (pe_callP (ok_begun T) (hr.mono (by decide)) (by rfl) pass0 (pa_cons (pv 1) (pa_cons (pv 3) pa_nil))) (pv 4)))) pss_nil)
      (pss_cons (ps_if (pt_cmpR op_eq (pe_fld (pv 0) rfl) pe_str (nomark _)) (pss_one (ps_ret (pe_op op_mul (pe_callP (ok_begun T) (hr.mono (by decide)) (by rfl) pass0 (pa_cons (pv 1) (pa_cons (pv 3) pa_nil))) (pv 3)))) pss_nil)
      (pss_cons (ps_if (pt_cmpR op_eq (pe_fld (pv 0) rfl) pe_str (nomark _)) (pss_one (ps_ret (pe_op op_add (pv 1) (pe_op op_mul (pe_callP (ok_begun T) (hr.mono (by decide)) (by rfl) pass0 (pa_cons (pv 1) (pa_cons (pv 3) pa_nil))) (pv 4))))) pss_nil)
      (pss_one (ps_ret (pe_callP (ok_in_pieces T) (hr.mono (by decide)) (by rfl) pass0 (pa_cons (pv 1) (pa_cons (pv 3) (pa_cons (pv 4) (pa_cons (pv 2) pa_nil)))))))))))))), ?_⟩
    refine ⟨_, rfl, q, _, dx, _, _, rfl, hq, T.cl_Wrap, T.na_Wrap_numbers, rfl, p, _, _, _, rfl, rfl, SqT.of hp, atI_nat (j := 0) hm, ?_⟩
    have big : ∀ x : Int, x ≤ n → x < 2 ^ 4000 := fun x hx => Int.lt_of_lt_of_le (show x < 2 ^ 3000 by omega) (by decide)
    refine ⟨_, rfl, q, _, dx, _, _, rfl, hq, T.cl_Wrap, T.na_Wrap_numbers, rfl, _, rfl, p, _, _, _, rfl, rfl, SqT.of hp, hl, _, _, rfl, ?_⟩
    cases a with
    | plus c =>
      have e1 : c = x1 := by injection hm with z; injection z
      have e2 : c = x2 := by injection hl with z; injection z
      subst e1 e2
      simp only [Wr.ok] at ha
      refine ⟨_, rfl, q, _, dx, _, _, rfl, hq, T.cl_Wrap, T.na_Wrap_kind, rfl, rfl, _, rfl, ifd_pos rfl ?_⟩
      exact ⟨_, rfl, _, rfl, _, _, rfl, rfl, k⟩
    | told c =>
      have e1 : c = x1 := by injection hm with z; injection z
      have e2 : c = x2 := by injection hl with z; injection z
      subst e1 e2
      simp only [Wr.ok] at ha
      refine ⟨_, rfl, q, _, dx, _, _, rfl, hq, T.cl_Wrap, T.na_Wrap_kind, rfl, rfl, _, rfl, ifs_neg (show ("told" : Str) ≠ "plus" by decide) ?_⟩
      refine ⟨_, rfl, q, _, dx, _, _, rfl, hq, T.cl_Wrap, T.na_Wrap_kind, rfl, rfl, _, rfl, ifd_pos rfl ?_⟩
      refine ⟨_, rfl, _, rfl, _, _, rfl, rfl, _, rfl, _, rfl, n, b, rfl, b0, b1, big n (by omega), fun g hg => ?_⟩
      have eg := figF_eq b0 hg
      subst eg
      exact ⟨_, _, rfl, rfl, k⟩
    | whole c =>
      have e1 : c = x1 := by injection hm with z; injection z
      have e2 : c = x2 := by injection hl with z; injection z
      subst e1 e2
      simp only [Wr.ok] at ha
      refine ⟨_, rfl, q, _, dx, _, _, rfl, hq, T.cl_Wrap, T.na_Wrap_kind, rfl, rfl, _, rfl, ifs_neg (show ("whole" : Str) ≠ "plus" by decide) ?_⟩
      refine ⟨_, rfl, q, _, dx, _, _, rfl, hq, T.cl_Wrap, T.na_Wrap_kind, rfl, rfl, _, rfl, ifs_neg (show ("whole" : Str) ≠ "told" by decide) ?_⟩
      refine ⟨_, rfl, q, _, dx, _, _, rfl, hq, T.cl_Wrap, T.na_Wrap_kind, rfl, rfl, _, rfl, ifd_pos rfl ?_⟩
      refine ⟨_, rfl, _, rfl, _, _, rfl, rfl, _, rfl, n + c, b, rfl, b0, b1, by omega, Int.lt_of_lt_of_le (show n + c < 2 ^ 3000 + 1001 by omega) (by decide), fun s hs _ => ?_⟩
      have eg := totF_eq b0 (show 0 ≤ n + c by omega) hs
      subst eg
      exact k
    | pieces m c =>
      have e1 : m = x1 := by injection hm with z; injection z
      have e2 : c = x2 := by injection hl with z; injection z
      subst e1 e2
      simp only [Wr.ok] at ha
      refine ⟨_, rfl, q, _, dx, _, _, rfl, hq, T.cl_Wrap, T.na_Wrap_kind, rfl, rfl, _, rfl, ifs_neg (show ("pieces" : Str) ≠ "plus" by decide) ?_⟩
      refine ⟨_, rfl, q, _, dx, _, _, rfl, hq, T.cl_Wrap, T.na_Wrap_kind, rfl, rfl, _, rfl, ifs_neg (show ("pieces" : Str) ≠ "told" by decide) ?_⟩
      refine ⟨_, rfl, q, _, dx, _, _, rfl, hq, T.cl_Wrap, T.na_Wrap_kind, rfl, rfl, _, rfl, ifs_neg (show ("pieces" : Str) ≠ "whole" by decide) ?_⟩
      refine ⟨_, rfl, q, _, dx, _, _, rfl, hq, T.cl_Wrap, T.na_Wrap_kind, rfl, rfl, _, rfl, ifs_neg (show ("pieces" : Str) ≠ "coded" by decide) ?_⟩
      refine ⟨_, rfl, q, _, dx, _, _, rfl, hq, T.cl_Wrap, T.na_Wrap_kind, rfl, rfl, _, rfl, ifs_neg (show ("pieces" : Str) ≠ "filled" by decide) ?_⟩
      refine ⟨_, rfl, q, _, dx, _, _, rfl, hq, T.cl_Wrap, T.na_Wrap_kind, rfl, rfl, _, rfl, ifs_neg (show ("pieces" : Str) ≠ "cut" by decide) ?_⟩
      exact ⟨_, rfl, _, rfl, _, rfl, _, rfl, n, m, c, b, rfl, n0, by omega, by omega, by omega, by omega, b0, b1, k⟩
    | cut m c =>
      have e1 : m = x1 := by injection hm with z; injection z
      have e2 : c = x2 := by injection hl with z; injection z
      subst e1 e2
      simp only [Wr.ok] at ha
      refine ⟨_, rfl, q, _, dx, _, _, rfl, hq, T.cl_Wrap, T.na_Wrap_kind, rfl, rfl, _, rfl, ifs_neg (show ("cut" : Str) ≠ "plus" by decide) ?_⟩
      refine ⟨_, rfl, q, _, dx, _, _, rfl, hq, T.cl_Wrap, T.na_Wrap_kind, rfl, rfl, _, rfl, ifs_neg (show ("cut" : Str) ≠ "told" by decide) ?_⟩
      refine ⟨_, rfl, q, _, dx, _, _, rfl, hq, T.cl_Wrap, T.na_Wrap_kind, rfl, rfl, _, rfl, ifs_neg (show ("cut" : Str) ≠ "whole" by decide) ?_⟩
      refine ⟨_, rfl, q, _, dx, _, _, rfl, hq, T.cl_Wrap, T.na_Wrap_kind, rfl, rfl, _, rfl, ifs_neg (show ("cut" : Str) ≠ "coded" by decide) ?_⟩
      refine ⟨_, rfl, q, _, dx, _, _, rfl, hq, T.cl_Wrap, T.na_Wrap_kind, rfl, rfl, _, rfl, ifs_neg (show ("cut" : Str) ≠ "filled" by decide) ?_⟩
      refine ⟨_, rfl, q, _, dx, _, _, rfl, hq, T.cl_Wrap, T.na_Wrap_kind, rfl, rfl, _, rfl, ifd_pos rfl ?_⟩
      exact ⟨_, rfl, _, rfl, _, rfl, n, m, rfl, by omega, by omega, _, rfl, _, _, rfl, rfl, .inr ⟨by omega, by omega⟩, _, _, rfl, rfl, k⟩
    | coded m c =>
      have e1 : m = x1 := by injection hm with z; injection z
      have e2 : c = x2 := by injection hl with z; injection z
      subst e1 e2
      simp only [Wr.ok] at ha
      refine ⟨_, rfl, q, _, dx, _, _, rfl, hq, T.cl_Wrap, T.na_Wrap_kind, rfl, rfl, _, rfl, ifs_neg (show ("coded" : Str) ≠ "plus" by decide) ?_⟩
      refine ⟨_, rfl, q, _, dx, _, _, rfl, hq, T.cl_Wrap, T.na_Wrap_kind, rfl, rfl, _, rfl, ifs_neg (show ("coded" : Str) ≠ "told" by decide) ?_⟩
      refine ⟨_, rfl, q, _, dx, _, _, rfl, hq, T.cl_Wrap, T.na_Wrap_kind, rfl, rfl, _, rfl, ifs_neg (show ("coded" : Str) ≠ "whole" by decide) ?_⟩
      refine ⟨_, rfl, q, _, dx, _, _, rfl, hq, T.cl_Wrap, T.na_Wrap_kind, rfl, rfl, _, rfl, ifd_pos rfl ?_⟩
      exact ⟨_, rfl, _, rfl, n, m, rfl, by omega, by omega, _, rfl, _, _, rfl, rfl, .inr ⟨by omega, by omega⟩, k⟩
    | filled m =>
      have e1 : m = x1 := by injection hm with z; injection z
      have e2 : m = x2 := by injection hl with z; injection z
      subst e1 e2
      simp only [Wr.ok] at ha
      refine ⟨_, rfl, q, _, dx, _, _, rfl, hq, T.cl_Wrap, T.na_Wrap_kind, rfl, rfl, _, rfl, ifs_neg (show ("filled" : Str) ≠ "plus" by decide) ?_⟩
      refine ⟨_, rfl, q, _, dx, _, _, rfl, hq, T.cl_Wrap, T.na_Wrap_kind, rfl, rfl, _, rfl, ifs_neg (show ("filled" : Str) ≠ "told" by decide) ?_⟩
      refine ⟨_, rfl, q, _, dx, _, _, rfl, hq, T.cl_Wrap, T.na_Wrap_kind, rfl, rfl, _, rfl, ifs_neg (show ("filled" : Str) ≠ "whole" by decide) ?_⟩
      refine ⟨_, rfl, q, _, dx, _, _, rfl, hq, T.cl_Wrap, T.na_Wrap_kind, rfl, rfl, _, rfl, ifs_neg (show ("filled" : Str) ≠ "coded" by decide) ?_⟩
      refine ⟨_, rfl, q, _, dx, _, _, rfl, hq, T.cl_Wrap, T.na_Wrap_kind, rfl, rfl, _, rfl, ifd_pos rfl ?_⟩
      exact ⟨_, rfl, _, rfl, n, m, rfl, by omega, by omega, _, rfl, _, _, rfl, rfl, .inr ⟨by omega, by omega⟩, k⟩
end
/-! ### stacks -/
def stepF (p : Int) : Wr → Int
  | .coded m c => p * m * c
  | .pieces m _ => p * m
  | .cut m _ => p * m
  | .filled m => p * m
  | _ => p
def fineL (ws : List Wr) : Int := ws.foldl stepF 1
inductive WrapsAt (K : PySem.W.Frag) (H : Hp) : List V → List Wr → Prop where
  | nil : WrapsAt K H [] []
  | cons {a : Addr} {x : Wr} {xs : List V} {ws : List Wr} (h : WrapAt K H a x) (r : WrapsAt K H xs ws) : WrapsAt K H (.ref a :: xs) (x :: ws)
theorem WrapsAt.len {K : PySem.W.Frag} {H : Hp} {xs : List V} {ws : List Wr} (h : WrapsAt K H xs ws) : xs.length = ws.length := by
  induction h with
  | nil => rfl
  | cons _ _ ih => exact congrArg (· + 1) ih
theorem WrapsAt.get {K : PySem.W.Frag} {H : Hp} {xs : List V} {ws : List Wr} (h : WrapsAt K H xs ws) : ∀ {i : Nat} {x : V}, xs[i]? = some x → ∃ (a : Addr) (y : Wr), x = .ref a ∧ ws[i]? = some y ∧ WrapAt K H a y := by
  induction h with
  | nil =>
    intro i x e
    simp at e
  | cons h _ ih =>
    intro i x e
    cases i with
    | zero =>
      simp at e
      exact ⟨_, _, e.symm, rfl, h⟩
    | succ i => exact ih (by simpa using e)
theorem WrapsAt.same {K : PySem.W.Frag} {H H' : Hp} {xs : List V} {ws : List Wr} (h : WrapsAt K H xs ws) (s : Same H H') : WrapsAt K H' xs ws := by
  induction h with
  | nil => exact .nil
  | cons h _ ih => exact .cons (h.same s) ih
theorem WrapsAt.snoc {K : PySem.W.Frag} {H : Hp} {xs : List V} {ws : List Wr} {a : Addr} {x : Wr} (h : WrapsAt K H xs ws) (hx : WrapAt K H a x) : WrapsAt K H (xs ++ [.ref a]) (ws ++ [x]) := by
  induction h with
  | nil => exact .cons hx .nil
  | cons h _ ih => exact .cons h ih
def stkFs (b : Int) (t : Addr) (ws : List Wr) : List (Str × V) := [("base", .int b), ("wraps", .ref t), ("fineness", .int (fineL ws))]
structure StkOk (b : Int) (ws : List Wr) : Prop where
  b0 : 2 ≤ b
  b1 : b ≤ 256
  ok : ∀ a ∈ ws, a.ok
  len : ws.length ≤ 6
  fine : fineL ws ≤ 120
/-- a stack stands there -/
def StkAt (K : PySem.W.Frag) (H : Hp) (q : Addr) (b : Int) (ws : List Wr) : Prop := ∃ dx t xs, H q = some (.ins (He.ga K "Stack") dx (stkFs b t ws)) ∧ H t = some (.tup xs) ∧ WrapsAt K H xs ws
theorem StkAt.same {K : PySem.W.Frag} {H H' : Hp} {q : Addr} {b : Int} {ws : List Wr} (h : StkAt K H q b ws) (s : Same H H') : StkAt K H' q b ws := by
  obtain ⟨dx, t, xs, h1, h2, h3⟩ := h
  exact ⟨dx, t, xs, s _ _ h1, s _ _ h2, h3.same s⟩
/-- the size behind all wraps -/
noncomputable def grS (b : Int) (ws : List Wr) (n : Int) : Int := ws.foldl (fun m a => a.gr b m) n
def spFine (K : PySem.W.Frag) : Sp := fun vs H Q _ => ∃ (t : Addr) (xs : List V) (ws : List Wr), vs = [.ref t] ∧ (SqL K H t xs ∨ SqT K H t xs) ∧ WrapsAt K H xs ws ∧ (∀ a ∈ ws, a.ok) ∧ ∀ H', Same H H' → Q (.int (fineL ws)) H'
def spWraps (K : PySem.W.Frag) : Sp := fun vs H Q _ => ∃ (t : Addr) (xs : List V) (ws : List Wr), vs = [.ref t, .int 6] ∧ SqT K H t xs ∧ WrapsAt K H xs ws ∧ ws.length ≤ 6 ∧ ∀ H', Same H H' → Q .non H'
section
variable {P : Program} {w : World} {K : PySem.W.Frag} {mg : Str → Option Value} {base : Heap}
theorem up {H' : Hp} {z : Addr} {o : HO} (hz : H' z = none) : Same H' (upd H' z o) := fun y u e => by
  rw [upd_ne (ne_of_none e hz)]
  exact e
theorem ifb_pos {b : Bool} {A B : Prop} (h : b = true) (a : A) : if b = true then A else B := by
  rw [if_pos h]
  exact a
theorem ifb_neg {b : Bool} {A B : Prop} (h : b = false) (a : B) : if b = true then A else B := by
  rw [h, if_neg Bool.false_ne_true]
  exact a
theorem ok_fineness_of (T : Tx w K mg) : Prom P w K mg base CX0 1 "fineness_of" s_fineness_of ["wraps"] (spFine K) := by
  refine Prom.of T.d_fineness_of sc_fineness_of (fun vs H Q E h => ?_) (fun _ _ _ _ _ _ us hl => match us, hl with | [_], _ => rfl) (fun f cdv A outer s H vs Q E hr h => ?_)
  · obtain ⟨t, xs, ws, rfl, _⟩ := h
    rfl
  · obtain ⟨t, xs, ws, rfl, hT, hw, ha, k⟩ := h
    have inv : True := trivial
    refine ⟨_, (pss_cons (ps_set (i := 1) sc_fineness_of.nd rfl (Or.inl rfl) pe_int)
      (pss_cons (ps_for PassesOwn.never (by rfl) (pi_seq (pv 0)) (pg_name (i := 2) sc_fineness_of.nd rfl (Or.inl rfl)) (pss_one (ps_if (pt_cmpR op_eq (pe_fld (pv 2) rfl) pe_str (nomark _)) (pss_one (ps_set (i := 1) sc_fineness_of.nd rfl (Or.inl rfl) (pe_op op_mul (pe_op op_mul (pv 1) (pe_ix ix_tup (pe_fld (pv 2) rfl) pe_int (fun _ _ => rfl))) (pe_ix ix_tup (pe_fld (pv 2) rfl) pe_int (fun _ _ => rfl))))) (pss_one (ps_if (pt_cmpR op_in_seq (pe_fld (pv 2) rfl) (pe_tup (pa_cons pe_str (pa_cons pe_str (pa_cons pe_str pa_nil)))) (by rfl)) (pss_one (ps_set (i := 1) sc_fineness_of.nd rfl (Or.inl rfl) (pe_op op_mul (pv 1) (pe_ix ix_tup (pe_fld (pv 2) rfl) pe_int (fun _ _ => rfl))))) pss_nil)))))
      (pss_one (ps_ret (pv 1))))), ?_⟩
    rcases hT with hT | hT
    · have hT' : ∀ {H' : Hp}, Same H H' → SqL K H' t xs := fun {H'} hs => hs.seq hT
      refine .inl ⟨_, rfl, t, rfl, ⟨_, hT⟩, for_it (walk_list (K := K) (a := t) (xs := xs)) (fun i σ H' => Same H H' ∧ ∃ v, σ = [some (.ref t), some (.int ((ws.take i).foldl stepF 1)), v]) ⟨Same.refl H, none, rfl⟩ (fun _ _ H' _ h => hT' h.1) ?_ ?_⟩
      · rintro i x σ H1 H2 hi ⟨hs, v, rfl⟩ ⟨rfl, hx⟩
        obtain ⟨q, a, rfl, hq, hw1⟩ := hw.get hx
        have hok := ha a (List.mem_of_getElem? hq)
        obtain ⟨dx, p, h1, h2⟩ := hw1.same hs
        have et : (ws.take (i + 1)).foldl stepF 1 = stepF ((ws.take i).foldl stepF 1) a := by
          rw [List.take_succ, hq, List.foldl_append]
          rfl
        generalize (ws.take i).foldl stepF 1 = m at et ⊢
        rw [et]
        have num : ∀ {j : Nat} {n : Int}, a.nums[j]? = some n → atI (a.nums.map V.int) ((j : Nat) : Int) = some (.int n) := fun {j n} hj => atI_nat (by rw [List.getElem?_map, hj]; rfl)
        refine ⟨_, rfl, q, _, dx, _, _, rfl, h1, T.cl_Wrap, T.na_Wrap_kind, rfl, rfl, _, rfl, ?_⟩
        cases a with
        | coded m' c =>
          refine ifd_pos rfl ?_
          simp only [Wr.ok] at hok
          refine ⟨_, rfl, _, rfl, q, _, dx, _, _, rfl, h1, T.cl_Wrap, T.na_Wrap_numbers, rfl, p, _, _, _, rfl, rfl, SqT.of h2, num (j := 0) rfl, _, _, rfl, rfl, .inr ⟨by omega, by omega⟩, ?_⟩
          refine ⟨_, rfl, q, _, dx, _, _, rfl, h1, T.cl_Wrap, T.na_Wrap_numbers, rfl, p, _, _, _, rfl, rfl, SqT.of h2, num (j := 1) rfl, _, _, rfl, rfl, .inr ⟨by omega, by omega⟩, ?_⟩
          exact ⟨hs, _, rfl⟩
        | plus c =>
          refine ifs_neg (show ("plus" : Str) ≠ "coded" by decide) ?_
          refine ⟨_, rfl, q, _, dx, _, _, rfl, h1, T.cl_Wrap, T.na_Wrap_kind, rfl, (by show 3 ≤ sizeLine; decide), fun t2 ht2 => ?_⟩
          refine ⟨t2, _, rfl, .inr (SqT.of upd_same), rfl, rfl, _, rfl, ifb_neg (by kernel_rfl) ?_⟩
          exact ⟨hs.trans (up ht2), _, rfl⟩
        | told c =>
          refine ifs_neg (show ("told" : Str) ≠ "coded" by decide) ?_
          refine ⟨_, rfl, q, _, dx, _, _, rfl, h1, T.cl_Wrap, T.na_Wrap_kind, rfl, (by show 3 ≤ sizeLine; decide), fun t2 ht2 => ?_⟩
          refine ⟨t2, _, rfl, .inr (SqT.of upd_same), rfl, rfl, _, rfl, ifb_neg (by kernel_rfl) ?_⟩
          exact ⟨hs.trans (up ht2), _, rfl⟩
        | whole c =>
          refine ifs_neg (show ("whole" : Str) ≠ "coded" by decide) ?_
          refine ⟨_, rfl, q, _, dx, _, _, rfl, h1, T.cl_Wrap, T.na_Wrap_kind, rfl, (by show 3 ≤ sizeLine; decide), fun t2 ht2 => ?_⟩
          refine ⟨t2, _, rfl, .inr (SqT.of upd_same), rfl, rfl, _, rfl, ifb_neg (by kernel_rfl) ?_⟩
          exact ⟨hs.trans (up ht2), _, rfl⟩
        | pieces m' c =>
          refine ifs_neg (show ("pieces" : Str) ≠ "coded" by decide) ?_
          simp only [Wr.ok] at hok
          refine ⟨_, rfl, q, _, dx, _, _, rfl, h1, T.cl_Wrap, T.na_Wrap_kind, rfl, (by show 3 ≤ sizeLine; decide), fun t2 ht2 => ?_⟩
          refine ⟨t2, _, rfl, .inr (SqT.of upd_same), rfl, rfl, _, rfl, ifb_pos (by kernel_rfl) ?_⟩
          have g1 := (up ht2 (o := .tup [V.str "pieces", V.str "cut", V.str "filled"])) _ _ h1
          have g2 := (up ht2 (o := .tup [V.str "pieces", V.str "cut", V.str "filled"])) _ _ h2
          refine ⟨_, rfl, _, rfl, q, _, dx, _, _, rfl, g1, T.cl_Wrap, T.na_Wrap_numbers, rfl, p, _, _, _, rfl, rfl, SqT.of g2, num (j := 0) rfl, _, _, rfl, rfl, .inr ⟨by omega, by omega⟩, ?_⟩
          exact ⟨hs.trans (up ht2), _, rfl⟩
        | cut m' c =>
          refine ifs_neg (show ("cut" : Str) ≠ "coded" by decide) ?_
          simp only [Wr.ok] at hok
          refine ⟨_, rfl, q, _, dx, _, _, rfl, h1, T.cl_Wrap, T.na_Wrap_kind, rfl, (by show 3 ≤ sizeLine; decide), fun t2 ht2 => ?_⟩
          refine ⟨t2, _, rfl, .inr (SqT.of upd_same), rfl, rfl, _, rfl, ifb_pos (by kernel_rfl) ?_⟩
          have g1 := (up ht2 (o := .tup [V.str "pieces", V.str "cut", V.str "filled"])) _ _ h1
          have g2 := (up ht2 (o := .tup [V.str "pieces", V.str "cut", V.str "filled"])) _ _ h2
          refine ⟨_, rfl, _, rfl, q, _, dx, _, _, rfl, g1, T.cl_Wrap, T.na_Wrap_numbers, rfl, p, _, _, _, rfl, rfl, SqT.of g2, num (j := 0) rfl, _, _, rfl, rfl, .inr ⟨by omega, by omega⟩, ?_⟩
          exact ⟨hs.trans (up ht2), _, rfl⟩
        | filled m' =>
          refine ifs_neg (show ("filled" : Str) ≠ "coded" by decide) ?_
          simp only [Wr.ok] at hok
          refine ⟨_, rfl, q, _, dx, _, _, rfl, h1, T.cl_Wrap, T.na_Wrap_kind, rfl, (by show 3 ≤ sizeLine; decide), fun t2 ht2 => ?_⟩
          refine ⟨t2, _, rfl, .inr (SqT.of upd_same), rfl, rfl, _, rfl, ifb_pos (by kernel_rfl) ?_⟩
          have g1 := (up ht2 (o := .tup [V.str "pieces", V.str "cut", V.str "filled"])) _ _ h1
          have g2 := (up ht2 (o := .tup [V.str "pieces", V.str "cut", V.str "filled"])) _ _ h2
          refine ⟨_, rfl, _, rfl, q, _, dx, _, _, rfl, g1, T.cl_Wrap, T.na_Wrap_numbers, rfl, p, _, _, _, rfl, rfl, SqT.of g2, num (j := 0) rfl, _, _, rfl, rfl, .inr ⟨by omega, by omega⟩, ?_⟩
          exact ⟨hs.trans (up ht2), _, rfl⟩
      · rintro σ H' ⟨hs, v, rfl⟩
        rw [hw.len, List.take_length]
        exact ⟨_, rfl, k _ hs⟩
    · have hT' : ∀ {H' : Hp}, Same H H' → SqT K H' t xs := fun {H'} hs => by
        rcases hT with (h | ⟨o, h⟩) | h
        · exact .inl (.inl (hs _ _ h))
        · exact .inl (.inr ⟨o, hs _ _ h⟩)
        · exact .inr h
      refine .inr ⟨_, rfl, t, rfl, ⟨_, hT⟩, for_it (walk_tup (K := K) (a := t) (xs := xs)) (fun i σ H' => Same H H' ∧ ∃ v, σ = [some (.ref t), some (.int ((ws.take i).foldl stepF 1)), v]) ⟨Same.refl H, none, rfl⟩ (fun _ _ H' _ h => hT' h.1) ?_ ?_⟩
      · rintro i x σ H1 H2 hi ⟨hs, v, rfl⟩ ⟨rfl, hx⟩
        obtain ⟨q, a, rfl, hq, hw1⟩ := hw.get hx
        have hok := ha a (List.mem_of_getElem? hq)
        obtain ⟨dx, p, h1, h2⟩ := hw1.same hs
        have et : (ws.take (i + 1)).foldl stepF 1 = stepF ((ws.take i).foldl stepF 1) a := by
          rw [List.take_succ, hq, List.foldl_append]
          rfl
        generalize (ws.take i).foldl stepF 1 = m at et ⊢
        rw [et]
        have num : ∀ {j : Nat} {n : Int}, a.nums[j]? = some n → atI (a.nums.map V.int) ((j : Nat) : Int) = some (.int n) := fun {j n} hj => atI_nat (by rw [List.getElem?_map, hj]; rfl)
        refine ⟨_, rfl, q, _, dx, _, _, rfl, h1, T.cl_Wrap, T.na_Wrap_kind, rfl, rfl, _, rfl, ?_⟩
        cases a with
        | coded m' c =>
          refine ifd_pos rfl ?_
          simp only [Wr.ok] at hok
          refine ⟨_, rfl, _, rfl, q, _, dx, _, _, rfl, h1, T.cl_Wrap, T.na_Wrap_numbers, rfl, p, _, _, _, rfl, rfl, SqT.of h2, num (j := 0) rfl, _, _, rfl, rfl, .inr ⟨by omega, by omega⟩, ?_⟩
          refine ⟨_, rfl, q, _, dx, _, _, rfl, h1, T.cl_Wrap, T.na_Wrap_numbers, rfl, p, _, _, _, rfl, rfl, SqT.of h2, num (j := 1) rfl, _, _, rfl, rfl, .inr ⟨by omega, by omega⟩, ?_⟩
          exact ⟨hs, _, rfl⟩
        | plus c =>
          refine ifs_neg (show ("plus" : Str) ≠ "coded" by decide) ?_
          refine ⟨_, rfl, q, _, dx, _, _, rfl, h1, T.cl_Wrap, T.na_Wrap_kind, rfl, (by show 3 ≤ sizeLine; decide), fun t2 ht2 => ?_⟩
          refine ⟨t2, _, rfl, .inr (SqT.of upd_same), rfl, rfl, _, rfl, ifb_neg (by kernel_rfl) ?_⟩
          exact ⟨hs.trans (up ht2), _, rfl⟩
        | told c =>
          refine ifs_neg (show ("told" : Str) ≠ "coded" by decide) ?_
          refine ⟨_, rfl, q, _, dx, _, _, rfl, h1, T.cl_Wrap, T.na_Wrap_kind, rfl, (by show 3 ≤ sizeLine; decide), fun t2 ht2 => ?_⟩
          refine ⟨t2, _, rfl, .inr (SqT.of upd_same), rfl, rfl, _, rfl, ifb_neg (by kernel_rfl) ?_⟩
          exact ⟨hs.trans (up ht2), _, rfl⟩
        | whole c =>
          refine ifs_neg (show ("whole" : Str) ≠ "coded" by decide) ?_
          refine ⟨_, rfl, q, _, dx, _, _, rfl, h1, T.cl_Wrap, T.na_Wrap_kind, rfl, (by show 3 ≤ sizeLine; decide), fun t2 ht2 => ?_⟩
          refine ⟨t2, _, rfl, .inr (SqT.of upd_same), rfl, rfl, _, rfl, ifb_neg (by kernel_rfl) ?_⟩
          exact ⟨hs.trans (up ht2), _, rfl⟩
        | pieces m' c =>
          refine ifs_neg (show ("pieces" : Str) ≠ "coded" by decide) ?_
          simp only [Wr.ok] at hok
          refine ⟨_, rfl, q, _, dx, _, _, rfl, h1, T.cl_Wrap, T.na_Wrap_kind, rfl, (by show 3 ≤ sizeLine; decide), fun t2 ht2 => ?_⟩
          refine ⟨t2, _, rfl, .inr (SqT.of upd_same), rfl, rfl, _, rfl, ifb_pos (by kernel_rfl) ?_⟩
          have g1 := (up ht2 (o := .tup [V.str "pieces", V.str "cut", V.str "filled"])) _ _ h1
          have g2 := (up ht2 (o := .tup [V.str "pieces", V.str "cut", V.str "filled"])) _ _ h2
          refine ⟨_, rfl, _, rfl, q, _, dx, _, _, rfl, g1, T.cl_Wrap, T.na_Wrap_numbers, rfl, p, _, _, _, rfl, rfl, SqT.of g2, num (j := 0) rfl, _, _, rfl, rfl, .inr ⟨by omega, by omega⟩, ?_⟩
          exact ⟨hs.trans (up ht2), _, rfl⟩
        | cut m' c =>
          refine ifs_neg (show ("cut" : Str) ≠ "coded" by decide) ?_
          simp only [Wr.ok] at hok
          refine ⟨_, rfl, q, _, dx, _, _, rfl, h1, T.cl_Wrap, T.na_Wrap_kind, rfl, (by show 3 ≤ sizeLine; decide), fun t2 ht2 => ?_⟩
          refine ⟨t2, _, rfl, .inr (SqT.of upd_same), rfl, rfl, _, rfl, ifb_pos (by kernel_rfl) ?_⟩
          have g1 := (up ht2 (o := .tup [V.str "pieces", V.str "cut", V.str "filled"])) _ _ h1
          have g2 := (up ht2 (o := .tup [V.str "pieces", V.str "cut", V.str "filled"])) _ _ h2
          refine ⟨_, rfl, _, rfl, q, _, dx, _, _, rfl, g1, T.cl_Wrap, T.na_Wrap_numbers, rfl, p, _, _, _, rfl, rfl, SqT.of g2, num (j := 0) rfl, _, _, rfl, rfl, .inr ⟨by omega, by omega⟩, ?_⟩
          exact ⟨hs.trans (up ht2), _, rfl⟩
        | filled m' =>
          refine ifs_neg (show ("filled" : Str) ≠ "coded" by decide) ?_
          simp only [Wr.ok] at hok
          refine ⟨_, rfl, q, _, dx, _, _, rfl, h1, T.cl_Wrap, T.na_Wrap_kind, rfl, (by show 3 ≤ sizeLine; decide), fun t2 ht2 => ?_⟩
          refine ⟨t2, _, rfl, .inr (SqT.of upd_same), rfl, rfl, _, rfl, ifb_pos (by kernel_rfl) ?_⟩
          have g1 := (up ht2 (o := .tup [V.str "pieces", V.str "cut", V.str "filled"])) _ _ h1
          have g2 := (up ht2 (o := .tup [V.str "pieces", V.str "cut", V.str "filled"])) _ _ h2
          refine ⟨_, rfl, _, rfl, q, _, dx, _, _, rfl, g1, T.cl_Wrap, T.na_Wrap_numbers, rfl, p, _, _, _, rfl, rfl, SqT.of g2, num (j := 0) rfl, _, _, rfl, rfl, .inr ⟨by omega, by omega⟩, ?_⟩
          exact ⟨hs.trans (up ht2), _, rfl⟩
      · rintro σ H' ⟨hs, v, rfl⟩
        rw [hw.len, List.take_length]
        exact ⟨_, rfl, k _ hs⟩
end
theorem gr_pow {b : Int} {a : Wr} (hb : 2 ≤ b) (h : a.ok) {n : Int} {k : Nat} (hk : 12 ≤ k) (hn : 0 ≤ n) (hn2 : n < 2 ^ k) : 0 ≤ a.gr b n ∧ a.gr b n < 2 ^ (k + 8) := by
  have g := gr_le hb h hn
  have e : (2 : Int) ^ (k + 8) = 2 ^ k * 256 := by rw [Int.pow_add]; rfl
  have e2 : (2 : Int) ^ 12 ≤ 2 ^ k := pow_mono (by decide) hk
  have e3 : (2 : Int) ^ 12 = 4096 := by decide
  omega
theorem grS_pow {b : Int} (hb : 2 ≤ b) : ∀ (ws : List Wr), (∀ a ∈ ws, a.ok) → ∀ {n : Int} {k : Nat}, 12 ≤ k → 0 ≤ n → n < 2 ^ k → 0 ≤ grS b ws n ∧ grS b ws n < 2 ^ (k + 8 * ws.length)
  | [], _, n, k, _, h0, h1 => ⟨h0, h1⟩
  | a :: ws, ha, n, k, hk, h0, h1 => by
    have g := gr_pow hb (ha a (List.mem_cons_self ..)) hk h0 h1
    have ih := grS_pow hb ws (fun x hx => ha x (List.mem_cons_of_mem _ hx)) (show 12 ≤ k + 8 by omega) g.1 g.2
    refine ⟨ih.1, ?_⟩
    have e : k + 8 + 8 * ws.length = k + 8 * (a :: ws).length := by simp; omega
    rw [e] at ih
    exact ih.2
def spStack0 (K : PySem.W.Frag) : Sp := fun vs H Q _ => ∃ (x p dx : Addr) (b : Int) (xs : List V) (ws : List Wr), vs = [.ref x, .int b, .ref p] ∧ StkOk b ws ∧ H x = some (.ins (He.ga K "Stack") dx []) ∧ H p = some (.tup xs) ∧ WrapsAt K H xs ws ∧
  ∀ H', Kp x H H' → H' x = some (.ins (He.ga K "Stack") dx (stkFs b p ws)) → Q .non H'
def spStack (K : PySem.W.Frag) : Sp := fun vs H Q _ => ∃ (b : Int) (xs : List V) (ws : List Wr), vs = .int b :: xs ∧ StkOk b ws ∧ WrapsAt K H xs ws ∧ ∀ q H', H q = none → Same H H' → StkAt K H' q b ws → Q (.ref q) H'
def spSGrown (K : PySem.W.Frag) : Sp := fun vs H Q _ => ∃ (q : Addr) (b : Int) (ws : List Wr) (n : Int), vs = [.ref q, .int n] ∧ StkAt K H q b ws ∧ StkOk b ws ∧ 0 ≤ n ∧ n < 2 ^ 1000 ∧ Q (.int (grS b ws n)) H
def spSSize (K : PySem.W.Frag) : Sp := fun vs H Q _ => ∃ (q : Addr) (b : Int) (ws : List Wr) (n : Int), vs = [.ref q, .int n] ∧ StkAt K H q b ws ∧ StkOk b ws ∧ 0 ≤ n ∧ n ≤ 10 ^ 60 - 1 ∧ Q (.int (grS b ws n)) H
def spIsWrap (K : PySem.W.Frag) : Sp := fun vs H Q _ => ∃ (q : Addr) (a : Wr), vs = [.ref q] ∧ WrapAt K H q a ∧ Q .non H
def spIsStack (K : PySem.W.Frag) : Sp := fun vs H Q _ => ∃ (q : Addr) (b : Int) (ws : List Wr), vs = [.ref q] ∧ StkAt K H q b ws ∧ Q .non H
def spAdd (K : PySem.W.Frag) : Sp := fun vs H Q _ => ∃ (q r : Addr) (b : Int) (ws : List Wr) (a : Wr), vs = [.ref q, .ref r] ∧ StkAt K H q b ws ∧ WrapAt K H r a ∧ ws.length < 6 ∧ StkOk b (ws ++ [a]) ∧ ∀ q' H', H q' = none → Same H H' → StkAt K H' q' b (ws ++ [a]) → Q (.ref q') H'
section
variable {P : Program} {w : World} {K : PySem.W.Frag} {mg : Str → Option Value} {base : Heap}
theorem ok_check_wraps (T : Tx w K mg) : Prom P w K mg base CX0 1 "check_wraps" s_check_wraps ["values", "most"] (spWraps K) := by
  refine Prom.of T.d_check_wraps sc_check_wraps (fun vs H Q E h => ?_) (fun _ _ _ _ _ _ us hl => match us, hl with | [_, _], _ => rfl) (fun f cdv A outer s H vs Q E hr h => ?_)
  · obtain ⟨t, xs, ws, rfl, _⟩ := h
    rfl
  · obtain ⟨t, xs, ws, rfl, hT, hw, hl, k⟩ := h
    have hT' : ∀ {H' : Hp}, Same H H' → SqT K H' t xs := fun {H'} hs => by
      rcases hT with (h | ⟨o, h⟩) | h
      · exact .inl (.inl (hs _ _ h))
      · exact .inl (.inr ⟨o, hs _ _ h⟩)
      · exact .inr h
    have hlx := hw.len
    refine ⟨_, (pss_cons (ps_if (pt_cmp (pc_gt (pe_callB call_len_seq (by rfl) T.b_len (by decide +kernel) (pa_cons (pv 0) pa_nil)) (pv 1))) (pss_one ps_never) pss_nil)
      (pss_one (ps_for PassesOwn.never (by rfl) (pi_enumT (by rfl) T.b_enumerate (pa_cons (pv 0) pa_nil)) (pg_tup rfl (pgs_cons (pg_name (i := 2) sc_check_wraps.nd rfl (Or.inl rfl)) (pgs_cons (pg_name (i := 3) sc_check_wraps.nd rfl (Or.inl rfl)) pgs_nil))) (pss_one (ps_if (pt_not (pt_val (pe_callB call_isi (by rfl) T.b_isinstance (by decide +kernel) (pa_cons (pv 3) (pa_cons (pe_glob (v := .ref _) (by rfl) T.k_Wrap rfl) pa_nil))))) (pss_one ps_never) pss_nil))))), ?_⟩
    refine ⟨_, rfl, t, xs, rfl, .inr hT, _, rfl, _, _, rfl, rfl, _, rfl, ifd (fun c => absurd c (by show ¬ (6 : Int) < (xs.length : Int); omega)) (fun _ => ?_)⟩
    refine ⟨_, rfl, t, xs, rfl, hT, for_it (walk_enumT (K := K) (a := t) (xs := xs)) (fun i σ H' => Same H H' ∧ ∃ v1 v2, σ = [some (.ref t), some (.int 6), v1, v2]) ⟨Same.refl H, none, none, rfl⟩ (fun _ _ H' _ h => hT' h.1) ?_ ?_⟩
    · rintro i x σ H1 H2 hi ⟨hs, v1, v2, rfl⟩ ⟨t2, x1, x2, rfl, ht2, rfl, e1, e2⟩
      cases e1
      obtain ⟨q, a, rfl, hq, hw1⟩ := hw.get e2
      have hs2 := hs.trans (up (o := .tup [.int (i : Nat), .ref q]) ht2)
      obtain ⟨dx, p, h1, h2⟩ := hw1.same hs2
      refine ⟨t2, _, rfl, SqT.of upd_same, rfl, _, _, rfl, _, _, rfl, rfl, ?_⟩
      refine ⟨_, rfl, _, _, _, _, true, rfl, .own _, T.is_Wrap.ty h1, kit_self, true, rfl, iteF ?_⟩
      exact ⟨hs2, _, _, rfl⟩
    · rintro σ H' ⟨hs, v1, v2, rfl⟩
      exact k _ hs
theorem ok_Stack (T : Tx w K mg) : PromC P w K mg base CX0 4 "Stack" (spStack K) := by
  refine PromC.star (sp0 := spStack0 K) T.mk_Stack T.k_Stack T.dm_Stack___init__ sc_Stack___init__ (fun _ _ _ _ _ _ _ _ => rfl) (fun _ _ _ _ _ _ _ _ _ _ => rfl) (fun f cdv A outer s H vs Q E hr h => ?_) (fun vs H Q E h => ?_)
  · obtain ⟨x, p, dx, b, xs, ws, rfl, so, hx, hp, hw, k⟩ := h
    refine ⟨_, (pss_cons (ps_expr (pe_callP (ok_check_base T) (hr.mono (by decide)) (by rfl) pass0 (pa_cons (pv 1) pa_nil)))
      (pss_cons (ps_expr (pe_callP (ok_check_wraps T) (hr.mono (by decide)) (by rfl) pass0 (pa_cons (pv 2) (pa_cons (pe_gint T.c_MOST_WRAPS) pa_nil))))
      (pss_cons (ps_set (i := 3) sc_Stack___init__.nd rfl (Or.inl rfl) (pe_callP (ok_fineness_of T) (hr.mono (by decide)) (by rfl) pass0 (pa_cons (pv 2) pa_nil)))
      (pss_cons (ps_if (pt_cmp (pc_gt (pv 3) (pe_gint T.c_MOST_FINENESS))) (pss_one ps_never) pss_nil)
      (pss_cons (ps_fld (pv 0) (pv 1) rfl)
      (pss_cons (ps_fld (pv 0) (pv 2) rfl)
      (pss_one (ps_fld (pv 0) (pv 3) rfl)))))))), ?_⟩
    refine ⟨_, rfl, b, rfl, so.b0, so.b1, ?_⟩
    refine ⟨_, rfl, p, xs, ws, rfl, SqT.of hp, hw, so.len, fun H1 s1 => ?_⟩
    refine ⟨_, rfl, p, xs, ws, rfl, .inr (SqT.of (s1 _ _ hp)), hw.same s1, so.ok, fun H2 s2 => ?_⟩
    have sf := so.fine
    refine ⟨_, rfl, _, _, rfl, rfl, _, rfl, ifd (fun c => absurd c (by show ¬ (120 : Int) < fineL ws; omega)) (fun _ => ?_)⟩
    refine ⟨_, rfl, _, rfl, x, _, dx, _, rfl, s2 _ _ (s1 _ _ hx), T.cl_Stack, T.na_Stack_base, (show (0 : Nat) < 1000 by decide), ?_⟩
    refine ⟨_, rfl, _, rfl, x, _, dx, _, rfl, upd_same, T.cl_Stack, T.na_Stack_wraps, (show (1 : Nat) < 1000 by decide), ?_⟩
    refine ⟨_, rfl, _, rfl, x, _, dx, _, rfl, upd_same, T.cl_Stack, T.na_Stack_fineness, (show (2 : Nat) < 1000 by decide), ?_⟩
    exact k _ (Kp.set (Kp.set (Kp.set fun z o n e => s2 _ _ (s1 _ _ e)))) upd_same
  · obtain ⟨b, xs, ws, rfl, so, hw, k⟩ := h
    have hl : xs.length ≤ sizeLine := by
      rw [hw.len, sizeLine_eq]
      have := so.len
      omega
    refine ⟨_, _, rfl, hl, fun x dx p hx hdx nd np npd hp => ?_⟩
    have same : Same H (upd (upd (upd H dx (.own x)) x (.ins (He.ga K "Stack") dx [])) p (.tup xs)) := fun z o e => by
      rw [upd_ne (ne_of_none e hp), upd_ne (ne_of_none e hx), upd_ne (ne_of_none e hdx)]
      exact e
    refine ⟨x, p, dx, b, xs, ws, rfl, so, by rw [upd_ne (Ne.symm np)]; exact upd_same, upd_same, hw.same same, fun H' kp hx' => ⟨rfl, ?_⟩⟩
    have s2 : Same H H' := fun z o e => kp _ _ (ne_of_none e hx) (same _ _ e)
    exact k x H' hx s2 ⟨dx, p, xs, hx', kp _ _ np upd_same, hw.same s2⟩
theorem ok_Stack_grown (T : Tx w K mg) : PromM P w K mg base CX0 4 "Stack" "grown" ["self", "length"] (spSGrown K) := by
  refine PromM.of T.cl_Stack T.me_Stack_grown T.dm_Stack_grown sc_Stack_grown (fun vs H Q E h => ?_) (fun _ _ _ _ _ _ us hl => match us, hl with | [_, _], _ => rfl) (fun f cdv A outer s H vs Q E hr h => ?_)
  · obtain ⟨q, b, ws, n, rfl, _⟩ := h
    rfl
  · obtain ⟨q, b, ws, n, rfl, ⟨dx, t, xs, hq, ht, hw⟩, so, n0, n1, k⟩ := h
    refine ⟨_, (pss_cons (ps_for PassesOwn.never (by rfl) (pi_tup (pe_fld (pv 0) rfl)) (pg_name (i := 2) sc_Stack_grown.nd rfl (Or.inl rfl)) (pss_one (ps_set (i := 1) sc_Stack_grown.nd rfl (Or.inl rfl) (pe_methP (ok_Wrap_grown T) (hr.mono (by decide)) pass0 (pv 2) (pa_cons (pv 1) (pa_cons (pe_fld (pv 0) rfl) pa_nil))))))
      (pss_one (ps_ret (pv 1)))), ?_⟩
    refine ⟨_, rfl, q, _, dx, _, _, rfl, hq, T.cl_Stack, T.na_Stack_wraps, rfl, t, rfl, ⟨_, SqT.of ht⟩, for_it (walk_tup (K := K) (a := t) (xs := xs)) (fun i σ H' => H' = H ∧ ∃ v, σ = [some (.ref q), some (.int (grS b (ws.take i) n)), v]) ⟨rfl, none, rfl⟩ (fun _ _ H' _ h => by rw [h.1]; exact SqT.of ht) ?_ ?_⟩
    · rintro i x σ H1 H2 hi ⟨rfl, v, rfl⟩ ⟨rfl, hx⟩
      obtain ⟨r, a, rfl, hr2, hw1⟩ := hw.get hx
      have hok := so.ok a (List.mem_of_getElem? hr2)
      obtain ⟨dx2, p, h1, h2⟩ := id hw1
      have et : grS b (ws.take (i + 1)) n = a.gr b (grS b (ws.take i) n) := by
        unfold grS
        rw [List.take_succ, hr2, List.foldl_append]
        rfl
      have hl := so.len
      have hlt : (ws.take i).length ≤ 6 := by
        rw [List.length_take]
        omega
      have bd := grS_pow so.b0 (ws.take i) (fun z hz => so.ok z (List.mem_of_mem_take hz)) (show 12 ≤ 1000 by decide) n0 n1
      have bd2 : grS b (ws.take i) n < 2 ^ 3000 := Int.lt_of_lt_of_le bd.2 (pow_mono (by decide) (by omega))
      rw [et]
      generalize grS b (ws.take i) n = m at bd bd2 ⊢
      refine ⟨_, rfl, r, dx2, _, rfl, h1, rfl, _, rfl, _, rfl, q, _, dx, _, _, rfl, hq, T.cl_Stack, T.na_Stack_base, rfl, a, r, m, b, rfl, hw1, hok, so.b0, so.b1, bd.1, bd2, ?_⟩
      exact ⟨rfl, _, rfl⟩
    · rintro σ H' ⟨rfl, v, rfl⟩
      rw [hw.len, List.take_length]
      exact ⟨_, rfl, k⟩
end
section
variable {P : Program} {w : World} {K : PySem.W.Frag} {mg : Str → Option Value} {base : Heap}
theorem ok_check_wrap (T : Tx w K mg) : Prom P w K mg base CX0 1 "check_wrap" s_check_wrap ["value"] (spIsWrap K) := by
  refine Prom.of T.d_check_wrap sc_check_wrap (fun vs H Q E h => ?_) (fun _ _ _ _ _ _ us hl => match us, hl with | [_], _ => rfl) (fun f cdv A outer s H vs Q E hr h => ?_)
  · obtain ⟨q, a, rfl, _⟩ := h
    rfl
  · obtain ⟨q, a, rfl, ⟨dx, p, h1, h2⟩, k⟩ := h
    refine ⟨_, (pss_one (ps_if (pt_not (pt_val (pe_callB call_isi (by rfl) T.b_isinstance (by decide +kernel) (pa_cons (pv 0) (pa_cons (pe_glob (v := .ref _) (by rfl) T.k_Wrap rfl) pa_nil))))) (pss_one ps_never) pss_nil)), ?_⟩
    exact ⟨_, rfl, _, _, _, _, true, rfl, .own _, T.is_Wrap.ty h1, kit_self, true, rfl, iteF k⟩
end
section
variable {P : Program} {w : World} {K : PySem.W.Frag} {mg : Str → Option Value} {base : Heap}
theorem ok_check_stack (T : Tx w K mg) : Prom P w K mg base CX0 1 "check_stack" s_check_stack ["value"] (spIsStack K) := by
  refine Prom.of T.d_check_stack sc_check_stack (fun vs H Q E h => ?_) (fun _ _ _ _ _ _ us hl => match us, hl with | [_], _ => rfl) (fun f cdv A outer s H vs Q E hr h => ?_)
  · obtain ⟨q, b, ws, rfl, _⟩ := h
    rfl
  · obtain ⟨q, b, ws, rfl, ⟨dx, t, xs, h1, h2, h3⟩, k⟩ := h
    refine ⟨_, (pss_one (ps_if (pt_not (pt_val (pe_callB call_isi (by rfl) T.b_isinstance (by decide +kernel) (pa_cons (pv 0) (pa_cons (pe_glob (v := .ref _) (by rfl) T.k_Stack rfl) pa_nil))))) (pss_one ps_never) pss_nil)), ?_⟩
    exact ⟨_, rfl, _, _, _, _, true, rfl, .own _, T.is_Stack.ty h1, kit_self, true, rfl, iteF k⟩
end
def Wr.use : Wr → Int
  | .coded m c => m * c
  | .pieces m _ => m
  | .cut m _ => m
  | .filled m => m
  | _ => 1
theorem step_use (p : Int) (a : Wr) : stepF p a = p * a.use := by
  cases a <;> simp [stepF, Wr.use, Int.mul_assoc]
theorem use_pos {a : Wr} (h : a.ok) : 1 ≤ a.use := by
  cases a with
  | coded m c =>
    simp only [Wr.ok] at h
    simp only [Wr.use]
    have := Int.mul_le_mul h.1 (show 1 ≤ c by omega) (by decide) (by omega)
    omega
  | _ => simp only [Wr.ok] at h; simp only [Wr.use]; omega
theorem fine_app (ws : List Wr) (a : Wr) : fineL (ws ++ [a]) = fineL ws * a.use := by
  unfold fineL
  rw [List.foldl_append]
  exact step_use _ a
theorem fine_pos : ∀ {ws : List Wr}, (∀ a ∈ ws, a.ok) → ∀ {p : Int}, 1 ≤ p → p ≤ ws.foldl stepF p
  | [], _, p, _ => Int.le_refl p
  | a :: ws, h, p, hp => by
    have u := use_pos (h a (List.mem_cons_self ..))
    have m := Int.mul_le_mul_of_nonneg_left u (show 0 ≤ p by omega)
    rw [Int.mul_one] at m
    have e : stepF p a = p * a.use := step_use p a
    have ih := fine_pos (ws := ws) (fun x hx => h x (List.mem_cons_of_mem _ hx)) (p := stepF p a) (by omega)
    show p ≤ ws.foldl stepF (stepF p a)
    omega
theorem fine_take {ws : List Wr} (h : ∀ a ∈ ws, a.ok) (i : Nat) : fineL (ws.take i) ≤ fineL ws := by
  have e : fineL ws = (ws.drop i).foldl stepF (fineL (ws.take i)) := by
    unfold fineL
    rw [← List.foldl_append, List.take_append_drop]
  rw [e]
  exact fine_pos (fun x hx => h x (List.mem_of_mem_drop hx)) (fine_pos (fun x hx => h x (List.mem_of_mem_take hx)) (by decide))
/-- the numbers from lo on whose square is within the room, among so many -/
def sqs (r : Int) (i : Nat) : List Int := ((List.range i).map fun (j : Nat) => 1 + (j : Int)).filter fun z => decide (z * z ≤ r)
theorem sqs_succ (r : Int) (i : Nat) : sqs r (i + 1) = sqs r i ++ (if (1 + (i : Int)) * (1 + (i : Int)) ≤ r then [1 + (i : Int)] else []) := by
  unfold sqs
  rw [List.range_succ, List.map_append, List.filter_append]
  congr 1
  by_cases c : (1 + (i : Int)) * (1 + (i : Int)) ≤ r <;> simp [c]
theorem sqs_len {r : Int} (hr : 1 ≤ r) : ∀ i : Nat, (sqs r i).length ≤ i ∧ (1 ≤ i → 1 ≤ (sqs r i).length) ∧ ∀ z : Int, 1 ≤ z → z ≤ (sqs r i).length → z * z ≤ r
  | 0 => ⟨Nat.zero_le _, fun h => absurd h (by decide), fun z h0 h1 => by
    have e : (sqs r 0).length = 0 := rfl
    rw [e] at h1
    omega⟩
  | i + 1 => by
    obtain ⟨h1, h2, h3⟩ := sqs_len hr i
    have e := sqs_succ r i
    by_cases c : (1 + (i : Int)) * (1 + (i : Int)) ≤ r
    · rw [e, if_pos c, List.length_append]
      refine ⟨by simp; omega, fun _ => by simp, fun z z0 z1 => ?_⟩
      have zi : z ≤ 1 + (i : Int) := by
        simp at z1
        omega
      exact Int.le_trans (Int.mul_le_mul zi zi (by omega) (by omega)) c
    · rw [e, if_neg c, List.append_nil]
      refine ⟨by omega, fun _ => ?_, h3⟩
      by_cases i0 : i = 0
      · exfalso
        apply c
        rw [i0]
        simp
        omega
      · exact h2 (by omega)
theorem int_at {ns : List Int} {i : Nat} {x : V} (h : (ns.map V.int)[i]? = some x) : ∃ n, ns[i]? = some n ∧ x = .int n := by
  rw [List.getElem?_map] at h
  cases e : ns[i]? with
  | none =>
    rw [e] at h
    cases h
  | some n =>
    rw [e] at h
    exact ⟨n, rfl, (Option.some.inj h).symm⟩
theorem grS_mono {b : Int} (hb : 2 ≤ b) : ∀ (ws : List Wr), (∀ a ∈ ws, a.ok) → ∀ {n k : Int}, 0 ≤ n → n ≤ k → grS b ws n ≤ grS b ws k
  | [], _, n, k, _, h => h
  | a :: ws, ha, n, k, h0, h => grS_mono hb ws (fun x hx => ha x (List.mem_cons_of_mem _ hx)) (gr_le hb (ha a (List.mem_cons_self ..)) h0).1 (gr_mono hb (ha a (List.mem_cons_self ..)) h0 h)
theorem grS_ge {b : Int} (hb : 2 ≤ b) : ∀ (ws : List Wr), (∀ a ∈ ws, a.ok) → ∀ {n : Int}, 0 ≤ n → n ≤ grS b ws n
  | [], _, n, _ => Int.le_refl n
  | a :: ws, ha, n, h0 => Int.le_trans (gr_ge hb (ha a (List.mem_cons_self ..)) h0) (grS_ge hb ws (fun x hx => ha x (List.mem_cons_of_mem _ hx)) (gr_le hb (ha a (List.mem_cons_self ..)) h0).1)
/-- what is no list, and no such instance, stays -/
structure Keeps (K : PySem.W.Frag) (H H' : Hp) : Prop where
  tup : ∀ {q xs}, H q = some (.tup xs) → H' q = some (.tup xs)
  wrap : ∀ {q dx fs}, H q = some (.ins (He.ga K "Wrap") dx fs) → H' q = some (.ins (He.ga K "Wrap") dx fs)
  stack : ∀ {q dx fs}, H q = some (.ins (He.ga K "Stack") dx fs) → H' q = some (.ins (He.ga K "Stack") dx fs)
theorem Keeps.same {K : PySem.W.Frag} {H H' : Hp} (s : Same H H') : Keeps K H H' := ⟨fun h => s _ _ h, fun h => s _ _ h, fun h => s _ _ h⟩
theorem Keeps.lst {K : PySem.W.Frag} {H : Hp} {l : Addr} {ys zs : List V} (hl : H l = some (.lst ys)) : Keeps K H (upd H l (.lst zs)) :=
  ⟨fun {q xs} e => by rw [upd_ne (fun z => by rw [z, hl] at e; cases e)]; exact e, fun {q xs fs} e => by rw [upd_ne (fun z => by rw [z, hl] at e; cases e)]; exact e, fun {q xs fs} e => by rw [upd_ne (fun z => by rw [z, hl] at e; cases e)]; exact e⟩
theorem Keeps.trans {K : PySem.W.Frag} {H H1 H2 : Hp} (a : Keeps K H H1) (b : Keeps K H1 H2) : Keeps K H H2 := ⟨fun h => b.tup (a.tup h), fun h => b.wrap (a.wrap h), fun h => b.stack (a.stack h)⟩
/-- only the road at r changes -/
theorem Keeps.road {K : PySem.W.Frag} {H H' : Hp} {r dr : Addr} {fs : List (Str × V)} (n1 : He.ga K "Road" ≠ He.ga K "Wrap") (n2 : He.ga K "Road" ≠ He.ga K "Stack") (hr : H r = some (.ins (He.ga K "Road") dr fs)) (k : Kp r H H') : Keeps K H H' :=
  ⟨fun {q xs} e => k _ _ (fun z => by rw [z, hr] at e; cases e) e, fun {q xs fs} e => k _ _ (fun z => by rw [z, hr] at e; exact n1 (by injection e with e; injection e)) e, fun {q xs fs} e => k _ _ (fun z => by rw [z, hr] at e; exact n2 (by injection e with e; injection e)) e⟩
theorem WrapAt.keeps {K : PySem.W.Frag} {H H' : Hp} {q : Addr} {a : Wr} (h : WrapAt K H q a) (k : Keeps K H H') : WrapAt K H' q a := by
  obtain ⟨dx, p, h1, h2⟩ := h
  exact ⟨dx, p, k.wrap h1, k.tup h2⟩
theorem WrapsAt.keeps {K : PySem.W.Frag} {H H' : Hp} {xs : List V} {ws : List Wr} (h : WrapsAt K H xs ws) (k : Keeps K H H') : WrapsAt K H' xs ws := by
  induction h with
  | nil => exact .nil
  | cons h _ ih => exact .cons (h.keeps k) ih
theorem WrapsAt.dropLast {K : PySem.W.Frag} {H : Hp} {xs : List V} {ws : List Wr} (h : WrapsAt K H xs ws) : WrapsAt K H xs.dropLast ws.dropLast := by
  induction h with
  | nil => exact .nil
  | cons h r ih =>
    cases r with
    | nil => exact .nil
    | cons h2 r2 => exact .cons h ih
theorem StkAt.keeps {K : PySem.W.Frag} {H H' : Hp} {q : Addr} {b : Int} {ws : List Wr} (h : StkAt K H q b ws) (k : Keeps K H H') : StkAt K H' q b ws := by
  obtain ⟨dx, t, xs, h1, h2, h3⟩ := h
  exact ⟨dx, t, xs, k.stack h1, k.tup h2, h3.keeps k⟩
/-! ### heaps and slots -/
theorem same_up {H : Hp} {p : Addr} {o : HO} (hp : H p = none) : Same H (upd H p o) := fun x o e => by
  rw [upd_ne (ne_of_none e hp)]
  exact e
theorem gn {i : Nat} {x : V} {σ : L2.St} {H : Hp} {k : L2.St → Hp → Prop} (h : k (σ.set i (some x)) H) : gName i x σ H k := h
theorem st_eq {F : L2.St → Hp → Prop} {σ : L2.St} {H : Hp} (σ' : L2.St) (e : σ = σ') (k : F σ' H) : F σ H := e ▸ k
theorem hp_eq {F : L2.St → Hp → Prop} {σ : L2.St} {H : Hp} (H2 : Hp) (e : H = H2) (k : F σ H2) : F σ H := e ▸ k
theorem hp_new {F : L2.St → Hp → Prop} {σ : L2.St} {H : Hp} {w : Addr} {o : HO} (h : H w = none) (k : ∀ G, Same H G → G w = some o → F σ G) : F σ (upd H w o) := k _ (up h) upd_same
theorem hp_new2 {F : L2.St → Hp → Prop} {σ : L2.St} {H : Hp} {w w2 : Addr} {o o2 : HO} (h2 : H w2 = none) (h : upd H w2 o2 w = none) (k : ∀ G, Same H G → G w = some o → F σ G) : F σ (upd (upd H w2 o2) w o) := k _ (fun _ _ e => up h _ _ (up h2 _ _ e)) upd_same
/-! ### the law's purse: what is drawn lies in its range, and nothing else is told of it -/
def PurseAt (H : Hp) (p : Addr) : Prop := ∃ m d c : Int, H p = some (.lst [.int m, .int d, .int c]) ∧ 0 ≤ m ∧ m < 2147483629 ∧ 0 ≤ d ∧ 0 ≤ c
theorem PurseAt.of {H : Hp} {p : Addr} {m d c : Int} (h : H p = some (.lst [.int m, .int d, .int c])) (h1 : 0 ≤ m) (h2 : m < 2147483629) (h3 : 0 ≤ d) (h4 : 0 ≤ c) : PurseAt H p := ⟨m, d, c, h, h1, h2, h3, h4⟩
/-- behind draws: the purse is one, all else stands -/
structure Drew (p : Addr) (H H' : Hp) : Prop where
  at_ : PurseAt H' p
  kp : Kp p H H'
theorem Drew.refl {p : Addr} {H : Hp} (h : PurseAt H p) : Drew p H H := ⟨h, Kp.refl p H⟩
theorem Drew.trans {p : Addr} {H H1 H2 : Hp} (a : Drew p H H1) (b : Drew p H1 H2) : Drew p H H2 := ⟨b.at_, a.kp.trans b.kp⟩
/-- a new object beside the purse -/
theorem Drew.new {p q : Addr} {H H' : Hp} {o : HO} (a : Drew p H H') (h : H' q = none) : Drew p H (upd H' q o) := by
  obtain ⟨m, d, c, e, r⟩ := a.at_
  exact ⟨⟨m, d, c, by rw [upd_ne (ne_of_none e h)]; exact e, r⟩, a.kp.new h⟩
/-- new things beside the purse -/
theorem Drew.same {p : Addr} {H H1 H2 : Hp} (a : Drew p H H1) (b : Same H1 H2) : Drew p H H2 := by
  obtain ⟨m, d, c, e, r⟩ := a.at_
  exact ⟨⟨m, d, c, b _ _ e, r⟩, fun x o n h => b _ _ (a.kp x o n h)⟩
def spRight : Sp := fun vs H Q _ => ∃ (p : Addr), vs = [.ref p] ∧ PurseAt H p ∧ ∀ H', Drew p H H' → Q (.bl true) H'
def spCell (K : PySem.W.Frag) : Sp := fun vs H Q _ => ∃ (a : Addr) (ns : List Int) (k : Int), vs = [.ref a, .int k] ∧ SqL K H a (ns.map V.int) ∧ 0 ≤ k ∧ k ≤ 1000 ∧ ∀ z H', Same H H' → Q (.int z) H'
def spPurse : Sp := fun vs H Q _ => ∃ c : Int, vs = [.int c] ∧ ∀ p H', H p = none → Same H H' → PurseAt H' p → Q (.ref p) H'
def spTake : Sp := fun vs H Q _ => ∃ (p : Addr) (n : Int), vs = [.ref p, .int n] ∧ PurseAt H p ∧ 0 < n ∧ n ≤ 1000000000000000000000000000000 ∧ ∀ r H', 0 ≤ r → r < n → Drew p H H' → Q (.int r) H'
/-- a number between two is drawn -/
def spDraw (lo hi : Int) : Sp := fun vs H Q _ => ∃ (p : Addr), vs = [.ref p] ∧ PurseAt H p ∧ ∀ r H', lo ≤ r → r ≤ hi → Drew p H H' → Q (.int r) H'
def spWide : Sp := fun vs H Q _ => ∃ (p : Addr) (n : Int), vs = [.ref p, .int n] ∧ PurseAt H p ∧ 0 < n ∧ ∀ r H', 0 ≤ r → r < n → Drew p H H' → Q (.int r) H'
theorem cutV_ints (ns : List Int) (lo hi : Option Int) : ∃ ms : List Int, cutV (ns.map V.int) lo hi = ms.map V.int := by
  unfold cutV
  exact ⟨_, by rw [← List.map_drop, ← List.map_take]⟩
theorem item_int {ns : List Int} {i : Nat} {x : V} (h : (ns.map V.int)[i]? = some x) : ∃ z, x = .int z := by
  rw [List.getElem?_map] at h
  cases e : ns[i]? with
  | none =>
    rw [e] at h
    cases h
  | some z =>
    rw [e] at h
    exact ⟨z, (Option.some.inj h).symm⟩
section
variable {P : Program} {w : World} {K : PySem.W.Frag} {mg : Str → Option Value} {base : Heap}
theorem ok_L_cell (T : Tx w K mg) : Prom P w K mg base CX0 1 "_law_cell" s_L_cell ["_law_script", "_law_k"] (spCell K) := by
  refine Prom.of T.d_L_cell sc_L_cell (fun vs H Q E h => ?_) (fun _ _ _ _ _ _ us hl => match us, hl with | [_, _], _ => rfl) (fun f cdv A outer s H vs Q E hr h => ?_)
  · obtain ⟨a, ns, n, rfl, _⟩ := h
    rfl
  · obtain ⟨a, ns, n, rfl, hS, h0, h1, k⟩ := h
    refine ⟨_, (pss_cons (ps_if (pt_cmp (pc_lt (pv 1) (pe_callB call_len_seq (by rfl) T.b_len (by decide +kernel) (pa_cons (pv 0) pa_nil)))) (pss_one (ps_ret (pe_ix ix_list (pv 0) (pv 1) (fun _ _ => rfl)))) pss_nil)
      (pss_cons (ps_set (i := 2) sc_L_cell.nd rfl (Or.inl rfl) (pe_op op_add (pe_op op_add (pe_op op_mul (pe_op op_mul pe_int (pv 1)) (pv 1)) (pe_op op_mul pe_int (pv 1))) pe_int))
      (pss_cons (ps_for PassesOwn.never (by rfl) (pi_list (pe_slice sl_list (pv 0) po_none (po_some pe_int))) (pg_name (i := 3) sc_L_cell.nd rfl (Or.inl rfl)) (pss_one (ps_set (i := 2) sc_L_cell.nd rfl (Or.inl rfl) (pe_op op_mod (pe_callTy call_int1 (by rfl) T.b_int (by decide +kernel) (pa_cons (pe_op op_add (pe_op op_add (pe_op op_mul (pv 2) pe_int) (pv 3)) pe_int) pa_nil)) pe_int))))
      (pss_one (ps_ret (pv 2)))))), ?_⟩
    refine ⟨_, rfl, _, rfl, _, _, rfl, .inl hS, _, _, rfl, rfl, _, rfl, ifd (fun c => ?_) (fun c => ?_)⟩
    · rw [List.length_map] at c
      have hi : n.toNat < ns.length := by omega
      obtain ⟨z, hz⟩ : ∃ z, ns[n.toNat]? = some z := ⟨_, List.getElem?_eq_getElem hi⟩
      have ez : (ns.map V.int)[n.toNat]? = some (V.int z) := by rw [List.getElem?_map, hz]; rfl
      exact ⟨_, rfl, _, rfl, _, _, _, _, rfl, rfl, hS, at_of (show n = ((n.toNat : Nat) : Int) by omega) ez, k z H (Same.refl H)⟩
    · refine ⟨_, rfl, _, _, rfl, rfl, .inl ⟨by decide, by decide⟩, _, rfl, _, _, rfl, rfl, .inr ⟨by omega, by omega⟩, ?_⟩
      refine ⟨_, rfl, _, _, rfl, rfl, .inl ⟨by decide, by decide⟩, _, _, rfl, rfl, _, _, rfl, rfl, ?_⟩
      obtain ⟨ms, hms⟩ := cutV_ints ns none (some 4)
      refine ⟨_, rfl, _, rfl, a, _, rfl, hS, fun p hp => ?_⟩
      rw [hms]
      refine ⟨p, rfl, ⟨_, SqL.of upd_same⟩, for_list (K := K) (a := p) (xs := ms.map V.int) (fun i σ H' => Same (upd H p (.lst (ms.map V.int))) H' ∧ ∃ m v, σ = [some (.ref a), some (.int n), some (.int m), v]) ⟨Same.refl _, _, none, rfl⟩ (fun i σ H' _ h => SqL.of (h.1 _ _ upd_same)) ?_ ?_⟩
      · rintro i x σ H' hi ⟨hs, m, v, rfl⟩
        obtain ⟨z, rfl⟩ := item_int hi
        refine ⟨_, rfl, _, _, rfl, rfl, .inr ⟨by decide, by decide⟩, _, rfl, _, _, rfl, rfl, _, _, rfl, rfl, .inl ⟨_, rfl, ?_⟩⟩
        exact ⟨_, _, rfl, rfl, (show (0 : Int) < 2147483629 by decide), hs, _, _, rfl⟩
      · rintro σ H' ⟨hs, m, v, rfl⟩
        exact ⟨_, rfl, k m H' (Same.trans (fun b o e => by rw [upd_ne (ne_of_none e hp)]; exact e) hs)⟩
theorem ok_L_purse (T : Tx w K mg) : Prom P w K mg base CX0 1 "_law_purse" s_L_purse ["_law_cell_here"] spPurse := by
  refine Prom.of T.d_L_purse sc_L_purse (fun vs H Q E h => ?_) (fun _ _ _ _ _ _ us hl => match us, hl with | [_], _ => rfl) (fun f cdv A outer s H vs Q E hr h => ?_)
  · obtain ⟨c, rfl, _⟩ := h
    rfl
  · obtain ⟨c, rfl, k⟩ := h
    refine ⟨_, (pss_cons (ps_set (i := 1) sc_L_purse.nd rfl (Or.inl rfl) (pe_op op_mod (pe_callTy call_int1 (by rfl) T.b_int (by decide +kernel) (pa_cons (pv 0) pa_nil)) pe_int))
      (pss_cons (ps_set (i := 2) sc_L_purse.nd rfl (Or.inl rfl) (pe_op op_mod (pe_callTy call_int1 (by rfl) T.b_int (by decide +kernel) (pa_cons (pe_op op_add (pe_op op_mul (pv 1) pe_int) pe_int) pa_nil)) pe_int))
      (pss_cons (ps_set (i := 2) sc_L_purse.nd rfl (Or.inl rfl) (pe_op op_mod (pe_callTy call_int1 (by rfl) T.b_int (by decide +kernel) (pa_cons (pe_op op_add (pe_op op_add (pe_op op_mul (pv 2) (pv 2)) (pe_op op_mul pe_int (pv 1))) pe_int) pa_nil)) pe_int))
      (pss_one (ps_ret (pe_lst (pa_cons (pv 2) (pa_cons (pe_ifExp (PW.pt (pw_or (pt_cmp (pc_lt (pv 0) pe_int)) (pw_or1 (pt_cmp (pc_ge (pv 0) (pe_op op_pow pe_int pe_int)))))) (pe_op op_mod (pe_callTy call_int1 (by rfl) T.b_int (by decide +kernel) (pa_cons (pe_callB call_abs (by rfl) T.b_abs (by decide +kernel) (pa_cons (pv 0) pa_nil)) pa_nil)) (pe_op op_powW (pe_op op_pow pe_int pe_int) pe_int)) pe_int) (pa_cons pe_int pa_nil))))))))), ?_⟩
    have d0 : (0 : Int) < 2147483629 := by decide
    refine ⟨_, rfl, .inl ⟨_, rfl, _, _, rfl, rfl, d0, ?_⟩⟩
    have a1 := Int.emod_nonneg c (show (2147483629 : Int) ≠ 0 by decide)
    have a2 := Int.emod_lt_of_pos c d0
    refine ⟨_, rfl, _, _, rfl, rfl, .inr ⟨by decide, by decide⟩, _, _, rfl, rfl, .inl ⟨_, rfl, _, _, rfl, rfl, d0, ?_⟩⟩
    have b1 : 0 ≤ (c % 2147483629 * 69809 + 1013) % 2147483629 := Int.emod_nonneg _ (by decide)
    have b2 : (c % 2147483629 * 69809 + 1013) % 2147483629 < 2147483629 := Int.emod_lt_of_pos _ d0
    refine ⟨_, rfl, _, rfl, _, _, rfl, rfl, .inl ⟨by omega, by omega⟩, _, rfl, _, _, rfl, rfl, .inl ⟨by decide, by decide⟩, _, _, rfl, rfl, _, _, rfl, rfl, .inl ⟨_, rfl, _, _, rfl, rfl, d0, ?_⟩⟩
    have fin : ∀ x d : Int, 0 ≤ d → ∀ p, H p = none → Q (.ref p) (upd H p (.lst [.int (x % 2147483629), .int d, .int 0])) := fun x d hd p hp =>
      k p _ hp (fun b o e => by rw [upd_ne (ne_of_none e hp)]; exact e) (PurseAt.of upd_same (Int.emod_nonneg _ (by decide)) (Int.emod_lt_of_pos _ d0) hd (Int.le_refl 0))
    refine ⟨_, rfl, _, rfl, _, _, rfl, rfl, _, rfl, ifd (fun h1 => iteT ?_) (fun h1 => ?_)⟩
    · refine ⟨_, rfl, _, rfl, .inl ⟨_, rfl, _, _, rfl, rfl, ⟨by decide, by decide, by decide⟩, _, _, rfl, rfl, ⟨by decide, by decide, 200, by decide, by decide⟩, _, _, rfl, rfl, (by show (0 : Int) < (10 ^ (50 : Int).toNat) ^ (16 : Int).toNat; decide), ?_⟩⟩
      exact ⟨(by show 3 ≤ sizeLine; decide), fun p hp => fin _ _ (Int.emod_nonneg _ (by decide)) p hp⟩
    refine ⟨_, rfl, _, _, rfl, rfl, ⟨by decide, by decide, by decide⟩, _, _, rfl, rfl, _, rfl, ifd (fun h2 => ?_) (fun h2 => ?_)⟩
    · refine ⟨_, rfl, _, rfl, .inl ⟨_, rfl, _, _, rfl, rfl, ⟨by decide, by decide, by decide⟩, _, _, rfl, rfl, ⟨by decide, by decide, 200, by decide, by decide⟩, _, _, rfl, rfl, (by show (0 : Int) < (10 ^ (50 : Int).toNat) ^ (16 : Int).toNat; decide), ?_⟩⟩
      exact ⟨(by show 3 ≤ sizeLine; decide), fun p hp => fin _ _ (Int.emod_nonneg _ (by decide)) p hp⟩
    · exact ⟨(by show 3 ≤ sizeLine; decide), fun p hp => fin _ 0 (Int.le_refl 0) p hp⟩
theorem ok_L_take (T : Tx w K mg) : Prom P w K mg base CX0 1 "_law_take" s_L_take ["_law_purse_here", "_law_many"] spTake := by
  refine Prom.of T.d_L_take sc_L_take (fun vs H Q E h => ?_) (fun _ _ _ _ _ _ us hl => match us, hl with | [_, _], _ => rfl) (fun f cdv A outer s H vs Q E hr h => ?_)
  · obtain ⟨p, n, rfl, _⟩ := h
    rfl
  · obtain ⟨p, n, rfl, ⟨m, d, c, hp, h1, h2, h3, h4⟩, hn, hn2, k⟩ := h
    refine ⟨_, (pss_cons (ps_asg (pe_op op_add (pe_ix ix_list (pv 0) pe_int (fun _ _ => rfl)) pe_int) (pg_sub (pv 0) pe_int set_list))
      (pss_cons (ps_if (pt_cmp (pc_gt (pe_ix ix_list (pv 0) pe_int (fun _ _ => rfl)) pe_int)) (pss_cons (ps_asg (pe_callB call_divmodW (by rfl) T.b_divmod (by decide +kernel) (pa_cons (pe_ix ix_list (pv 0) pe_int (fun _ _ => rfl)) (pa_cons (pv 1) pa_nil))) (pg_tup rfl (pgs_cons (pg_sub (pv 0) pe_int set_list) (pgs_cons (pg_name (i := 2) sc_L_take.nd rfl (Or.inl rfl)) pgs_nil))))
      (pss_one (ps_ret (pv 2)))) pss_nil)
      (pss_cons (ps_set (i := 3) sc_L_take.nd rfl (Or.inl rfl) (pe_callTy call_int1 (by rfl) T.b_int (by decide +kernel) (pa_cons (pe_ix ix_list (pv 0) pe_int (fun _ _ => rfl)) pa_nil)))
      (pss_cons (ps_asg (pe_op op_mod (pe_callTy call_int1 (by rfl) T.b_int (by decide +kernel) (pa_cons (pe_op op_add (pe_op op_add (pe_op op_mul (pv 3) (pv 3)) (pe_op op_mul pe_int (pe_ix ix_list (pv 0) pe_int (fun _ _ => rfl)))) pe_int) pa_nil)) pe_int) (pg_sub (pv 0) pe_int set_list))
      (pss_one (ps_ret (pe_op op_mod (pe_callTy call_int1 (by rfl) T.b_int (by decide +kernel) (pa_cons (pe_op op_fdiv (pe_ix ix_list (pv 0) pe_int (fun _ _ => rfl)) pe_int) pa_nil)) (pv 1)))))))), ?_⟩
    refine ⟨_, rfl, _, _, _, _, rfl, rfl, SqL.of hp, rfl, _, _, rfl, rfl, _, rfl, _, _, _, _, rfl, rfl, hp, rfl, ?_⟩
    have e1 : (upd H p (.lst ([V.int m, V.int d, V.int c].set 2 (V.int (c + 1))))) p = some (.lst [.int m, .int d, .int (c + 1)]) := upd_same
    refine ⟨_, rfl, _, _, _, _, rfl, rfl, SqL.of e1, rfl, _, _, rfl, rfl, _, rfl, ifd (fun c1 => ?_) (fun c1 => ?_)⟩
    · refine ⟨_, rfl, _, _, _, _, rfl, rfl, SqL.of e1, rfl, _, rfl, _, _, rfl, divp_small hn hn2, fun q hq => ?_⟩
      have nq : p ≠ q := ne_of_none e1 hq
      refine ⟨q, _, rfl, SqT.of upd_same, rfl, _, _, rfl, ?_⟩
      refine ⟨_, rfl, _, _, _, _, rfl, rfl, (by rw [upd_ne nq]; exact e1), rfl, ?_⟩
      refine ⟨_, _, rfl, rfl, ?_⟩
      refine ⟨_, rfl, k _ _ (Int.emod_nonneg _ (by omega)) (Int.emod_lt_of_pos _ hn) ⟨PurseAt.of upd_same h1 h2 (Int.ediv_nonneg (by omega) (by omega)) (by omega), ?_⟩⟩
      exact Kp.set (Kp.new (Kp.set (Kp.refl p H)) hq)
    · refine ⟨_, rfl, _, _, _, _, rfl, rfl, SqL.of e1, rfl, .inl ⟨_, rfl, ?_⟩⟩
      refine ⟨_, rfl, _, rfl, _, _, rfl, rfl, .inl ⟨by omega, by omega⟩, _, rfl, _, _, _, _, rfl, rfl, SqL.of e1, rfl, _, _, rfl, rfl, .inl ⟨by decide, by decide⟩, _, _, rfl, rfl, _, _, rfl, rfl, .inl ⟨_, rfl, _, _, rfl, rfl, (show (0 : Int) < 2147483629 by decide), ?_⟩⟩
      refine ⟨_, rfl, _, _, _, _, rfl, rfl, e1, rfl, ?_⟩
      have c2 : 0 ≤ (m * m + 39119 * (c + 1) + 271) % 2147483629 := Int.emod_nonneg _ (by decide)
      have c3 : (m * m + 39119 * (c + 1) + 271) % 2147483629 < 2147483629 := Int.emod_lt_of_pos _ (by decide)
      refine ⟨_, rfl, _, _, _, _, rfl, rfl, SqL.of upd_same, rfl, _, _, rfl, rfl, ⟨by decide, by decide⟩, .inl ⟨_, rfl, _, rfl, _, _, rfl, rfl, hn, ?_⟩⟩
      refine k _ _ (Int.emod_nonneg _ (by omega)) (Int.emod_lt_of_pos _ hn) ⟨PurseAt.of upd_same c2 c3 h3 (by omega), ?_⟩
      exact Kp.set (Kp.set (Kp.refl p H))
end
/-! ### draws, and tables that grow -/
theorem strOk_of (s : String) : PyData.strOk (Str.ofString s) = true := by
  unfold PyData.strOk
  rw [Str.ofString_eq_toList]
  simp only [List.all_toArray, List.all_eq_true, decide_eq_true_eq]
  intro c hc
  obtain ⟨d, _, rfl⟩ := List.mem_map.mp hc
  rcases d.valid with h | h
  · exact Nat.lt_trans h (by decide)
  · exact h.2
theorem PurseAt.same {p : Addr} {H H' : Hp} (h : PurseAt H p) (s : Same H H') : PurseAt H' p := by
  obtain ⟨m, d, c, e, r⟩ := h
  exact ⟨m, d, c, s _ _ e, r⟩
theorem PurseAt.lst {p : Addr} {H : Hp} (h : PurseAt H p) : ∃ xs, H p = some (.lst xs) := by
  obtain ⟨_, _, _, e, _⟩ := h
  exact ⟨_, e⟩
theorem PurseAt.ne {p l : Addr} {H : Hp} (h : PurseAt H p) (hl : H l = none) : l ≠ p := by
  obtain ⟨_, e⟩ := h.lst
  exact Ne.symm (ne_of_none e hl)
/-- all but p and the tables stand as they stood -/
structure DrewT (p : Addr) (H H' : Hp) : Prop where
  at_ : PurseAt H' p
  kp : ∀ b o, b ≠ p → (∀ ps, o ≠ .tbl ps) → H b = some o → H' b = some o
theorem Drew.t {p : Addr} {H H' : Hp} (d : Drew p H H') : DrewT p H H' := ⟨d.at_, fun b o n _ h => d.kp b o n h⟩
theorem DrewT.trans {p : Addr} {H H1 H2 : Hp} (a : DrewT p H H1) (b : DrewT p H1 H2) : DrewT p H H2 := ⟨b.at_, fun x o n t h => b.kp x o n t (a.kp x o n t h)⟩
theorem DrewT.same {p : Addr} {H H1 H2 : Hp} (a : DrewT p H H1) (b : Same H1 H2) : DrewT p H H2 := ⟨a.at_.same b, fun x o n t h => b _ _ (a.kp x o n t h)⟩
theorem DrewT.refl {p : Addr} {H : Hp} (h : PurseAt H p) : DrewT p H H := ⟨h, fun _ _ _ _ h => h⟩
theorem tabs_drewT {K : PySem.W.Frag} {T : List (Addr × Str)} {p : Addr} {H H' : Hp} (hp : PurseAt H p) (d : Drew p H H') (h : LamX.Tabs T H) : LamX.Tabs T H' := by
  intro q hq
  obtain ⟨xs, e⟩ := hp.lst
  obtain ⟨ps, h1, h2, h3⟩ := h q hq
  refine ⟨ps, d.kp _ _ (fun z => by rw [z, e] at h1; cases h1) h1, h2, fun pos cv hc => ?_⟩
  obtain ⟨c, e1, e2⟩ := h3 pos cv hc
  exact ⟨c, e1, d.kp _ _ (fun z => by rw [z, e] at e2; cases e2) e2⟩
theorem ext_drewT {p : Addr} {H H' : Hp} (hp : PurseAt H p) (e : LamX.ExtN H H') : DrewT p H H' := by
  obtain ⟨m, d, c, h, r⟩ := hp
  exact ⟨⟨m, d, c, e _ _ h (fun ps z => by cases z), r⟩, fun b o _ t h => e b o h t⟩
theorem sqT_drewT {K : PySem.W.Frag} {p a : Addr} {H H' : Hp} {xs : List V} (hp : PurseAt H p) (d : DrewT p H H') (h : SqT K H a xs) : SqT K H' a xs := by
  obtain ⟨ys, e⟩ := hp.lst
  rcases h with (h | ⟨o, h⟩) | h
  · exact .inl (.inl (d.kp _ _ (fun z => by rw [z, e] at h; cases h) (fun ps z => by cases z) h))
  · exact .inl (.inr ⟨o, d.kp _ _ (fun z => by rw [z, e] at h; cases h) (fun ps z => by cases z) h⟩)
  · exact .inr h
section
variable {P : Program} {w : World} {K : PySem.W.Frag} {mg : Str → Option Value} {base : Heap}
def spFig2 : Sp := fun vs H Q _ => ∃ n b : Int, vs = [.int n, .int b] ∧ 2 ≤ b ∧ b ≤ 256 ∧ ∀ k, IsF b n k → Q (.int k) H
theorem ok_L_figures (T : Tx w K mg) : Prom P w K mg base CX0 1 "_law_figures" s_L_figures ["_law_amount", "_law_radix_here"] spFig2 := by
  refine Prom.of T.d_L_figures sc_L_figures (fun vs H Q E h => ?_) (fun _ _ _ _ _ _ us hl => match us, hl with | [_, _], _ => rfl) (fun f cdv A outer s H vs Q E hr h => ?_)
  · obtain ⟨n, b, rfl, _⟩ := h
    rfl
  · obtain ⟨n, b, rfl, hb, hb2, k⟩ := h
    refine ⟨_, (pss_cons (ps_par (i := 2) (j := 3) (by rfl) sc_L_figures.nd rfl rfl (by decide) rfl rfl (pa_cons pe_int (pa_cons (pv 1) pa_nil)) (by rfl))
      (pss_cons (ps_while PassesOwn.never (pt_cmp (pc_le (pv 3) (pv 0))) (pss_one (ps_par (i := 2) (j := 3) (by rfl) sc_L_figures.nd rfl rfl (by decide) rfl rfl (pa_cons (pe_op op_add (pv 2) pe_int) (pa_cons (pe_op op_mul (pv 3) (pv 1)) pa_nil)) (by rfl))))
      (pss_one (ps_ret (pv 2))))), ?_⟩
    refine ⟨_, rfl, _, _, rfl, ?_⟩
    refine ⟨fun m σ H2 => H2 = H ∧ ∃ (j : Nat), σ = [some (.int n), some (.int b), some (.int ((j : Int) + 1)), some (.int (b ^ (j + 1)))] ∧ (j = 0 ∨ b ^ j ≤ n) ∧ m = (n + 1 - b ^ (j + 1)).toNat,
      ⟨_, rfl, 0, by rw [pow_one b]; rfl, .inl rfl, rfl⟩, ?_⟩
    rintro m σ H2 ⟨rfl, j, rfl, hj, hm⟩
    have p1 := pow_pos (show 1 ≤ b by omega) (j + 1)
    refine ⟨_, rfl, _, rfl, _, _, rfl, rfl, _, rfl, ifd (fun c => ?_) (fun c => ?_)⟩
    · refine ⟨_, fun σ' H' h => h, ?_⟩
      have e8 := pow_lt hb (j + 1)
      refine ⟨_, rfl, _, _, rfl, rfl, _, rfl, _, rfl, _, _, rfl, rfl, .inr ⟨by omega, by omega⟩, _, _, rfl, ?_⟩
      refine ⟨_, ?_, rfl, j + 1, ?_, .inr c, rfl⟩
      · rw [hm]
        omega
      · show [some (V.int n), some (V.int b), some (V.int ((j : Int) + 1 + 1)), some (V.int (b ^ (j + 1) * b))] = _
        rw [← Int.pow_succ]
        have e : (j : Int) + 1 + 1 = ((j + 1 : Nat) : Int) + 1 := by omega
        rw [e]
    · exact ⟨_, rfl, k _ ⟨j, rfl, by omega, hj⟩⟩
end
section
variable {P : Program} {w : World} {K : PySem.W.Frag} {mg : Str → Option Value} {base : Heap}
theorem ok_L_wide (T : Tx w K mg) : Prom P w K mg base CX0 2 "_law_wide" s_L_wide ["_law_purse_here", "_law_many"] spWide := by
  refine Prom.of T.d_L_wide sc_L_wide (fun vs H Q E h => ?_) (fun _ _ _ _ _ _ us hl => match us, hl with | [_, _], _ => rfl) (fun f cdv A outer s H vs Q E hr h => ?_)
  · obtain ⟨p, n, rfl, _⟩ := h
    rfl
  · obtain ⟨p, n, rfl, hp, hn, k⟩ := h
    refine ⟨_, (pss_cons (ps_set (i := 2) sc_L_wide.nd rfl (Or.inl rfl) pe_int)
      (pss_cons (ps_for PassesOwn.never (by rfl) (pi_range1 (by rfl) T.b_range (pa_cons pe_int pa_nil)) (pg_name (i := 3) sc_L_wide.nd rfl (Or.inl rfl)) (pss_one (ps_set (i := 2) sc_L_wide.nd rfl (Or.inl rfl) (pe_op op_add (pe_op op_mul (pv 2) pe_int) (pe_callP (ok_L_take T) (hr.mono (by decide)) (by rfl) pass0 (pa_cons (pv 0) (pa_cons pe_int pa_nil)))))))
      (pss_one (ps_ret (pe_op op_mod (pe_callTy call_int1 (by rfl) T.b_int (by decide +kernel) (pa_cons (pv 2) pa_nil)) (pv 1)))))), ?_⟩
    refine ⟨12, rfl, by decide, by decide, for_range (lo := 0) (n := 12) (fun i σ H' => Drew p H H' ∧ ∃ m v, σ = [some (.ref p), some (.int n), some (.int m), v]) ⟨Drew.refl hp, 0, none, rfl⟩ ?_ ?_⟩
    · rintro i σ H' hi ⟨hd, m, v, rfl⟩
      refine ⟨_, rfl, _, _, rfl, rfl, .inr ⟨by decide, by decide⟩, ?_⟩
      refine ⟨_, rfl, p, _, rfl, hd.at_, by decide, by decide, fun r H2 r0 r1 d2 => ?_⟩
      exact ⟨_, _, rfl, rfl, hd.trans d2, _, _, rfl⟩
    · rintro σ H' ⟨hd, m, v, rfl⟩
      refine ⟨_, rfl, .inl ⟨_, rfl, _, rfl, _, _, rfl, rfl, hn, ?_⟩⟩
      exact k _ _ (Int.emod_nonneg _ (by omega)) (Int.emod_lt_of_pos _ hn) hd
end
section
variable {P : Program} {w : World} {K : PySem.W.Frag} {mg : Str → Option Value} {base : Heap}
/-- a length is drawn -/
def spFar : Sp := fun vs H Q _ => ∃ (p : Addr) (b c : Int), vs = [.ref p, .int b, .int c] ∧ PurseAt H p ∧ 2 ≤ b ∧ b ≤ 256 ∧ ∀ r H', 0 ≤ r → r ≤ 10 ^ 60 - 1 → Drew p H H' → Q (.int r) H'
theorem ok_L_far (T : Tx w K mg) : Prom P w K mg base CX0 3 "_law_far" s_L_far ["_law_purse_here", "_law_radix_here", "_law_extra_here"] spFar := by
  refine Prom.of T.d_L_far sc_L_far (fun vs H Q E h => ?_) (fun _ _ _ _ _ _ us hl => match us, hl with | [_, _, _], _ => rfl) (fun f cdv A outer s H vs Q E hr h => ?_)
  · obtain ⟨p, b, c, rfl, _⟩ := h
    rfl
  · obtain ⟨p, b, c, rfl, hp, hb, hb2, k⟩ := h
    refine ⟨_, (pss_cons (ps_set (i := 3) sc_L_far.nd rfl (Or.inl rfl) (pe_callP (ok_L_take T) (hr.mono (by decide)) (by rfl) pass0 (pa_cons (pv 0) (pa_cons pe_int pa_nil))))
      (pss_cons (ps_if (pt_cmp (pc_lt (pv 3) pe_int)) (pss_one (ps_ret (pe_callP (ok_L_take T) (hr.mono (by decide)) (by rfl) pass0 (pa_cons (pv 0) (pa_cons (pe_ix ix_list (pe_lst (pa_cons pe_int (pa_cons pe_int pa_nil))) (pv 3) (fun _ _ => rfl)) pa_nil))))) pss_nil)
      (pss_cons (ps_if (pt_cmp (pc_eqI (pv 3) pe_int)) (pss_one (ps_ret (pe_op op_sub (pe_op op_sub (pe_op op_pow pe_int pe_int) pe_int) (pe_callP (ok_L_take T) (hr.mono (by decide)) (by rfl) pass0 (pa_cons (pv 0) (pa_cons pe_int pa_nil)))))) pss_nil)
      (pss_cons (ps_if (pt_cmp (pc_eqI (pv 3) pe_int)) (pss_one (ps_ret (pe_callP (ok_L_wide T) (hr.mono (by decide)) (by rfl) pass0 (pa_cons (pv 0) (pa_cons (pe_op op_pow pe_int pe_int) pa_nil))))) pss_nil)
      (pss_cons (ps_par (i := 4) (j := 5) (by rfl) sc_L_far.nd rfl rfl (by decide) rfl rfl (pa_cons (pv 1) (pa_cons pe_int pa_nil)) (by rfl))
      (pss_cons (ps_for PassesOwn.never (by rfl) (pi_range1 (by rfl) T.b_range (pa_cons (pe_callP (ok_L_take T) (hr.mono (by decide)) (by rfl) pass0 (pa_cons (pv 0) (pa_cons (pe_callP (ok_L_figures T) (hr.mono (by decide)) (by rfl) pass0 (pa_cons (pe_op op_pow pe_int pe_int) (pa_cons (pv 1) pa_nil))) pa_nil))) pa_nil)) (pg_name (i := 6) sc_L_far.nd rfl (Or.inl rfl)) (pss_one (ps_par (i := 4) (j := 5) (by rfl) sc_L_far.nd rfl rfl (by decide) rfl rfl (pa_cons (pe_op op_mul (pv 4) (pv 1)) (pa_cons (pe_op op_add (pv 5) pe_int) pa_nil)) (by rfl))))
      (pss_cons (ps_set (i := 7) sc_L_far.nd rfl (Or.inl rfl) (pe_op op_sub (pe_op op_add (pv 4) (pe_callP (ok_L_take T) (hr.mono (by decide)) (by rfl) pass0 (pa_cons (pv 0) (pa_cons pe_int pa_nil)))) pe_int))
      (pss_one (ps_ret (pe_callB (call_max2 rfl) (by rfl) T.b_max (by decide +kernel) (pa_cons pe_int (pa_cons (pe_callB (call_min2 rfl) (by rfl) T.b_min (by decide +kernel) (pa_cons (pe_op op_sub (pe_op op_pow pe_int pe_int) pe_int) (pa_cons (pe_ifExp (pt_cmp (pc_eqI (pv 3) pe_int)) (pv 7) (pe_op op_sub (pe_op op_sub (pe_op op_sub (pv 7) (pv 2)) (pv 5)) pe_int)) pa_nil))) pa_nil)))))))))))), ?_⟩
    refine ⟨_, rfl, p, _, rfl, hp, by decide, by decide, fun r H2 r0 r1 d2 => ?_⟩
    refine ⟨_, rfl, _, _, rfl, rfl, _, rfl, ifd (fun c1 => ?_) (fun c1 => ?_)⟩
    · refine ⟨_, rfl, (by show 2 ≤ sizeLine; decide), fun q hq => ?_⟩
      have d3 : Drew p H (upd H2 q (.lst [.int 40, .int 5000])) := d2.new hq
      refine ⟨_, rfl, ?_⟩
      have r4 : r = 0 ∨ r = 1 := by omega
      rcases r4 with rfl | rfl
      · refine ⟨_, _, _, _, rfl, rfl, SqL.of upd_same, rfl, p, _, rfl, d3.at_, by decide, by decide, fun r' H3 r0' r1' d4 => ?_⟩
        exact k _ _ r0' (by omega) (d3.trans d4)
      · refine ⟨_, _, _, _, rfl, rfl, SqL.of upd_same, rfl, p, _, rfl, d3.at_, by decide, by decide, fun r' H3 r0' r1' d4 => ?_⟩
        exact k _ _ r0' (by omega) (d3.trans d4)
    · refine ⟨_, rfl, _, _, rfl, rfl, _, rfl, ifd (fun c2 => ?_) (fun c2 => ?_)⟩
      · refine ⟨_, _, rfl, rfl, ⟨by decide, by decide, by decide⟩, _, _, rfl, rfl, _, rfl, p, _, rfl, d2.at_, by decide, by decide, fun r' H3 r0' r1' d4 => ?_⟩
        refine ⟨_, _, rfl, rfl, k _ _ ?_ ?_ (d2.trans d4)⟩
        · show 0 ≤ 10 ^ (60 : Int).toNat - 1 - r'
          have e : (10 : Int) ^ (60 : Int).toNat = 10 ^ 60 := by decide
          omega
        · show 10 ^ (60 : Int).toNat - 1 - r' ≤ 10 ^ 60 - 1
          have e : (10 : Int) ^ (60 : Int).toNat = 10 ^ 60 := by decide
          omega
      · refine ⟨_, rfl, _, _, rfl, rfl, _, rfl, ifd (fun c3 => ?_) (fun c3 => ?_)⟩
        · refine ⟨_, rfl, _, _, rfl, rfl, ⟨by decide, by decide, by decide⟩, p, _, rfl, d2.at_, by decide, fun r' H3 r0' r1' d4 => ?_⟩
          have r1' : r' < 10 ^ (60 : Int).toNat := r1'
          have e : (10 : Int) ^ (60 : Int).toNat = 10 ^ 60 := by decide
          exact k _ _ r0' (by omega) (d2.trans d4)
        · refine ⟨_, rfl, _, _, rfl, ?_⟩
          refine ⟨_, rfl, _, _, rfl, rfl, ⟨by decide, by decide, by decide⟩, _, rfl, _, b, rfl, hb, hb2, fun z hz => ?_⟩
          have z0 := isF_pos hz
          have z1 := isF_bound hb 200 (show (10 : Int) ^ (60 : Int).toNat < 2 ^ 200 by decide) hz
          refine ⟨p, z, rfl, d2.at_, by omega, by omega, fun t H3 t0 t1 d4 => ?_⟩
          have d5 := d2.trans d4
          refine ⟨t, rfl, by omega, by omega, for_range (lo := 0) (n := t.toNat) (fun i σ H' => H' = H3 ∧ ∃ m v, σ = [some (.ref p), some (.int b), some (.int c), some (.int r), some (.int (b ^ (i + 1))), some (.int m), v, none]) ⟨rfl, 1, none, by rw [pow_one b]; rfl⟩ ?_ ?_⟩
          · rintro i σ H' hi ⟨rfl, m, v, rfl⟩
            refine ⟨_, rfl, _, rfl, _, _, rfl, rfl, .inr ⟨by omega, by omega⟩, _, rfl, _, _, rfl, rfl, _, _, rfl, ?_⟩
            exact ⟨rfl, _, _, by rw [Int.pow_succ b (i + 1)]; rfl⟩
          · rintro σ H' ⟨rfl, m, v, rfl⟩
            refine ⟨_, rfl, _, rfl, p, _, rfl, d5.at_, by decide, by decide, fun r' H4 r0' r1' d6 => ?_⟩
            refine ⟨_, _, rfl, rfl, _, _, rfl, rfl, ?_⟩
            have e : (10 : Int) ^ (60 : Int).toNat = 10 ^ 60 := by decide
            have fin : ∀ x : Int, Q (.int (if (if x < 10 ^ (60 : Int).toNat - 1 then x else 10 ^ (60 : Int).toNat - 1) > 0 then (if x < 10 ^ (60 : Int).toNat - 1 then x else 10 ^ (60 : Int).toNat - 1) else 0)) H4 := fun x => by
              refine k _ _ ?_ ?_ (d5.trans d6)
              · split <;> omega
              · rw [e]; split <;> split <;> omega
            refine ⟨_, _, rfl, rfl, ⟨by decide, by decide, by decide⟩, _, _, rfl, rfl, ?_⟩
            refine ⟨_, rfl, _, _, rfl, rfl, _, rfl, ifd (fun c4 => ?_) (fun c4 => ?_)⟩
            · exact ⟨_, rfl, _, _, rfl, _, _, rfl, fin _⟩
            · exact ⟨_, rfl, _, rfl, _, _, rfl, rfl, _, rfl, _, _, rfl, rfl, _, _, rfl, rfl, _, _, rfl, _, _, rfl, fin _⟩
end
section
variable {P : Program} {w : World} {K : PySem.W.Frag} {mg : Str → Option Value} {base : Heap}
def spConst : Sp := fun vs H Q _ => ∃ n : Int, vs = [.int n] ∧ 0 ≤ n ∧ n ≤ 1000 ∧ Q .non H
theorem ok_check_constant (T : Tx w K mg) : Prom P w K mg base CX0 3 "check_constant" s_check_constant ["value"] spConst := by
  refine Prom.of T.d_check_constant sc_check_constant (fun vs H Q E h => ?_) (fun _ _ _ _ _ _ us hl => match us, hl with | [_], _ => rfl) (fun f cdv A outer s H vs Q E hr h => ?_)
  · obtain ⟨i, rfl, _⟩ := h
    rfl
  · obtain ⟨i, rfl, h0, h1, k⟩ := h
    refine ⟨_, (pss_one (ps_if (pt_not (pt_val (pe_callP (ok_is_between T) (hr.mono (by decide)) (by rfl) pass0 (pa_cons (pv 0) (pa_cons pe_int (pa_cons (pe_gint T.c_MOST_CONSTANT) pa_nil)))))) (pss_one ps_never) pss_nil)), ?_⟩
    refine ⟨_, rfl, _, _, _, rfl, _, rfl, ?_⟩
    exact ifn (fun c => absurd (show (0 : Int) ≤ i ∧ i ≤ 1000 from ⟨h0, h1⟩) c) (fun _ => k)
end
section
variable {P : Program} {w : World} {K : PySem.W.Frag} {mg : Str → Option Value} {base : Heap}
def totL (b N s : Int) (two : Bool) : List Int := if two then [s, s + 1] else [s]
def spTotals : Sp := fun vs H Q _ => ∃ b c n : Int, vs = [.int b, .int c, .int n] ∧ 2 ≤ b ∧ b ≤ 256 ∧ 0 ≤ c ∧ c ≤ 1000 ∧ 0 ≤ n ∧ n ≤ 10 ^ 60 - 1 ∧
  ∀ s two p H', IsTot b (n + c) s → s ≤ n + c + 4000 → (two = true ↔ Tot b (n + c) (s + 1)) → H p = none → Same H H' → H' p = some (.tup ((totL b (n + c) s two).map V.int)) → Q (.ref p) H'
theorem ok_totals (T : Tx w K mg) : Prom P w K mg base CX0 4 "totals" s_totals ["base", "constant", "length"] spTotals := by
  refine Prom.of T.d_totals sc_totals (fun vs H Q E h => ?_) (fun _ _ _ _ _ _ us hl => match us, hl with | [_, _, _], _ => rfl) (fun f cdv A outer s H vs Q E hr h => ?_)
  · obtain ⟨b, c, n, rfl, _⟩ := h
    rfl
  · obtain ⟨b, c, n, rfl, b0, b1, c0, c1, n0, n1, k⟩ := h
    have big : ∀ x : Int, x ≤ n + c + 5000 → x < 2 ^ 3900 := fun x hx => by
      have : (10 : Int) ^ 60 + 7000 ≤ 2 ^ 3900 := by decide
      omega
    have big4 : ∀ x : Int, x ≤ n + c + 5000 → x < 2 ^ 4000 := fun x hx => Int.lt_trans (big x hx) (by decide)
    refine ⟨_, (pss_cons (ps_expr (pe_callP (ok_check_base T) (hr.mono (by decide)) (by rfl) pass0 (pa_cons (pv 0) pa_nil)))
      (pss_cons (ps_expr (pe_callP (ok_check_constant T) (hr.mono (by decide)) (by rfl) pass0 (pa_cons (pv 1) pa_nil)))
      (pss_cons (ps_expr (pe_callP (ok_check_length T) (hr.mono (by decide)) (by rfl) pass0 (pa_cons (pv 2) pa_nil)))
      (pss_cons (ps_set (i := 3) sc_totals.nd rfl (Or.inl rfl) (pe_callP (ok_total_of T) (hr.mono (by decide)) (by rfl) pass0 (pa_cons (pe_op op_add (pv 2) (pv 1)) (pa_cons (pv 0) pa_nil))))
      (pss_cons (ps_if (pt_cmp (pc_gt (pe_callP (ok_figures_of T) (hr.mono (by decide)) (by rfl) pass0 (pa_cons (pe_op op_add (pv 3) pe_int) (pa_cons (pv 0) pa_nil))) (pe_callP (ok_figures_of T) (hr.mono (by decide)) (by rfl) pass0 (pa_cons (pv 3) (pa_cons (pv 0) pa_nil))))) (pss_one (ps_ret (pe_tup (pa_cons (pv 3) (pa_cons (pe_op op_add (pv 3) pe_int) pa_nil))))) pss_nil)
      (pss_one (ps_ret (pe_tup (pa_cons (pv 3) pa_nil))))))))), ?_⟩
    refine ⟨_, rfl, b, rfl, b0, b1, _, rfl, c, rfl, c0, c1, _, rfl, n, rfl, n0, n1, ?_⟩
    refine ⟨_, rfl, _, rfl, _, _, rfl, rfl, _, rfl, n + c, b, rfl, b0, b1, by omega, big _ (by omega), fun s hs s1 => ?_⟩
    have s0 := isTot_pos hs.tot
    refine ⟨_, rfl, _, _, rfl, rfl, _, rfl, s + 1, b, rfl, b0, b1, big4 _ (by omega), fun g hg => ?_⟩
    refine ⟨_, rfl, _, rfl, s, b, rfl, b0, b1, big4 _ (by omega), fun h hh => ?_⟩
    have key := tot_two b0 hs.tot hh hg
    refine ⟨_, _, rfl, rfl, _, rfl, ifd (fun d => ?_) (fun d => ?_)⟩
    · refine ⟨_, rfl, _, rfl, _, _, rfl, rfl, (by show 2 ≤ sizeLine; decide), fun p hp => ?_⟩
      exact k s true p _ hs s1 (by simpa using key.mp d) hp (fun x o e => by rw [upd_ne (ne_of_none e hp)]; exact e) upd_same
    · refine ⟨_, rfl, (by show 1 ≤ sizeLine; decide), fun p hp => ?_⟩
      exact k s false p _ hs s1 (by simpa using fun z => d (key.mpr z)) hp (fun x o e => by rw [upd_ne (ne_of_none e hp)]; exact e) upd_same
end
/-! ### doubled of numbers, with TooLong -/
def spDblI (K : PySem.W.Frag) : Sp := fun vs H Q E => ∃ (b c : Int) (n j : Nat), vs = [.int b, .int c, .int (n : Int)] ∧ 2 ≤ b ∧ b ≤ 256 ∧ 0 ≤ c ∧ c ≤ 1000 ∧ IsJ b c j ∧ (10 ^ 60 ≤ dlen b c (j + n) → Fails K H E "TooLong" "limit" (.int (10 ^ 60))) ∧ (dlen b c (j + n) < 10 ^ 60 → Q (.int (dlen b c (j + n))) H)
section
variable {P : Program} {w : World} {K : PySem.W.Frag} {mg : Str → Option Value} {base : Heap}
theorem ok_doubled (T : Tx w K mg) : Prom P w K mg base (L2.CX P w) 4 "doubled" s_doubled ["base", "constant", "number"] (spDblI K) := by
  refine Prom.ofX T.d_doubled sc_doubled (fun vs H Q E h => ?_) (fun _ _ _ _ _ _ us hl => match us, hl with | [_, _, _], _ => rfl) (fun f cdv A outer s H vs Q E hr h => ?_)
  · obtain ⟨b, c, n, j, rfl, _⟩ := h
    rfl
  · obtain ⟨b, c, n, j0, rfl, b0, b1, c0, c1, hj, far, near⟩ := h
    refine ⟨_, (pss_cons (ps_expr (pe_callP (ok_check_base T) (hr.mono (by decide)) (by rfl) pass0 (pa_cons (pv 0) pa_nil)))
      (pss_cons (ps_expr (pe_callP (ok_check_constant T) (hr.mono (by decide)) (by rfl) pass0 (pa_cons (pv 1) pa_nil)))
      (pss_cons (ps_if (PW.pt (pw_or (pt_not (pt_val (pe_callP (ok_is_integer T) (hr.mono (by decide)) (by rfl) pass0 (pa_cons (pv 2) pa_nil)))) (pw_or1 (pt_cmp (pc_lt (pv 2) pe_int))))) (pss_one (ps_raiseE (ok_err_InvalidNumber T) (hr.mono (by decide)) (by rfl) (takes_of rfl rfl rfl rfl) (pv 2))) pss_nil)
      (pss_cons (ps_par3 (i := 3) (j := 4) (l := 5) (by rfl) sc_doubled.nd rfl rfl rfl (by decide) (by decide) (by decide) rfl rfl rfl (pa_cons (pv 2) (pa_cons pe_int (pa_cons (pv 0) pa_nil))) (by rfl))
      (pss_cons (ps_set (i := 6) sc_doubled.nd rfl (Or.inl rfl) (pe_op op_sub (pe_op op_sub (pe_op op_sub (pv 5) pe_int) (pv 4)) (pv 1)))
      (pss_cons (ps_while (passes_of rfl) (PW.pt (pw_or (pt_cmp (pc_lt (pv 6) pe_int)) (pw_or1 (pt_cmp (pc_gt (pv 3) pe_int))))) (pss_cons (ps_if (pt_cmp (pc_ge (pv 6) (pe_gint T.c_MOST_LENGTH))) (pss_one (ps_raiseE (ok_err_TooLong T) (hr.mono (by decide)) (by rfl) (takes_of rfl rfl rfl rfl) (pe_gint T.c_MOST_LENGTH))) pss_nil)
      (pss_cons (ps_aug (i := 3) sc_doubled.nd rfl (.inl rfl) (pe_ifExp (pt_cmp (pc_lt (pv 6) pe_int)) pe_int pe_int) ip_sub)
      (pss_cons (ps_par (i := 4) (j := 5) (by rfl) sc_doubled.nd rfl rfl (by decide) rfl rfl (pa_cons (pe_op op_add (pv 4) pe_int) (pa_cons (pe_op op_mul (pv 5) (pv 0)) pa_nil)) (by rfl))
      (pss_one (ps_set (i := 6) sc_doubled.nd rfl (Or.inl rfl) (pe_op op_sub (pe_op op_sub (pe_op op_sub (pv 5) pe_int) (pv 4)) (pv 1))))))))
      (pss_cons (ps_if (pt_cmp (pc_ge (pv 6) (pe_gint T.c_MOST_LENGTH))) (pss_one (ps_raiseE (ok_err_TooLong T) (hr.mono (by decide)) (by rfl) (takes_of rfl rfl rfl rfl) (pe_gint T.c_MOST_LENGTH))) pss_nil)
      (pss_one (ps_ret (pv 6)))))))))), ?_⟩
    refine ⟨_, rfl, b, rfl, b0, b1, _, rfl, c, rfl, c0, c1, ?_⟩
    refine ⟨_, rfl, _, rfl, _, rfl, iteF ⟨_, rfl, _, _, rfl, rfl, _, rfl, ifd_neg (by omega) ?_⟩⟩
    refine ⟨_, rfl, _, rfl, _, _, _, rfl, ?_⟩
    refine ⟨_, rfl, _, _, rfl, rfl, _, rfl, _, _, rfl, rfl, _, rfl, _, _, rfl, rfl, ?_⟩
    have hpos := hj.pos
    -- the word of the loop: j figures, what is left
    refine ⟨fun m σ H1 => H1 = H ∧ ∃ j : Nat, 1 ≤ j ∧ j ≤ j0 + n ∧ σ = [some (.int b), some (.int c), some (.int (n : Int)), some (.int ((n : Int) - ((j - j0 : Nat) : Int))), some (.int (j : Int)), some (.int (b ^ j)), some (.int (dlen b c j))] ∧ m = j0 + n - j,
      ⟨_, rfl, 1, Nat.le_refl 1, by omega, ?_, rfl⟩, ?_⟩
    · have e1 : (1 - j0 : Nat) = 0 := by omega
      have e2 : b ^ 1 = b := pow_one b
      unfold dlen
      rw [e1, e2]
      have e3 : (n : Int) - ((0 : Nat) : Int) = (n : Int) := by omega
      rw [e3]
      rfl
    rintro m σ H1 ⟨rfl, j, j1, j2, rfl, hm⟩
    have stop : 10 ^ 60 ≤ dlen b c j → Fails K H1 E "TooLong" "limit" (.int (10 ^ 60)) := fun z => far (Int.le_trans z (dlen_mono b0 j1 j2))
    have hi := isJ_iff b0 hj j1
    -- one turn more
    have turn : ∀ z : Int, j < j0 + n → (n : Int) - ((j - j0 : Nat) : Int) - z = (n : Int) - ((j + 1 - j0 : Nat) : Int) →
        ∃ m', m' < m ∧ H1 = H1 ∧ ∃ i : Nat, 1 ≤ i ∧ i ≤ j0 + n ∧ [some (V.int b), some (V.int c), some (V.int (n : Int)), some (V.int ((n : Int) - ((j - j0 : Nat) : Int) - z)), some (V.int ((j : Int) + 1)), some (V.int (b ^ j * b)), some (V.int (b ^ j * b - 1 - ((j : Int) + 1) - c))] = [some (.int b), some (.int c), some (.int (n : Int)), some (.int ((n : Int) - ((i - j0 : Nat) : Int))), some (.int (i : Int)), some (.int (b ^ i)), some (.int (dlen b c i))] ∧ m' = j0 + n - i := fun z hz ez => by
      refine ⟨_, ?_, rfl, j + 1, by omega, by omega, ?_, rfl⟩
      · omega
      · unfold dlen
        rw [ez, Int.pow_succ]
        rfl
    refine ⟨_, rfl, _, _, rfl, rfl, _, rfl, ifd (fun h1 => iteT ?_) (fun h1 => ?_)⟩
    · -- length < 0
      have hjj : j < j0 := by
        by_cases z : j0 ≤ j
        · have := hi.mpr z
          omega
        · omega
      refine ⟨_, fun _ _ h => h, ?_⟩
      refine ⟨_, rfl, _, _, rfl, rfl, _, rfl, ifd_neg (by show ¬ _ ≤ dlen b c j; omega) ?_⟩
      refine ⟨_, rfl, _, rfl, _, _, rfl, rfl, _, rfl, ifd_pos h1 ?_⟩
      refine ⟨_, _, rfl, rfl, ?_⟩
      refine ⟨_, rfl, _, _, rfl, rfl, _, rfl, _, rfl, _, _, rfl, rfl, .inr ⟨by omega, by omega⟩, _, _, rfl, ?_⟩
      refine ⟨_, rfl, _, _, rfl, rfl, _, rfl, _, _, rfl, rfl, _, rfl, _, _, rfl, rfl, ?_⟩
      exact turn 0 (by omega) (by omega)
    · have hjj : j0 ≤ j := hi.mp (by omega)
      refine ⟨_, rfl, _, _, rfl, rfl, _, rfl, ifd (fun h2 => ?_) (fun h2 => ?_)⟩
      · refine ⟨_, fun _ _ h => h, ?_⟩
        refine ⟨_, rfl, _, _, rfl, rfl, _, rfl, ifd (fun z => stop z) (fun z => ?_)⟩
        refine ⟨_, rfl, _, rfl, _, _, rfl, rfl, _, rfl, ifd_neg h1 ?_⟩
        refine ⟨_, _, rfl, rfl, ?_⟩
        refine ⟨_, rfl, _, _, rfl, rfl, _, rfl, _, rfl, _, _, rfl, rfl, .inr ⟨by omega, by omega⟩, _, _, rfl, ?_⟩
        refine ⟨_, rfl, _, _, rfl, rfl, _, rfl, _, _, rfl, rfl, _, rfl, _, _, rfl, rfl, ?_⟩
        exact turn 1 (by omega) (by omega)
      · refine ⟨_, rfl, _, _, rfl, rfl, _, rfl, ifd (fun z => stop z) (fun z => ?_)⟩
        have z : ¬ 10 ^ 60 ≤ dlen b c j := z
        have e : j = j0 + n := by omega
        subst e
        exact ⟨_, rfl, near (by omega)⟩
end
/-! ### what is read stays read -/
theorem sqL_same {K : PySem.W.Frag} {H H' : Hp} {a : Addr} {xs : List V} (s : Same H H') (h : SqL K H a xs) : SqL K H' a xs := by
  rcases h with (h | ⟨o, h⟩) | h
  · exact .inl (.inl (s _ _ h))
  · exact .inl (.inr ⟨o, s _ _ h⟩)
  · exact .inr h
theorem sqT_same {K : PySem.W.Frag} {H H' : Hp} {a : Addr} {xs : List V} (s : Same H H') (h : SqT K H a xs) : SqT K H' a xs := by
  rcases h with (h | ⟨o, h⟩) | h
  · exact .inl (.inl (s _ _ h))
  · exact .inl (.inr ⟨o, s _ _ h⟩)
  · exact .inr h
mutual
theorem Dp.same {K : PySem.W.Frag} {H H' : Hp} (s : Same H H') : ∀ {v : V} {d : PyData}, Dp K H v d → Dp K H' v d
  | _, _, .non => .non
  | _, _, .bl b => .bl b
  | _, _, .int i => .int i
  | _, _, .str x => .str x
  | _, _, .lst h g => .lst (sqL_same s h) (DpAll.same s g)
  | _, _, .tup h g => .tup (sqT_same s h) (DpAll.same s g)
theorem DpAll.same {K : PySem.W.Frag} {H H' : Hp} (s : Same H H') : ∀ {xs : List V} {ds : List PyData}, DpAll K H xs ds → DpAll K H' xs ds
  | _, _, .nil => .nil
  | _, _, .cons h g => .cons (Dp.same s h) (DpAll.same s g)
end
theorem Shw.same {K : PySem.W.Frag} {H H' : Hp} {v : V} {z : Str} (s : Same H H') (h : Shw K H v z) : Shw K H' v z := by
  cases h with
  | flat h => exact .flat h
  | str h => exact .str h
  | dat h h1 h2 h3 h4 => exact .dat (Dp.same s h) h1 h2 h3 h4
  | edict h => exact .edict (s _ _ h)
/-! ### the word and the field of an error -/
def ef (i : Nat) : Str := if i < 9 then "value" else if i < 13 then "index" else "limit"
def spErrP (K : PySem.W.Frag) : Addr × Obj → Sp := fun p vs H Q _ => ∃ (i : Nat) (z : Str), i < 19 ∧ vs = [.ref p.1] ∧ p.2.cls = .ref (He.ga K (ew i)) ∧ (∃ vs', p.2.data = .fields vs') ∧
  ((eb i = 1 ∧ p.2.dict = none ∧ z = Str.empty) ∨ (eb i ≠ 1 ∧ ∃ (d : Addr) (v : V), p.2.dict = some d ∧ H d = some (.xd [(ef i, v)]) ∧ Shw K H v z)) ∧ ∀ t H', Same H H' → H' t = some (.tup [.str (ew i), .str z]) → Q (.ref t) H'
def fitsL (i : Nat) : List V := (List.range 19).map fun j => V.bl (decide (i = j))
theorem fits_cnt : ∀ i : Fin 19, ((fitsL i.val).countP fun z => eqV z (.bl true)) = 1 := by decide +kernel
theorem fits_at : ∀ i : Fin 19, (fitsL i.val)[i.val]? = some (.bl true) := by decide +kernel
theorem fits_no : ∀ i : Fin 19, ∀ m : Fin 19, m.val < i.val → (fitsL i.val)[m.val]? = some (.bl false) := by decide +kernel
theorem fits_flat : ∀ i : Fin 19, (fitsL i.val).all flatV = true := by decide +kernel
theorem ew_at : ∀ i : Fin 19, ewords[i.val]? = some (ew i.val) := by decide +kernel
theorem isP_go {K : PySem.W.Frag} {a : Addr} {oe : Obj} {H : Hp} {Q : VK} {D C : Addr} {b : Bool} (hc : oe.cls = .ref D) (T : ExcC K D) (hv : ∃ vs, oe.data = .fields vs) (hd : oe.dict = none ∨ ∃ (d : Addr) (fs : List (Str × V)), oe.dict = some d ∧ H d = some (.xd fs)) (e : PySem.W.kitOne K (.ref D) (.ref C) = some b) (k : Q (.bl b) H) :
    rIsP K a oe [.ref a, .ref C] H Q := ⟨.ref C, .ref C, D, b, rfl, fun u r => r, hc, T, hv, hd, e, k⟩
theorem isP_ty {K : PySem.W.Frag} {a : Addr} {oe : Obj} {H : Hp} {Q : VK} {D : Addr} {c : String} {b : Bool} (hc : oe.cls = .ref D) (T : ExcC K D) (hv : ∃ vs, oe.data = .fields vs) (hd : oe.dict = none ∨ ∃ (d : Addr) (fs : List (Str × V)), oe.dict = some d ∧ H d = some (.xd fs)) (e : PySem.W.kitOne K (.ref D) (.type c) = some b) (k : Q (.bl b) H) :
    rIsP K a oe [.ref a, .ty c] H Q := ⟨.ty c, .type c, D, b, rfl, fun u r => r, hc, T, hv, hd, e, k⟩
theorem eqv3 {x y z x' y' z' : Bool} (h1 : x = x') (h2 : y = y') (h3 : z = z') : V.bl (!PyData.eqv (.list [.bool x, .bool y, .bool z]) (.list [.bool x', .bool y', .bool z'])) = V.bl false := by
  subst h1 h2 h3
  cases x <;> cases y <;> cases z <;> rfl
section
variable {P : Program} {w : World} {K : PySem.W.Frag} {mg : Str → Option Value} {base : Heap}
theorem ok_L_error (T : Tx w K mg) : PromP P w K mg base 1 "_law_error" s_L_error ["_law_e"] (spErrP K) := by
  refine PromP.of T.d_L_error sc_L_error (fun p vs H Q E h => ?_) (fun _ _ _ _ _ _ us hl => match us, hl with | [_], _ => rfl) (fun f cdv A outer s H vs Q E p hr hgd h => ?_)
  · obtain ⟨i, z, _, rfl, _⟩ := h
    rfl
  · obtain ⟨i, z, hi, rfl, hc, hv, hz, k⟩ := h
    have hun : (A.deeper (envOfC "_law_error" (defScope s_L_error) s.heap.objs.size f cdv)).units + 64 < cLine := by have := hr.un; omega
    refine ⟨_, (pss_cons (ps_set (i := 1) sc_L_error.nd rfl (Or.inl rfl) (pe_lst (pa_cons pe_str (pa_cons pe_str (pa_cons pe_str (pa_cons pe_str (pa_cons pe_str (pa_cons pe_str (pa_cons pe_str pa_nil)))))))))
      (pss_cons (ps_set (i := 1) sc_L_error.nd rfl (Or.inl rfl) (pe_op op_cat (pv 1) (pe_lst (pa_cons pe_str (pa_cons pe_str (pa_cons pe_str (pa_cons pe_str (pa_cons pe_str (pa_cons pe_str pa_nil)))))))))
      (pss_cons (ps_set (i := 1) sc_L_error.nd rfl (Or.inl rfl) (pe_op op_cat (pv 1) (pe_lst (pa_cons pe_str (pa_cons pe_str (pa_cons pe_str (pa_cons pe_str (pa_cons pe_str (pa_cons pe_str pa_nil)))))))))
      (pss_cons (ps_set (i := 2) sc_L_error.nd rfl (Or.inl rfl) (pe_lst (pa_cons (pe_callB (call_isP (a := p.1) (oe := p.2) (List.mem_cons_self ..)) (by rfl) T.b_isinstance (by decide +kernel) (pa_cons (pv 0) (pa_cons (pe_glob (v := .ref _) (by rfl) T.k_NotAWrap rfl) pa_nil))) (pa_cons (pe_callB (call_isP (a := p.1) (oe := p.2) (List.mem_cons_self ..)) (by rfl) T.b_isinstance (by decide +kernel) (pa_cons (pv 0) (pa_cons (pe_glob (v := .ref _) (by rfl) T.k_NotAStack rfl) pa_nil))) (pa_cons (pe_callB (call_isP (a := p.1) (oe := p.2) (List.mem_cons_self ..)) (by rfl) T.b_isinstance (by decide +kernel) (pa_cons (pv 0) (pa_cons (pe_glob (v := .ref _) (by rfl) T.k_NotARoad rfl) pa_nil))) (pa_cons (pe_callB (call_isP (a := p.1) (oe := p.2) (List.mem_cons_self ..)) (by rfl) T.b_isinstance (by decide +kernel) (pa_cons (pv 0) (pa_cons (pe_glob (v := .ref _) (by rfl) T.k_InvalidKind rfl) pa_nil))) pa_nil))))))
      (pss_cons (ps_set (i := 2) sc_L_error.nd rfl (Or.inl rfl) (pe_op op_cat (pv 2) (pe_lst (pa_cons (pe_callB (call_isP (a := p.1) (oe := p.2) (List.mem_cons_self ..)) (by rfl) T.b_isinstance (by decide +kernel) (pa_cons (pv 0) (pa_cons (pe_glob (v := .ref _) (by rfl) T.k_InvalidBase rfl) pa_nil))) (pa_cons (pe_callB (call_isP (a := p.1) (oe := p.2) (List.mem_cons_self ..)) (by rfl) T.b_isinstance (by decide +kernel) (pa_cons (pv 0) (pa_cons (pe_glob (v := .ref _) (by rfl) T.k_InvalidLength rfl) pa_nil))) (pa_cons (pe_callB (call_isP (a := p.1) (oe := p.2) (List.mem_cons_self ..)) (by rfl) T.b_isinstance (by decide +kernel) (pa_cons (pv 0) (pa_cons (pe_glob (v := .ref _) (by rfl) T.k_InvalidNumber rfl) pa_nil))) pa_nil))))))
      (pss_cons (ps_set (i := 2) sc_L_error.nd rfl (Or.inl rfl) (pe_op op_cat (pv 2) (pe_lst (pa_cons (pe_callB (call_isP (a := p.1) (oe := p.2) (List.mem_cons_self ..)) (by rfl) T.b_isinstance (by decide +kernel) (pa_cons (pv 0) (pa_cons (pe_glob (v := .ref _) (by rfl) T.k_InvalidText rfl) pa_nil))) (pa_cons (pe_callB (call_isP (a := p.1) (oe := p.2) (List.mem_cons_self ..)) (by rfl) T.b_isinstance (by decide +kernel) (pa_cons (pv 0) (pa_cons (pe_glob (v := .ref _) (by rfl) T.k_InvalidRow rfl) pa_nil))) (pa_cons (pe_callB (call_isP (a := p.1) (oe := p.2) (List.mem_cons_self ..)) (by rfl) T.b_isinstance (by decide +kernel) (pa_cons (pv 0) (pa_cons (pe_glob (v := .ref _) (by rfl) T.k_InvalidNumbers rfl) pa_nil))) pa_nil))))))
      (pss_cons (ps_set (i := 2) sc_L_error.nd rfl (Or.inl rfl) (pe_op op_cat (pv 2) (pe_lst (pa_cons (pe_callB (call_isP (a := p.1) (oe := p.2) (List.mem_cons_self ..)) (by rfl) T.b_isinstance (by decide +kernel) (pa_cons (pv 0) (pa_cons (pe_glob (v := .ref _) (by rfl) T.k_InvalidWraps rfl) pa_nil))) (pa_cons (pe_callB (call_isP (a := p.1) (oe := p.2) (List.mem_cons_self ..)) (by rfl) T.b_isinstance (by decide +kernel) (pa_cons (pv 0) (pa_cons (pe_glob (v := .ref _) (by rfl) T.k_InvalidSeen rfl) pa_nil))) (pa_cons (pe_callB (call_isP (a := p.1) (oe := p.2) (List.mem_cons_self ..)) (by rfl) T.b_isinstance (by decide +kernel) (pa_cons (pv 0) (pa_cons (pe_glob (v := .ref _) (by rfl) T.k_InvalidDeeds rfl) pa_nil))) pa_nil))))))
      (pss_cons (ps_set (i := 2) sc_L_error.nd rfl (Or.inl rfl) (pe_op op_cat (pv 2) (pe_lst (pa_cons (pe_callB (call_isP (a := p.1) (oe := p.2) (List.mem_cons_self ..)) (by rfl) T.b_isinstance (by decide +kernel) (pa_cons (pv 0) (pa_cons (pe_glob (v := .ref _) (by rfl) T.k_NothingToPop rfl) pa_nil))) (pa_cons (pe_callB (call_isP (a := p.1) (oe := p.2) (List.mem_cons_self ..)) (by rfl) T.b_isinstance (by decide +kernel) (pa_cons (pv 0) (pa_cons (pe_glob (v := .ref _) (by rfl) T.k_NothingToUndo rfl) pa_nil))) (pa_cons (pe_callB (call_isP (a := p.1) (oe := p.2) (List.mem_cons_self ..)) (by rfl) T.b_isinstance (by decide +kernel) (pa_cons (pv 0) (pa_cons (pe_glob (v := .ref _) (by rfl) T.k_Busy rfl) pa_nil))) pa_nil))))))
      (pss_cons (ps_set (i := 2) sc_L_error.nd rfl (Or.inl rfl) (pe_op op_cat (pv 2) (pe_lst (pa_cons (pe_callB (call_isP (a := p.1) (oe := p.2) (List.mem_cons_self ..)) (by rfl) T.b_isinstance (by decide +kernel) (pa_cons (pv 0) (pa_cons (pe_glob (v := .ref _) (by rfl) T.k_TooFine rfl) pa_nil))) (pa_cons (pe_callB (call_isP (a := p.1) (oe := p.2) (List.mem_cons_self ..)) (by rfl) T.b_isinstance (by decide +kernel) (pa_cons (pv 0) (pa_cons (pe_glob (v := .ref _) (by rfl) T.k_TooManyWraps rfl) pa_nil))) (pa_cons (pe_callB (call_isP (a := p.1) (oe := p.2) (List.mem_cons_self ..)) (by rfl) T.b_isinstance (by decide +kernel) (pa_cons (pv 0) (pa_cons (pe_glob (v := .ref _) (by rfl) T.k_TooLong rfl) pa_nil))) pa_nil))))))
      (pss_cons (ps_set (i := 3) sc_L_error.nd rfl (Or.inl rfl) (pe_lst (pa_cons (pe_callB (call_isP (a := p.1) (oe := p.2) (List.mem_cons_self ..)) (by rfl) T.b_isinstance (by decide +kernel) (pa_cons (pv 0) (pa_cons (pe_glob (v := .ref _) (by rfl) T.k_Misfit rfl) pa_nil))) (pa_cons (pe_callB (call_isP (a := p.1) (oe := p.2) (List.mem_cons_self ..)) (by rfl) T.b_isinstance (by decide +kernel) (pa_cons (pv 0) (pa_cons (pe_glob (v := .ref _) (by rfl) T.k_Untimely rfl) pa_nil))) (pa_cons (pe_callB (call_isP (a := p.1) (oe := p.2) (List.mem_cons_self ..)) (by rfl) T.b_isinstance (by decide +kernel) (pa_cons (pv 0) (pa_cons (pe_glob (v := .ref _) (by rfl) T.k_Excess rfl) pa_nil))) pa_nil)))))
      (pss_cons (ps_set (i := 4) sc_L_error.nd rfl (Or.inl rfl) (pe_lst (pa_cons (pe_callB (call_isP (a := p.1) (oe := p.2) (List.mem_cons_self ..)) (by rfl) T.b_isinstance (by decide +kernel) (pa_cons (pv 0) (pa_cons (pe_bltn (v := .ty "ValueError") (by rfl) T.b_ValueError (by decide +kernel) rfl) pa_nil))) (pa_cons (pe_callB (call_isP (a := p.1) (oe := p.2) (List.mem_cons_self ..)) (by rfl) T.b_isinstance (by decide +kernel) (pa_cons (pv 0) (pa_cons (pe_bltn (v := .ty "LookupError") (by rfl) T.b_LookupError (by decide +kernel) rfl) pa_nil))) (pa_cons (pe_callB (call_isP (a := p.1) (oe := p.2) (List.mem_cons_self ..)) (by rfl) T.b_isinstance (by decide +kernel) (pa_cons (pv 0) (pa_cons (pe_bltn (v := .ty "ArithmeticError") (by rfl) T.b_ArithmeticError (by decide +kernel) rfl) pa_nil))) pa_nil)))))
      (pss_cons (ps_set (i := 5) sc_L_error.nd rfl (Or.inl rfl) (pe_ifExp (pt_cmp (pc_eqI (pe_bm PySem.F.plainAttrs_list PySem.F.slot_list_count PySem.F.type_list_count mt_countF (pv 2) (pa_cons pe_bl pa_nil)) pe_int)) (pe_bm PySem.F.plainAttrs_list PySem.F.slot_list_index PySem.F.type_list_index mt_index (pv 2) (pa_cons pe_bl pa_nil)) pe_int))
      (pss_cons (ps_if (PW.pt (pw_or (pt_cmpR (op_neD hun) (pv 3) (pv 4) (nomark _)) (pw_or1 (pt_cmpR (op_neD hun) (pv 3) (pe_lst (pa_cons (pe_cmp (pc_lt (pv 5) pe_int)) (pa_cons (pe_chain op_lt op_lt pe_int (pv 5) pe_int) (pa_cons (pe_chain op_lt op_lt pe_int (pv 5) pe_int) pa_nil)))) (nomark _))))) (pss_one (ps_ret (pe_tup (pa_cons pe_str (pa_cons pe_str pa_nil))))) pss_nil)
      (pss_cons (ps_if (pt_cmp (pc_lt (pv 5) pe_int)) (pss_one (ps_ret (pe_tup (pa_cons (pe_ix ix_list (pv 1) (pv 5) (fun _ _ => rfl)) (pa_cons (pe_callB (cr_reprW hgd hun) (by rfl) T.b_repr (by decide +kernel) (pa_cons (pe_xfP (a := p.1) (oe := p.2) (List.mem_cons_self ..) (pv 0)) pa_nil)) pa_nil))))) pss_nil)
      (pss_cons (ps_if (pt_cmp (pc_lt (pv 5) pe_int)) (pss_one (ps_ret (pe_tup (pa_cons (pe_ix ix_list (pv 1) (pv 5) (fun _ _ => rfl)) (pa_cons (pe_callB (cr_reprW hgd hun) (by rfl) T.b_repr (by decide +kernel) (pa_cons (pe_xfP (a := p.1) (oe := p.2) (List.mem_cons_self ..) (pv 0)) pa_nil)) pa_nil))))) pss_nil)
      (pss_one (ps_ret (pe_ifExp (pt_cmp (pc_lt (pv 5) pe_int)) (pe_tup (pa_cons (pe_ix ix_list (pv 1) (pv 5) (fun _ _ => rfl)) (pa_cons pe_str pa_nil))) (pe_tup (pa_cons (pe_ix ix_list (pv 1) (pv 5) (fun _ _ => rfl)) (pa_cons (pe_callB (cr_reprW hgd hun) (by rfl) T.b_repr (by decide +kernel) (pa_cons (pe_xfP (a := p.1) (oe := p.2) (List.mem_cons_self ..) (pv 0)) pa_nil)) pa_nil))))))))))))))))))))), ?_⟩
    have ex := T.et.exc i hi
    have hd0 : ∀ {G : Hp}, Same H G → (p.2.dict = none ∨ ∃ (d : Addr) (fs : List (Str × V)), p.2.dict = some d ∧ G d = some (.xd fs)) := fun s => by
      rcases hz with ⟨_, z, _⟩ | ⟨_, d, v, z, hd, _⟩
      · exact .inl z
      · exact .inr ⟨d, _, z, s _ _ hd⟩
    refine ⟨(by show 7 ≤ sizeLine; decide), fun w1 h1 => gn (hp_new h1 fun G1 s1 g1 => ?_)⟩
    refine ⟨_, rfl, (by show 6 ≤ sizeLine; decide), fun v2 h2 => ⟨_, v2, _, _, rfl, rfl, up h2 _ _ g1, upd_same, (by show 13 ≤ sizeLine; decide), fun w2 h3 => gn (hp_new2 h2 h3 fun G2 s2 g2 => ?_)⟩⟩
    refine ⟨_, rfl, (by show 6 ≤ sizeLine; decide), fun v2 h2 => ⟨_, v2, _, _, rfl, rfl, up h2 _ _ g2, upd_same, (by show 19 ≤ sizeLine; decide), fun w3 h3 => gn (hp_new2 h2 h3 fun G3 s3 g3 => ?_)⟩⟩
    have S3 : Same H G3 := fun _ _ e => s3 _ _ (s2 _ _ (s1 _ _ e))
    have g3 : G3 w3 = some (.lst (ewords.map V.str)) := g3
    refine st_eq [some (.ref p.1), some (.ref w3), none, none, none, none] rfl ?_
    clear g1 g2 s1 s2 s3
    refine ⟨_, rfl, _, _, _, _, rfl, fun _ r => r, hc, ex, hv, hd0 S3, T.et.kit i hi 0 (by decide), ⟨_, rfl, _, _, _, _, rfl, fun _ r => r, hc, ex, hv, hd0 S3, T.et.kit i hi 1 (by decide), ⟨_, rfl, _, _, _, _, rfl, fun _ r => r, hc, ex, hv, hd0 S3, T.et.kit i hi 2 (by decide), ⟨_, rfl, _, _, _, _, rfl, fun _ r => r, hc, ex, hv, hd0 S3, T.et.kit i hi 3 (by decide), ⟨(by show 4 ≤ sizeLine; decide), fun f0 h1 => gn (hp_new h1 fun F0 t0 y0 => ?_)⟩⟩⟩⟩⟩
    have U0 : Same H F0 := fun _ _ e => t0 _ _ (S3 _ _ e)
    refine st_eq [some (.ref p.1), some (.ref w3), some (.ref f0), none, none, none] rfl ?_
    refine ⟨_, rfl, ⟨_, rfl, _, _, _, _, rfl, fun _ r => r, hc, ex, hv, hd0 U0, T.et.kit i hi 4 (by decide), ⟨_, rfl, _, _, _, _, rfl, fun _ r => r, hc, ex, hv, hd0 U0, T.et.kit i hi 5 (by decide), ⟨_, rfl, _, _, _, _, rfl, fun _ r => r, hc, ex, hv, hd0 U0, T.et.kit i hi 6 (by decide), ⟨(by show 3 ≤ sizeLine; decide), fun v2 h2 => ⟨_, v2, _, _, rfl, rfl, up h2 _ _ y0, upd_same, (by show 7 ≤ sizeLine; decide), fun f1 h3 => gn (hp_new2 h2 h3 fun F1 t1 y1 => ?_)⟩⟩⟩⟩⟩⟩
    have U1 : Same H F1 := fun _ _ e => t1 _ _ (U0 _ _ e)
    refine st_eq [some (.ref p.1), some (.ref w3), some (.ref f1), none, none, none] rfl ?_
    refine ⟨_, rfl, ⟨_, rfl, _, _, _, _, rfl, fun _ r => r, hc, ex, hv, hd0 U1, T.et.kit i hi 7 (by decide), ⟨_, rfl, _, _, _, _, rfl, fun _ r => r, hc, ex, hv, hd0 U1, T.et.kit i hi 8 (by decide), ⟨_, rfl, _, _, _, _, rfl, fun _ r => r, hc, ex, hv, hd0 U1, T.et.kit i hi 9 (by decide), ⟨(by show 3 ≤ sizeLine; decide), fun v2 h2 => ⟨_, v2, _, _, rfl, rfl, up h2 _ _ y1, upd_same, (by show 10 ≤ sizeLine; decide), fun f2 h3 => gn (hp_new2 h2 h3 fun F2 t2 y2 => ?_)⟩⟩⟩⟩⟩⟩
    have U2 : Same H F2 := fun _ _ e => t2 _ _ (U1 _ _ e)
    refine st_eq [some (.ref p.1), some (.ref w3), some (.ref f2), none, none, none] rfl ?_
    refine ⟨_, rfl, ⟨_, rfl, _, _, _, _, rfl, fun _ r => r, hc, ex, hv, hd0 U2, T.et.kit i hi 10 (by decide), ⟨_, rfl, _, _, _, _, rfl, fun _ r => r, hc, ex, hv, hd0 U2, T.et.kit i hi 11 (by decide), ⟨_, rfl, _, _, _, _, rfl, fun _ r => r, hc, ex, hv, hd0 U2, T.et.kit i hi 12 (by decide), ⟨(by show 3 ≤ sizeLine; decide), fun v2 h2 => ⟨_, v2, _, _, rfl, rfl, up h2 _ _ y2, upd_same, (by show 13 ≤ sizeLine; decide), fun f3 h3 => gn (hp_new2 h2 h3 fun F3 t3 y3 => ?_)⟩⟩⟩⟩⟩⟩
    have U3 : Same H F3 := fun _ _ e => t3 _ _ (U2 _ _ e)
    refine st_eq [some (.ref p.1), some (.ref w3), some (.ref f3), none, none, none] rfl ?_
    refine ⟨_, rfl, ⟨_, rfl, _, _, _, _, rfl, fun _ r => r, hc, ex, hv, hd0 U3, T.et.kit i hi 13 (by decide), ⟨_, rfl, _, _, _, _, rfl, fun _ r => r, hc, ex, hv, hd0 U3, T.et.kit i hi 14 (by decide), ⟨_, rfl, _, _, _, _, rfl, fun _ r => r, hc, ex, hv, hd0 U3, T.et.kit i hi 15 (by decide), ⟨(by show 3 ≤ sizeLine; decide), fun v2 h2 => ⟨_, v2, _, _, rfl, rfl, up h2 _ _ y3, upd_same, (by show 16 ≤ sizeLine; decide), fun f4 h3 => gn (hp_new2 h2 h3 fun F4 t4 y4 => ?_)⟩⟩⟩⟩⟩⟩
    have U4 : Same H F4 := fun _ _ e => t4 _ _ (U3 _ _ e)
    refine st_eq [some (.ref p.1), some (.ref w3), some (.ref f4), none, none, none] rfl ?_
    refine ⟨_, rfl, ⟨_, rfl, _, _, _, _, rfl, fun _ r => r, hc, ex, hv, hd0 U4, T.et.kit i hi 16 (by decide), ⟨_, rfl, _, _, _, _, rfl, fun _ r => r, hc, ex, hv, hd0 U4, T.et.kit i hi 17 (by decide), ⟨_, rfl, _, _, _, _, rfl, fun _ r => r, hc, ex, hv, hd0 U4, T.et.kit i hi 18 (by decide), ⟨(by show 3 ≤ sizeLine; decide), fun v2 h2 => ⟨_, v2, _, _, rfl, rfl, up h2 _ _ y4, upd_same, (by show 19 ≤ sizeLine; decide), fun f5 h3 => gn (hp_new2 h2 h3 fun F5 t5 y5 => ?_)⟩⟩⟩⟩⟩⟩
    have U5 : Same H F5 := fun _ _ e => t5 _ _ (U4 _ _ e)
    refine st_eq [some (.ref p.1), some (.ref w3), some (.ref f5), none, none, none] rfl ?_
    have y5 : F5 f5 = some (.lst (fitsL i)) := y5
    have m3 : F5 w3 = some (.lst (ewords.map V.str)) := t5 _ _ (t4 _ _ (t3 _ _ (t2 _ _ (t1 _ _ (t0 _ _ g3)))))
    clear y0 y1 y2 y3 y4 t0 t1 t2 t3 t4 t5 U0 U1 U2 U3 U4
    refine ⟨_, rfl, _, _, _, _, rfl, fun _ r => r, hc, ex, hv, hd0 U5, T.et.kb i hi 0 (by decide), ⟨_, rfl, _, _, _, _, rfl, fun _ r => r, hc, ex, hv, hd0 U5, T.et.kb i hi 1 (by decide), ⟨_, rfl, _, _, _, _, rfl, fun _ r => r, hc, ex, hv, hd0 U5, T.et.kb i hi 2 (by decide),
      ⟨(by show 3 ≤ sizeLine; decide), fun b1 h1 => gn (hp_new h1 fun B1 r1 q1 => ?_)⟩⟩⟩⟩
    have U6 : Same H B1 := fun _ _ e => r1 _ _ (U5 _ _ e)
    refine ⟨_, rfl, _, _, _, _, rfl, fun _ r => r, hc, ex, hv, hd0 U6, T.et.ko i hi 0 (by decide), ⟨_, rfl, _, _, _, _, rfl, fun _ r => r, hc, ex, hv, hd0 U6, T.et.ko i hi 1 (by decide), ⟨_, rfl, _, _, _, _, rfl, fun _ r => r, hc, ex, hv, hd0 U6, T.et.ko i hi 2 (by decide),
      ⟨(by show 3 ≤ sizeLine; decide), fun b2 h1 => gn (hp_new h1 fun B2 r2 q2 => ?_)⟩⟩⟩⟩
    have U7 : Same H B2 := fun _ _ e => r2 _ _ (U6 _ _ e)
    have q1 := r2 _ _ q1
    have y5 := r2 _ _ (r1 _ _ y5)
    have m3 := r2 _ _ (r1 _ _ m3)
    clear r1 r2 U5 U6 g3 S3
    refine st_eq [some (.ref p.1), some (.ref w3), some (.ref f5), some (.ref b1), some (.ref b2), none] rfl ?_
    have cnt : ((fitsL i).countP fun z => eqV z (.bl true)) = 1 := fits_cnt ⟨i, hi⟩
    have fat : (fitsL i)[i]? = some (.bl true) := fits_at ⟨i, hi⟩
    have ffl : (fitsL i).all flatV = true := fits_flat ⟨i, hi⟩
    have ewi : (ewords.map V.str)[i]? = some (.str (ew i)) := by rw [List.getElem?_map, ew_at ⟨i, hi⟩]; rfl
    have fno : ∀ (m : Nat) (z' : V), m < i → (fitsL i)[m]? = some z' → eqV z' (.bl true) = false := fun m z' hm e => by
      have z := fits_no ⟨i, hi⟩ ⟨m, by omega⟩ hm
      rw [z] at e
      cases e
      rfl
    refine ⟨_, rfl, .inl ⟨rfl, _, SqL.of y5⟩, f5, _, _, rfl, rfl, SqL.of y5, rfl, ffl, ?_⟩
    refine ⟨_, _, rfl, rfl, _, rfl, ifd_pos (by show (((fitsL i).countP fun z => eqV z (.bl true) : Nat) : Int) = 1; rw [cnt]; rfl) ?_⟩
    refine ⟨_, rfl, .inl ⟨rfl, _, SqL.of y5⟩, f5, _, _, i, .bl true, rfl, rfl, SqL.of y5, rfl, ffl, fat, rfl, fno, gn ?_⟩
    refine st_eq [some (.ref p.1), some (.ref w3), some (.ref f5), some (.ref b1), some (.ref b2), some (.int (i : Int))] rfl ?_
    clear cnt fat ffl fno y5
    have dl : ∀ {G : Hp} {b : Addr} {x y z : Bool}, G b = some (.lst [.bl x, .bl y, .bl z]) → Dp K G (.ref b) (.list [.bool x, .bool y, .bool z]) := fun h => .lst (SqL.of h) (.cons (.bl _) (.cons (.bl _) (.cons (.bl _) .nil)))
    have ev : ∀ x y z : Bool, PyData.eqv (.list [.bool x, .bool y, .bool z]) (.list [.bool x, .bool y, .bool z]) = true := fun x y z => by cases x <;> cases y <;> cases z <;> rfl
    refine ⟨_, rfl, _, rfl, _, _, dl q1, dl q2, rfl, rfl, false, by rw [ev]; rfl, iteF ?_⟩
    have c3 : i < 13 ∨ (12 < i ∧ i < 16) ∨ 15 < i := by omega
    have wd : ∀ {G : Hp}, Same B2 G → atI (ewords.map V.str) (i : Int) = some (.str (ew i)) ∧ SqL K G w3 (ewords.map V.str) := fun s => ⟨atI_nat ewi, SqL.of (s _ _ m3)⟩
    rcases c3 with c | c | c
    · have e0 : eb i = 0 := if_pos c
      refine ⟨_, rfl, _, rfl, _, _, rfl, rfl, _, rfl, _, _, rfl, rfl, _, rfl, ifd_neg (by show ¬ (12 : Int) < i; omega) ?_⟩
      refine ⟨_, rfl, _, _, rfl, rfl, _, rfl, ifd_neg (by show ¬ (15 : Int) < i; omega) ⟨(by show 3 ≤ sizeLine; decide), fun l hl => ?_⟩⟩
      refine ⟨_, _, dl (up hl _ _ q1), dl upd_same, rfl, rfl, false, eqv3 (by rw [e0]; exact (decide_eq_true (show (i : Int) < 13 by omega)).symm) (by rw [e0]; rfl) (by rw [e0]; rfl), iteF ?_⟩
      obtain ⟨d, v, z1, z2, z3⟩ : ∃ (d : Addr) (v : V), p.2.dict = some d ∧ H d = some (.xd [(ef i, v)]) ∧ Shw K H v z := by
        rcases hz with ⟨z, _⟩ | ⟨_, z⟩
        · omega
        · exact z
      obtain ⟨w1, w2⟩ := wd (up (o := .lst [.bl (decide ((i : Int) < 13)), .bl false, .bl false]) hl)
      have sl : Same H (upd B2 l (.lst [.bl (decide ((i : Int) < 13)), .bl false, .bl false])) := fun _ _ e => up hl _ _ (U7 _ _ e)
      refine ⟨_, rfl, _, _, rfl, rfl, _, rfl, ifd (fun c9 => ?_) (fun c9 => ?_)⟩
      · have c9 : (i : Int) < 9 := c9
        have ee : ef i = "value" := if_pos (by omega)
        rw [ee] at z2
        refine ⟨_, rfl, _, rfl, w3, _, _, _, rfl, rfl, w2, w1, _, rfl, rfl, _, d, _, v, hc, z1, hv, T.et.xf i hi, T.et.no i hi "value" (by simp), sl _ _ z2, rfl, v, z, rfl, Shw.same sl z3, (by show 2 ≤ sizeLine; decide), fun t ht => ?_⟩
        exact k t _ (fun _ _ e => up ht _ _ (sl _ _ e)) upd_same
      · have c9 : ¬ (i : Int) < 9 := c9
        have ee : ef i = "index" := by unfold ef; rw [if_neg (by omega), if_pos c]
        rw [ee] at z2
        refine ⟨_, rfl, _, _, rfl, rfl, _, rfl, ifd_pos (by show (i : Int) < 13; omega) ?_⟩
        refine ⟨_, rfl, _, rfl, w3, _, _, _, rfl, rfl, w2, w1, _, rfl, rfl, _, d, _, v, hc, z1, hv, T.et.xf i hi, T.et.no i hi "index" (by simp), sl _ _ z2, rfl, v, z, rfl, Shw.same sl z3, (by show 2 ≤ sizeLine; decide), fun t ht => ?_⟩
        exact k t _ (fun _ _ e => up ht _ _ (sl _ _ e)) upd_same
    · have e0 : eb i = 1 := by unfold eb; rw [if_neg (by omega), if_pos c.2]
      refine ⟨_, rfl, _, rfl, _, _, rfl, rfl, _, rfl, _, _, rfl, rfl, _, rfl, ifd_pos (by show (12 : Int) < i; omega) ⟨_, _, rfl, rfl, ?_⟩⟩
      refine ⟨_, rfl, _, _, rfl, rfl, _, rfl, ifd_neg (by show ¬ (15 : Int) < i; omega) ⟨(by show 3 ≤ sizeLine; decide), fun l hl => ?_⟩⟩
      refine ⟨_, _, dl (up hl _ _ q1), dl upd_same, rfl, rfl, false, eqv3 (by rw [e0]; exact (decide_eq_false (show ¬ (i : Int) < 13 by omega)).symm) (by rw [e0]; exact (decide_eq_true (show (i : Int) < 16 by omega)).symm) (by rw [e0]; rfl), iteF ?_⟩
      have zz : z = Str.empty := by
        rcases hz with ⟨_, _, z⟩ | ⟨z, _⟩
        · exact z
        · exact absurd e0 z
      obtain ⟨w1, w2⟩ := wd (up (o := .lst [.bl (decide ((i : Int) < 13)), .bl (decide ((i : Int) < 16)), .bl false]) hl)
      refine ⟨_, rfl, _, _, rfl, rfl, _, rfl, ifd_neg (by show ¬ (i : Int) < 9; omega) ?_⟩
      refine ⟨_, rfl, _, _, rfl, rfl, _, rfl, ifd_neg (by show ¬ (i : Int) < 13; omega) ?_⟩
      refine ⟨_, rfl, _, _, rfl, rfl, _, rfl, ifd_pos (by show (i : Int) < 16; omega) ?_⟩
      refine ⟨_, rfl, _, rfl, w3, _, _, _, rfl, rfl, w2, w1, (by show 2 ≤ sizeLine; decide), fun t ht => ?_⟩
      refine k t _ (fun _ _ e => up ht _ _ (up hl _ _ (U7 _ _ e))) ?_
      rw [zz]
      exact upd_same
    · have e0 : eb i = 2 := by unfold eb; rw [if_neg (by omega), if_neg (by omega)]
      refine ⟨_, rfl, _, rfl, _, _, rfl, rfl, _, rfl, _, _, rfl, rfl, _, rfl, ifd_pos (by show (12 : Int) < i; omega) ⟨_, _, rfl, rfl, ?_⟩⟩
      refine ⟨_, rfl, _, _, rfl, rfl, _, rfl, ifd_pos (by show (15 : Int) < i; omega) ⟨_, _, rfl, rfl, (by show 3 ≤ sizeLine; decide), fun l hl => ?_⟩⟩
      refine ⟨_, _, dl (up hl _ _ q1), dl upd_same, rfl, rfl, false, eqv3 (by rw [e0]; exact (decide_eq_false (show ¬ (i : Int) < 13 by omega)).symm) (by rw [e0]; exact (decide_eq_false (show ¬ (i : Int) < 16 by omega)).symm) (by rw [e0]; exact (decide_eq_true (show (i : Int) < 19 by omega)).symm), iteF ?_⟩
      obtain ⟨d, v, z1, z2, z3⟩ : ∃ (d : Addr) (v : V), p.2.dict = some d ∧ H d = some (.xd [(ef i, v)]) ∧ Shw K H v z := by
        rcases hz with ⟨z, _⟩ | ⟨_, z⟩
        · omega
        · exact z
      obtain ⟨w1, w2⟩ := wd (up (o := .lst [.bl (decide ((i : Int) < 13)), .bl (decide ((i : Int) < 16)), .bl (decide ((i : Int) < 19))]) hl)
      have sl : Same H (upd B2 l (.lst [.bl (decide ((i : Int) < 13)), .bl (decide ((i : Int) < 16)), .bl (decide ((i : Int) < 19))])) := fun _ _ e => up hl _ _ (U7 _ _ e)
      have ee : ef i = "limit" := by unfold ef; rw [if_neg (by omega), if_neg (by omega)]
      rw [ee] at z2
      refine ⟨_, rfl, _, _, rfl, rfl, _, rfl, ifd_neg (by show ¬ (i : Int) < 9; omega) ?_⟩
      refine ⟨_, rfl, _, _, rfl, rfl, _, rfl, ifd_neg (by show ¬ (i : Int) < 13; omega) ?_⟩
      refine ⟨_, rfl, _, _, rfl, rfl, _, rfl, ifd_neg (by show ¬ (i : Int) < 16; omega) ?_⟩
      refine ⟨_, rfl, _, rfl, w3, _, _, _, rfl, rfl, w2, w1, _, rfl, rfl, _, d, _, v, hc, z1, hv, T.et.xf i hi, T.et.no i hi "limit" (by simp), sl _ _ z2, rfl, v, z, rfl, Shw.same sl z3, (by show 2 ≤ sizeLine; decide), fun t ht => ?_⟩
      exact k t _ (fun _ _ e => up ht _ _ (sl _ _ e)) upd_same
end
theorem same_before {q : Addr} {H H1 : Hp} (d : Same H H1) (hq : H1 q = none) : H q = none := by
  cases e : H q with
  | none => rfl
  | some o => rw [d _ _ e] at hq; cases hq
section
variable {P : Program} {w : World} {K : PySem.W.Frag} {mg : Str → Option Value} {base : Heap}
theorem ok_Stack_size (T : Tx w K mg) : PromM P w K mg base CX0 5 "Stack" "size" ["self", "length"] (spSSize K) := by
  refine PromM.of T.cl_Stack T.me_Stack_size T.dm_Stack_size sc_Stack_size (fun vs H Q E h => ?_) (fun _ _ _ _ _ _ us hl => match us, hl with | [_, _], _ => rfl) (fun f cdv A outer s H vs Q E hr h => ?_)
  · obtain ⟨q, b, ws, n, rfl, _⟩ := h
    rfl
  · obtain ⟨q, b, ws, n, rfl, hS, so, n0, n1, k⟩ := h
    obtain ⟨dx, t, xs, hq, ht, hw⟩ := id hS
    refine ⟨_, (pss_cons (ps_expr (pe_callP (ok_check_length T) (hr.mono (by decide)) (by rfl) pass0 (pa_cons (pv 1) pa_nil)))
      (pss_one (ps_ret (pe_methP (ok_Stack_grown T) (hr.mono (by decide)) pass0 (pv 0) (pa_cons (pv 1) pa_nil))))), ?_⟩
    refine ⟨_, rfl, n, rfl, n0, n1, ?_⟩
    exact ⟨_, rfl, q, dx, _, rfl, hq, rfl, _, rfl, q, b, ws, n, rfl, hS, so, n0, Int.lt_of_le_of_lt n1 (by decide), k⟩
end
theorem cut_to {xs : List V} {i : Nat} (h : i ≤ xs.length) : cutV xs none (some (i : Int)) = xs.take i := by
  unfold cutV
  rw [HT.sIx_none, HT.sIx_nat]
  simp [Nat.min_eq_left h]
theorem cut_from {xs : List V} {i : Nat} (h : i ≤ xs.length) : cutV xs (some (i : Int)) none = xs.drop i := by
  unfold cutV
  rw [HT.sIx_none, HT.sIx_nat, Nat.min_eq_left h]
  exact List.take_of_length_le (by rw [List.length_drop]; exact Nat.le_refl _)
/-! ### the greatest length within a bound -/
def IsG (b : Int) (ws : List Wr) (m k : Int) : Prop := -1 ≤ k ∧ k ≤ m ∧ ∀ n, 0 ≤ n → (grS b ws n ≤ m ↔ n ≤ k)
theorem isG_eq {b : Int} {ws : List Wr} {m k l : Int} (h : IsG b ws m k) (g : IsG b ws m l) : k = l := by
  obtain ⟨h0, h1, h2⟩ := h
  obtain ⟨g0, g1, g2⟩ := g
  by_cases z : k < l
  · have := (h2 l (by omega)).mp ((g2 l (by omega)).mpr (Int.le_refl l))
    omega
  · by_cases y : l < k
    · have := (g2 k (by omega)).mp ((h2 k (by omega)).mpr (Int.le_refl k))
      omega
    · omega
open Classical in
noncomputable def gwI (b : Int) (ws : List Wr) (m : Int) : Int := if h : ∃ k, IsG b ws m k then choose h else 0
theorem gwI_eq {b : Int} {ws : List Wr} {m k : Int} (h : IsG b ws m k) : gwI b ws m = k := by
  have e : ∃ k, IsG b ws m k := ⟨k, h⟩
  unfold gwI
  rw [dif_pos e]
  exact isG_eq (Classical.choose_spec e) h
noncomputable def gwV (b : Int) (ws : List Wr) (m : Int) : V := if gwI b ws m < 0 then .non else .int (gwI b ws m)
def spWithin (K : PySem.W.Frag) : Sp := fun vs H Q _ => ∃ (q : Addr) (b m : Int) (ws : List Wr), vs = [.ref q, .int m] ∧ StkAt K H q b ws ∧ StkOk b ws ∧ 0 ≤ m ∧ m ≤ 10 ^ 60 - 1 ∧ (IsG b ws m (gwI b ws m) → Q (gwV b ws m) H)
section
variable {P : Program} {w : World} {K : PySem.W.Frag} {mg : Str → Option Value} {base : Heap}
theorem ok_greatest_within (T : Tx w K mg) : Prom P w K mg base CX0 5 "greatest_within" s_greatest_within ["stack", "bound"] (spWithin K) := by
  refine Prom.of T.d_greatest_within sc_greatest_within (fun vs H Q E h => ?_) (fun _ _ _ _ _ _ us hl => match us, hl with | [_, _], _ => rfl) (fun f cdv A outer s H vs Q E hr h => ?_)
  · obtain ⟨q, b, m, ws, rfl, _⟩ := h
    rfl
  · obtain ⟨q, b, m, ws, rfl, hS, so, m0, m1, k⟩ := h
    obtain ⟨dx, t, xs, g1, g2, g3⟩ := id hS
    have small : ∀ n : Int, n ≤ m → n < 2 ^ 1000 := fun n hn => Int.lt_of_le_of_lt (show n ≤ 10 ^ 60 - 1 by omega) (by decide)
    refine ⟨_, (pss_cons (ps_if (pt_cmp (pc_gt (pe_methP (ok_Stack_grown T) (hr.mono (by decide)) pass0 (pv 0) (pa_cons pe_int pa_nil)) (pv 1))) (pss_one (ps_ret pe_non)) pss_nil)
      (pss_cons (ps_par (i := 2) (j := 3) (by rfl) sc_greatest_within.nd rfl rfl (by decide) rfl rfl (pa_cons pe_int (pa_cons (pe_op op_add (pv 1) pe_int) pa_nil)) (by rfl))
      (pss_cons (ps_while PassesOwn.never (pt_cmp (pc_gt (pe_op op_sub (pv 3) (pv 2)) pe_int)) (pss_cons (ps_set (i := 4) sc_greatest_within.nd rfl (Or.inl rfl) (pe_op op_fdiv (pe_op op_add (pv 2) (pv 3)) pe_int))
      (pss_one (ps_if (pt_cmp (pc_le (pe_methP (ok_Stack_grown T) (hr.mono (by decide)) pass0 (pv 0) (pa_cons (pv 4) pa_nil)) (pv 1))) (pss_one (ps_set (i := 2) sc_greatest_within.nd rfl (Or.inl rfl) (pv 4))) (pss_one (ps_set (i := 3) sc_greatest_within.nd rfl (Or.inl rfl) (pv 4)))))))
      (pss_one (ps_ret (pv 2)))))), ?_⟩
    refine ⟨_, rfl, q, dx, _, rfl, g1, rfl, q, b, ws, 0, rfl, hS, so, by decide, by decide, _, rfl, _, _, rfl, rfl, _, rfl, ifd (fun c => ?_) (fun c => ?_)⟩
    · have c : grS b ws 0 > m := c
      have ig : IsG b ws m (-1) := ⟨by omega, by omega, fun n hn => by
        have := grS_mono so.b0 ws so.ok (n := 0) (k := n) (by omega) hn
        omega⟩
      have e := gwI_eq ig
      have k2 := k (by rw [e]; exact ig)
      unfold gwV at k2
      rw [e, if_pos (by decide)] at k2
      exact k2
    · have c : ¬ grS b ws 0 > m := c
      refine ⟨_, rfl, _, _, rfl, rfl, _, _, rfl, ?_⟩
      refine ⟨fun mm σ H1 => H1 = H ∧ ∃ (lo hi : Int) (v : Option V), 0 ≤ lo ∧ lo < hi ∧ hi ≤ m + 1 ∧ grS b ws lo ≤ m ∧ (hi = m + 1 ∨ m < grS b ws hi) ∧ mm = (hi - lo).toNat ∧ σ = [some (.ref q), some (.int m), some (.int lo), some (.int hi), v],
        ⟨_, rfl, 0, m + 1, none, by omega, by omega, by omega, by omega, .inl rfl, rfl, rfl⟩, ?_⟩
      rintro mm σ H1 ⟨rfl, lo, hi, v, l0, l1, l2, l3, l4, rfl, rfl⟩
      refine ⟨_, rfl, _, rfl, _, _, rfl, rfl, _, _, rfl, rfl, _, rfl, ifd (fun z => ?_) (fun z => ?_)⟩
      · have z : hi - lo > 1 := z
        refine ⟨_, fun σ' H' h => h, ?_⟩
        refine ⟨_, rfl, _, rfl, _, _, rfl, rfl, _, _, rfl, rfl, ⟨by decide, by decide⟩, ?_⟩
        refine ⟨_, rfl, q, dx, _, rfl, g1, rfl, _, rfl, q, b, ws, (lo + hi) / 2, rfl, hS, so, by omega, small _ (by omega), _, rfl, _, _, rfl, rfl, _, rfl, ifd (fun y => ?_) (fun y => ?_)⟩
        · exact ⟨_, rfl, _, by omega, rfl, (lo + hi) / 2, hi, _, by omega, by omega, l2, y, l4, rfl, rfl⟩
        · have y : ¬ grS b ws ((lo + hi) / 2) ≤ m := y
          exact ⟨_, rfl, _, by omega, rfl, lo, (lo + hi) / 2, _, l0, by omega, by omega, l3, .inr (by omega), rfl, rfl⟩
      · have z : ¬ hi - lo > 1 := z
        have ig : IsG b ws m lo := ⟨by omega, by omega, fun n hn => ⟨fun y => ?_, fun y => ?_⟩⟩
        · have e := gwI_eq ig
          have k2 := k (by rw [e]; exact ig)
          unfold gwV at k2
          rw [e, if_neg (by omega)] at k2
          exact ⟨_, rfl, k2⟩
        · by_cases u : n ≤ lo
          · exact u
          · exfalso
            rcases l4 with l4 | l4
            · have := grS_ge so.b0 ws so.ok hn
              omega
            · have := grS_mono so.b0 ws so.ok (n := hi) (k := n) (by omega) (by omega)
              omega
        · have := grS_mono so.b0 ws so.ok (n := n) (k := lo) hn y
          omega
end
theorem grS_nonneg {b : Int} (hb : 2 ≤ b) (ws : List Wr) (ok : ∀ a ∈ ws, a.ok) {n : Int} (h : 0 ≤ n) : 0 ≤ grS b ws n := Int.le_trans h (grS_ge hb ws ok h)
/-! ### the period of a stack -/
/-- what a head tells: the length before a told, the size behind a whole -/
noncomputable def hd1 (b : Int) (a : Wr) (x : Int) : List Int := match a with
  | .told _ => [x]
  | .whole c => [(Wr.whole c).gr b x]
  | _ => []
noncomputable def toldsL (b : Int) : List Wr → Int → List Int
  | [], _ => []
  | a :: ws, n => hd1 b a n ++ toldsL b ws (a.gr b n)
theorem tolds_app {b : Int} : ∀ (ws us : List Wr) (n : Int), toldsL b (ws ++ us) n = toldsL b ws n ++ toldsL b us (grS b ws n)
  | [], _, _ => rfl
  | a :: ws, us, n => by
    show hd1 b a n ++ toldsL b (ws ++ us) (a.gr b n) = hd1 b a n ++ toldsL b ws (a.gr b n) ++ toldsL b us (grS b ws (a.gr b n))
    rw [tolds_app ws us, List.append_assoc]
theorem hd1_len {b x y : Int} {a : Wr} : (hd1 b a x).length = (hd1 b a y).length := by cases a <;> rfl
theorem tolds_len {b : Int} : ∀ (ws : List Wr) (x y : Int), (toldsL b ws x).length = (toldsL b ws y).length
  | [], _, _ => rfl
  | a :: ws, x, y => by
    show (hd1 b a x ++ toldsL b ws (a.gr b x)).length = (hd1 b a y ++ toldsL b ws (a.gr b y)).length
    rw [List.length_append, List.length_append, hd1_len (y := y), tolds_len ws _ (a.gr b y)]
theorem tolds_le {b : Int} : ∀ (ws : List Wr) (x : Int), (toldsL b ws x).length ≤ ws.length
  | [], _ => Nat.le_refl _
  | a :: ws, x => by
    show (hd1 b a x ++ toldsL b ws (a.gr b x)).length ≤ ws.length + 1
    rw [List.length_append]
    have h1 : (hd1 b a x).length ≤ 1 := by cases a <;> simp [hd1]
    have := tolds_le (b := b) ws (a.gr b x)
    omega
/-- what is told rises with the length -/
theorem tolds_mono {b : Int} (hb : 2 ≤ b) : ∀ (ws : List Wr), (∀ a ∈ ws, a.ok) → ∀ {x y : Int}, 0 ≤ x → x ≤ y → ∀ {i : Nat} {u v : Int}, (toldsL b ws x)[i]? = some u → (toldsL b ws y)[i]? = some v → u ≤ v
  | [], _, _, _, _, _, i, u, v, h, _ => by simp [toldsL] at h
  | a :: ws, ok, x, y, x0, xy, i, u, v, h1, h2 => by
    have oa := ok a (.head _)
    have g := gr_mono hb oa x0 xy
    have g0 := gr_ge hb oa x0
    have ih : ∀ {i : Nat} {u v : Int}, (toldsL b ws (a.gr b x))[i]? = some u → (toldsL b ws (a.gr b y))[i]? = some v → u ≤ v := fun h1 h2 => tolds_mono hb ws (fun z hz => ok z (.tail _ hz)) (x := a.gr b x) (y := a.gr b y) (by omega) g h1 h2
    have e1 : toldsL b (a :: ws) x = hd1 b a x ++ toldsL b ws (a.gr b x) := rfl
    have e2 : toldsL b (a :: ws) y = hd1 b a y ++ toldsL b ws (a.gr b y) := rfl
    rw [e1] at h1
    rw [e2] at h2
    cases a with
    | told c =>
      cases i with
      | zero =>
        have h1 := Option.some.inj h1
        have h2 := Option.some.inj h2
        omega
      | succ i => exact ih h1 h2
    | whole c =>
      cases i with
      | zero =>
        have h1 : (Wr.whole c).gr b x = u := Option.some.inj h1
        have h2 : (Wr.whole c).gr b y = v := Option.some.inj h2
        omega
      | succ i => exact ih h1 h2
    | plus c => exact ih h1 h2
    | pieces m c => exact ih h1 h2
    | cut m c => exact ih h1 h2
    | coded m c => exact ih h1 h2
    | filled m => exact ih h1 h2
theorem tolds_nonneg {b : Int} (hb : 2 ≤ b) : ∀ (ws : List Wr), (∀ a ∈ ws, a.ok) → ∀ {x : Int}, 0 ≤ x → ∀ {i : Nat} {u : Int}, (toldsL b ws x)[i]? = some u → 0 ≤ u ∧ u ≤ grS b ws x
  | [], _, _, _, i, u, h => by simp [toldsL] at h
  | a :: ws, ok, x, x0, i, u, h1 => by
    have oa := ok a (.head _)
    have g0 := gr_ge hb oa x0
    have okw : ∀ z ∈ ws, z.ok := fun z hz => ok z (.tail _ hz)
    have gg := grS_ge hb ws okw (n := a.gr b x) (by omega)
    have ih : ∀ {i : Nat} {u : Int}, (toldsL b ws (a.gr b x))[i]? = some u → 0 ≤ u ∧ u ≤ grS b ws (a.gr b x) := fun h1 => tolds_nonneg hb ws okw (x := a.gr b x) (by omega) h1
    have e1 : toldsL b (a :: ws) x = hd1 b a x ++ toldsL b ws (a.gr b x) := rfl
    have eg : grS b (a :: ws) x = grS b ws (a.gr b x) := rfl
    rw [e1] at h1
    rw [eg]
    cases a with
    | told c =>
      cases i with
      | zero =>
        have h1 : x = u := Option.some.inj h1
        omega
      | succ i => exact ih h1
    | whole c =>
      cases i with
      | zero =>
        have h1 : (Wr.whole c).gr b x = u := Option.some.inj h1
        omega
      | succ i => exact ih h1
    | plus c => exact ih h1
    | pieces m c => exact ih h1
    | cut m c => exact ih h1
    | coded m c => exact ih h1
    | filled m => exact ih h1
/-- how often the period is taken for a wrap that cuts by m -/
def tms (g m : Int) : Int := m / (Int.gcd g m : Int)
noncomputable def per1 (b : Int) (pg : Int × Int) : Wr → Int × Int
  | .pieces m c => (pg.1 * tms pg.2 m, pg.2 * tms pg.2 m / m * (m + c + figF b m))
  | .cut m c => (pg.1 * tms pg.2 m, pg.2 * tms pg.2 m + pg.2 * tms pg.2 m / m * c)
  | .coded m c => (pg.1 * tms pg.2 m, pg.2 * tms pg.2 m / m * c)
  | .filled m => (pg.1 * tms pg.2 m, pg.2 * tms pg.2 m)
  | _ => pg
noncomputable def perL (b : Int) (ws : List Wr) : Int × Int := ws.foldl (per1 b) (1, 1)
theorem perL_app {b : Int} {ws : List Wr} {a : Wr} : perL b (ws ++ [a]) = per1 b (perL b ws) a := by
  unfold perL
  rw [List.foldl_append]
  rfl
theorem tms_ok {g m : Int} (hg : 1 ≤ g) (hm : 1 ≤ m) : 1 ≤ tms g m ∧ tms g m ≤ m ∧ ∃ q, g * tms g m = m * q ∧ 1 ≤ q ∧ q ≤ g := by
  have d0 : (1 : Int) ≤ (Int.gcd g m : Int) := by
    have : 0 < Int.gcd g m := Int.gcd_pos_of_ne_zero_left _ (by omega)
    omega
  have d1 : ((Int.gcd g m : Nat) : Int) ∣ g := Int.gcd_dvd_left ..
  have d2 : ((Int.gcd g m : Nat) : Int) ∣ m := Int.gcd_dvd_right ..
  unfold tms
  generalize ((Int.gcd g m : Nat) : Int) = d at d0 d1 d2
  obtain ⟨x, rfl⟩ := d1
  obtain ⟨y, rfl⟩ := d2
  have y1 : 1 ≤ y := by
    by_cases h : 1 ≤ y
    · exact h
    · have := Int.mul_le_mul_of_nonneg_left (show y ≤ 0 by omega) (show 0 ≤ d by omega)
      omega
  have x1 : 1 ≤ x := by
    by_cases h : 1 ≤ x
    · exact h
    · have := Int.mul_le_mul_of_nonneg_left (show x ≤ 0 by omega) (show 0 ≤ d by omega)
      omega
  rw [Int.mul_ediv_cancel_left _ (by omega)]
  have h1 := Int.mul_le_mul_of_nonneg_right d0 (show 0 ≤ y by omega)
  have h2 := Int.mul_le_mul_of_nonneg_right d0 (show 0 ≤ x by omega)
  refine ⟨y1, by omega, x, ?_, x1, by omega⟩
  rw [Int.mul_assoc, Int.mul_assoc, Int.mul_comm x y]
/-- how often the period is taken for a wrap -/
def ttm (g : Int) : Wr → Int
  | .pieces m _ => tms g m
  | .cut m _ => tms g m
  | .coded m _ => tms g m
  | .filled m => tms g m
  | _ => 1
theorem div_q {g m q : Int} (hm : 1 ≤ m) (e : g = m * q) : g / m = q := by
  rw [e, Int.mul_ediv_cancel_left _ (by omega)]
theorem per1_ok {b : Int} (hb : 2 ≤ b) {a : Wr} (ok : a.ok) {pg : Int × Int} (h1 : 1 ≤ pg.1) (h2 : pg.1 ≤ pg.2) : (per1 b pg a).1 = pg.1 * ttm pg.2 a ∧ 1 ≤ ttm pg.2 a ∧ ttm pg.2 a ≤ 60 ∧ (per1 b pg a).1 ≤ (per1 b pg a).2 ∧ (per1 b pg a).2 ≤ pg.2 * 7560 := by
  have hg : 1 ≤ pg.2 := by omega
  have mulm : ∀ t : Int, 1 ≤ t → pg.1 * t ≤ pg.2 * t := fun t ht => Int.mul_le_mul_of_nonneg_right h2 (by omega)
  cases a with
  | plus c => exact ⟨(Int.mul_one _).symm, Int.le_refl _, (by decide : (1 : Int) ≤ 60), h2, by show pg.2 ≤ _; omega⟩
  | told c => exact ⟨(Int.mul_one _).symm, Int.le_refl _, (by decide : (1 : Int) ≤ 60), h2, by show pg.2 ≤ _; omega⟩
  | whole c => exact ⟨(Int.mul_one _).symm, Int.le_refl _, (by decide : (1 : Int) ≤ 60), h2, by show pg.2 ≤ _; omega⟩
  | pieces m c =>
    obtain ⟨t1, t2, q, e, q1, q2⟩ := tms_ok hg ok.1
    have hm := ok.1
    have hm2 := ok.2.1
    have hc := ok.2.2
    have f6 := fig_small hb hm2
    have fp := figF_pos (n := m) hb
    refine ⟨rfl, t1, Int.le_trans t2 hm2, ?_, ?_⟩
    · show pg.1 * tms pg.2 m ≤ pg.2 * tms pg.2 m / m * (m + c + figF b m)
      rw [div_q hm e]
      have := mulm _ t1
      rw [e, Int.mul_comm m q] at this
      have h3 := Int.mul_le_mul_of_nonneg_left (show m ≤ m + c + figF b m by omega) (show 0 ≤ q by omega)
      omega
    · show pg.2 * tms pg.2 m / m * (m + c + figF b m) ≤ _
      rw [div_q hm e]
      have h3 := Int.mul_le_mul q2 (show m + c + figF b m ≤ 7560 by omega) (by omega) (by omega)
      omega
  | cut m c =>
    obtain ⟨t1, t2, q, e, q1, q2⟩ := tms_ok hg ok.1
    have hm := ok.1
    have hm2 := ok.2.1
    have hc := ok.2.2
    refine ⟨rfl, t1, Int.le_trans t2 hm2, ?_, ?_⟩
    · show pg.1 * tms pg.2 m ≤ pg.2 * tms pg.2 m + pg.2 * tms pg.2 m / m * c
      rw [div_q hm e]
      have := mulm _ t1
      have h3 := Int.mul_nonneg (show 0 ≤ q by omega) hc.1
      omega
    · show pg.2 * tms pg.2 m + pg.2 * tms pg.2 m / m * c ≤ _
      rw [div_q hm e, e, Int.mul_comm m q, ← Int.mul_add]
      have h3 := Int.mul_le_mul q2 (show m + c ≤ 7560 by omega) (by omega) (by omega)
      omega
  | coded m c =>
    obtain ⟨t1, t2, q, e, q1, q2⟩ := tms_ok hg ok.1
    have hm := ok.1
    have hm2 := ok.2.1
    have hc := ok.2.2
    refine ⟨rfl, t1, Int.le_trans t2 hm2, ?_, ?_⟩
    · show pg.1 * tms pg.2 m ≤ pg.2 * tms pg.2 m / m * c
      rw [div_q hm e]
      have := mulm _ t1
      rw [e, Int.mul_comm m q] at this
      have h3 := Int.mul_le_mul_of_nonneg_left hc.1 (show 0 ≤ q by omega)
      omega
    · show pg.2 * tms pg.2 m / m * c ≤ _
      rw [div_q hm e]
      have h3 := Int.mul_le_mul q2 (show c ≤ 7560 by omega) (by omega) (by omega)
      omega
  | filled m =>
    obtain ⟨t1, t2, q, e, q1, q2⟩ := tms_ok hg ok.1
    have hm2 := ok.2
    refine ⟨rfl, t1, Int.le_trans t2 hm2, mulm _ t1, ?_⟩
    show pg.2 * tms pg.2 m ≤ _
    exact Int.mul_le_mul_of_nonneg_left (by omega) (by omega)
theorem beg_shift {x m q : Int} (hm : 1 ≤ m) : beg (x + m * q) m = beg x m + q := by
  unfold beg
  rw [show x + m * q + m - 1 = (x + m - 1) + m * q by omega, Int.add_mul_ediv_left _ _ (by omega)]
/-- one wrap, shifted -/
theorem gr_shift {b : Int} (hb : 2 ≤ b) {a : Wr} (ok : a.ok) {pg : Int × Int} (h1 : 1 ≤ pg.1) (h2 : pg.1 ≤ pg.2) {x y : Int} (x0 : 0 ≤ x) (y0 : 0 ≤ y) (hh : (hd1 b a x).map (figF b) = (hd1 b a (x + pg.2 * ttm pg.2 a * y)).map (figF b)) :
    a.gr b (x + pg.2 * ttm pg.2 a * y) = a.gr b x + (per1 b pg a).2 * y := by
  have hg : 1 ≤ pg.2 := by omega
  cases a with
  | plus c =>
    show x + pg.2 * 1 * y + c = x + c + pg.2 * y
    rw [Int.mul_one]
    omega
  | told c =>
    have hh : [figF b x] = [figF b (x + pg.2 * 1 * y)] := hh
    injection hh with hh
    show x + pg.2 * 1 * y + c + figF b (x + pg.2 * 1 * y) = x + c + figF b x + pg.2 * y
    rw [← hh, Int.mul_one]
    omega
  | whole c =>
    have y1 : 0 ≤ pg.2 * y := Int.mul_nonneg (by omega) y0
    have hh : [figF b ((Wr.whole c).gr b x)] = [figF b ((Wr.whole c).gr b (x + pg.2 * 1 * y))] := hh
    injection hh with hh
    have c0 := ok.1
    show totF b (x + pg.2 * 1 * y + c) = totF b (x + c) + pg.2 * y
    have e1 : (Wr.whole c).gr b (x + pg.2 * 1 * y) = totF b (x + pg.2 * 1 * y + c) := rfl
    have e2 : (Wr.whole c).gr b x = totF b (x + c) := rfl
    rw [e1, e2] at hh
    rw [Int.mul_one] at hh ⊢
    have t1 := figF_eq hb (totF_is (b := b) (n := x + c) hb (by omega)).tot
    have t2 := figF_eq hb (totF_is (b := b) (n := x + pg.2 * y + c) hb (by omega)).tot
    omega
  | pieces m c =>
    obtain ⟨t1, t2, q, e, q1, q2⟩ := tms_ok hg ok.1
    have hm := ok.1
    show (Wr.pieces m c).gr b (x + pg.2 * tms pg.2 m * y) = (Wr.pieces m c).gr b x + pg.2 * tms pg.2 m / m * (m + c + figF b m) * y
    rw [div_q hm e, e, Int.mul_assoc]
    show (x + m * (q * y)) / m * (m + c + figF b m) + (if 0 < (x + m * (q * y)) % m then (x + m * (q * y)) % m + c + figF b ((x + m * (q * y)) % m) else 0) + c + 1 = x / m * (m + c + figF b m) + (if 0 < x % m then x % m + c + figF b (x % m) else 0) + c + 1 + q * (m + c + figF b m) * y
    rw [Int.add_mul_ediv_left _ _ (by omega), Int.add_mul_emod_self_left, Int.add_mul, Int.mul_assoc, Int.mul_assoc, Int.mul_comm y (m + c + figF b m)]
    omega
  | cut m c =>
    obtain ⟨t1, t2, q, e, q1, q2⟩ := tms_ok hg ok.1
    have hm := ok.1
    show x + pg.2 * tms pg.2 m * y + beg (x + pg.2 * tms pg.2 m * y) m * c = x + beg x m * c + (pg.2 * tms pg.2 m + pg.2 * tms pg.2 m / m * c) * y
    rw [div_q hm e, e, Int.mul_assoc, beg_shift hm, Int.add_mul, Int.add_mul, Int.mul_assoc, Int.mul_assoc, Int.mul_comm y c, Int.mul_assoc]
    omega
  | coded m c =>
    obtain ⟨t1, t2, q, e, q1, q2⟩ := tms_ok hg ok.1
    have hm := ok.1
    show beg (x + pg.2 * tms pg.2 m * y) m * c = beg x m * c + pg.2 * tms pg.2 m / m * c * y
    rw [div_q hm e, e, Int.mul_assoc, beg_shift hm, Int.add_mul, Int.mul_assoc, Int.mul_assoc, Int.mul_comm y c]
  | filled m =>
    obtain ⟨t1, t2, q, e, q1, q2⟩ := tms_ok hg ok.1
    have hm := ok.1
    show beg (x + pg.2 * tms pg.2 m * y) m * m = beg x m * m + pg.2 * tms pg.2 m * y
    rw [e, Int.mul_assoc, beg_shift hm, Int.add_mul, Int.mul_comm (q * y) m]
/-- a stack, shifted by its period -/
theorem per_all {b : Int} (hb : 2 ≤ b) : ∀ (ws : List Wr), (∀ a ∈ ws, a.ok) → ∀ (pg : Int × Int), 1 ≤ pg.1 → pg.1 ≤ pg.2 → ∃ T : Int, 1 ≤ T ∧ (ws.foldl (per1 b) pg).1 = pg.1 * T ∧ (ws.foldl (per1 b) pg).1 ≤ (ws.foldl (per1 b) pg).2 ∧ 1 ≤ (ws.foldl (per1 b) pg).1 ∧
    ∀ x j : Int, 0 ≤ x → 0 ≤ j → (toldsL b ws x).map (figF b) = (toldsL b ws (x + pg.2 * T * j)).map (figF b) → grS b ws (x + pg.2 * T * j) = grS b ws x + (ws.foldl (per1 b) pg).2 * j
  | [], _, pg, h1, h2 => ⟨1, Int.le_refl _, (Int.mul_one _).symm, h2, h1, fun x j _ _ _ => by
    show x + pg.2 * 1 * j = x + pg.2 * j
    rw [Int.mul_one]⟩
  | a :: ws, ok, pg, h1, h2 => by
    have oa := ok a (.head _)
    obtain ⟨e1, t1, t60, le1, _⟩ := per1_ok hb oa h1 h2
    have p1 : 1 ≤ (per1 b pg a).1 := by
      rw [e1]
      have := Int.mul_le_mul h1 t1 (by omega) (by omega)
      omega
    obtain ⟨T, T1, eT, le2, ge2, sh⟩ := per_all hb ws (fun z hz => ok z (.tail _ hz)) (per1 b pg a) p1 le1
    refine ⟨ttm pg.2 a * T, ?_, ?_, le2, ge2, fun x j x0 j0 hh => ?_⟩
    · have := Int.mul_le_mul t1 T1 (by omega) (by omega)
      omega
    · show (ws.foldl (per1 b) (per1 b pg a)).1 = _
      rw [eT, e1, Int.mul_assoc]
    · have ex : x + pg.2 * (ttm pg.2 a * T) * j = x + pg.2 * ttm pg.2 a * (T * j) := by rw [← Int.mul_assoc, Int.mul_assoc (pg.2 * ttm pg.2 a)]
      rw [ex] at hh ⊢
      have y0 : 0 ≤ T * j := Int.mul_nonneg (by omega) j0
      have hh : (hd1 b a x ++ toldsL b ws (a.gr b x)).map (figF b) = (hd1 b a (x + pg.2 * ttm pg.2 a * (T * j)) ++ toldsL b ws (a.gr b (x + pg.2 * ttm pg.2 a * (T * j)))).map (figF b) := hh
      rw [List.map_append, List.map_append] at hh
      obtain ⟨hA, hB⟩ := List.append_inj hh (by rw [List.length_map, List.length_map]; exact hd1_len)
      have gs := gr_shift hb oa h1 h2 x0 y0 hA
      rw [gs] at hB
      show grS b ws (a.gr b (x + pg.2 * ttm pg.2 a * (T * j))) = grS b ws (a.gr b x) + (ws.foldl (per1 b) (per1 b pg a)).2 * j
      rw [gs]
      have g0 := gr_ge hb oa x0
      rw [show (per1 b pg a).2 * (T * j) = (per1 b pg a).2 * T * j from (Int.mul_assoc _ _ _).symm] at hB ⊢
      exact sh (a.gr b x) j (by omega) j0 hB
/-- the period of a stack -/
theorem per_shift {b : Int} (hb : 2 ≤ b) {ws : List Wr} (ok : ∀ a ∈ ws, a.ok) : 1 ≤ (perL b ws).1 ∧ (perL b ws).1 ≤ (perL b ws).2 ∧
    ∀ x j : Int, 0 ≤ x → 0 ≤ j → (toldsL b ws x).map (figF b) = (toldsL b ws (x + (perL b ws).1 * j)).map (figF b) → grS b ws (x + (perL b ws).1 * j) = grS b ws x + (perL b ws).2 * j := by
  obtain ⟨T, T1, eT, le, ge, sh⟩ := per_all hb ws ok (1, 1) (Int.le_refl _) (Int.le_refl _)
  have e : (perL b ws).1 = T := by
    show (ws.foldl (per1 b) (1, 1)).1 = T
    rw [eT, Int.one_mul]
  refine ⟨ge, le, fun x j x0 j0 hh => ?_⟩
  have := sh x j x0 j0
  rw [Int.one_mul] at this
  rw [e] at hh ⊢
  exact this hh
/-! ### turns -/
def itN (f : Int → Int) : Nat → Int → Int
  | 0, n => n
  | k + 1, n => itN f k (f n)
section
variable {f : Int → Int}
theorem itN_add : ∀ (a c : Nat) (n : Int), itN f (a + c) n = itN f c (itN f a n)
  | 0, c, n => by rw [Nat.zero_add]; rfl
  | a + 1, c, n => by
    rw [show a + 1 + c = (a + c) + 1 by omega]
    exact itN_add a c (f n)
theorem itN_out (k : Nat) (n : Int) : itN f (k + 1) n = f (itN f k n) := by
  rw [itN_add k 1 n]
  rfl
theorem itN_fix {n : Int} (h : f n = n) : ∀ k : Nat, itN f k n = n
  | 0 => rfl
  | k + 1 => by
    show itN f k (f n) = n
    rw [h]
    exact itN_fix h k
theorem itN_ge (hf : ∀ n, 0 ≤ n → n ≤ f n) : ∀ (k : Nat) {n : Int}, 0 ≤ n → n ≤ itN f k n
  | 0, _, _ => Int.le_refl _
  | k + 1, n, h => by
    have h1 := hf n h
    have h2 := itN_ge hf k (n := f n) (by omega)
    show n ≤ itN f k (f n)
    omega
theorem itN_up (hf : ∀ n, 0 ≤ n → n ≤ f n) {n : Int} (h : 0 ≤ n) {i k : Nat} (hik : i ≤ k) : itN f i n ≤ itN f k n := by
  obtain ⟨d, rfl⟩ := Nat.le.dest hik
  rw [itN_add]
  exact itN_ge hf d (Int.le_trans h (itN_ge hf i h))
theorem itN_mono (hf : ∀ n, 0 ≤ n → n ≤ f n) (hm : ∀ n m, 0 ≤ n → n ≤ m → f n ≤ f m) : ∀ (k : Nat) {n m : Int}, 0 ≤ n → n ≤ m → itN f k n ≤ itN f k m
  | 0, _, _, _, h => h
  | k + 1, n, m, h0, h => itN_mono hf hm k (Int.le_trans h0 (hf n h0)) (hm n m h0 h)
/-- a round that was seen is gone through many times at once -/
theorem itN_jump {P lo hi e D d : Int} {r : Nat} (hf : ∀ n, 0 ≤ n → n ≤ f n) (sh : ∀ n j, lo ≤ n → 0 ≤ j → n + P * j ≤ hi → f (n + P * j) = f n + P * j) (l0 : 0 ≤ lo) (e0 : lo ≤ e) (hD : D = P * d) (d0 : 0 ≤ d) (D0 : 0 ≤ D) (hr : itN f r e = e + D) :
    ∀ q : Nat, e + D + D * (q : Int) ≤ hi → itN f (r * q) (e + D) = e + D + D * (q : Int)
  | 0, _ => by
    show e + D = e + D + D * 0
    omega
  | q + 1, h => by
    have eq1 : D * ((q + 1 : Nat) : Int) = D * (q : Int) + D := by
      rw [show ((q + 1 : Nat) : Int) = (q : Int) + 1 from rfl, Int.mul_add, Int.mul_one]
    rw [eq1] at h ⊢
    have ih := itN_jump hf sh l0 e0 hD d0 D0 hr q (by omega)
    rw [Nat.mul_succ, itN_add, ih]
    have key : ∀ i : Nat, i ≤ r → itN f i (e + (D + D * (q : Int))) = itN f i e + (D + D * (q : Int)) := by
      intro i
      induction i with
      | zero => intro _; rfl
      | succ i ihi =>
        intro hi2
        rw [itN_out, itN_out, ihi (by omega)]
        have ge := itN_ge hf i (n := e) (by omega)
        have le := itN_up hf (n := e) (by omega) (show i ≤ r by omega)
        rw [hr] at le
        have es : D + D * (q : Int) = P * (d * (1 + (q : Int))) := by
          rw [hD, Int.mul_add, Int.mul_one, Int.mul_add, Int.mul_assoc]
        have Dq : 0 ≤ D * (q : Int) := Int.mul_nonneg D0 (by omega)
        have s := sh (itN f i e) (d * (1 + (q : Int))) (by omega) (Int.mul_nonneg d0 (by omega)) (by rw [← es]; omega)
        rw [← es] at s
        exact s
    have kr := key r (Nat.le_refl _)
    rw [hr] at kr
    rw [show e + D + D * (q : Int) = e + (D + D * (q : Int)) by omega, kr]
    omega
/-- what is added in each turn adds up -/
theorem itN_slow {hi c : Int} (hf : ∀ n, 0 ≤ n → n ≤ f n) (hc : ∀ n, 0 ≤ n → n ≤ hi → f n ≤ n + c) : ∀ (k : Nat) {n : Int}, 0 ≤ n → (∀ i < k, itN f i n ≤ hi) → itN f k n ≤ n + c * (k : Int)
  | 0, n, _, _ => by
    show n ≤ n + c * 0
    omega
  | k + 1, n, h0, h => by
    have ih := itN_slow hf hc k (n := n) h0 (fun i hi => h i (by omega))
    rw [itN_out]
    have g := itN_ge hf k (n := n) h0
    have s := hc (itN f k n) (by omega) (h k (by omega))
    have e : c * ((k + 1 : Nat) : Int) = c * (k : Int) + c := by
      rw [show ((k + 1 : Nat) : Int) = (k : Int) + 1 from rfl, Int.mul_add, Int.mul_one]
    rw [e]
    omega
end
/-! ### stretches -/
/-- the heads' figures at n -/
noncomputable def figsAt (b : Int) (ws : List Wr) (n : Int) : List Int := (toldsL b ws n).map (figF b)
/-- a head needs more figures at h than at the length before -/
def Chg (b : Int) (ws : List Wr) (h : Int) : Prop := figsAt b ws (h - 1) ≠ figsAt b ws h
theorem same_figs {b : Int} {ws : List Wr} {lo hi : Int} (h : ∀ x, lo < x → x ≤ hi → ¬ Chg b ws x) : ∀ (k : Nat) {x : Int}, lo ≤ x → x + (k : Int) ≤ hi → figsAt b ws x = figsAt b ws (x + (k : Int))
  | 0, x, _, _ => by rw [show x + ((0 : Nat) : Int) = x by omega]
  | k + 1, x, hx, hk => by
    have e : ((k + 1 : Nat) : Int) = (k : Int) + 1 := rfl
    rw [e] at hk ⊢
    have ih := same_figs h k hx (by omega)
    have no := h (x + (k + 1)) (by omega) (by omega)
    have s : figsAt b ws (x + ((k : Int) + 1) - 1) = figsAt b ws (x + ((k : Int) + 1)) := Classical.byContradiction no
    rw [show x + ((k : Int) + 1) - 1 = x + (k : Int) by omega] at s
    rw [ih, s]
/-- within a stretch a stack of slope one is shifted by its period -/
theorem stretch_shift {b : Int} (hb : 2 ≤ b) {ws : List Wr} (ok : ∀ a ∈ ws, a.ok) (e1 : (perL b ws).2 = (perL b ws).1) {lo hi : Int} (l0 : 0 ≤ lo) (h : ∀ x, lo < x → x ≤ hi → ¬ Chg b ws x) (n j : Int) (hn : lo ≤ n) (hj : 0 ≤ j) (hh : n + (perL b ws).1 * j ≤ hi) :
    grS b ws (n + (perL b ws).1 * j) = grS b ws n + (perL b ws).1 * j := by
  obtain ⟨p0, p1, sh⟩ := per_shift hb ok
  have y0 : 0 ≤ (perL b ws).1 * j := Int.mul_nonneg (by omega) hj
  obtain ⟨k, hk⟩ := Int.eq_ofNat_of_zero_le y0
  have s := same_figs h k (x := n) hn (by omega)
  rw [← hk] at s
  have r := sh n j (by omega) hj s
  rw [e1] at r
  exact r
/-- a wrap that adds little -/
def Flat : Wr → Prop
  | .pieces _ _ => False
  | .cut _ c => c = 0
  | .coded m c => c = m
  | _ => True
theorem per_flat {b : Int} (hb : 2 ≤ b) : ∀ (ws : List Wr), (∀ a ∈ ws, a.ok) → ∀ (pg : Int × Int), 1 ≤ pg.1 → pg.1 ≤ pg.2 → (ws.foldl (per1 b) pg).2 = (ws.foldl (per1 b) pg).1 → pg.2 = pg.1 ∧ ∀ a ∈ ws, Flat a
  | [], _, pg, _, _, e => ⟨e, fun a h => by cases h⟩
  | a :: ws, ok, pg, h1, h2, e => by
    have oa := ok a (.head _)
    obtain ⟨e1, t1, _, le1, _⟩ := per1_ok hb oa h1 h2
    have p1 : 1 ≤ (per1 b pg a).1 := by
      rw [e1]
      have := Int.mul_le_mul h1 t1 (by omega) (by omega)
      omega
    obtain ⟨g1, fl⟩ := per_flat hb ws (fun z hz => ok z (.tail _ hz)) (per1 b pg a) p1 le1 e
    have hg : 1 ≤ pg.2 := by omega
    have all : Flat a → ∀ z ∈ a :: ws, Flat z := fun h z hz => by
      rcases List.mem_cons.mp hz with rfl | hz
      · exact h
      · exact fl z hz
    have eqs : ∀ {t : Int}, 1 ≤ t → pg.2 * t = pg.1 * t → pg.2 = pg.1 := fun ht e => Int.eq_of_mul_eq_mul_right (by omega) e
    have les : ∀ {t : Int}, 1 ≤ t → pg.1 * t ≤ pg.2 * t := fun ht => Int.mul_le_mul_of_nonneg_right h2 (by omega)
    cases a with
    | plus c => exact ⟨g1, all trivial⟩
    | told c => exact ⟨g1, all trivial⟩
    | whole c => exact ⟨g1, all trivial⟩
    | pieces m c =>
      obtain ⟨t1, t2, q, e, q1, q2⟩ := tms_ok hg oa.1
      have fp := figF_pos (n := m) hb
      have g1 : pg.2 * tms pg.2 m / m * (m + c + figF b m) = pg.1 * tms pg.2 m := g1
      rw [div_q oa.1 e, Int.add_assoc, Int.mul_add, Int.mul_comm q m, ← e] at g1
      have l := les t1
      have oc := oa.2.2.1
      have h5 := Int.mul_le_mul q1 (show 1 ≤ c + figF b m by omega) (by omega) (by omega)
      omega
    | cut m c =>
      obtain ⟨t1, t2, q, e, q1, q2⟩ := tms_ok hg oa.1
      have g1 : pg.2 * tms pg.2 m + pg.2 * tms pg.2 m / m * c = pg.1 * tms pg.2 m := g1
      rw [div_q oa.1 e] at g1
      have l := les t1
      have oc := oa.2.2.1
      have h5 := Int.mul_nonneg (show 0 ≤ q by omega) oc
      have c0 : c = 0 := by
        have z : q * c = 0 := by omega
        rcases Int.mul_eq_zero.mp z with z | z
        · omega
        · exact z
      exact ⟨eqs t1 (by omega), all c0⟩
    | coded m c =>
      obtain ⟨t1, t2, q, e, q1, q2⟩ := tms_ok hg oa.1
      have g1 : pg.2 * tms pg.2 m / m * c = pg.1 * tms pg.2 m := g1
      rw [div_q oa.1 e] at g1
      have l := les t1
      have oc := oa.2.2.1
      have h5 := Int.mul_le_mul_of_nonneg_left oc (show 0 ≤ q by omega)
      rw [Int.mul_comm q m, ← e] at h5
      have ez : pg.2 * tms pg.2 m = pg.1 * tms pg.2 m := by omega
      refine ⟨eqs t1 ez, all ?_⟩
      have ew : q * c = q * m := by rw [Int.mul_comm q m, ← e]; omega
      exact Int.eq_of_mul_eq_mul_left (by omega) ew
    | filled m =>
      obtain ⟨t1, t2, q, e, q1, q2⟩ := tms_ok hg oa.1
      exact ⟨eqs t1 g1, all trivial⟩
theorem flat_step {b : Int} (hb : 2 ≤ b) {a : Wr} (ok : a.ok) (fl : Flat a) {x : Int} (x0 : 0 ≤ x) (x1 : x < 2 ^ 250) : a.gr b x ≤ x + 1300 := by
  have fb : ∀ y : Int, y < 2 ^ 260 → figF b y ≤ 261 := fun y hy => isF_bound hb 260 hy (figF_is hb)
  have p2 : (2 : Int) ^ 250 + 2000 < 2 ^ 260 := by decide
  have bg : ∀ m : Int, 1 ≤ m → m ≤ 60 → beg x m * m ≤ x + 60 := fun m h1 h2 => by
    unfold beg
    have e := Int.mul_ediv_add_emod (x + m - 1) m
    have r0 := Int.emod_nonneg (x + m - 1) (show m ≠ 0 by omega)
    rw [Int.mul_comm]
    omega
  cases a with
  | plus c =>
    have := ok.2
    show x + c ≤ _
    omega
  | told c =>
    have := ok.2
    have := fb x (by omega)
    show x + c + figF b x ≤ _
    omega
  | whole c =>
    have c0 := ok.1
    have c1 := ok.2
    show totF b (x + c) ≤ _
    have t := (totF_is (b := b) (n := x + c) hb (by omega))
    have t1 := figF_eq hb t.tot
    have g := gr_le hb (w := .whole c) ok x0
    have g2 : totF b (x + c) ≤ 128 * x + 4096 := g.2
    have := fb (totF b (x + c)) (by
      have : (128 : Int) * 2 ^ 250 + 4096 < 2 ^ 260 := by decide
      omega)
    omega
  | pieces m c => exact fl.elim
  | cut m c =>
    have fl : c = 0 := fl
    show x + beg x m * c ≤ _
    rw [fl, Int.mul_zero]
    omega
  | coded m c =>
    have fl : c = m := fl
    show beg x m * c ≤ _
    rw [fl]
    have := bg m ok.1 ok.2.1
    omega
  | filled m =>
    have := bg m ok.1 ok.2
    show beg x m * m ≤ _
    omega
theorem flat_all {b : Int} (hb : 2 ≤ b) : ∀ (ws : List Wr), (∀ a ∈ ws, a.ok) → (∀ a ∈ ws, Flat a) → ws.length ≤ 6 → ∀ {x : Int}, 0 ≤ x → x + 1300 * (ws.length : Int) < 2 ^ 250 → grS b ws x ≤ x + 1300 * (ws.length : Int)
  | [], _, _, _, x, _, _ => by
    show x ≤ x + 1300 * 0
    omega
  | a :: ws, ok, fl, l6, x, x0, x1 => by
    have l6 : ws.length + 1 ≤ 6 := l6
    have e : (((a :: ws).length : Nat) : Int) = (ws.length : Int) + 1 := rfl
    rw [e] at x1 ⊢
    have g := flat_step hb (ok a (.head _)) (fl a (.head _)) x0 (by omega)
    have g0 := gr_ge hb (ok a (.head _)) x0
    have ih := flat_all hb ws (fun z hz => ok z (.tail _ hz)) (fun z hz => fl z (.tail _ hz)) (by omega) (x := a.gr b x) (by omega) (by omega)
    show grS b ws (a.gr b x) ≤ _
    omega
/-- a stack of slope one adds at most ten thousand -/
theorem slow_step {b : Int} (hb : 2 ≤ b) {ws : List Wr} (ok : ∀ a ∈ ws, a.ok) (l6 : ws.length ≤ 6) (e : (perL b ws).2 = (perL b ws).1) {x : Int} (x0 : 0 ≤ x) (x1 : x ≤ 10 ^ 62) : grS b ws x ≤ x + 10000 := by
  have fl := (per_flat hb ws ok (1, 1) (Int.le_refl _) (Int.le_refl _) e).2
  have p2 : (10 : Int) ^ 62 + 1300 * 6 < 2 ^ 250 := by decide
  have := flat_all hb ws ok fl l6 x0 (by omega)
  omega
/-! ### what heads tell -/
def spTold (K : PySem.W.Frag) : Sp := fun vs H Q _ => ∃ (q : Addr) (b : Int) (ws : List Wr) (n : Int), vs = [.ref q, .int n] ∧ StkAt K H q b ws ∧ StkOk b ws ∧ 0 ≤ n ∧ n < 2 ^ 1000 ∧ ∀ l H', H l = none → Same H H' → H' l = some (.lst ((toldsL b ws n).map V.int)) → Q (.ref l) H'
theorem grS_snocN {b : Int} {ws : List Wr} {a : Wr} {n : Int} : grS b (ws ++ [a]) n = a.gr b (grS b ws n) := by
  unfold grS
  rw [List.foldl_append]
  rfl
theorem nxtG {D : Ends} {σ : L2.St} {H : Hp} (k : D.nx σ H) : tNext D σ H := k
section
variable {P : Program} {w : World} {K : PySem.W.Frag} {mg : Str → Option Value} {base : Heap}
theorem ok_told_lengths (T : Tx w K mg) : Prom P w K mg base CX0 5 "told_lengths" s_told_lengths ["stack", "length"] (spTold K) := by
  refine Prom.of T.d_told_lengths sc_told_lengths (fun vs H Q E h => ?_) (fun _ _ _ _ _ _ us hl => match us, hl with | [_, _], _ => rfl) (fun f cdv A outer s H vs Q E hr h => ?_)
  · obtain ⟨q, b, ws, n, rfl, _⟩ := h
    rfl
  · obtain ⟨q, b, ws, n, rfl, hst, so, n0, n1, k⟩ := h
    refine ⟨_, (pss_cons (ps_set (i := 2) sc_told_lengths.nd rfl (Or.inl rfl) (pe_lst pa_nil))
      (pss_cons (ps_for PassesOwn.never (by rfl) (pi_tup (pe_fld (pv 0) rfl)) (pg_name (i := 3) sc_told_lengths.nd rfl (Or.inl rfl)) (pss_cons (ps_set (i := 4) sc_told_lengths.nd rfl (Or.inl rfl) (pe_methP (ok_Wrap_grown T) (hr.mono (by decide)) pass0 (pv 3) (pa_cons (pv 1) (pa_cons (pe_fld (pv 0) rfl) pa_nil))))
      (pss_cons (ps_mid (ps_if (pt_cmpR op_in_seq (pe_fld (pv 3) rfl) (pe_tup (pa_cons pe_str (pa_cons pe_str pa_nil))) (by rfl)) (pss_one (ps_expr (pe_bm PySem.F.plainAttrs_list PySem.F.slot_list_append PySem.F.type_list_append mt_append (pv 2) (pa_cons (pe_ifExp (pt_cmpR op_eq (pe_fld (pv 3) rfl) pe_str (nomark _)) (pv 1) (pv 4)) pa_nil)))) pss_nil))
      (pss_one (ps_set (i := 1) sc_told_lengths.nd rfl (Or.inl rfl) (pv 4))))))
      (pss_one (ps_ret (pv 2))))), ?_⟩
    obtain ⟨dx, t, xs, hq, ht, hw⟩ := id hst
    refine ⟨Nat.zero_le _, fun F hF => gn ?_⟩
    refine st_eq [some (.ref q), some (.int n), some (.ref F), none, none] rfl ?_
    have s1 := up (o := .lst []) hF
    refine ⟨_, rfl, q, _, dx, _, _, rfl, s1 _ _ hq, T.cl_Stack, T.na_Stack_wraps, rfl, t, rfl, ⟨_, SqT.of (s1 _ _ ht)⟩, for_it (walk_tup (K := K) (a := t) (xs := xs)) (fun i σ G => Same H G ∧ G F = some (.lst ((toldsL b (ws.take i) n).map V.int)) ∧ ∃ v v', σ = [some (.ref q), some (.int (grS b (ws.take i) n)), some (.ref F), v, v']) ⟨s1, upd_same, none, none, rfl⟩ (fun _ _ G _ h => SqT.of (h.1 _ _ ht)) ?_ ?_⟩
    · rintro i x σ G1 G2 hi ⟨sh, gF, v, v', rfl⟩ ⟨rfl, hx⟩
      obtain ⟨r, a, rfl, hr2, hw1⟩ := (hw.same sh).get hx
      have hm := List.mem_of_getElem? hr2
      have hok := so.ok a hm
      obtain ⟨dx2, p, h1, h2⟩ := id hw1
      have et : grS b (ws.take (i + 1)) n = a.gr b (grS b (ws.take i) n) := by
        rw [List.take_succ, hr2]
        exact grS_snocN
      have ett : toldsL b (ws.take (i + 1)) n = toldsL b (ws.take i) n ++ hd1 b a (grS b (ws.take i) n) := by
        rw [List.take_succ, hr2]
        show toldsL b (ws.take i ++ [a]) n = _
        rw [tolds_app]
        show _ ++ (hd1 b a _ ++ []) = _
        rw [List.append_nil]
      have tl := tolds_le (b := b) (ws.take i) n
      have hl := so.len
      have hlt : (ws.take i).length ≤ 6 := by
        rw [List.length_take]
        omega
      have bd := grS_pow so.b0 (ws.take i) (fun z hz => so.ok z (List.mem_of_mem_take hz)) (show 12 ≤ 1000 by decide) n0 n1
      have bd2 : grS b (ws.take i) n < 2 ^ 3000 := Int.lt_of_lt_of_le bd.2 (pow_mono (by decide) (by omega))
      rw [et, ett]
      generalize grS b (ws.take i) n = m at bd bd2 ⊢
      refine ⟨_, rfl, r, dx2, _, rfl, h1, rfl, _, rfl, _, rfl, q, _, dx, _, _, rfl, sh _ _ hq, T.cl_Stack, T.na_Stack_base, rfl, a, r, m, b, rfl, hw1, hok, so.b0, so.b1, bd.1, bd2, ?_⟩
      refine ⟨fun σ' G' => Same H G' ∧ G' F = some (.lst ((toldsL b (ws.take i) n ++ hd1 b a m).map V.int)) ∧ σ' = [some (.ref q), some (.int m), some (.ref F), some (.ref r), some (.int (a.gr b m))], ?_, ?_⟩
      rotate_left
      · refine ⟨_, rfl, r, _, dx2, _, _, rfl, h1, T.cl_Wrap, T.na_Wrap_kind, rfl, (by show 2 ≤ sizeLine; decide), fun u hu => ?_⟩
        have su := up (o := .tup [V.str "told", V.str "whole"]) hu
        have sh2 := sh.trans su
        have gF2 := su _ _ gF
        refine ⟨u, _, rfl, .inr (SqT.of upd_same), rfl, rfl, _, rfl, ?_⟩
        rw [if_neg (show ¬ (false = true) by decide)]
        generalize (upd G2 u (.tup [V.str "told", V.str "whole"])) = G3 at su sh2 gF2 ⊢
        have h1 := su _ _ h1
        have sput : ∀ o, Same H (upd G3 F o) := fun o c z e => by
          rw [upd_ne (ne_of_none e hF)]
          exact sh2 _ _ e
        have ln : ∀ x : V, ((toldsL b (ws.take i) n).map V.int).length < sizeLine := fun _ => Nat.lt_of_lt_of_le (m := 10) (by rw [List.length_map]; omega) (by decide)
        cases a with
        | told c =>
          refine ifb_pos (by kernel_rfl) ?_
          refine ⟨_, rfl, .inl ⟨rfl, _, SqL.of gF2⟩, _, rfl, r, _, dx2, _, _, rfl, h1, T.cl_Wrap, T.na_Wrap_kind, rfl, rfl, _, rfl, ifd_pos rfl ⟨_, rfl, F, _, _, rfl, rfl, gF2, ln .non, ?_⟩⟩
          exact ⟨sput _, by rw [upd_same, List.map_append]; rfl, rfl⟩
        | whole c =>
          refine ifb_pos (by kernel_rfl) ?_
          refine ⟨_, rfl, .inl ⟨rfl, _, SqL.of gF2⟩, _, rfl, r, _, dx2, _, _, rfl, h1, T.cl_Wrap, T.na_Wrap_kind, rfl, rfl, _, rfl, ifs_neg (show ("whole" : Str) ≠ "told" by decide) ⟨_, rfl, F, _, _, rfl, rfl, gF2, ln .non, ?_⟩⟩
          exact ⟨sput _, by rw [upd_same, List.map_append]; rfl, rfl⟩
        | plus c => exact ifb_neg (by kernel_rfl) (nxtG ⟨sh2, by rw [gF2]; exact congrArg (fun z => some (HO.lst (z.map V.int))) (List.append_nil _).symm, rfl⟩)
        | pieces m2 c => exact ifb_neg (by kernel_rfl) (nxtG ⟨sh2, by rw [gF2]; exact congrArg (fun z => some (HO.lst (z.map V.int))) (List.append_nil _).symm, rfl⟩)
        | cut m2 c => exact ifb_neg (by kernel_rfl) (nxtG ⟨sh2, by rw [gF2]; exact congrArg (fun z => some (HO.lst (z.map V.int))) (List.append_nil _).symm, rfl⟩)
        | coded m2 c => exact ifb_neg (by kernel_rfl) (nxtG ⟨sh2, by rw [gF2]; exact congrArg (fun z => some (HO.lst (z.map V.int))) (List.append_nil _).symm, rfl⟩)
        | filled m2 => exact ifb_neg (by kernel_rfl) (nxtG ⟨sh2, by rw [gF2]; exact congrArg (fun z => some (HO.lst (z.map V.int))) (List.append_nil _).symm, rfl⟩)
      rintro σ' G4 ⟨s4, g4, rfl⟩
      exact ⟨_, rfl, s4, g4, _, _, rfl⟩
    · rintro σ G ⟨sh, gF, v, v', rfl⟩
      rw [hw.len, List.take_length] at gF
      exact ⟨_, rfl, k F _ hF sh gF⟩
end
/-! ### the period, walked -/
def spGcd : Sp := fun vs H Q _ => ∃ x y : Int, vs = [.int x, .int y] ∧ 1 ≤ x ∧ 1 ≤ y ∧ ∀ d, 1 ≤ d → d ≤ y → d ∣ x → d ∣ y → (∀ e, e ∣ x → e ∣ y → e ∣ d) → Q (.int d) H
def spPeriod (K : PySem.W.Frag) : Sp := fun vs H Q _ => ∃ (q : Addr) (b : Int) (ws : List Wr), vs = [.ref q] ∧ StkAt K H q b ws ∧ StkOk b ws ∧ ∀ t H', H t = none → Same H H' → H' t = some (.tup [.int (perL b ws).1, .int (perL b ws).2]) → Q (.ref t) H'
theorem mulw_of {x y : Int} (x0 : 0 ≤ x) (x1 : x < 2 ^ 2000) (y0 : 0 ≤ y) (y1 : y < 2 ^ 2000) : CMulW x y := by
  have h : ∀ z : Int, 0 ≤ z → z < 2 ^ 2000 → z.natAbs < 2 ^ 2000 := fun z h0 h1 => by
    have e : ((z.natAbs : Nat) : Int) = z := by omega
    have : ((z.natAbs : Nat) : Int) < ((2 ^ 2000 : Nat) : Int) := by rw [e]; exact h1
    exact Int.ofNat_lt.mp this
  exact wide_mul (h x x0 x1) (h y y0 y1) (by decide) (by decide) (by decide)
theorem per_big {b : Int} (hb : 2 ≤ b) : ∀ (ws : List Wr), (∀ a ∈ ws, a.ok) → ∀ (pg : Int × Int), 1 ≤ pg.1 → pg.1 ≤ pg.2 → 1 ≤ (ws.foldl (per1 b) pg).1 ∧ (ws.foldl (per1 b) pg).1 ≤ (ws.foldl (per1 b) pg).2 ∧ (ws.foldl (per1 b) pg).2 ≤ pg.2 * 7560 ^ ws.length
  | [], _, pg, h1, h2 => ⟨h1, h2, by show pg.2 ≤ pg.2 * 1; omega⟩
  | a :: ws, ok, pg, h1, h2 => by
    obtain ⟨e1, t1, _, le1, bg⟩ := per1_ok hb (ok a (.head _)) h1 h2
    have p1 : 1 ≤ (per1 b pg a).1 := by
      rw [e1]
      have := Int.mul_le_mul h1 t1 (by omega) (by omega)
      omega
    obtain ⟨x1, x2, x3⟩ := per_big hb ws (fun z hz => ok z (.tail _ hz)) (per1 b pg a) p1 le1
    refine ⟨x1, x2, Int.le_trans x3 ?_⟩
    have := Int.mul_le_mul_of_nonneg_right bg (show (0 : Int) ≤ 7560 ^ ws.length from Int.le_of_lt (Int.pow_pos (by decide)))
    have e : (7560 : Int) ^ (a :: ws).length = 7560 ^ ws.length * 7560 := Int.pow_succ ..
    rw [e, Int.mul_comm (7560 ^ ws.length) 7560, ← Int.mul_assoc]
    exact this
theorem per_bound {b : Int} (hb : 2 ≤ b) {ws : List Wr} (ok : ∀ a ∈ ws, a.ok) (l6 : ws.length ≤ 6) : 1 ≤ (perL b ws).1 ∧ (perL b ws).1 ≤ (perL b ws).2 ∧ (perL b ws).2 < 2 ^ 90 := by
  obtain ⟨x1, x2, x3⟩ := per_big hb ws ok (1, 1) (Int.le_refl _) (Int.le_refl _)
  refine ⟨x1, x2, ?_⟩
  have h1 : (7560 : Int) ^ ws.length ≤ 7560 ^ 6 := pow_mono (by decide) l6
  have h2 : (7560 : Int) ^ 6 < 2 ^ 90 := by decide
  have x3 : (perL b ws).2 ≤ 1 * 7560 ^ ws.length := x3
  omega
/-- what a wrap cuts by -/
def whl : Wr → Option Int
  | .pieces m _ => some m
  | .cut m _ => some m
  | .coded m _ => some m
  | .filled m => some m
  | _ => none
section
variable {P : Program} {w : World} {K : PySem.W.Frag} {mg : Str → Option Value} {base : Heap}
theorem ok_common_divisor (T : Tx w K mg) : Prom P w K mg base CX0 1 "common_divisor" s_common_divisor ["one", "other"] spGcd := by
  refine Prom.of T.d_common_divisor sc_common_divisor (fun vs H Q E h => ?_) (fun _ _ _ _ _ _ us hl => match us, hl with | [_, _], _ => rfl) (fun f cdv A outer s H vs Q E hr h => ?_)
  · obtain ⟨x, y, rfl, _⟩ := h
    rfl
  · obtain ⟨x, y, rfl, x0, y0, k⟩ := h
    refine ⟨_, (pss_cons (ps_while PassesOwn.never (pt_cmp (pc_gt (pv 1) pe_int)) (pss_one (ps_par (i := 0) (j := 1) (by rfl) sc_common_divisor.nd rfl rfl (by decide) rfl rfl (pa_cons (pv 1) (pa_cons (pe_op op_mod (pe_callTy call_int1 (by rfl) T.b_int (by decide +kernel) (pa_cons (pv 0) pa_nil)) (pe_callTy call_int1 (by rfl) T.b_int (by decide +kernel) (pa_cons (pv 1) pa_nil))) pa_nil)) (by rfl))))
      (pss_one (ps_ret (pv 0)))), ?_⟩
    refine ⟨fun m σ H1 => H1 = H ∧ ∃ a c : Int, σ = [some (.int a), some (.int c)] ∧ 1 ≤ a ∧ 0 ≤ c ∧ (∀ e, e ∣ a → e ∣ c → e ∣ x ∧ e ∣ y) ∧ (∀ e, e ∣ x → e ∣ y → e ∣ a ∧ e ∣ c) ∧ m = c.toNat, ⟨y.toNat, rfl, x, y, rfl, x0, by omega, (fun e h1 h2 => ⟨h1, h2⟩), (fun e h1 h2 => ⟨h1, h2⟩), rfl⟩, ?_⟩
    rintro m σ H1 ⟨rfl, a, c, rfl, a0, c0, dv, dw, rfl⟩
    refine ⟨_, rfl, _, _, rfl, rfl, _, rfl, ifd (fun hc => ?_) (fun hc => ?_)⟩
    · have hc : 0 < c := hc
      have m0 := Int.emod_nonneg a (show c ≠ 0 by omega)
      have m1 := Int.emod_lt_of_pos a hc
      refine ⟨_, fun _ _ h => h, ?_⟩
      refine ⟨_, rfl, _, rfl, .inl ⟨_, rfl, _, rfl, .inl ⟨_, rfl, _, _, rfl, rfl, hc, _, _, rfl, ?_⟩⟩⟩
      refine ⟨(a % c).toNat, ?_, rfl, c, a % c, rfl, hc, m0, fun e h1 h2 => dv e ?_ h1, fun e h1 h2 => ⟨(dw e h1 h2).2, ?_⟩, rfl⟩
      · show (a % c).toNat < c.toNat
        omega
      · have h3 := Int.dvd_add (Int.dvd_trans h1 (Int.dvd_mul_right c (a / c))) h2
        rwa [Int.mul_ediv_add_emod] at h3
      · obtain ⟨h3, h4⟩ := dw e h1 h2
        rw [show a % c = a - c * (a / c) by have := Int.mul_ediv_add_emod a c; omega]
        exact Int.dvd_sub h3 (Int.dvd_trans h4 (Int.dvd_mul_right c (a / c)))
    · have hc : ¬ 0 < c := hc
      have e0 : c = 0 := by omega
      have dv := dv a (Int.dvd_refl a) (by rw [e0]; exact Int.dvd_zero a)
      exact ⟨_, rfl, k a a0 (Int.le_of_dvd (by omega) dv.2) dv.1 dv.2 (fun e h1 h2 => (dw e h1 h2).1)⟩
theorem ok_period_of (T : Tx w K mg) : Prom P w K mg base CX0 4 "period_of" s_period_of ["stack"] (spPeriod K) := by
  refine Prom.of T.d_period_of sc_period_of (fun vs H Q E h => ?_) (fun _ _ _ _ _ _ us hl => match us, hl with | [_], _ => rfl) (fun f cdv A outer s H vs Q E hr h => ?_)
  · obtain ⟨q, b, ws, rfl, _⟩ := h
    rfl
  · obtain ⟨q, b, ws, rfl, hst, so, k⟩ := h
    refine ⟨_, (pss_cons (ps_asg (pe_tup (pa_cons pe_int (pa_cons pe_int pa_nil))) (pg_tup rfl (pgs_cons (pg_name (i := 1) sc_period_of.nd rfl (Or.inl rfl)) (pgs_cons (pg_name (i := 2) sc_period_of.nd rfl (Or.inl rfl)) pgs_nil))))
      (pss_cons (ps_for PassesOwn.never (by rfl) (pi_tup (pe_fld (pv 0) rfl)) (pg_name (i := 3) sc_period_of.nd rfl (Or.inl rfl)) (pss_one (ps_if (pt_cmpR op_in_seq (pe_fld (pv 3) rfl) (pe_tup (pa_cons pe_str (pa_cons pe_str (pa_cons pe_str (pa_cons pe_str pa_nil))))) (by rfl)) (pss_cons (ps_set (i := 4) sc_period_of.nd rfl (Or.inl rfl) (pe_ix ix_tup (pe_fld (pv 3) rfl) pe_int (fun _ _ => rfl)))
      (pss_cons (ps_set (i := 5) sc_period_of.nd rfl (Or.inl rfl) (pe_op op_fdiv (pv 4) (pe_callP (ok_common_divisor T) (hr.mono (by decide)) (by rfl) pass0 (pa_cons (pv 2) (pa_cons (pv 4) pa_nil)))))
      (pss_cons (ps_par (i := 1) (j := 2) (by rfl) sc_period_of.nd rfl rfl (by decide) rfl rfl (pa_cons (pe_op op_mulW (pv 1) (pv 5)) (pa_cons (pe_op op_mulW (pv 2) (pv 5)) pa_nil)) (by rfl))
      (pss_cons (ps_set (i := 6) sc_period_of.nd rfl (Or.inl rfl) (pe_op op_fdiv (pv 2) (pv 4)))
      (pss_one (ps_if (pt_cmpR op_eq (pe_fld (pv 3) rfl) pe_str (nomark _)) (pss_one (ps_set (i := 2) sc_period_of.nd rfl (Or.inl rfl) (pe_op op_mulW (pv 6) (pe_ix ix_tup (pe_fld (pv 3) rfl) pe_int (fun _ _ => rfl))))) (pss_one (ps_if (pt_cmpR op_eq (pe_fld (pv 3) rfl) pe_str (nomark _)) (pss_one (ps_set (i := 2) sc_period_of.nd rfl (Or.inl rfl) (pe_op op_add (pv 2) (pe_op op_mulW (pv 6) (pe_ix ix_tup (pe_fld (pv 3) rfl) pe_int (fun _ _ => rfl)))))) (pss_one (ps_if (pt_cmpR op_eq (pe_fld (pv 3) rfl) pe_str (nomark _)) (pss_one (ps_set (i := 2) sc_period_of.nd rfl (Or.inl rfl) (pe_op op_mulW (pv 6) (pe_op op_add (pe_op op_add (pv 4) (pe_ix ix_tup (pe_fld (pv 3) rfl) pe_int (fun _ _ => rfl))) (pe_callP (ok_figures_of T) (hr.mono (by decide)) (by rfl) pass0 (pa_cons (pv 4) (pa_cons (pe_fld (pv 0) rfl) pa_nil))))))) pss_nil)))))))))) pss_nil)))
      (pss_one (ps_ret (pe_tup (pa_cons (pv 1) (pa_cons (pv 2) pa_nil))))))), ?_⟩
    obtain ⟨dx, t, xs, hq, ht, hw⟩ := id hst
    refine ⟨(by show 2 ≤ sizeLine; decide), fun u hu => ?_⟩
    have s1 := up (o := .tup [V.int 1, .int 1]) hu
    refine ⟨u, _, rfl, SqT.of upd_same, rfl, _, _, rfl, _, _, rfl, rfl, ?_⟩
    refine st_eq [some (.ref q), some (.int 1), some (.int 1), none, none, none, none] rfl ?_
    refine ⟨_, rfl, q, _, dx, _, _, rfl, s1 _ _ hq, T.cl_Stack, T.na_Stack_wraps, rfl, t, rfl, ⟨_, SqT.of (s1 _ _ ht)⟩, for_it (walk_tup (K := K) (a := t) (xs := xs)) (fun i σ H' => Same H H' ∧ ∃ (v3 v4 v5 v6 : Option V), σ = [some (.ref q), some (.int (perL b (ws.take i)).1), some (.int (perL b (ws.take i)).2), v3, v4, v5, v6]) ⟨s1, none, none, none, none, rfl⟩ (fun _ _ H' _ h => SqT.of (h.1 _ _ ht)) ?_ ?_⟩
    · rintro i x σ H1 H2 hi ⟨sh, v3, v4, v5, v6, rfl⟩ ⟨rfl, hx⟩
      obtain ⟨r, a, rfl, hr2, hw1⟩ := (hw.same sh).get hx
      have hm := List.mem_of_getElem? hr2
      have hok := so.ok a hm
      obtain ⟨dx2, tp, h1, h2⟩ := id hw1
      have et : perL b (ws.take (i + 1)) = per1 b (perL b (ws.take i)) a := by
        rw [List.take_succ, hr2]
        exact perL_app
      have hl := so.len
      obtain ⟨p1, pg, gb⟩ := per_bound so.b0 (ws := ws.take i) (fun z hz => so.ok z (List.mem_of_mem_take hz)) (by rw [List.length_take]; omega)
      rw [et]
      generalize perL b (ws.take i) = pgv at p1 pg gb ⊢
      obtain ⟨p, g⟩ := pgv
      have p1 : 1 ≤ p := p1
      have pg : p ≤ g := pg
      have gb : g < 2 ^ 90 := gb
      have num : ∀ {j : Nat} {n : Int}, a.nums[j]? = some n → atI (a.nums.map V.int) ((j : Nat) : Int) = some (.int n) := fun {j n} hj => atI_nat (by rw [List.getElem?_map, hj]; rfl)
      refine ⟨_, rfl, r, _, dx2, _, _, rfl, h1, T.cl_Wrap, T.na_Wrap_kind, rfl, (by show 4 ≤ sizeLine; decide), fun z hz => ?_⟩
      refine ⟨z, _, rfl, .inr (SqT.of upd_same), rfl, rfl, _, rfl, ?_⟩
      rw [if_neg (show ¬ (false = true) by decide)]
      have sz := up (H' := H2) (o := .tup [V.str "pieces", .str "cut", .str "coded", .str "filled"]) hz
      have h1 := sz _ _ h1
      have h2 := sz _ _ h2
      have hq2 := sz _ _ (sh _ _ hq)
      have sh2 := sh.trans sz
      generalize (upd H2 z (.tup [V.str "pieces", .str "cut", .str "coded", .str "filled"])) = H3 at h1 h2 hq2 sh2 ⊢
      cases em : whl a with
      | none =>
        refine ifb_neg (by
          cases a with
          | plus c => kernel_rfl
          | told c => kernel_rfl
          | whole c => kernel_rfl
          | pieces m c => cases em
          | cut m c => cases em
          | coded m c => cases em
          | filled m => cases em) ?_
        have e1 : per1 b (p, g) a = (p, g) := by
          cases a with
          | plus c => rfl
          | told c => rfl
          | whole c => rfl
          | pieces m c => cases em
          | cut m c => cases em
          | coded m c => cases em
          | filled m => cases em
        rw [e1]
        exact ⟨sh2, some (.ref r), v4, v5, v6, rfl⟩
      | some m =>
        have hm0 : 1 ≤ m ∧ m ≤ 60 := by
          cases a with
          | plus c => cases em
          | told c => cases em
          | whole c => cases em
          | pieces m c => cases em; exact ⟨hok.1, hok.2.1⟩
          | cut m c => cases em; exact ⟨hok.1, hok.2.1⟩
          | coded m c => cases em; exact ⟨hok.1, hok.2.1⟩
          | filled m => cases em; exact hok
        have num0 : a.nums[0]? = some m := by
          cases a with
          | plus c => cases em
          | told c => cases em
          | whole c => cases em
          | pieces m c => cases em; rfl
          | cut m c => cases em; rfl
          | coded m c => cases em; rfl
          | filled m => cases em; rfl
        have hin : inV (.str a.kind) [V.str "pieces", .str "cut", .str "coded", .str "filled"] = true := by
          cases a with
          | plus c => cases em
          | told c => cases em
          | whole c => cases em
          | pieces m c => kernel_rfl
          | cut m c => kernel_rfl
          | coded m c => kernel_rfl
          | filled m => kernel_rfl
        refine ifb_pos hin ?_
        refine ⟨_, rfl, r, _, dx2, _, _, rfl, h1, T.cl_Wrap, T.na_Wrap_numbers, rfl, tp, _, _, _, rfl, rfl, SqT.of h2, num (j := 0) num0, ?_⟩
        have g1 : 1 ≤ g := by omega
        refine ⟨_, rfl, _, rfl, _, rfl, g, m, rfl, g1, hm0.1, fun d d0 d1 d2 d3 d4 => ?_⟩
        have ed : d = (Int.gcd g m : Int) := Int.dvd_antisymm (by omega) (by omega) (Int.dvd_coe_gcd d2 d3) (d4 _ (Int.gcd_dvd_left ..) (Int.gcd_dvd_right ..))
        refine ⟨_, _, rfl, rfl, ⟨by omega, by omega⟩, ?_⟩
        show gName 5 (.int (m / d)) _ _ _
        have et : m / d = tms g m := by rw [ed]; rfl
        rw [et]
        obtain ⟨t0, t1, q1, eq1, q0, qg⟩ := tms_ok g1 hm0.1
        have gg : g * tms g m ≤ 2 ^ 90 * 60 := Int.mul_le_mul (Int.le_of_lt gb) (by omega) (by omega) (by decide)
        have w1 : ∀ x : Int, 1 ≤ x → x ≤ g → CMulW x (tms g m) := fun x x0 x1 => mulw_of (by omega) (Int.lt_trans (show x < 2 ^ 90 by omega) (by decide)) (by omega) (Int.lt_of_le_of_lt (show tms g m ≤ 60 by omega) (by decide))
        refine ⟨_, rfl, _, rfl, _, _, rfl, rfl, w1 _ p1 pg, _, rfl, _, rfl, _, _, rfl, rfl, w1 _ g1 (Int.le_refl _), _, _, rfl, ?_⟩
        refine ⟨_, rfl, _, rfl, _, _, rfl, rfl, ⟨by omega, by omega⟩, ?_⟩
        have edv : g * tms g m / m = q1 := div_q hm0.1 eq1
        have w2 : ∀ c : Int, 0 ≤ c → c ≤ 7560 → CMulW q1 c := fun c c0 c1 => mulw_of (by omega) (Int.lt_trans (show q1 < 2 ^ 90 by omega) (by decide)) c0 (Int.lt_of_le_of_lt c1 (by decide))
        show gName 6 (.int (g * tms g m / m)) _ _ _
        rw [edv]
        refine st_eq [some (.ref q), some (.int (p * tms g m)), some (.int (g * tms g m)), some (.ref r), some (.int m), some (.int (tms g m)), some (.int q1)] rfl ?_
        refine ⟨_, rfl, r, _, dx2, _, _, rfl, h1, T.cl_Wrap, T.na_Wrap_kind, rfl, rfl, _, rfl, ?_⟩
        cases a with
        | plus c => cases em
        | told c => cases em
        | whole c => cases em
        | coded m' c =>
          cases em
          refine ifd_pos rfl ?_
          refine ⟨_, rfl, _, rfl, r, _, dx2, _, _, rfl, h1, T.cl_Wrap, T.na_Wrap_numbers, rfl, tp, _, _, _, rfl, rfl, SqT.of h2, num (j := 1) rfl, _, _, rfl, rfl, w2 c (by have := hok.2.2; omega) (by have := hok.2.2; omega), ?_⟩
          refine ⟨sh2, some (.ref r), some (.int m), some (.int (tms g m)), some (.int q1), ?_⟩
          show (_ : L2.St) = [some (V.ref q), some (V.int (p * tms g m)), some (V.int (g * tms g m / m * c)), _, _, _, _]
          rw [edv]
          rfl
        | cut m' c =>
          cases em
          refine ifs_neg (show ("cut" : Str) ≠ "coded" by decide) ?_
          refine ⟨_, rfl, r, _, dx2, _, _, rfl, h1, T.cl_Wrap, T.na_Wrap_kind, rfl, rfl, _, rfl, ?_⟩
          refine ifd_pos rfl ?_
          refine ⟨_, rfl, _, rfl, _, rfl, r, _, dx2, _, _, rfl, h1, T.cl_Wrap, T.na_Wrap_numbers, rfl, tp, _, _, _, rfl, rfl, SqT.of h2, num (j := 1) rfl, _, _, rfl, rfl, w2 c (by have := hok.2.2; omega) (by have := hok.2.2; omega), _, _, rfl, rfl, ?_⟩
          refine ⟨sh2, some (.ref r), some (.int m), some (.int (tms g m)), some (.int q1), ?_⟩
          show (_ : L2.St) = [some (V.ref q), some (V.int (p * tms g m)), some (V.int (g * tms g m + g * tms g m / m * c)), _, _, _, _]
          rw [edv]
          rfl
        | filled m' =>
          cases em
          refine ifs_neg (show ("filled" : Str) ≠ "coded" by decide) ?_
          refine ⟨_, rfl, r, _, dx2, _, _, rfl, h1, T.cl_Wrap, T.na_Wrap_kind, rfl, rfl, _, rfl, ?_⟩
          refine ifs_neg (show ("filled" : Str) ≠ "cut" by decide) ?_
          refine ⟨_, rfl, r, _, dx2, _, _, rfl, h1, T.cl_Wrap, T.na_Wrap_kind, rfl, rfl, _, rfl, ?_⟩
          refine ifs_neg (show ("filled" : Str) ≠ "pieces" by decide) ?_
          exact ⟨sh2, _, _, _, _, rfl⟩
        | pieces m' c =>
          cases em
          refine ifs_neg (show ("pieces" : Str) ≠ "coded" by decide) ?_
          refine ⟨_, rfl, r, _, dx2, _, _, rfl, h1, T.cl_Wrap, T.na_Wrap_kind, rfl, rfl, _, rfl, ?_⟩
          refine ifs_neg (show ("pieces" : Str) ≠ "cut" by decide) ?_
          refine ⟨_, rfl, r, _, dx2, _, _, rfl, h1, T.cl_Wrap, T.na_Wrap_kind, rfl, rfl, _, rfl, ?_⟩
          refine ifd_pos rfl ?_
          have f6 := fig_small so.b0 hm0.2
          have fp := figF_pos (n := m) so.b0
          refine ⟨_, rfl, _, rfl, _, rfl, r, _, dx2, _, _, rfl, h1, T.cl_Wrap, T.na_Wrap_numbers, rfl, tp, _, _, _, rfl, rfl, SqT.of h2, num (j := 1) rfl, _, _, rfl, rfl, ?_⟩
          refine ⟨_, rfl, _, rfl, q, _, dx, _, _, rfl, hq2, T.cl_Stack, T.na_Stack_base, rfl, m, b, rfl, so.b0, so.b1, Int.lt_of_le_of_lt hm0.2 (by decide), fun fg hg => ?_⟩
          have efg := figF_eq so.b0 hg
          subst efg
          refine ⟨_, _, rfl, rfl, _, _, rfl, rfl, w2 _ (by have := hok.2.2; omega) (by have := hok.2.2; omega), ?_⟩
          refine ⟨sh2, some (.ref r), some (.int m), some (.int (tms g m)), some (.int q1), ?_⟩
          show (_ : L2.St) = [some (V.ref q), some (V.int (p * tms g m)), some (V.int (g * tms g m / m * (m + c + figF b m))), _, _, _, _]
          rw [edv]
          rfl
    · rintro σ H' ⟨sh, v3, v4, v5, v6, rfl⟩
      rw [hw.len, List.take_length]
      refine ⟨_, rfl, _, rfl, (by show 2 ≤ sizeLine; decide), fun u2 hu2 => ?_⟩
      exact k u2 _ (same_before sh hu2) (sh.trans (up hu2)) upd_same
end
/-! ### where a power is reached first -/
noncomputable def tlA (b : Int) (ws : List Wr) (i : Nat) (x : Int) : Int := (toldsL b ws x).getD i 0
theorem tlA_get {b x y : Int} {ws : List Wr} {i : Nat} (h : i < (toldsL b ws x).length) : (toldsL b ws y)[i]? = some (tlA b ws i y) := by
  have e := tolds_len (b := b) ws x y
  unfold tlA
  rw [List.getD_eq_getElem?_getD, List.getElem?_eq_getElem (by omega)]
  rfl
theorem tlA_mono {b : Int} (hb : 2 ≤ b) {ws : List Wr} (ok : ∀ a ∈ ws, a.ok) {i : Nat} {x y z : Int} (h : i < (toldsL b ws z).length) (x0 : 0 ≤ x) (xy : x ≤ y) : tlA b ws i x ≤ tlA b ws i y :=
  tolds_mono hb ws ok x0 xy (tlA_get h) (tlA_get h)
theorem tlA_bd {b : Int} {ws : List Wr} (so : StkOk b ws) {i : Nat} {x z : Int} (h : i < (toldsL b ws z).length) (x0 : 0 ≤ x) (x1 : x < 2 ^ 1000) : 0 ≤ tlA b ws i x ∧ tlA b ws i x < 2 ^ 1100 := by
  obtain ⟨h1, h2⟩ := tolds_nonneg so.b0 ws so.ok x0 (tlA_get (y := x) h)
  have hl := so.len
  have bd := grS_pow so.b0 ws so.ok (show 12 ≤ 1000 by decide) x0 x1
  have bd2 : grS b ws x < 2 ^ 1100 := Int.lt_of_lt_of_le bd.2 (pow_mono (by decide) (by omega))
  exact ⟨h1, by omega⟩
theorem divw_of {x y : Int} (y0 : 0 < y) (y1 : y < 2 ^ 2000) : CDivW x y := by
  refine ⟨y0, ?_⟩
  have e : ((y.natAbs : Nat) : Int) = y := by omega
  have h : ((y.natAbs : Nat) : Int) < ((2 ^ 2000 : Nat) : Int) := by rw [e]; exact y1
  have h : y.natAbs < 2 ^ 2000 := Int.ofNat_lt.mp h
  rcases Nat.eq_zero_or_pos y.natAbs with z | z
  · rw [z]
    decide
  · have := (Nat.log2_lt (by omega)).mpr h
    omega
def spReach (K : PySem.W.Frag) : Sp := fun vs H Q _ => ∃ (q : Addr) (b : Int) (ws : List Wr) (i : Nat) (p lo hi : Int), vs = [.ref q, .int (i : Int), .int p, .int lo, .int hi] ∧ StkAt K H q b ws ∧ StkOk b ws ∧ i < (toldsL b ws lo).length ∧ 0 ≤ lo ∧ lo < hi ∧ hi < 2 ^ 1000 ∧ tlA b ws i lo < p ∧ p ≤ tlA b ws i hi ∧ ∀ h H', Same H H' → lo < h → h ≤ hi → tlA b ws i (h - 1) < p → p ≤ tlA b ws i h → Q (.int h) H'
theorem chain_lt {a b i : Int} {l j r : Nat} {σ : L2.St} {H : Hp} {Q : VK} (hl : σ[l]? = some (some (.int a))) (hx : σ[j]? = some (some (.int i))) (hr : σ[r]? = some (some (.int b))) (k : Q (.bl (decide (a < i ∧ i < b))) H) :
    tChain (rI0 fun i j => V.bl (decide (i < j))) (rI0 fun i j => V.bl (decide (i < j))) (tVar l) (tVar j) (tVar r) σ H Q := by
  refine ⟨_, hl, _, hx, _, _, rfl, rfl, _, rfl, ?_⟩
  by_cases h : a < i
  · refine ifd_pos h ⟨_, hr, _, _, rfl, rfl, ?_⟩
    have e : decide (i < b) = decide (a < i ∧ i < b) := by simp [h]
    show Q (.bl (decide (i < b))) H
    rw [e]
    exact k
  · refine ifd_neg h ?_
    have e : false = decide (a < i ∧ i < b) := by simp [h]
    show Q (.bl false) H
    rw [e]
    exact k
section
variable {P : Program} {w : World} {K : PySem.W.Frag} {mg : Str → Option Value} {base : Heap}
theorem ok_first_reach (T : Tx w K mg) : Prom P w K mg base CX0 6 "first_reach" s_first_reach ["stack", "place", "power", "low", "high"] (spReach K) := by
  refine Prom.of T.d_first_reach sc_first_reach (fun vs H Q E h => ?_) (fun _ _ _ _ _ _ us hl => match us, hl with | [_, _, _, _, _], _ => rfl) (fun f cdv A outer s H vs Q E hr h => ?_)
  · obtain ⟨q, b, ws, i, p, lo, hi, rfl, _⟩ := h
    rfl
  · obtain ⟨q, b, ws, i, p, lo, hi, rfl, hst, so, hi0, l0, lh, h1, p0, p1, k⟩ := h
    refine ⟨_, (pss_cons (ps_par (i := 5) (j := 6) (by rfl) sc_first_reach.nd rfl rfl (by decide) rfl rfl (pa_cons (pe_ix ix_list (pe_callP (ok_told_lengths T) (hr.mono (by decide)) (by rfl) pass0 (pa_cons (pv 0) (pa_cons (pv 3) pa_nil))) (pv 1) (fun _ _ => rfl)) (pa_cons (pe_ix ix_list (pe_callP (ok_told_lengths T) (hr.mono (by decide)) (by rfl) pass0 (pa_cons (pv 0) (pa_cons (pv 4) pa_nil))) (pv 1) (fun _ _ => rfl)) pa_nil)) (by rfl))
      (pss_cons (ps_set (i := 7) sc_first_reach.nd rfl (Or.inl rfl) (pe_op op_add (pv 3) (pe_op op_fdivW (pe_op op_mulW (pe_op op_sub (pv 2) (pv 5)) (pe_op op_sub (pv 4) (pv 3))) (pe_op op_sub (pv 6) (pv 5)))))
      (pss_cons (ps_for PassesOwn.never (by rfl) (pi_tup (pe_tup (pa_cons (pe_op op_sub (pv 7) (pe_gint T.c_NEAR)) (pa_cons (pe_op op_add (pv 7) (pe_gint T.c_NEAR)) pa_nil)))) (pg_name (i := 8) sc_first_reach.nd rfl (Or.inl rfl)) (pss_one (ps_if (pt_chain op_lt op_lt (pv 3) (pv 8) (pv 4)) (pss_one (ps_if (pt_cmp (pc_ge (pe_ix ix_list (pe_callP (ok_told_lengths T) (hr.mono (by decide)) (by rfl) pass0 (pa_cons (pv 0) (pa_cons (pv 8) pa_nil))) (pv 1) (fun _ _ => rfl)) (pv 2))) (pss_one (ps_set (i := 4) sc_first_reach.nd rfl (Or.inl rfl) (pv 8))) (pss_one (ps_set (i := 3) sc_first_reach.nd rfl (Or.inl rfl) (pv 8))))) pss_nil)))
      (pss_cons (ps_while PassesOwn.never (pt_cmp (pc_gt (pe_op op_sub (pv 4) (pv 3)) pe_int)) (pss_cons (ps_set (i := 9) sc_first_reach.nd rfl (Or.inl rfl) (pe_op op_fdivW (pe_op op_add (pv 3) (pv 4)) pe_int))
      (pss_one (ps_if (pt_cmp (pc_ge (pe_ix ix_list (pe_callP (ok_told_lengths T) (hr.mono (by decide)) (by rfl) pass0 (pa_cons (pv 0) (pa_cons (pv 9) pa_nil))) (pv 1) (fun _ _ => rfl)) (pv 2))) (pss_one (ps_set (i := 4) sc_first_reach.nd rfl (Or.inl rfl) (pv 9))) (pss_one (ps_set (i := 3) sc_first_reach.nd rfl (Or.inl rfl) (pv 9)))))))
      (pss_one (ps_ret (pv 4))))))), ?_⟩
    have bl := tlA_bd so hi0 l0 (show lo < 2 ^ 1000 by omega)
    have bh := tlA_bd so hi0 (show 0 ≤ hi by omega) h1
    have idx : ∀ x : Int, atI ((toldsL b ws x).map V.int) ((i : Nat) : Int) = some (.int (tlA b ws i x)) := fun x => atI_nat (by rw [List.getElem?_map, tlA_get (y := x) hi0]; rfl)
    refine ⟨_, rfl, _, rfl, q, b, ws, lo, rfl, hst, so, l0, by omega, fun l1 H1 f1 s1 g1 => ?_⟩
    refine ⟨_, rfl, l1, _, _, _, rfl, rfl, SqL.of g1, idx lo, ?_⟩
    refine ⟨_, rfl, _, rfl, q, b, ws, hi, rfl, hst.same s1, so, by omega, h1, fun l2 H2 f2 s2 g2 => ?_⟩
    refine ⟨_, rfl, l2, _, _, _, rfl, rfl, SqL.of g2, idx hi, ?_⟩
    refine ⟨_, _, rfl, ?_⟩
    refine ⟨_, rfl, _, rfl, _, rfl, _, _, rfl, rfl, _, rfl, _, rfl, _, _, rfl, rfl, ?_⟩
    refine ⟨_, _, rfl, rfl, mulw_of (by omega) (Int.lt_of_le_of_lt (show p - tlA b ws i lo ≤ tlA b ws i hi by omega) (Int.lt_trans bh.2 (by decide))) (by omega) (Int.lt_trans (show hi - lo < 2 ^ 1000 by omega) (by decide)), ?_⟩
    refine ⟨_, rfl, _, rfl, _, _, rfl, rfl, ?_⟩
    refine ⟨_, _, rfl, rfl, divw_of (by omega) (Int.lt_of_le_of_lt (show tlA b ws i hi - tlA b ws i lo ≤ tlA b ws i hi by omega) (Int.lt_trans bh.2 (by decide))), ?_⟩
    refine ⟨_, _, rfl, rfl, ?_⟩
    show gName 7 (.int (lo + (p - tlA b ws i lo) * (hi - lo) / (tlA b ws i hi - tlA b ws i lo))) _ _ _
    generalize lo + (p - tlA b ws i lo) * (hi - lo) / (tlA b ws i hi - tlA b ws i lo) = gs
    refine gn ?_
    refine st_eq [some (.ref q), some (.int i), some (.int p), some (.int lo), some (.int hi), some (.int (tlA b ws i lo)), some (.int (tlA b ws i hi)), some (.int gs), none, none] rfl ?_
    have s2' := s1.trans s2
    generalize tlA b ws i lo = fst
    generalize tlA b ws i hi = lst
    refine ⟨_, rfl, _, _, rfl, rfl, _, rfl, _, _, rfl, rfl, (by show 2 ≤ sizeLine; decide), fun u hu => ?_⟩
    have s3 := s2'.trans (up (o := .tup [V.int (gs - 2048), V.int (gs + 2048)]) hu)
    have gu : (upd H2 u (.tup [V.int (gs - 2048), V.int (gs + 2048)])) u = some (.tup [V.int (gs - 2048), V.int (gs + 2048)]) := upd_same
    generalize (upd H2 u (.tup [V.int (gs - 2048), V.int (gs + 2048)])) = H3 at s3 gu ⊢
    let J : L2.St → Hp → Prop := fun σ G => Same H G ∧ ∃ (a c : Int) (v8 v9 : Option V), σ = [some (.ref q), some (.int i), some (.int p), some (.int a), some (.int c), some (.int fst), some (.int lst), some (.int gs), v8, v9] ∧ lo ≤ a ∧ a < c ∧ c ≤ hi ∧ tlA b ws i a < p ∧ p ≤ tlA b ws i c
    refine ⟨u, rfl, ⟨_, SqT.of gu⟩, for_it (walk_tup (K := K) (a := u) (xs := [V.int (gs - 2048), V.int (gs + 2048)])) (fun _ σ G => G u = some (.tup [V.int (gs - 2048), V.int (gs + 2048)]) ∧ J σ G) ⟨gu, s3, lo, hi, none, none, rfl, Int.le_refl _, lh, Int.le_refl _, p0, p1⟩ (fun _ _ G _ h => SqT.of h.1) ?_ ?_⟩
    · rintro n x σ G1 G2 hn ⟨gu1, sh, a, c, v8, v9, rfl, la, ac, ch, pa, pc⟩ ⟨rfl, hx⟩
      obtain ⟨nr, rfl⟩ : ∃ nr : Int, x = .int nr := by
        rcases n with _ | _ | n
        · exact ⟨_, (Option.some.inj hx).symm⟩
        · exact ⟨_, (Option.some.inj hx).symm⟩
        · cases hx
      refine gn ?_
      refine st_eq [some (.ref q), some (.int i), some (.int p), some (.int a), some (.int c), some (.int fst), some (.int lst), some (.int gs), some (.int nr), v9] rfl ?_
      refine chain_lt rfl rfl rfl ⟨_, rfl, ?_⟩
      refine ifd (fun hc => ?_) (fun hc => ⟨gu1, sh, a, c, some (.int nr), v9, rfl, la, ac, ch, pa, pc⟩)
      have hc : a < nr ∧ nr < c := hc
      refine ⟨_, rfl, _, rfl, q, b, ws, nr, rfl, hst.same sh, so, by omega, by omega, fun l3 G3 f3 s4 g3 => ?_⟩
      refine ⟨_, rfl, l3, _, _, _, rfl, rfl, SqL.of g3, idx nr, ?_⟩
      refine ⟨_, rfl, _, _, rfl, rfl, _, rfl, ifd (fun hd => ?_) (fun hd => ?_)⟩
      · have hd : p ≤ tlA b ws i nr := hd
        exact ⟨_, rfl, s4 _ _ gu1, sh.trans s4, a, nr, some (.int nr), v9, rfl, la, by omega, by omega, pa, hd⟩
      · have hd : ¬ p ≤ tlA b ws i nr := hd
        exact ⟨_, rfl, s4 _ _ gu1, sh.trans s4, nr, c, some (.int nr), v9, rfl, by omega, by omega, by omega, by omega, pc⟩
    · rintro σ G ⟨gu1, sh, a, c, v8, v9, rfl, la, ac, ch, pa, pc⟩
      refine ⟨fun m σ G => J σ G ∧ ∃ a c : Int, σ[3]? = some (some (.int a)) ∧ σ[4]? = some (some (.int c)) ∧ m = (c - a).toNat, ⟨(c - a).toNat, ⟨sh, a, c, v8, v9, rfl, la, ac, ch, pa, pc⟩, a, c, rfl, rfl, rfl⟩, ?_⟩
      clear sh gu1
      rintro m σ G ⟨⟨sh, a, c, v8, v9, rfl, la, ac, ch, pa, pc⟩, a', c', ea, ec, rfl⟩
      cases ea
      cases ec
      refine ⟨_, rfl, _, rfl, _, _, rfl, rfl, _, _, rfl, rfl, _, rfl, ifd (fun hc => ?_) (fun hc => ?_)⟩
      · have hc : 1 < c - a := hc
        refine ⟨_, fun _ _ h => h, ?_⟩
        refine ⟨_, rfl, _, rfl, _, _, rfl, rfl, _, _, rfl, rfl, ⟨by decide, by decide⟩, ?_⟩
        show gName 9 (.int ((a + c) / 2)) _ _ _
        have m0 : a < (a + c) / 2 := by omega
        have m1 : (a + c) / 2 < c := by omega
        generalize (a + c) / 2 = nr at m0 m1 ⊢
        refine gn ?_
        refine st_eq [some (.ref q), some (.int i), some (.int p), some (.int a), some (.int c), some (.int fst), some (.int lst), some (.int gs), v8, some (.int nr)] rfl ?_
        refine ⟨_, rfl, _, rfl, q, b, ws, nr, rfl, hst.same sh, so, by omega, by omega, fun l3 G3 f3 s4 g3 => ?_⟩
        refine ⟨_, rfl, l3, _, _, _, rfl, rfl, SqL.of g3, idx nr, ?_⟩
        refine ⟨_, rfl, _, _, rfl, rfl, _, rfl, ifd (fun hd => ?_) (fun hd => ?_)⟩
        · have hd : p ≤ tlA b ws i nr := hd
          exact ⟨_, rfl, (nr - a).toNat, by omega, ⟨sh.trans s4, a, nr, v8, some (.int nr), rfl, la, by omega, by omega, pa, hd⟩, a, nr, rfl, rfl, rfl⟩
        · have hd : ¬ p ≤ tlA b ws i nr := hd
          exact ⟨_, rfl, (c - nr).toNat, by omega, ⟨sh.trans s4, nr, c, v8, some (.int nr), rfl, by omega, by omega, by omega, by omega, pc⟩, nr, c, rfl, rfl, rfl⟩
      · have hc : ¬ 1 < c - a := hc
        have e : a = c - 1 := by omega
        subst e
        exact ⟨_, rfl, k c G sh (by omega) ch pa pc⟩
end
/-! ### where heads change -/
theorem fig_step {b x y : Int} (hb : 2 ≤ b) (xy : x ≤ y) (h : figF b x ≠ figF b y) : ∃ e : Nat, x < b ^ (e + 1) ∧ b ^ (e + 1) ≤ y := by
  have m := figF_mono hb xy
  obtain ⟨i, ei, x1, _⟩ := figF_is (b := b) (n := x) hb
  obtain ⟨j, ej, _, y2⟩ := figF_is (b := b) (n := y) hb
  rw [ei, ej] at m h
  have ij : i < j := by
    rcases Nat.lt_trichotomy i j with z | z | z
    · exact z
    · rw [z] at h
      exact absurd rfl h
    · omega
  obtain ⟨e, rfl⟩ : ∃ e, j = e + 1 := ⟨j - 1, by omega⟩
  refine ⟨e, Int.lt_of_lt_of_le x1 (pow_mono (by omega) (by omega)), ?_⟩
  rcases y2 with z | z
  · omega
  · exact z
theorem chg_place {b h lo : Int} {ws : List Wr} (c : Chg b ws h) : ∃ i, i < (toldsL b ws lo).length ∧ figF b (tlA b ws i (h - 1)) ≠ figF b (tlA b ws i h) := by
  refine Classical.byContradiction fun no => c ?_
  unfold figsAt
  have l1 := tolds_len (b := b) ws (h - 1) lo
  have l2 := tolds_len (b := b) ws h lo
  refine List.ext_getElem? fun i => ?_
  rw [List.getElem?_map, List.getElem?_map]
  by_cases hi : i < (toldsL b ws lo).length
  · rw [tlA_get (y := h - 1) hi, tlA_get (y := h) hi]
    have := Classical.byContradiction fun z => no ⟨i, hi, z⟩
    show some (figF b (tlA b ws i (h - 1))) = some (figF b (tlA b ws i h))
    rw [this]
  · rw [List.getElem?_eq_none (by omega), List.getElem?_eq_none (by omega)]
theorem pow_left {a c : Int} (h0 : 0 ≤ a) (h : a ≤ c) : ∀ n : Nat, a ^ n ≤ c ^ n
  | 0 => by rw [Int.pow_zero, Int.pow_zero]; exact Int.le_refl _
  | n + 1 => by
    rw [Int.pow_succ, Int.pow_succ]
    exact Int.mul_le_mul (pow_left h0 h n) h h0 (Int.le_trans (Int.pow_nonneg h0) (pow_left h0 h n))
/-- the keys of a dict of integers -/
def KS (kvs : List (L2.Key × V)) (ks : List Int) : Prop := kvs.map (·.1) = ks.map Sum.inl ∧ ks.Nodup
theorem KS.len {kvs : List (L2.Key × V)} {ks : List Int} (h : KS kvs ks) : kvs.length = ks.length := by simpa using congrArg List.length h.1
theorem KS.put {kvs : List (L2.Key × V)} {ks : List Int} (h : KS kvs ks) (k : Int) (v : V) : ∃ ks', KS (putK kvs (.inl k) v) ks' ∧ (∀ x, x ∈ ks' ↔ x ∈ ks ∨ x = k) ∧ ks'.length ≤ ks.length + 1 := by
  obtain ⟨e, nd⟩ := h
  have mem : ∀ x : Int, (Sum.inl x : L2.Key) ∈ kvs.map (·.1) ↔ x ∈ ks := fun x => by
    rw [e]
    constructor
    · intro z
      obtain ⟨y, hy, ey⟩ := List.mem_map.mp z
      cases ey
      exact hy
    · exact fun z => List.mem_map_of_mem z
  unfold putK
  split
  · rename_i hany
    obtain ⟨kv, hkv, ek⟩ := List.any_eq_true.mp hany
    have ek : kv.1 = .inl k := by simpa using ek
    refine ⟨ks, ⟨?_, nd⟩, fun x => ⟨.inl, fun z => z.elim id fun z => ?_⟩, by omega⟩
    · rw [← e, List.map_map]
      refine List.map_congr_left fun q _ => ?_
      show (if q.1 = Sum.inl k then (q.1, v) else q).1 = q.1
      split <;> rfl
    · rw [z, ← mem, ← ek]
      exact List.mem_map_of_mem hkv
  · rename_i hany
    have nk : k ∉ ks := fun z => hany (List.any_eq_true.mpr (by
      obtain ⟨kv, hkv, ek⟩ := List.mem_map.mp ((mem k).mpr z)
      exact ⟨kv, hkv, by simpa using ek⟩))
    refine ⟨ks ++ [k], ⟨by rw [List.map_append, List.map_append, e]; rfl, ?_⟩, fun x => by simp, by simp⟩
    rw [List.nodup_append]
    refine ⟨nd, by simp, fun a ha c hc => ?_⟩
    have : c = k := by simpa using hc
    rw [this]
    exact fun z => nk (z ▸ ha)
def spChanges (K : PySem.W.Frag) : Sp := fun vs H Q _ => ∃ (q : Addr) (b : Int) (ws : List Wr) (lo hi : Int), vs = [.ref q, .int lo, .int hi] ∧ StkAt K H q b ws ∧ StkOk b ws ∧ 0 ≤ lo ∧ lo ≤ hi ∧ hi < 2 ^ 1000 ∧
  ∀ l H' (ys : List Int), H l = none → Same H H' → H' l = some (.lst (ys.map V.int)) → ys.Pairwise (· < ·) → (∀ y ∈ ys, lo < y ∧ y ≤ hi) → (∀ h, lo < h → h ≤ hi → Chg b ws h → h ∈ ys) → ys.length ≤ 20000 → Q (.ref l) H'
section
variable {P : Program} {w : World} {K : PySem.W.Frag} {mg : Str → Option Value} {base : Heap}
theorem ok_changes (T : Tx w K mg) : Prom P w K mg base CX0 7 "changes" s_changes ["stack", "low", "high"] (spChanges K) := by
  refine Prom.of T.d_changes sc_changes (fun vs H Q E h => ?_) (fun _ _ _ _ _ _ us hl => match us, hl with | [_, _, _], _ => rfl) (fun f cdv A outer s H vs Q E hr h => ?_)
  · obtain ⟨q, b, ws, lo, hi, rfl, _⟩ := h
    rfl
  · obtain ⟨q, b, ws, lo, hi, rfl, hst, so, l0, lh, h1, k⟩ := h
    refine ⟨_, (pss_cons (ps_set (i := 3) sc_changes.nd rfl (Or.inl rfl) pe_dnewK)
      (pss_cons (ps_par (i := 4) (j := 5) (by rfl) sc_changes.nd rfl rfl (by decide) rfl rfl (pa_cons (pe_callP (ok_told_lengths T) (hr.mono (by decide)) (by rfl) pass0 (pa_cons (pv 0) (pa_cons (pv 1) pa_nil))) (pa_cons (pe_callP (ok_told_lengths T) (hr.mono (by decide)) (by rfl) pass0 (pa_cons (pv 0) (pa_cons (pv 2) pa_nil))) pa_nil)) (by rfl))
      (pss_cons (ps_for PassesOwn.never (by rfl) (pi_enumZN (by rfl) T.b_enumerate (by rfl) T.b_zip (pa_cons (pv 4) (pa_cons (pv 5) pa_nil))) (pg_tup rfl (pgs_cons (pg_name (i := 6) sc_changes.nd rfl (Or.inl rfl)) (pgs_cons (pg_tup rfl (pgs_cons (pg_name (i := 7) sc_changes.nd rfl (Or.inl rfl)) (pgs_cons (pg_name (i := 8) sc_changes.nd rfl (Or.inl rfl)) pgs_nil))) pgs_nil))) (pss_cons (ps_set (i := 9) sc_changes.nd rfl (Or.inl rfl) (pe_fld (pv 0) rfl))
      (pss_cons (ps_while PassesOwn.never (pt_cmp (pc_le (pv 9) (pv 7))) (pss_one (ps_set (i := 9) sc_changes.nd rfl (Or.inl rfl) (pe_op op_mulW (pv 9) (pe_fld (pv 0) rfl)))))
      (pss_one (ps_while PassesOwn.never (pt_cmp (pc_le (pv 9) (pv 8))) (pss_cons (ps_dput (Nat.lt_of_le_of_lt (Nat.add_le_add_left (show 1 ≤ 64 by decide) _) hr.units) (pv 3) (pe_callP (ok_first_reach T) (hr.mono (by decide)) (by rfl) pass0 (pa_cons (pv 0) (pa_cons (pv 6) (pa_cons (pv 9) (pa_cons (pv 1) (pa_cons (pv 2) pa_nil)))))) pe_bl (by rfl))
      (pss_one (ps_set (i := 9) sc_changes.nd rfl (Or.inl rfl) (pe_op op_mulW (pv 9) (pe_fld (pv 0) rfl))))))))))
      (pss_one (ps_ret (pe_callB (call_sortedDX rfl) (by rfl) T.b_sorted (by decide +kernel) (pa_cons (pv 3) pa_nil))))))), ?_⟩
    refine fun D hD => gn ?_
    have s1 := up (o := .dK []) hD
    have gD : (upd H D (.dK [])) D = some (.dK []) := upd_same
    generalize upd H D (.dK []) = H1 at s1 gD ⊢
    refine st_eq [some (.ref q), some (.int lo), some (.int hi), some (.ref D), none, none, none, none, none, none] rfl ?_
    refine ⟨_, rfl, _, rfl, q, b, ws, lo, rfl, hst.same s1, so, l0, by omega, fun l1 H2 f1 s2 g1 => ⟨_, rfl, _, rfl, q, b, ws, hi, rfl, (hst.same s1).same s2, so, by omega, h1, fun l2 H3 f2 s3 g2 => ?_⟩⟩
    have gD := s3 _ _ (s2 _ _ gD)
    have g1 := s3 _ _ g1
    have sH := (s1.trans s2).trans s3
    refine ⟨_, _, rfl, ?_⟩
    refine st_eq [some (.ref q), some (.int lo), some (.int hi), some (.ref D), some (.ref l1), some (.ref l2), none, none, none, none] rfl ?_
    have nD1 : l1 ≠ D := fun z => by
      rw [z] at g1
      rw [gD] at g1
      cases g1
    have nD2 : l2 ≠ D := fun z => by
      rw [z] at g2
      rw [gD] at g2
      cases g2
    let J : Nat → Hp → Prop := fun i G => Same H G ∧ G l1 = some (.lst ((toldsL b ws lo).map V.int)) ∧ G l2 = some (.lst ((toldsL b ws hi).map V.int)) ∧ ∃ kvs ks, G D = some (.dK kvs) ∧ KS kvs ks ∧ (∀ y ∈ ks, lo < y ∧ y ≤ hi) ∧ (∀ j, j < i → ∀ h, lo < h → h ≤ hi → figF b (tlA b ws j (h - 1)) ≠ figF b (tlA b ws j h) → h ∈ ks) ∧ ks.length ≤ 2000 * i
    refine ⟨_, rfl, _, rfl, l1, l2, _, _, rfl, SqL.of g1, SqL.of g2, for_it (walk_enumZ (K := K) (a := l1) (b := l2) (xs := (toldsL b ws lo).map V.int) (ys := (toldsL b ws hi).map V.int) (by rw [List.length_map, List.length_map]; exact tolds_len ..)) (fun i σ G => J i G ∧ ∃ v6 v7 v8 v9, σ = [some (.ref q), some (.int lo), some (.int hi), some (.ref D), some (.ref l1), some (.ref l2), v6, v7, v8, v9]) ⟨⟨sH, g1, g2, [], [], gD, ⟨rfl, List.nodup_nil⟩, fun y z => (by cases z), fun j z => absurd z (Nat.not_lt_zero _), Nat.zero_le _⟩, none, none, none, none, rfl⟩ (fun _ _ G _ h => ⟨SqL.of h.1.2.1, SqL.of h.1.2.2.1⟩) ?_ ?_⟩
    · rintro i x σ G1 G2 hin ⟨hJ, v6, v7, v8, v9, rfl⟩ ⟨T1, T2, x', y', rfl, t1, t2, t12, eG, ex, ey⟩
      rw [List.length_map] at hin
      have ex : V.int (tlA b ws i lo) = x' := by
        rw [List.getElem?_map, tlA_get (y := lo) hin] at ex
        exact Option.some.inj ex
      have ey : V.int (tlA b ws i hi) = y' := by
        rw [List.getElem?_map, tlA_get (y := hi) hin] at ey
        exact Option.some.inj ey
      subst ex
      subst ey
      have t2' : (upd G1 T1 (.tup [V.int (tlA b ws i lo), V.int (tlA b ws i hi)])) T2 = none := by
        rw [upd_ne (Ne.symm t12)]
        exact t2
      have s12 : Same G1 G2 := by
        rw [eG]
        exact (up t1).trans (up t2')
      have gT2 : G2 T2 = some (.tup [.int (i : Nat), .ref T1]) := by
        rw [eG]
        exact upd_same
      have gT1 : G2 T1 = some (.tup [V.int (tlA b ws i lo), V.int (tlA b ws i hi)]) := by
        rw [eG, upd_ne t12]
        exact upd_same
      clear eG
      have bl := tlA_bd so hin l0 (show lo < 2 ^ 1000 by omega)
      have bh := tlA_bd so hin (show 0 ≤ hi by omega) h1
      have mono := tlA_mono so.b0 so.ok hin l0 lh
      refine ⟨T2, _, rfl, SqT.of gT2, rfl, _, _, rfl, ?_⟩
      refine gn ⟨_, _, rfl, T1, _, rfl, SqT.of gT1, rfl, _, _, rfl, gn ⟨_, _, rfl, gn ⟨rfl, rfl, ?_⟩⟩⟩
      obtain ⟨sG, gl1, gl2, kvs, ks, gk, hk, kr, kc, kl⟩ := hJ
      have sA := sG.trans s12
      have hs2 := hst.same sA
      have gl1 := s12 _ _ gl1
      have gl2 := s12 _ _ gl2
      have gk := s12 _ _ gk
      obtain ⟨dx, tt, xs, gq, _, _⟩ := id hs2
      have b0 := so.b0
      have b1 := so.b1
      have mulb : ∀ {e : Nat} {z : Int}, b ^ (e + 1) ≤ z → z < 2 ^ 1100 → CMulW (b ^ (e + 1)) b := fun {e z} h1 h2 => mulw_of (Int.le_of_lt (Int.pow_pos (by omega))) (Int.lt_trans (show b ^ (e + 1) < 2 ^ 1100 by omega) (by decide)) (by omega) (Int.lt_of_le_of_lt b1 (by decide))
      have grow : ∀ e : Nat, b ^ (e + 1) < b ^ (e + 1 + 1) := fun e => by
        rw [Int.pow_succ _ (e + 1)]
        have := Int.pow_pos (n := b) (m := e + 1) (by omega)
        have := Int.mul_le_mul_of_nonneg_left b0 (show 0 ≤ b ^ (e + 1) by omega)
        omega
      refine ⟨_, rfl, q, _, dx, _, _, rfl, gq, T.cl_Stack, T.na_Stack_base, rfl, gn ?_⟩
      refine st_eq [some (.ref q), some (.int lo), some (.int hi), some (.ref D), some (.ref l1), some (.ref l2), some (.int (i : Nat)), some (.int (tlA b ws i lo)), some (.int (tlA b ws i hi)), some (.int b)] rfl ?_
      refine ⟨fun m σ G => G = G2 ∧ ∃ e : Nat, σ = [some (.ref q), some (.int lo), some (.int hi), some (.ref D), some (.ref l1), some (.ref l2), some (.int (i : Nat)), some (.int (tlA b ws i lo)), some (.int (tlA b ws i hi)), some (.int (b ^ (e + 1)))] ∧ (e = 0 ∨ b ^ e ≤ tlA b ws i lo) ∧ m = (tlA b ws i lo + 1 - b ^ (e + 1)).toNat, ⟨_, rfl, 0, by rw [Int.pow_succ, Int.pow_zero, Int.one_mul], .inl rfl, rfl⟩, ?_⟩
      rintro m σ G ⟨rfl, e, rfl, he, rfl⟩
      refine ⟨_, rfl, _, rfl, _, _, rfl, rfl, _, rfl, ifd (fun hc => ?_) (fun hc => ?_)⟩
      · have hc : b ^ (e + 1) ≤ tlA b ws i lo := hc
        refine ⟨_, fun _ _ h => h, ?_⟩
        refine ⟨_, rfl, _, rfl, q, _, dx, _, _, rfl, gq, T.cl_Stack, T.na_Stack_base, rfl, ?_⟩
        refine ⟨_, _, rfl, rfl, mulb hc bl.2, ?_⟩
        show gName 9 (.int (b ^ (e + 1) * b)) _ _ _
        rw [← Int.pow_succ]
        have gg := grow e
        exact gn ⟨(tlA b ws i lo + 1 - b ^ (e + 1 + 1)).toNat, by omega, rfl, e + 1, rfl, .inr hc, rfl⟩
      · have hc : ¬ b ^ (e + 1) ≤ tlA b ws i lo := hc
        have e1100 : ∀ {e : Nat}, (e = 0 ∨ b ^ e ≤ tlA b ws i hi) → e ≤ 1100 := fun {e} h => by
          rcases h with h | h
          · omega
          · by_cases z : e ≤ 1100
            · exact z
            · have p1 : (2 : Int) ^ 1100 ≤ 2 ^ e := pow_mono (by decide) (by omega)
              have p2 : (2 : Int) ^ e ≤ b ^ e := pow_left (by decide) b0 e
              omega
        refine ⟨fun m σ G => ∃ (e' : Nat) (kvs : List (L2.Key × V)) (ks : List Int), Same H G ∧ G l1 = some (.lst ((toldsL b ws lo).map V.int)) ∧ G l2 = some (.lst ((toldsL b ws hi).map V.int)) ∧ G D = some (.dK kvs) ∧ KS kvs ks ∧ (∀ y ∈ ks, lo < y ∧ y ≤ hi) ∧ (∀ j, j < i → ∀ h, lo < h → h ≤ hi → figF b (tlA b ws j (h - 1)) ≠ figF b (tlA b ws j h) → h ∈ ks) ∧ ks.length ≤ 2000 * i + e' ∧
          (∀ h, lo < h → h ≤ hi → ∀ c : Nat, c < e' → tlA b ws i (h - 1) < b ^ (c + 1) → b ^ (c + 1) ≤ tlA b ws i h → h ∈ ks) ∧ tlA b ws i lo < b ^ (e' + 1) ∧ (e' = 0 ∨ b ^ e' ≤ tlA b ws i hi) ∧ m = (tlA b ws i hi + 1 - b ^ (e' + 1)).toNat ∧ σ = [some (.ref q), some (.int lo), some (.int hi), some (.ref D), some (.ref l1), some (.ref l2), some (.int (i : Nat)), some (.int (tlA b ws i lo)), some (.int (tlA b ws i hi)), some (.int (b ^ (e' + 1)))],
          ⟨_, e, kvs, ks, sA, gl1, gl2, gk, hk, kr, kc, by omega, fun h z1 z2 c hc2 w1 w2 => ?_, by omega, he.imp id fun z => by omega, rfl, rfl⟩, ?_⟩
        · exfalso
          have m1 := tlA_mono b0 so.ok hin l0 (show lo ≤ h - 1 by omega)
          have m2 : b ^ (c + 1) ≤ b ^ e := pow_mono (by omega) (by omega)
          rcases he with he | he <;> omega
        · rintro m σ G ⟨e, kvs, ks, sA, gl1, gl2, gk, hk, kr, kc, kl, kp, hp, he, rfl, rfl⟩
          refine ⟨_, rfl, _, rfl, _, _, rfl, rfl, _, rfl, ifd (fun hc => ?_) (fun hc => ?_)⟩
          · have hc : b ^ (e + 1) ≤ tlA b ws i hi := hc
            have e11 := e1100 he
            have lh2 : lo < hi := by
              rcases Int.lt_or_le lo hi with z | z
              · exact z
              · have : lo = hi := by omega
                rw [this] at hp
                omega
            refine ⟨_, fun _ _ h => h, ?_⟩
            refine ⟨_, rfl, _, rfl, _, rfl, _, rfl, _, rfl, _, rfl, q, b, ws, i, b ^ (e + 1), lo, hi, rfl, hst.same sA, so, hin, l0, lh2, h1, hp, hc, fun h G3 s3 r1 r2 r3 r4 => ?_⟩
            obtain ⟨ks', hk', mem, len'⟩ := hk.put h (.bl true)
            have zl : kvs.length < sizeLine := by
              have := hk.len
              have := so.len
              have := tolds_le (b := b) ws lo
              rw [sizeLine_eq]
              omega
            refine ⟨D, _, rfl, .k (k := .inl h) (s3 _ _ gk) zl, ?_⟩
            have sB : Same H (upd G3 D (.dK (putK kvs (.inl h) (.bl true)))) := fun z o e => by
              rw [upd_ne (ne_of_none e hD)]
              exact s3 _ _ (sA _ _ e)
            have gl1 : (upd G3 D (.dK (putK kvs (.inl h) (.bl true)))) l1 = some (.lst ((toldsL b ws lo).map V.int)) := by
              rw [upd_ne nD1]
              exact s3 _ _ gl1
            have gl2 : (upd G3 D (.dK (putK kvs (.inl h) (.bl true)))) l2 = some (.lst ((toldsL b ws hi).map V.int)) := by
              rw [upd_ne nD2]
              exact s3 _ _ gl2
            have gk : (upd G3 D (.dK (putK kvs (.inl h) (.bl true)))) D = some (.dK (putK kvs (.inl h) (.bl true))) := upd_same
            generalize (upd G3 D (.dK (putK kvs (.inl h) (.bl true)))) = G4 at sB gl1 gl2 gk ⊢
            obtain ⟨dx, tt, xs, gq, _, _⟩ := id (hst.same sB)
            refine ⟨_, rfl, _, rfl, q, _, dx, _, _, rfl, gq, T.cl_Stack, T.na_Stack_base, rfl, ?_⟩
            refine ⟨_, _, rfl, rfl, mulb hc bh.2, ?_⟩
            show gName 9 (.int (b ^ (e + 1) * b)) _ _ _
            rw [← Int.pow_succ]
            have gg := grow e
            refine gn ⟨(tlA b ws i hi + 1 - b ^ (e + 1 + 1)).toNat, by omega, e + 1, _, ks', sB, gl1, gl2, gk, hk', fun y z => ?_, fun j z g w1 w2 w3 => (mem g).mpr (.inl (kc j z g w1 w2 w3)), by omega, fun g w1 w2 c w3 w4 w5 => ?_, by omega, .inr hc, rfl, rfl⟩
            · rcases (mem y).mp z with z | rfl
              · exact kr y z
              · exact ⟨r1, r2⟩
            · by_cases z : c = e
              · subst z
                refine (mem g).mpr (.inr ?_)
                rcases Int.lt_trichotomy g h with z | z | z
                · have := tlA_mono b0 so.ok hin (show 0 ≤ g by omega) (show g ≤ h - 1 by omega)
                  omega
                · exact z
                · have := tlA_mono b0 so.ok hin (show 0 ≤ h by omega) (show h ≤ g - 1 by omega)
                  omega
              · exact (mem g).mpr (.inl (kp g w1 w2 c (by omega) w4 w5))
          · have hc : ¬ b ^ (e + 1) ≤ tlA b ws i hi := hc
            have e11 := e1100 he
            refine ⟨⟨sA, gl1, gl2, kvs, ks, gk, hk, kr, fun j hj h w1 w2 w3 => ?_, by omega⟩, _, _, _, _, rfl⟩
            by_cases z : j = i
            · subst z
              obtain ⟨c, w4, w5⟩ := fig_step b0 (tlA_mono b0 so.ok hin (show 0 ≤ h - 1 by omega) (show h - 1 ≤ h by omega)) w3
              refine kp h w1 w2 c ?_ w4 w5
              have := tlA_mono b0 so.ok hin (show 0 ≤ h by omega) w2
              by_cases y : c < e
              · exact y
              · have := pow_mono (b := b) (by omega) (show e + 1 ≤ c + 1 by omega)
                omega
            · exact kc j (by omega) h w1 w2 w3
    · rintro σ G ⟨⟨sG, _, _, kvs, ks, gk, hk, kr, kc, kl⟩, v6, v7, v8, v9, rfl⟩
      refine ⟨_, rfl, D, kvs, ks, rfl, .inl gk, hk.1, fun ys p pm ps hp => ?_⟩
      have nd : ys.Nodup := pm.nodup_iff.mpr hk.2
      rw [List.length_map] at kc kl
      refine k p _ ys (same_before sG hp) (sG.trans (up hp)) upd_same ?_ (fun y z => kr y (pm.mem_iff.mp z)) (fun h z1 z2 c => ?_) ?_
      · exact (ps.and nd).imp fun {a c} z => by
          have := z.1
          have := z.2
          omega
      · obtain ⟨j, hj, ne⟩ := chg_place (lo := lo) c
        exact pm.mem_iff.mpr (kc j hj h z1 z2 ne)
      · rw [pm.length_eq]
        have := tolds_le (b := b) ws lo
        have := so.len
        omega
end
/-! ### stretches -/
structure Strs (b : Int) (ws : List Wr) (lo hi : Int) (S E : List Int) : Prop where
  len : E.length = S.length
  pos : 0 < S.length
  le : S.length ≤ 20001
  s0 : S[0]? = some lo
  nxt : ∀ (j : Nat) e s, E[j]? = some e → S[j + 1]? = some s → s = e + 1
  last : ∀ (j : Nat) e, E[j]? = some e → j + 1 = S.length → e = hi
  flat : ∀ (j : Nat) s e, S[j]? = some s → E[j]? = some e → lo ≤ s ∧ e ≤ hi ∧ ∀ x, s < x → x ≤ e → ¬ Chg b ws x
  se : ∀ (j : Nat) s e, S[j]? = some s → E[j]? = some e → s ≤ e
theorem strs_of {b lo hi : Int} {ws : List Wr} {ys : List Int} (lh : lo ≤ hi) (pw : ys.Pairwise (· < ·)) (rg : ∀ y ∈ ys, lo < y ∧ y ≤ hi) (cm : ∀ h, lo < h → h ≤ hi → Chg b ws h → h ∈ ys) (l2 : ys.length ≤ 20000) : Strs b ws lo hi (lo :: ys) (ys.map (fun y => y - 1) ++ [hi]) := by
  have gt : ∀ (j k : Nat) (u v : Int), j < k → ys[j]? = some u → ys[k]? = some v → u < v := fun j k u v jk h1 h2 => by
    obtain ⟨a1, rfl⟩ := List.getElem?_eq_some_iff.mp h1
    obtain ⟨a2, rfl⟩ := List.getElem?_eq_some_iff.mp h2
    exact List.pairwise_iff_getElem.mp pw j k a1 a2 jk
  have eE : ∀ (j : Nat) (e : Int), (ys.map (fun y => y - 1) ++ [hi])[j]? = some e → (∃ y, ys[j]? = some y ∧ e = y - 1) ∨ (j = ys.length ∧ e = hi) := fun j e h => by
    by_cases c : j < ys.length
    · rw [List.getElem?_append_left (by simpa using c), List.getElem?_map] at h
      cases z : ys[j]? with
      | none =>
        rw [z] at h
        cases h
      | some y =>
        rw [z] at h
        exact .inl ⟨y, rfl, (Option.some.inj h).symm⟩
    · have c2 := (List.getElem?_eq_some_iff.mp h).1
      rw [List.length_append, List.length_map] at c2
      have c2 : j < ys.length + 1 := c2
      have : j = ys.length := by omega
      subst this
      rw [List.getElem?_append_right (by simp)] at h
      simp at h
      exact .inr ⟨rfl, h.symm⟩
  refine ⟨by simp, by simp, by simp; omega, rfl, fun j e s h1 h2 => ?_, fun j e h1 h2 => ?_, fun j s e h1 h2 => ?_, fun j s e h1 h2 => ?_⟩
  · have h2 : ys[j]? = some s := h2
    rcases eE j e h1 with ⟨y, a, rfl⟩ | ⟨rfl, _⟩
    · rw [a] at h2
      have := Option.some.inj h2
      omega
    · rw [List.getElem?_eq_none (Nat.le_refl _)] at h2
      cases h2
  · rcases eE j e h1 with ⟨y, a, rfl⟩ | ⟨rfl, a⟩
    · have := (List.getElem?_eq_some_iff.mp a).1
      have h2 : j + 1 = ys.length + 1 := h2
      omega
    · exact a
  · have hs : (j = 0 ∧ s = lo) ∨ ∃ i, j = i + 1 ∧ ys[i]? = some s := by
      cases j with
      | zero => exact .inl ⟨rfl, (Option.some.inj h1).symm⟩
      | succ i => exact .inr ⟨i, rfl, h1⟩
    have ls : lo ≤ s := by
      rcases hs with ⟨_, rfl⟩ | ⟨i, _, h⟩
      · exact Int.le_refl _
      · have := rg s (List.mem_of_getElem? h)
        omega
    refine ⟨ls, ?_, fun x x1 x2 c => ?_⟩
    · rcases eE j e h2 with ⟨y, a, rfl⟩ | ⟨_, rfl⟩
      · have := rg y (List.mem_of_getElem? a)
        omega
      · exact Int.le_refl _
    · have xh : x ≤ hi := by
        rcases eE j e h2 with ⟨y, a, rfl⟩ | ⟨_, rfl⟩
        · have := rg y (List.mem_of_getElem? a)
          omega
        · exact x2
      obtain ⟨k, hk⟩ := List.mem_iff_getElem?.mp (cm x (by omega) xh c)
      have kj : j ≤ k := by
        rcases hs with ⟨rfl, _⟩ | ⟨i, rfl, h⟩
        · exact Nat.zero_le _
        · rcases Nat.lt_or_ge i k with z | z
          · exact z
          · rcases Nat.eq_or_lt_of_le z with z | z
            · rw [z] at hk
              rw [h] at hk
              have := Option.some.inj hk
              omega
            · have := gt k i x s z hk h
              omega
      rcases eE j e h2 with ⟨y, a, rfl⟩ | ⟨rfl, _⟩
      · rcases Nat.eq_or_lt_of_le kj with z | z
        · rw [← z, a] at hk
          have := Option.some.inj hk
          omega
        · have := gt j k y x z a hk
          omega
      · have := (List.getElem?_eq_some_iff.mp hk).1
        omega
  · cases j with
    | zero =>
      have es : lo = s := Option.some.inj h1
      rcases eE 0 e h2 with ⟨y, a, rfl⟩ | ⟨_, rfl⟩
      · have := rg y (List.mem_of_getElem? a)
        omega
      · omega
    | succ i =>
      have h1 : ys[i]? = some s := h1
      rcases eE (i + 1) e h2 with ⟨y, a, rfl⟩ | ⟨_, rfl⟩
      · have := gt i (i + 1) s y (by omega) h1 a
        omega
      · have := rg s (List.mem_of_getElem? h1)
        omega
def spStretch (K : PySem.W.Frag) : Sp := fun vs H Q _ => ∃ (q : Addr) (b : Int) (ws : List Wr) (lo hi : Int), vs = [.ref q, .int lo, .int hi] ∧ StkAt K H q b ws ∧ StkOk b ws ∧ 0 ≤ lo ∧ lo ≤ hi ∧ hi < 2 ^ 1000 ∧
  ∀ l H' (ts : List V) (S E : List Int), H l = none → Same H H' → H' l = some (.lst ts) → Strs b ws lo hi S E → ts.length = S.length → (∀ (j : Nat) s e, S[j]? = some s → E[j]? = some e → ∃ T, ts[j]? = some (.ref T) ∧ H T = none ∧ H' T = some (.tup [.int s, .int e])) → Q (.ref l) H'
section
variable {P : Program} {w : World} {K : PySem.W.Frag} {mg : Str → Option Value} {base : Heap}
theorem ok_stretches (T : Tx w K mg) : Prom P w K mg base CX0 8 "stretches" s_stretches ["stack", "low", "high"] (spStretch K) := by
  refine Prom.of T.d_stretches sc_stretches (fun vs H Q E h => ?_) (fun _ _ _ _ _ _ us hl => match us, hl with | [_, _, _], _ => rfl) (fun f cdv A outer s H vs Q E hr h => ?_)
  · obtain ⟨q, b, ws, lo, hi, rfl, _⟩ := h
    rfl
  · obtain ⟨q, b, ws, lo, hi, rfl, hst, so, l0, lh, h1, k⟩ := h
    refine ⟨_, (pss_cons (ps_set (i := 3) sc_stretches.nd rfl (Or.inl rfl) (pe_lst (pa_cons (pv 1) (StX.pa_star (pe_callP (ok_changes T) (hr.mono (by decide)) (by rfl) pass0 (pa_cons (pv 0) (pa_cons (pv 1) (pa_cons (pv 2) pa_nil)))) pa_nil))))
      (pss_one (ps_ret (pe_listZip (by rfl) (by rfl) T.b_list (by rfl) T.b_zip (pa_cons (pv 3) (pa_cons (pe_op op_cat (pe_lc (own := [("start", 4)]) (g := (gName 4)) (tt := tYes) (by rfl) sc_stretches.nd (pi_list (pe_slice sl_list (pv 3) (po_some pe_int) po_none)) (blkOk_by (own := [("start", 4)]) (N := ["stack", "low", "high", "starts", "start"]) (sc := defScope s_stretches) (by decide +kernel)) (fun _ _ _ _ _ => (pg_name (i := 4) sc_stretches.nd rfl (Or.inl rfl))) (fun _ _ _ _ _ => pts_nil) (fun _ _ _ _ _ => (pe_op op_sub (pv 4) pe_int))) (pe_lst (pa_cons (pv 2) pa_nil))) pa_nil)))))), ?_⟩
    refine ⟨_, rfl, _, rfl, _, rfl, _, rfl, q, b, ws, lo, hi, rfl, hst, so, l0, lh, h1, fun l1 H1 ys f1 s1 g1 pw rg cm ln => ?_⟩
    have lnz : ys.length < sizeLine - 10 := by
      rw [sizeLine_eq]
      omega
    refine ⟨l1, _, rfl, .inr (SqL.of g1), by (show (V.int lo :: (List.map V.int ys ++ [])).length ≤ sizeLine); simp; omega, fun L hL => gn ?_⟩
    refine st_eq [some (.ref q), some (.int lo), some (.int hi), some (.ref L), none] rfl ?_
    have s2 := s1.trans (up (o := .lst (V.int lo :: (ys.map V.int ++ []))) hL)
    have gL : (upd H1 L (.lst (V.int lo :: (ys.map V.int ++ [])))) L = some (.lst (V.int lo :: ys.map V.int)) := by
      rw [upd_same, List.append_nil]
    generalize (upd H1 L (.lst (V.int lo :: (ys.map V.int ++ [])))) = H2 at s2 gL ⊢
    refine ⟨_, rfl, _, rfl, _, rfl, L, _, rfl, SqL.of gL, fun l2 h2 => ?_⟩
    have ec : cutV (V.int lo :: ys.map V.int) (some 1) none = ys.map V.int := cut_from (i := 1) (by simp)
    rw [ec]
    have s3 := s2.trans (up (o := .lst (ys.map V.int)) h2)
    have g2 : (upd H2 l2 (.lst (ys.map V.int))) l2 = some (.lst (ys.map V.int)) := upd_same
    have gL := up (o := .lst (ys.map V.int)) h2 _ _ gL
    generalize (upd H2 l2 (.lst (ys.map V.int))) = H3 at s3 g2 gL ⊢
    refine ⟨l2, rfl, ⟨_, SqL.of g2⟩, fun D hD => ?_⟩
    have s4 := s3.trans (up (o := .lst []) hD)
    refine lc_list (K := K) (a := l2) (xs := ys.map V.int) (Pv := fun i G => Same H3 G ∧ G D = some (.lst ((ys.take i).map fun y => V.int (y - 1)))) ⟨up hD, upd_same⟩ (fun i G _ e => SqL.of (e.1 _ _ g2)) (fun i x G hx e => ?_) (fun G e => ?_)
    · obtain ⟨sG, gD⟩ := e
      rw [List.getElem?_map] at hx
      cases hy : ys[i]? with
      | none =>
        rw [hy] at hx
        cases hx
      | some y =>
        rw [hy] at hx
        have hx : V.int y = x := Option.some.inj hx
        subst hx
        have hi2 := (List.getElem?_eq_some_iff.mp hy).1
        refine ⟨rfl, _, rfl, _, _, rfl, rfl, _, gD, by rw [List.length_map, List.length_take]; omega, ?_, ?_⟩
        · exact fun z o e => by
            rw [upd_ne (ne_of_none e hD)]
            exact sG _ _ e
        · rw [upd_same, List.take_succ, hy]
          simp
    · obtain ⟨sG, gD⟩ := e
      rw [List.length_map, List.take_length] at gD
      have sA := s3.trans sG
      have gL := sG _ _ gL
      refine ⟨_, rfl, (by show 1 ≤ sizeLine; decide), fun l4 h4 => ⟨D, l4, _, [.int hi], rfl, rfl, up h4 _ _ gD, upd_same, (by rw [List.length_map]; show ys.length + 1 ≤ sizeLine; omega), fun l5 h5 => ?_⟩⟩
      have s5 := (sA.trans (up (o := .lst [.int hi]) h4)).trans (up (o := .lst ((ys.map fun y => V.int (y - 1)) ++ [.int hi])) h5)
      refine ⟨L, l5, _, _, rfl, SqL.of (up h5 _ _ (up h4 _ _ gL)), SqL.of upd_same, by simp, fun p H9 ts hp s9 gp lt pt => ?_⟩
      refine k p H9 ts _ _ (same_before s5 hp) (s5.trans s9) gp (strs_of lh pw rg cm ln) (by rw [lt]; simp) fun j x y hx hy => ?_
      have x1 : (V.int lo :: ys.map V.int)[j]? = some (.int x) := by
        rw [show (V.int lo :: ys.map V.int) = (lo :: ys).map V.int from rfl, List.getElem?_map, hx]
        rfl
      have x2 : ((ys.map fun y => V.int (y - 1)) ++ [V.int hi])[j]? = some (.int y) := by
        rw [show ((ys.map fun y => V.int (y - 1)) ++ [V.int hi]) = ((ys.map fun y => y - 1) ++ [hi]).map V.int by simp, List.getElem?_map, hy]
        rfl
      obtain ⟨T0, e0, f0, g0⟩ := pt j (.int x) (.int y) x1 x2
      exact ⟨T0, e0, same_before s5 f0, g0⟩
end
/-! ### how many sizes there are -/
def rise (f : Int → Int) (x : Int) : Int := if f (x - 1) < f x then 1 else 0
def cntR (f : Int → Int) (lo : Int) : Nat → Int
  | 0 => 0
  | k + 1 => cntR f lo k + rise f (lo + (k : Int) + 1)
def RB (f : Int → Int) (lo hi : Int) : Int := cntR f lo (hi - lo).toNat
theorem rise_bd (f : Int → Int) (x : Int) : 0 ≤ rise f x ∧ rise f x ≤ 1 := by
  unfold rise
  split <;> omega
theorem cntR_bd (f : Int → Int) (lo : Int) : ∀ k : Nat, 0 ≤ cntR f lo k ∧ cntR f lo k ≤ (k : Int)
  | 0 => ⟨Int.le_refl _, Int.le_refl _⟩
  | k + 1 => by
    have := cntR_bd f lo k
    have := rise_bd f (lo + (k : Int) + 1)
    have e : ((k + 1 : Nat) : Int) = (k : Int) + 1 := rfl
    show 0 ≤ cntR f lo k + _ ∧ cntR f lo k + _ ≤ _
    omega
theorem cntR_add (f : Int → Int) (lo : Int) (a : Nat) : ∀ c : Nat, cntR f lo (a + c) = cntR f lo a + cntR f (lo + (a : Int)) c
  | 0 => (Int.add_zero _).symm
  | c + 1 => by
    show cntR f lo (a + c) + rise f (lo + ((a + c : Nat) : Int) + 1) = cntR f lo a + (cntR f (lo + (a : Int)) c + rise f (lo + (a : Int) + (c : Int) + 1))
    rw [cntR_add f lo a c, show lo + ((a + c : Nat) : Int) + 1 = lo + (a : Int) + (c : Int) + 1 by omega]
    omega
theorem RB_add (f : Int → Int) {lo mid hi : Int} (h1 : lo ≤ mid) (h2 : mid ≤ hi) : RB f lo hi = RB f lo mid + RB f mid hi := by
  unfold RB
  rw [show (hi - lo).toNat = (mid - lo).toNat + (hi - mid).toNat by omega, cntR_add, show lo + (((mid - lo).toNat : Nat) : Int) = mid by omega]
theorem RB_self (f : Int → Int) (x : Int) : RB f x x = 0 := by
  unfold RB
  rw [show (x - x).toNat = 0 by omega]
  rfl
theorem RB_one (f : Int → Int) (x : Int) : RB f (x - 1) x = rise f x := by
  unfold RB
  rw [show (x - (x - 1)).toNat = 1 by omega]
  show 0 + rise f (x - 1 + 0 + 1) = _
  rw [show x - 1 + 0 + 1 = x by omega]
  omega
theorem RB_bd (f : Int → Int) {lo hi : Int} (h : lo ≤ hi) : 0 ≤ RB f lo hi ∧ RB f lo hi ≤ hi - lo := by
  have := cntR_bd f lo (hi - lo).toNat
  unfold RB
  omega
theorem cntR_shift (f : Int → Int) (lo d : Int) : ∀ k : Nat, (∀ x, lo < x → x ≤ lo + (k : Int) → rise f (x + d) = rise f x) → cntR f (lo + d) k = cntR f lo k
  | 0, _ => rfl
  | k + 1, h => by
    show cntR f (lo + d) k + rise f (lo + d + (k : Int) + 1) = cntR f lo k + rise f (lo + (k : Int) + 1)
    have e : ((k + 1 : Nat) : Int) = (k : Int) + 1 := rfl
    rw [e] at h
    rw [cntR_shift f lo d k (fun x h1 h2 => h x h1 (by omega)), ← h (lo + (k : Int) + 1) (by omega) (by omega), show lo + (k : Int) + 1 + d = lo + d + (k : Int) + 1 by omega]
theorem RB_turns (f : Int → Int) {lo P : Int} (p1 : 1 ≤ P) : ∀ t : Nat, (∀ x, lo < x → x + P ≤ lo + P * (t : Int) → rise f (x + P) = rise f x) → RB f lo (lo + P * (t : Int)) = (t : Int) * RB f lo (lo + P)
  | 0, _ => by
    rw [show lo + P * ((0 : Nat) : Int) = lo by rw [show ((0 : Nat) : Int) = 0 from rfl, Int.mul_zero, Int.add_zero], RB_self]
    show 0 = 0 * _
    rw [Int.zero_mul]
  | t + 1, h => by
    have e : ((t + 1 : Nat) : Int) = (t : Int) + 1 := rfl
    rw [e, Int.mul_add, Int.mul_one] at h
    have y0 : 0 ≤ P * (t : Int) := Int.mul_nonneg (by omega) (by omega)
    have ih := RB_turns f (lo := lo) p1 t (fun x h1 h2 => h x h1 (by omega))
    rw [e, Int.mul_add, Int.mul_one, Int.add_mul, Int.one_mul, RB_add f (show lo ≤ lo + P * (t : Int) by omega) (show lo + P * (t : Int) ≤ lo + (P * (t : Int) + P) by omega), ih]
    have s : ∀ i : Nat, i ≤ t → RB f (lo + P * (i : Int)) (lo + (P * (i : Int) + P)) = RB f lo (lo + P) := by
      intro i
      induction i with
      | zero =>
        intro _
        rw [show ((0 : Nat) : Int) = 0 from rfl, Int.mul_zero, Int.add_zero, Int.zero_add]
      | succ i ihi =>
        intro hi
        have e2 : ((i + 1 : Nat) : Int) = (i : Int) + 1 := rfl
        rw [← ihi (by omega), e2, Int.mul_add, Int.mul_one]
        have z0 : 0 ≤ P * (i : Int) := Int.mul_nonneg (by omega) (by omega)
        have zt : P * (i : Int) + P ≤ P * (t : Int) := by
          have := Int.mul_le_mul_of_nonneg_left (show (i : Int) + 1 ≤ (t : Int) by omega) (show 0 ≤ P by omega)
          rw [Int.mul_add, Int.mul_one] at this
          exact this
        unfold RB
        rw [show (lo + (P * (i : Int) + P + P) - (lo + (P * (i : Int) + P))).toNat = P.toNat by omega, show (lo + (P * (i : Int) + P) - (lo + P * (i : Int))).toNat = P.toNat by omega]
        rw [show lo + (P * (i : Int) + P) = lo + P * (i : Int) + P by omega]
        refine cntR_shift f _ _ _ fun x h1 h2 => h x (by omega) (by omega)
    rw [s t (Nat.le_refl _)]
/-- how many different sizes the lengths up to n have -/
def DS (f : Int → Int) (n : Int) : Int := 1 + RB f 0 n
/-- how many integers below the size of n are missed -/
def MB (f : Int → Int) (n : Int) : Int := f n + 1 - DS f n
theorem DS_step (f : Int → Int) {n : Int} (n0 : 0 ≤ n) : DS f (n + 1) = DS f n + rise f (n + 1) := by
  unfold DS
  have := RB_add f n0 (show n ≤ n + 1 by omega)
  have e := RB_one f (n + 1)
  rw [show n + 1 - 1 = n by omega] at e
  omega
theorem MB_mono {f : Int → Int} (hm : ∀ n m, 0 ≤ n → n ≤ m → f n ≤ f m) {n : Int} (n0 : 0 ≤ n) : ∀ k : Nat, MB f n ≤ MB f (n + (k : Int))
  | 0 => by rw [show n + ((0 : Nat) : Int) = n by omega]; exact Int.le_refl _
  | k + 1 => by
    have ih := MB_mono hm n0 k
    have e : n + ((k + 1 : Nat) : Int) = n + (k : Int) + 1 := by omega
    rw [e]
    refine Int.le_trans ih ?_
    have d := DS_step f (n := n + (k : Int)) (by omega)
    have m := hm (n + (k : Int)) (n + (k : Int) + 1) (by omega) (by omega)
    unfold MB
    rw [d]
    unfold rise
    rw [show n + (k : Int) + 1 - 1 = n + (k : Int) by omega]
    split <;> omega
theorem stretch_rise {b : Int} (hb : 2 ≤ b) {ws : List Wr} (ok : ∀ a ∈ ws, a.ok) {lo hi : Int} (l0 : 0 ≤ lo) (h : ∀ x, lo < x → x ≤ hi → ¬ Chg b ws x) {x : Int} (h1 : lo < x) (h2 : x + (perL b ws).1 ≤ hi) : rise (grS b ws) (x + (perL b ws).1) = rise (grS b ws) x := by
  obtain ⟨p0, p1, sh⟩ := per_shift hb ok
  have key : ∀ n, lo ≤ n → n + (perL b ws).1 ≤ hi → grS b ws (n + (perL b ws).1) = grS b ws n + (perL b ws).2 := fun n hn hh => by
    obtain ⟨k, hk⟩ := Int.eq_ofNat_of_zero_le (show 0 ≤ (perL b ws).1 by omega)
    have s := same_figs h k (x := n) hn (by omega)
    rw [← hk] at s
    have r := sh n 1 (by omega) (by decide) (by rw [Int.mul_one]; exact s)
    rw [Int.mul_one, Int.mul_one] at r
    exact r
  have a1 := key x (by omega) h2
  have a2 := key (x - 1) (by omega) (by omega)
  rw [show x - 1 + (perL b ws).1 = x + (perL b ws).1 - 1 by omega] at a2
  unfold rise
  rw [a1, a2]
  split <;> split <;> omega
/-! ### rises -/
def spRises (K : PySem.W.Frag) : Sp := fun vs H Q _ => ∃ (q : Addr) (b : Int) (ws : List Wr) (lo hi : Int), vs = [.ref q, .int lo, .int hi] ∧ StkAt K H q b ws ∧ StkOk b ws ∧ 0 ≤ lo ∧ lo ≤ hi ∧ hi < 2 ^ 900 ∧ Q (.int (RB (grS b ws) lo hi)) H
def spRisesA (K : PySem.W.Frag) : Sp := fun vs H Q _ => ∃ (q : Addr) (b : Int) (ws : List Wr) (lo hi : Int), vs = [.ref q, .int lo, .int hi, .int (perL b ws).1] ∧ StkAt K H q b ws ∧ StkOk b ws ∧ 0 ≤ lo ∧ lo ≤ hi ∧ hi < 2 ^ 900 ∧ (∀ x, lo < x → x ≤ hi → ¬ Chg b ws x) ∧ Q (.int (RB (grS b ws) lo hi)) H
section
variable {P : Program} {w : World} {K : PySem.W.Frag} {mg : Str → Option Value} {base : Heap}
theorem ok_rises_between (T : Tx w K mg) : Prom P w K mg base CX0 5 "rises_between" s_rises_between ["stack", "low", "high"] (spRises K) := by
  refine Prom.of T.d_rises_between sc_rises_between (fun vs H Q E h => ?_) (fun _ _ _ _ _ _ us hl => match us, hl with | [_, _, _], _ => rfl) (fun f cdv A outer s H vs Q E hr h => ?_)
  · obtain ⟨q, b, ws, lo, hi, rfl, _⟩ := h
    rfl
  · obtain ⟨q, b, ws, lo, hi, rfl, hst, so, l0, lh, h1, k⟩ := h
    refine ⟨_, (pss_cons (ps_par (i := 3) (j := 4) (by rfl) sc_rises_between.nd rfl rfl (by decide) rfl rfl (pa_cons pe_int (pa_cons (pe_methP (ok_Stack_grown T) (hr.mono (by decide)) pass0 (pv 0) (pa_cons (pv 1) pa_nil)) pa_nil)) (by rfl))
      (pss_cons (ps_for PassesOwn.never (by rfl) (pi_range2A (by rfl) T.b_range (pa_cons (pe_op op_add (pv 1) pe_int) (pa_cons (pe_op op_add (pv 2) pe_int) pa_nil))) (pg_name (i := 5) sc_rises_between.nd rfl (Or.inl rfl)) (pss_cons (ps_set (i := 6) sc_rises_between.nd rfl (Or.inl rfl) (pe_methP (ok_Stack_grown T) (hr.mono (by decide)) pass0 (pv 0) (pa_cons (pv 5) pa_nil)))
      (pss_one (ps_par (i := 3) (j := 4) (by rfl) sc_rises_between.nd rfl rfl (by decide) rfl rfl (pa_cons (pe_op op_add (pv 3) (pe_callTy call_int1 (by rfl) T.b_int (by decide +kernel) (pa_cons (pe_cmp (pc_gt (pv 6) (pv 4))) pa_nil))) (pa_cons (pv 6) pa_nil)) (by rfl)))))
      (pss_one (ps_ret (pv 3))))), ?_⟩
    obtain ⟨dx, tt, xs, gq, _, _⟩ := id hst
    have up9 : (2 : Int) ^ 900 < 2 ^ 1000 := by decide
    refine ⟨_, rfl, q, dx, _, rfl, gq, rfl, _, rfl, q, b, ws, lo, rfl, hst, so, l0, by omega, _, _, rfl, ?_⟩
    refine st_eq [some (.ref q), some (.int lo), some (.int hi), some (.int 0), some (.int (grS b ws lo)), none, none] rfl ?_
    refine ⟨_, rfl, _, _, rfl, rfl, _, rfl, _, _, rfl, rfl, _, _, rfl, ?_⟩
    refine for_range (lo := lo + 1) (n := (hi + 1 - (lo + 1)).toNat) (fun i σ G => G = H ∧ ∃ (v5 v6 : Option V), σ = [some (.ref q), some (.int lo), some (.int hi), some (.int (cntR (grS b ws) lo i)), some (.int (grS b ws (lo + (i : Int)))), v5, v6]) ⟨rfl, none, none, by rw [show lo + ((0 : Nat) : Int) = lo by omega]; rfl⟩ ?_ ?_
    · rintro i σ G hi2 ⟨rfl, v5, v6, rfl⟩
      refine gn ?_
      refine st_eq [some (.ref q), some (.int lo), some (.int hi), some (.int (cntR (grS b ws) lo i)), some (.int (grS b ws (lo + (i : Int)))), some (.int (lo + (i : Int) + 1)), v6] (by rw [show lo + 1 + (i : Int) = lo + (i : Int) + 1 by omega]; rfl) ?_
      refine ⟨_, rfl, q, dx, _, rfl, gq, rfl, _, rfl, q, b, ws, lo + (i : Int) + 1, rfl, hst, so, by omega, by omega, gn ?_⟩
      refine st_eq [some (.ref q), some (.int lo), some (.int hi), some (.int (cntR (grS b ws) lo i)), some (.int (grS b ws (lo + (i : Int)))), some (.int (lo + (i : Int) + 1)), some (.int (grS b ws (lo + (i : Int) + 1)))] rfl ?_
      have er : cntR (grS b ws) lo (i + 1) = cntR (grS b ws) lo i + (if decide (grS b ws (lo + (i : Int)) < grS b ws (lo + (i : Int) + 1)) = true then 1 else 0) := by
        show cntR (grS b ws) lo i + rise (grS b ws) (lo + (i : Int) + 1) = _
        unfold rise
        rw [show lo + (i : Int) + 1 - 1 = lo + (i : Int) by omega]
        by_cases c : grS b ws (lo + (i : Int)) < grS b ws (lo + (i : Int) + 1)
        · rw [if_pos c, if_pos (decide_eq_true c)]
        · rw [if_neg c, if_neg (by simpa using c)]
      refine ⟨_, rfl, _, rfl, _, rfl, _, _, rfl, rfl, .inr ⟨_, rfl, _, _, rfl, rfl, _, rfl, _, _, rfl, rfl, some (.int (lo + (i : Int) + 1)), some (.int (grS b ws (lo + (i : Int) + 1))), ?_⟩⟩
      rw [er, show lo + ((i + 1 : Nat) : Int) = lo + (i : Int) + 1 by omega]
      rfl
    · rintro σ G ⟨rfl, v5, v6, rfl⟩
      refine ⟨_, rfl, ?_⟩
      have e : RB (grS b ws) lo hi = cntR (grS b ws) lo (hi + 1 - (lo + 1)).toNat := by
        unfold RB
        rw [show hi + 1 - (lo + 1) = hi - lo by omega]
      rw [← e]
      exact k
theorem ok_rises_along (T : Tx w K mg) : Prom P w K mg base CX0 6 "rises_along" s_rises_along ["stack", "low", "high", "period"] (spRisesA K) := by
  refine Prom.of T.d_rises_along sc_rises_along (fun vs H Q E h => ?_) (fun _ _ _ _ _ _ us hl => match us, hl with | [_, _, _, _], _ => rfl) (fun f cdv A outer s H vs Q E hr h => ?_)
  · obtain ⟨q, b, ws, lo, hi, rfl, _⟩ := h
    rfl
  · obtain ⟨q, b, ws, lo, hi, rfl, hst, so, l0, lh, h1, nc, k⟩ := h
    refine ⟨_, (pss_cons (ps_set (i := 4) sc_rises_along.nd rfl (Or.inl rfl) (pe_op op_fdivW (pe_op op_sub (pv 2) (pv 1)) (pv 3)))
      (pss_cons (ps_if (pt_cmp (pc_lt (pv 4) pe_int)) (pss_one (ps_ret (pe_callP (ok_rises_between T) (hr.mono (by decide)) (by rfl) pass0 (pa_cons (pv 0) (pa_cons (pv 1) (pa_cons (pv 2) pa_nil)))))) pss_nil)
      (pss_cons (ps_set (i := 5) sc_rises_along.nd rfl (Or.inl rfl) (pe_op op_add (pv 1) (pe_op op_mulW (pv 4) (pv 3))))
      (pss_one (ps_ret (pe_op op_add (pe_op op_mulW (pv 4) (pe_callP (ok_rises_between T) (hr.mono (by decide)) (by rfl) pass0 (pa_cons (pv 0) (pa_cons (pv 1) (pa_cons (pe_op op_add (pv 1) (pv 3)) pa_nil))))) (pe_callP (ok_rises_between T) (hr.mono (by decide)) (by rfl) pass0 (pa_cons (pv 0) (pa_cons (pv 5) (pa_cons (pv 2) pa_nil)))))))))), ?_⟩
    obtain ⟨p0, p1, sh⟩ := per_shift so.b0 so.ok
    have pb := (per_bound so.b0 so.ok so.len)
    obtain ⟨p, ep⟩ : ∃ p, p = (perL b ws).1 := ⟨_, rfl⟩
    have rs : ∀ x, lo < x → x + p ≤ hi → rise (grS b ws) (x + p) = rise (grS b ws) x := fun x h1 h2 => by
      rw [ep] at h2 ⊢
      exact stretch_rise so.b0 so.ok l0 nc h1 h2
    rw [← ep] at p0 pb ⊢
    have up9 : (2 : Int) ^ 900 < 2 ^ 2000 := by decide
    have up8 : (2 : Int) ^ 90 < 2 ^ 2000 := by decide
    have pp : p < 2 ^ 2000 := by omega
    refine ⟨_, rfl, _, rfl, _, _, rfl, rfl, _, rfl, _, _, rfl, rfl, divw_of (by omega) pp, gn ?_⟩
    obtain ⟨t, et⟩ : ∃ t, t = (hi - lo) / p := ⟨_, rfl⟩
    have t0 : 0 ≤ t := by rw [et]; exact Int.ediv_nonneg (by omega) (by omega)
    have t1 : t ≤ hi - lo := by rw [et]; exact Int.ediv_le_self _ (by omega)
    have tp : p * t ≤ hi - lo := by
      have := Int.mul_ediv_self_le (x := hi - lo) (k := p) (by omega)
      rw [← et] at this
      exact this
    have tp0 : 0 ≤ p * t := Int.mul_nonneg (by omega) t0
    refine st_eq [some (.ref q), some (.int lo), some (.int hi), some (.int p), some (.int t), none] (by rw [et]; rfl) ?_
    refine ⟨_, rfl, _, _, rfl, rfl, _, rfl, ifd (fun c => ⟨_, rfl, _, rfl, _, rfl, q, b, ws, lo, hi, rfl, hst, so, l0, lh, h1, k⟩) (fun c => nxtG ?_)⟩
    have c : ¬ t < 2 := c
    have t2 : p ≤ p * t := by
      have := Int.mul_le_mul_of_nonneg_left (show 1 ≤ t by omega) (show 0 ≤ p by omega)
      omega
    refine ⟨_, rfl, _, rfl, _, rfl, _, _, rfl, rfl, mulw_of t0 (by omega) (by omega) pp, _, _, rfl, rfl, gn ?_⟩
    refine st_eq [some (.ref q), some (.int lo), some (.int hi), some (.int p), some (.int t), some (.int (lo + p * t))] (by rw [Int.mul_comm p t]; rfl) ?_
    have rb := RB_bd (grS b ws) (show lo ≤ lo + p by omega)
    refine ⟨_, rfl, _, rfl, _, rfl, _, rfl, _, rfl, _, _, rfl, rfl, q, b, ws, lo, lo + p, rfl, hst, so, l0, by omega, by omega, _, _, rfl, rfl, mulw_of t0 (by omega) rb.1 (by omega), _, rfl, _, rfl, _, rfl, q, b, ws, lo + p * t, hi, rfl, hst, so, by omega, by omega, h1, _, _, rfl, rfl, ?_⟩
    have e : RB (grS b ws) lo hi = t * RB (grS b ws) lo (lo + p) + RB (grS b ws) (lo + p * t) hi := by
      have ct : ((t.toNat : Nat) : Int) = t := by omega
      have := RB_turns (grS b ws) (lo := lo) (P := p) (by omega) t.toNat (fun x h1 h2 => rs x h1 (by rw [ct] at h2; omega))
      rw [ct] at this
      rw [← this]
      exact RB_add _ (by omega) (by omega)
    rw [e] at k
    exact k
end
/-! ### stairs -/
def stairFs (q : Addr) (p : Int) (l : Addr) : List (Str × V) := [("stack", .ref q), ("period", .int p), ("rows", .ref l)]
/-- what the rows tell -/
def RowsAt (f : Int → Int) (H : Hp) (ts : List V) (S : List Int) : Prop := ts.length = S.length ∧ ∀ (j : Nat) s, S[j]? = some s → ∃ T, ts[j]? = some (.ref T) ∧ H T = some (.tup [.int s, .int (DS f s)])
theorem RowsAt.same {f : Int → Int} {H H' : Hp} {ts : List V} {S : List Int} (h : RowsAt f H ts S) (s : Same H H') : RowsAt f H' ts S := ⟨h.1, fun j x hx => by
  obtain ⟨T, h1, h2⟩ := h.2 j x hx
  exact ⟨T, h1, s _ _ h2⟩⟩
/-- stairs of a stack up to h -/
def StairAt (K : PySem.W.Frag) (H : Hp) (r q : Addr) (b : Int) (ws : List Wr) (h : Int) : Prop := ∃ (dx l : Addr) (ts : List V) (S E : List Int), H r = some (.ins (He.ga K "Stairs") dx (stairFs q (perL b ws).1 l)) ∧ H l = some (.lst ts) ∧ RowsAt (grS b ws) H ts S ∧ Strs b ws 0 h S E
theorem StairAt.same {K : PySem.W.Frag} {H H' : Hp} {r q : Addr} {b : Int} {ws : List Wr} {h : Int} (a : StairAt K H r q b ws h) (s : Same H H') : StairAt K H' r q b ws h := by
  obtain ⟨dx, l, ts, S, E, h1, h2, h3, h4⟩ := a
  exact ⟨dx, l, ts, S, E, s _ _ h1, s _ _ h2, h3.same s, h4⟩
theorem RowsAt.snoc {f : Int → Int} {H : Hp} {ts : List V} {S : List Int} {t : Addr} {s : Int} (h : RowsAt f H ts S) (ht : H t = some (.tup [.int s, .int (DS f s)])) : RowsAt f H (ts ++ [.ref t]) (S ++ [s]) := by
  refine ⟨by rw [List.length_append, List.length_append, h.1]; rfl, fun j x hx => ?_⟩
  by_cases c : j < S.length
  · rw [List.getElem?_append_left c] at hx
    obtain ⟨T, h1, h2⟩ := h.2 j x hx
    exact ⟨T, by rw [List.getElem?_append_left (by rw [h.1]; exact c)]; exact h1, h2⟩
  · have e := (List.getElem?_eq_some_iff.mp hx).1
    rw [List.length_append] at e
    have e : j < S.length + 1 := e
    have : j = S.length := by omega
    subst this
    rw [List.getElem?_append_right (Nat.le_refl _), Nat.sub_self] at hx
    have hx : s = x := Option.some.inj hx
    subst hx
    refine ⟨t, ?_, ht⟩
    rw [← h.1, List.getElem?_append_right (Nat.le_refl _), Nat.sub_self]
    rfl
theorem RowsAt.kp {f : Int → Int} {H H' : Hp} {ts ys : List V} {S : List Int} {l : Addr} (h : RowsAt f H ts S) (hl : H l = some (.lst ys)) (k : Kp l H H') : RowsAt f H' ts S := ⟨h.1, fun j x hx => by
  obtain ⟨T, h1, h2⟩ := h.2 j x hx
  exact ⟨T, h1, k _ _ (fun z => by rw [z, hl] at h2; cases h2) h2⟩⟩
def spStair0 (K : PySem.W.Frag) : Sp := fun vs H Q _ => ∃ (x dx q : Addr) (b : Int) (ws : List Wr) (h : Int), vs = [.ref x, .ref q, .int h] ∧ H x = some (.ins (He.ga K "Stairs") dx []) ∧ StkAt K H q b ws ∧ StkOk b ws ∧ 0 ≤ h ∧ h < 2 ^ 900 ∧
  ∀ H' l ts S E, Kp x H H' → H' x = some (.ins (He.ga K "Stairs") dx (stairFs q (perL b ws).1 l)) → H' l = some (.lst ts) → RowsAt (grS b ws) H' ts S → Strs b ws 0 h S E → Q .non H'
def spStairs (K : PySem.W.Frag) : Sp := fun vs H Q _ => ∃ (q : Addr) (b : Int) (ws : List Wr) (h : Int), vs = [.ref q, .int h] ∧ StkAt K H q b ws ∧ StkOk b ws ∧ 0 ≤ h ∧ h < 2 ^ 900 ∧ ∀ r H', H r = none → Same H H' → StairAt K H' r q b ws h → Q (.ref r) H'
def spUpTo (K : PySem.W.Frag) : Sp := fun vs H Q _ => ∃ (r q : Addr) (b : Int) (ws : List Wr) (h n : Int), vs = [.ref r, .int n] ∧ StairAt K H r q b ws h ∧ StkAt K H q b ws ∧ StkOk b ws ∧ 0 ≤ n ∧ n ≤ h ∧ h < 2 ^ 900 ∧ ∀ H', Same H H' → Q (.int (DS (grS b ws) n)) H'
def spBelow (K : PySem.W.Frag) : Sp := fun vs H Q _ => ∃ (r q : Addr) (b : Int) (ws : List Wr) (h n : Int), vs = [.ref r, .int n] ∧ StairAt K H r q b ws h ∧ StkAt K H q b ws ∧ StkOk b ws ∧ 0 ≤ n ∧ n ≤ h ∧ h < 2 ^ 900 ∧ ∀ H', Same H H' → Q (.int (MB (grS b ws) n)) H'
theorem DS_zero (f : Int → Int) : DS f 0 = 1 := by
  unfold DS
  rw [RB_self]
  rfl
theorem DS_add (f : Int → Int) {n m : Int} (n0 : 0 ≤ n) (h : n ≤ m) : DS f m = DS f n + RB f n m := by
  unfold DS
  have := RB_add f n0 h
  omega
section
variable {P : Program} {w : World} {K : PySem.W.Frag} {mg : Str → Option Value} {base : Heap}
theorem ok_Stairs (T : Tx w K mg) : PromC P w K mg base CX0 10 "Stairs" (spStairs K) := by
  refine PromC.plain (sp0 := spStair0 K) T.mk_Stairs T.k_Stairs T.dm_Stairs___init__ sc_Stairs___init__ (fun vs H Q E h => ?_) (fun _ _ _ _ _ _ us hl => match us, hl with | [_, _, _], _ => rfl) (fun f cdv A outer s H vs Q E hr h => ?_) (fun vs H Q E h x dx hx hdx ne => ?_)
  · obtain ⟨x, dx, q, b, ws, h, rfl, _⟩ := h
    rfl
  · obtain ⟨x, dx, q, b, ws, n, rfl, hx, hst, so, n0, n1, k⟩ := h
    refine ⟨_, (pss_cons (ps_fld (pv 0) (pv 1) rfl)
      (pss_cons (ps_fld (pv 0) (pe_ix ix_tup (pe_callP (ok_period_of T) (hr.mono (by decide)) (by rfl) pass0 (pa_cons (pv 1) pa_nil)) pe_int (fun _ _ => rfl)) rfl)
      (pss_cons (ps_fld (pv 0) (pe_lst pa_nil) rfl)
      (pss_cons (ps_set (i := 3) sc_Stairs___init__.nd rfl (Or.inl rfl) pe_int)
      (pss_one (ps_for PassesOwn.never (by rfl) (pi_list (pe_callP (ok_stretches T) (hr.mono (by decide)) (by rfl) pass0 (pa_cons (pv 1) (pa_cons pe_int (pa_cons (pv 2) pa_nil))))) (pg_tup rfl (pgs_cons (pg_name (i := 4) sc_Stairs___init__.nd rfl (Or.inl rfl)) (pgs_cons (pg_name (i := 5) sc_Stairs___init__.nd rfl (Or.inl rfl)) pgs_nil))) (pss_cons (ps_aug (i := 3) sc_Stairs___init__.nd rfl (.inl rfl) (pe_weak (pe_ifExp (pt_cmp (pc_eqI (pv 4) pe_int)) pe_int (pe_callP (ok_rises_between T) (hr.mono (by decide)) (by rfl) pass0 (pa_cons (pv 1) (pa_cons (pe_op op_sub (pv 4) pe_int) (pa_cons (pv 4) pa_nil)))))) ip_add)
      (pss_cons (ps_expr (pe_bm PySem.F.plainAttrs_list PySem.F.slot_list_append PySem.F.type_list_append mt_append (pe_fld (pv 0) rfl) (pa_cons (pe_tup (pa_cons (pv 4) (pa_cons (pv 3) pa_nil))) pa_nil)))
      (pss_one (ps_aug (i := 3) sc_Stairs___init__.nd rfl (.inl rfl) (pe_callP (ok_rises_along T) (hr.mono (by decide)) (by rfl) pass0 (pa_cons (pv 1) (pa_cons (pv 4) (pa_cons (pv 5) (pa_cons (pe_fld (pv 0) rfl) pa_nil))))) ip_add)))))))))), ?_⟩
    have nq : q ≠ x := by
      obtain ⟨d2, t2, x2, g2, _⟩ := hst
      exact ne_of g2 hx (fun e => by have e := (HO.ins.inj e).2.2; cases e)
    have hs' : ∀ H', Kp x H H' → StkAt K H' q b ws := fun H' kk => by
      obtain ⟨dq, tq, xq, gq, gt, wq⟩ := hst
      have nt : tq ≠ x := ne_of gt hx (fun e => by cases e)
      refine ⟨dq, tq, xq, kk _ _ nq gq, kk _ _ nt gt, ?_⟩
      clear gt gq k so
      induction wq with
      | nil => exact .nil
      | cons h _ ih =>
        obtain ⟨d2, p2, g1, g2⟩ := h
        exact .cons ⟨d2, p2, kk _ _ (ne_of g1 hx (fun e => by have e := (HO.ins.inj e).2.2; cases e)) g1, kk _ _ (ne_of g2 hx (fun e => by cases e)) g2⟩ ih
    refine ⟨_, rfl, _, rfl, x, _, dx, _, rfl, hx, T.cl_Stairs, T.na_Stairs_stack, (show (0 : Nat) < 1000 by decide), ?_⟩
    have k1 : Kp x H (upd H x (.ins (He.ga K "Stairs") dx [("stack", .ref q)])) := Kp.set (Kp.refl x H)
    refine ⟨_, rfl, q, b, ws, rfl, hs' _ k1, so, fun u H2 fu s2 hu => ⟨u, _, _, _, rfl, rfl, SqT.of hu, atI_nat (j := 0) rfl, _, rfl, x, _, dx, _, rfl, s2 _ _ upd_same, T.cl_Stairs, T.na_Stairs_period, (show (1 : Nat) < 1000 by decide), ?_⟩⟩
    have k2 : Kp x H (upd H2 x (.ins (He.ga K "Stairs") dx [("stack", .ref q), ("period", .int (perL b ws).1)])) := Kp.set (fun y o n e => s2 _ _ (k1 _ _ n e))
    refine ⟨Nat.zero_le _, fun l hl => ⟨_, rfl, x, _, dx, _, rfl, up hl _ _ upd_same, T.cl_Stairs, T.na_Stairs_rows, (show (2 : Nat) < 1000 by decide), ?_⟩⟩
    have nl : l ≠ x := fun z => by
      rw [z, upd_same] at hl
      cases hl
    have k3 : Kp x H (upd (upd (upd H2 x (.ins (He.ga K "Stairs") dx [("stack", .ref q), ("period", .int (perL b ws).1)])) l (.lst [])) x (.ins (He.ga K "Stairs") dx (stairFs q (perL b ws).1 l))) := Kp.set (fun y o n e => up hl _ _ (k2 _ _ n e))
    have gl : (upd (upd (upd H2 x (.ins (He.ga K "Stairs") dx [("stack", .ref q), ("period", .int (perL b ws).1)])) l (.lst [])) x (.ins (He.ga K "Stairs") dx (stairFs q (perL b ws).1 l))) l = some (.lst []) := by
      rw [upd_ne nl]
      exact upd_same
    have gx : (upd (upd (upd H2 x (.ins (He.ga K "Stairs") dx [("stack", .ref q), ("period", .int (perL b ws).1)])) l (.lst [])) x (.ins (He.ga K "Stairs") dx (stairFs q (perL b ws).1 l))) x = some (.ins (He.ga K "Stairs") dx (stairFs q (perL b ws).1 l)) := upd_same
    have hl0 : ∀ o, H l ≠ some o := fun o e => by
      have h1 := k2 _ _ nl e
      have h2 : (upd H2 x (.ins (He.ga K "Stairs") dx [("stack", .ref q), ("period", .int (perL b ws).1)])) l = none := hl
      rw [h2] at h1
      cases h1
    refine hp_eq (upd (upd (upd H2 x (.ins (He.ga K "Stairs") dx [("stack", .ref q), ("period", .int (perL b ws).1)])) l (.lst [])) x (.ins (He.ga K "Stairs") dx (stairFs q (perL b ws).1 l))) rfl ?_
    generalize (upd (upd (upd H2 x (.ins (He.ga K "Stairs") dx [("stack", .ref q), ("period", .int (perL b ws).1)])) l (.lst [])) x (.ins (He.ga K "Stairs") dx (stairFs q (perL b ws).1 l))) = H3 at k3 gl gx ⊢
    refine ⟨_, rfl, _, rfl, q, b, ws, 0, n, rfl, hs' _ k3, so, by decide, n0, Int.lt_trans n1 (by decide), fun L H4 ts S Es fL s4 gL st tl tg => ?_⟩
    have gx4 := s4 _ _ gx
    have gl4 := s4 _ _ gl
    have k4 : Kp x H H4 := fun y o n e => s4 _ _ (k3 _ _ n e)
    have nLl : L ≠ l := fun z => by rw [z, gl] at fL; cases fL
    have el := st.len
    have sle := st.le
    refine ⟨L, rfl, ⟨_, SqL.of gL⟩, for_list (K := K) (a := L) (xs := ts) (fun i σ G => Kp l H4 G ∧ ∃ (ys : List V) (c : Int) (v4 v5 : Option V), G l = some (.lst ys) ∧ RowsAt (grS b ws) G ys (S.take i) ∧ σ = [some (.ref x), some (.ref q), some (.int n), some (.int c), v4, v5] ∧ ((i = 0 ∧ c = 0) ∨ ∃ j e, i = j + 1 ∧ Es[j]? = some e ∧ 0 ≤ e ∧ c = DS (grS b ws) e)) ⟨Kp.refl _ _, [], 0, none, none, gl4, ⟨rfl, fun j s h => by simp at h⟩, rfl, .inl ⟨rfl, rfl⟩⟩ (fun _ _ G _ h => SqL.of (h.1 _ _ nLl gL)) ?_ ?_⟩
    · rintro i y σ G hi ⟨kG, ys, c, v4, v5, gG, ra, rfl, hc⟩
      have il := (List.getElem?_eq_some_iff.mp hi).1
      obtain ⟨s, hs⟩ : ∃ s, S[i]? = some s := ⟨_, List.getElem?_eq_getElem (by omega)⟩
      obtain ⟨e, he⟩ : ∃ e, Es[i]? = some e := ⟨_, List.getElem?_eq_getElem (by omega)⟩
      obtain ⟨T0, e0, _, gT⟩ := tg i s e hs he
      rw [hi] at e0
      cases e0
      obtain ⟨f1, f2, f3⟩ := st.flat i s e hs he
      have se := st.se i s e hs he
      have nTl : T0 ≠ l := fun z => by rw [z, gl4] at gT; cases gT
      have gT := kG _ _ nTl gT
      have gxG := kG _ _ (Ne.symm nl) gx4
      have kx : Kp x H G := fun z o ne e => kG _ _ (fun w => hl0 o (by rw [← w]; exact e)) (k4 _ _ ne e)
      refine ⟨T0, _, rfl, SqT.of gT, rfl, _, _, rfl, _, _, rfl, rfl, ?_⟩
      refine st_eq [some (.ref x), some (.ref q), some (.int n), some (.int c), some (.int s), some (.int e)] rfl ?_
      have hsG := hs' _ kx
      have h9 : n < 2 ^ 900 := n1
      refine ⟨_, rfl, fun v G' => G' = G ∧ v = .int (DS (grS b ws) s - c), fun v G' hv => ?_, ?_⟩
      rotate_left
      · refine ⟨_, rfl, _, _, rfl, rfl, _, rfl, ifd (fun d => ?_) (fun d => ?_)⟩
        · have d : s = 0 := d
          subst d
          rcases hc with ⟨_, rfl⟩ | ⟨j, e', rfl, he', e0', _⟩
          · rw [DS_zero]
            exact ⟨rfl, rfl⟩
          · have := st.nxt j e' 0 he' hs
            omega
        · have d : ¬ s = 0 := d
          rcases hc with ⟨rfl, rfl⟩ | ⟨j, e', rfl, he', e0', rfl⟩
          · rw [st.s0] at hs
            exact absurd (Option.some.inj hs).symm d
          · have es := st.nxt j e' s he' hs
            refine ⟨_, rfl, _, rfl, _, _, rfl, rfl, _, rfl, q, b, ws, s - 1, s, rfl, hsG, so, by omega, by omega, by omega, rfl, ?_⟩
            have := DS_add (grS b ws) e0' (show e' ≤ s by omega)
            rw [show s - 1 = e' by omega, this]
            congr 1
            omega
      obtain ⟨rfl, rfl⟩ := hv
      refine ⟨_, _, rfl, rfl, ?_⟩
      refine st_eq [some (.ref x), some (.ref q), some (.int n), some (.int (DS (grS b ws) s)), some (.int s), some (.int e)] (by
        show [some (V.ref x), some (V.ref q), some (V.int n), some (V.int (c + (DS (grS b ws) s - c))), some (V.int s), some (V.int e)] = _
        rw [show c + (DS (grS b ws) s - c) = DS (grS b ws) s by omega]) ?_
      have yl := ra.1
      rw [List.length_take] at yl
      refine ⟨_, rfl, x, _, dx, _, _, rfl, gxG, T.cl_Stairs, T.na_Stairs_rows, rfl, .inl ⟨rfl, _, SqL.of gG⟩, _, rfl, _, rfl, (by show 2 ≤ sizeLine; decide), fun t ht => ⟨l, _, _, rfl, rfl, up ht _ _ gG, by rw [sizeLine_eq]; omega, ?_⟩⟩
      have ntl : t ≠ l := Ne.symm (ne_of_none gG ht)
      have kk : Kp l G' (upd (upd G' t (.tup [.int s, .int (DS (grS b ws) s)])) l (.lst (ys ++ [.ref t]))) := fun z o ne e => by
        rw [upd_ne ne]
        exact up ht _ _ e
      have kG2 : Kp l H4 (upd (upd G' t (.tup [.int s, .int (DS (grS b ws) s)])) l (.lst (ys ++ [.ref t]))) := kG.trans kk
      have gG2 : (upd (upd G' t (.tup [.int s, .int (DS (grS b ws) s)])) l (.lst (ys ++ [.ref t]))) l = some (.lst (ys ++ [.ref t])) := upd_same
      have gt2 : (upd (upd G' t (.tup [.int s, .int (DS (grS b ws) s)])) l (.lst (ys ++ [.ref t]))) t = some (.tup [.int s, .int (DS (grS b ws) s)]) := by
        rw [upd_ne ntl]
        exact upd_same
      have ra2 := (ra.kp gG kk).snoc gt2
      have kx2 : Kp x H (upd (upd G' t (.tup [.int s, .int (DS (grS b ws) s)])) l (.lst (ys ++ [.ref t]))) := fun z o ne e => kG2 _ _ (fun w => hl0 o (by rw [← w]; exact e)) (k4 _ _ ne e)
      have gx2 := kk _ _ (Ne.symm nl) gxG
      generalize (upd (upd G' t (.tup [.int s, .int (DS (grS b ws) s)])) l (.lst (ys ++ [.ref t]))) = G2 at kG2 gG2 ra2 kx2 gx2 ⊢
      have es : S.take (i + 1) = S.take i ++ [s] := by rw [List.take_succ, hs]; rfl
      rw [← es] at ra2
      refine ⟨_, rfl, _, rfl, _, rfl, _, rfl, _, rfl, x, _, dx, _, _, rfl, gx2, T.cl_Stairs, T.na_Stairs_period, rfl, q, b, ws, s, e, rfl, hs' _ kx2, so, f1, se, by omega, f3, _, _, rfl, rfl, ?_⟩
      refine ⟨kG2, _, _, some (.int s), some (.int e), gG2, ra2, rfl, .inr ⟨i, e, rfl, he, by omega, ?_⟩⟩
      rw [DS_add (grS b ws) f1 se]
    · rintro σ G ⟨kG, ys, c, v4, v5, gG, ra, rfl, hc⟩
      rw [show S.take ts.length = S by rw [tl, List.take_length]] at ra
      exact k G l ys S Es (fun z o ne e => kG _ _ (fun w => hl0 o (by rw [← w]; exact e)) (k4 _ _ ne e)) (kG _ _ (Ne.symm nl) gx4) gG ra st
  · obtain ⟨q, b, ws, h, rfl, hst, so, h0, h1, k⟩ := h
    have same : Same H (upd (upd H dx (.own x)) x (.ins (He.ga K "Stairs") dx [])) := fun z o e => by
      rw [upd_ne (ne_of_none e hx), upd_ne (ne_of_none e hdx)]
      exact e
    refine ⟨x, dx, q, b, ws, h, rfl, upd_same, hst.same same, so, h0, h1, fun H' l ts S Es kp h1 h2 h3 h4 => ⟨rfl, k x H' hx (fun z o e => ?_) ⟨dx, l, ts, S, Es, h1, h2, h3, h4⟩⟩⟩
    exact kp _ _ (ne_of_none e hx) (same _ _ e)
end
section
variable {P : Program} {w : World} {K : PySem.W.Frag} {mg : Str → Option Value} {base : Heap}
theorem ok_Stairs_sizes_up_to (T : Tx w K mg) : PromM P w K mg base CX0 8 "Stairs" "sizes_up_to" ["self", "length"] (spUpTo K) := by
  refine PromM.of T.cl_Stairs T.me_Stairs_sizes_up_to T.dm_Stairs_sizes_up_to sc_Stairs_sizes_up_to (fun vs H Q E h => ?_) (fun _ _ _ _ _ _ us hl => match us, hl with | [_, _], _ => rfl) (fun f cdv A outer s H vs Q E hr h => ?_)
  · obtain ⟨r, q, b, ws, h, n, rfl, _⟩ := h
    rfl
  · obtain ⟨r, q, b, ws, h, n, rfl, hr0, hst, so, n0, nh, h1, k⟩ := h
    obtain ⟨dx, l, ts, S, Es, g1, g2, rw1, st⟩ := hr0
    refine ⟨_, (pss_cons (ps_asg (pe_ix ix_list (pe_lc (own := [("row", 4)]) (g := (gName 4)) (by rfl) sc_Stairs_sizes_up_to.nd (pi_list (pe_fld (pv 0) rfl)) (blkOk_by (own := [("row", 4)]) (N := ["self", "length", "first", "count", "row"]) (sc := defScope s_Stairs_sizes_up_to) (by decide +kernel)) (fun _ _ _ _ _ => (pg_name (i := 4) sc_Stairs_sizes_up_to.nd rfl (Or.inl rfl))) (fun _ _ _ _ _ => pts_one (pt_cmp (pc_le (pe_ix (show IxR _ (rIxT K) from ix_tup) (pv 4) pe_int (fun _ _ => rfl)) (pv 1)))) (fun _ _ _ _ _ => (pv 4))) (pe_un un_neg pe_int) (fun _ _ => rfl)) (pg_tup rfl (pgs_cons (pg_name (i := 2) sc_Stairs_sizes_up_to.nd rfl (Or.inl rfl)) (pgs_cons (pg_name (i := 3) sc_Stairs_sizes_up_to.nd rfl (Or.inl rfl)) pgs_nil))))
      (pss_one (ps_ret (pe_op op_add (pv 3) (pe_callP (ok_rises_along T) (hr.mono (by decide)) (by rfl) pass0 (pa_cons (pe_fld (pv 0) rfl) (pa_cons (pv 2) (pa_cons (pv 1) (pa_cons (pe_fld (pv 0) rfl) pa_nil))))))))), ?_⟩
    have tl := rw1.1
    have sle := st.le
    refine ⟨_, rfl, r, _, dx, _, _, rfl, g1, T.cl_Stairs, T.na_Stairs_rows, rfl, l, rfl, ⟨_, SqL.of g2⟩, fun D hD => ?_⟩
    refine lc_list (K := K) (a := l) (xs := ts) (Pv := fun i G => Same H G ∧ ∃ ys : List V, G D = some (.lst ys) ∧ ys.length ≤ i ∧ (0 < i → ∃ (zs : List V) (J : Nat) (s : Int) (T0 : Addr), ys = zs ++ [.ref T0] ∧ S[J]? = some s ∧ s ≤ n ∧ J < i ∧ H T0 = some (.tup [.int s, .int (DS (grS b ws) s)]) ∧ ∀ (j : Nat) s', J < j → j < i → S[j]? = some s' → n < s')) ⟨up hD, [], upd_same, Nat.le_refl _, fun z => absurd z (by decide)⟩ (fun i G _ z => SqL.of (z.1 _ _ g2)) ?_ ?_
    · rintro i x G hi ⟨sG, ys, gD, yl, hy⟩
      have il := (List.getElem?_eq_some_iff.mp hi).1
      obtain ⟨s, hs⟩ : ∃ s, S[i]? = some s := ⟨_, List.getElem?_eq_getElem (by omega)⟩
      obtain ⟨T0, e0, gT⟩ := rw1.2 i s hs
      rw [hi] at e0
      cases e0
      refine ⟨rfl, _, rfl, T0, _, _, _, rfl, rfl, SqT.of (sG _ _ gT), atI_nat (j := 0) rfl, _, rfl, _, _, rfl, rfl, _, rfl, ifd (fun c => ?_) (fun c => ?_)⟩
      · have c : s ≤ n := c
        refine ⟨_, rfl, _, gD, by rw [sizeLine_eq]; omega, fun y o e => ?_, ys ++ [.ref T0], upd_same, by rw [List.length_append]; show ys.length + 1 ≤ i + 1; omega, fun _ => ⟨ys, i, s, T0, rfl, hs, c, Nat.lt_succ_self i, gT, fun j s' h1 h2 => by omega⟩⟩
        rw [upd_ne (ne_of_none e hD)]
        exact sG _ _ e
      · have c : ¬ s ≤ n := c
        refine ⟨sG, ys, gD, by omega, fun _ => ?_⟩
        have i0 : 0 < i := by
          rcases Nat.eq_zero_or_pos i with z | z
          · subst z
            rw [st.s0] at hs
            have := Option.some.inj hs
            omega
          · exact z
        obtain ⟨zs, J, s', T1, e1, e2, e3, e4, e5, e6⟩ := hy i0
        refine ⟨zs, J, s', T1, e1, e2, e3, by omega, e5, fun j u h1 h2 hu => ?_⟩
        rcases Nat.lt_or_ge j i with z | z
        · exact e6 j u h1 z hu
        · have : j = i := by omega
          rw [this, hs] at hu
          have := Option.some.inj hu
          omega
    · rintro G ⟨sG, ys, gD, yl, hy⟩
      obtain ⟨zs, J, s, T0, rfl, e2, e3, e4, e5, e6⟩ := hy (by have := st.pos; omega)
      refine ⟨_, rfl, D, _, _, _, rfl, rfl, SqL.of gD, atI_last zs _, T0, _, rfl, SqT.of (sG _ _ e5), rfl, _, _, rfl, _, _, rfl, rfl, ?_⟩
      refine st_eq [some (.ref r), some (.int n), some (.int s), some (.int (DS (grS b ws) s)), none] rfl ?_
      obtain ⟨e, he⟩ : ∃ e, Es[J]? = some e := ⟨_, List.getElem?_eq_getElem (by have := st.len; have := (List.getElem?_eq_some_iff.mp e2).1; omega)⟩
      obtain ⟨f1, f2, f3⟩ := st.flat J s e e2 he
      have ne : n ≤ e := by
        rcases Nat.eq_or_lt_of_le (show J + 1 ≤ S.length by omega) with z | z
        · have := st.last J e he z
          omega
        · obtain ⟨s', hs'⟩ : ∃ s', S[J + 1]? = some s' := ⟨_, List.getElem?_eq_getElem z⟩
          have := st.nxt J e s' he hs'
          have := e6 (J + 1) s' (by omega) (by omega) hs'
          omega
      have g1 := sG _ _ g1
      refine ⟨_, rfl, _, rfl, r, _, dx, _, _, rfl, g1, T.cl_Stairs, T.na_Stairs_stack, rfl, _, rfl, _, rfl, _, rfl, r, _, dx, _, _, rfl, g1, T.cl_Stairs, T.na_Stairs_period, rfl, q, b, ws, s, n, rfl, hst.same sG, so, f1, e3, by omega, fun x h1 h2 => f3 x h1 (by omega), _, _, rfl, rfl, ?_⟩
      have := k G sG
      rw [DS_add (grS b ws) f1 e3] at this
      exact this
theorem ok_Stairs_missed_below (T : Tx w K mg) : PromM P w K mg base CX0 9 "Stairs" "missed_below" ["self", "length"] (spBelow K) := by
  refine PromM.of T.cl_Stairs T.me_Stairs_missed_below T.dm_Stairs_missed_below sc_Stairs_missed_below (fun vs H Q E h => ?_) (fun _ _ _ _ _ _ us hl => match us, hl with | [_, _], _ => rfl) (fun f cdv A outer s H vs Q E hr h => ?_)
  · obtain ⟨r, q, b, ws, h, n, rfl, _⟩ := h
    rfl
  · obtain ⟨r, q, b, ws, h, n, rfl, hr0, hst, so, n0, nh, h1, k⟩ := h
    obtain ⟨dx, l, ts, S, Es, g1, g2, rw1, st⟩ := id hr0
    obtain ⟨dq, tt, xs, gq, _, _⟩ := id hst
    have up9 : (2 : Int) ^ 900 < 2 ^ 1000 := by decide
    refine ⟨_, (pss_one (ps_ret (pe_op op_sub (pe_op op_add (pe_methP (ok_Stack_grown T) (hr.mono (by decide)) pass0 (pe_fld (pv 0) rfl) (pa_cons (pv 1) pa_nil)) pe_int) (pe_methP (ok_Stairs_sizes_up_to T) (hr.mono (by decide)) pass0 (pv 0) (pa_cons (pv 1) pa_nil))))), ?_⟩
    refine ⟨_, rfl, r, _, dx, _, _, rfl, g1, T.cl_Stairs, T.na_Stairs_stack, rfl, q, dq, _, rfl, gq, rfl, _, rfl, q, b, ws, n, rfl, hst, so, n0, by omega, _, _, rfl, rfl, _, rfl, r, dx, _, rfl, g1, rfl, _, rfl, r, q, b, ws, h, n, rfl, hr0, hst, so, n0, nh, h1, fun H' s' => ⟨_, _, rfl, rfl, k H' s'⟩⟩
end
section
variable {P : Program} {w : World} {K : PySem.W.Frag} {mg : Str → Option Value} {base : Heap}
theorem ok_Stack___call__ (T : Tx w K mg) : PromM P w K mg base CX0 6 "Stack" "__call__" ["self", "length"] (spSSize K) := by
  refine PromM.of T.cl_Stack T.me_Stack___call__ T.dm_Stack___call__ sc_Stack___call__ (fun vs H Q E h => ?_) (fun _ _ _ _ _ _ us hl => match us, hl with | [_, _], _ => rfl) (fun f cdv A outer s H vs Q E hr h => ?_)
  · obtain ⟨q, b, ws, n, rfl, _⟩ := h
    rfl
  · obtain ⟨q, b, ws, n, rfl, hS, so, n0, n1, k⟩ := h
    obtain ⟨dx, t, xs, hq, ht, hw⟩ := id hS
    refine ⟨_, (pss_one (ps_ret (pe_methP (ok_Stack_size T) (hr.mono (by decide)) pass0 (pv 0) (pa_cons (pv 1) pa_nil)))), ?_⟩
    exact ⟨_, rfl, q, dx, _, rfl, hq, rfl, _, rfl, q, b, ws, n, rfl, hS, so, n0, n1, k⟩
end
/-! ### payload, missed, missed_at -/
theorem MB_le {b : Int} {ws : List Wr} (so : StkOk b ws) {n m : Int} (n0 : 0 ≤ n) (h : n ≤ m) : MB (grS b ws) n ≤ MB (grS b ws) m := by
  have := MB_mono (f := grS b ws) (fun n m h0 h => grS_mono so.b0 ws so.ok h0 h) n0 (m - n).toNat
  rw [show n + (((m - n).toNat : Nat) : Int) = m by omega] at this
  exact this
def spMissed (K : PySem.W.Frag) : Sp := fun vs H Q _ => ∃ (q : Addr) (b m : Int) (ws : List Wr), vs = [.ref q, .int m] ∧ StkAt K H q b ws ∧ StkOk b ws ∧ 0 ≤ m ∧ m ≤ 10 ^ 60 - 1 ∧ ∀ g H', Same H H' → IsG b ws m g → Q (.int (m + 1 - (if g < 0 then 0 else DS (grS b ws) g))) H'
def LeastM (f : Int → Int) (num h : Int) : Prop := 0 ≤ h ∧ num < MB f h ∧ ∀ n, 0 ≤ n → n < h → MB f n ≤ num
def spMissedAt (K : PySem.W.Frag) : Sp := fun vs H Q E => ∃ (q : Addr) (b num h : Int) (ws : List Wr), vs = [.ref q, .int num] ∧ StkAt K H q b ws ∧ StkOk b ws ∧ 0 ≤ num ∧ LeastM (grS b ws) num h ∧ (h ≤ 10 ^ 60 - 1 → grS b ws h - (MB (grS b ws) h - num) < 10 ^ 60 → ∀ H', Same H H' → Q (.int (grS b ws h - (MB (grS b ws) h - num))) H') ∧ (10 ^ 60 ≤ grS b ws h - (MB (grS b ws) h - num) ∨ 10 ^ 60 - 1 < h → ∀ H', Same H H' → Fails K H' E "TooLong" "limit" (.int (10 ^ 60)))
section
variable {P : Program} {w : World} {K : PySem.W.Frag} {mg : Str → Option Value} {base : Heap}
theorem ok_missed (T : Tx w K mg) : Prom P w K mg base CX0 12 "missed" s_missed ["stack", "bound"] (spMissed K) := by
  refine Prom.of T.d_missed sc_missed (fun vs H Q E h => ?_) (fun _ _ _ _ _ _ us hl => match us, hl with | [_, _], _ => rfl) (fun f cdv A outer s H vs Q E hr h => ?_)
  · obtain ⟨q, b, m, ws, rfl, _⟩ := h
    rfl
  · obtain ⟨q, b, m, ws, rfl, hst, so, m0, m1, k⟩ := h
    refine ⟨_, (pss_cons (ps_expr (pe_callP (ok_check_stack T) (hr.mono (by decide)) (by rfl) pass0 (pa_cons (pv 0) pa_nil)))
      (pss_cons (ps_expr (pe_callP (ok_check_length T) (hr.mono (by decide)) (by rfl) pass0 (pa_cons (pv 1) pa_nil)))
      (pss_cons (ps_set (i := 2) sc_missed.nd rfl (Or.inl rfl) (pe_callP (ok_greatest_within T) (hr.mono (by decide)) (by rfl) pass0 (pa_cons (pv 0) (pa_cons (pv 1) pa_nil))))
      (pss_one (ps_ret (pe_op op_sub (pe_op op_add (pv 1) pe_int) (pe_ifExp (pt_cmpR op_isN (pv 2) pe_non (nomark _)) pe_int (pe_methP (ok_Stairs_sizes_up_to T) (hr.mono (by decide)) pass0 (pe_newP (ok_Stairs T) (hr.mono (by decide)) (by rfl) pass0 (pa_cons (pv 0) (pa_cons (pv 2) pa_nil))) (pa_cons (pv 2) pa_nil))))))))), ?_⟩
    refine ⟨_, rfl, q, b, ws, rfl, hst, _, rfl, m, rfl, m0, m1, ?_⟩
    refine ⟨_, rfl, _, rfl, q, b, m, ws, rfl, hst, so, m0, m1, fun ig => ?_⟩
    have kk := fun H' s => k (gwI b ws m) H' s ig
    unfold gwV
    generalize gwI b ws m = g at ig kk ⊢
    by_cases z : g < 0
    · rw [if_pos z] at kk ⊢
      refine gn ?_
      exact ⟨_, rfl, _, _, rfl, rfl, _, rfl, rfl, _, rfl, ifd_pos rfl ⟨_, _, rfl, rfl, kk H (Same.refl H)⟩⟩
    · rw [if_neg z] at kk ⊢
      refine gn ?_
      refine ⟨_, rfl, _, _, rfl, rfl, _, rfl, rfl, _, rfl, ifd_neg (fun y => by cases y) ?_⟩
      have gb := ig.2.1
      refine ⟨_, rfl, _, rfl, q, b, ws, g, rfl, hst, so, by omega, Int.lt_of_le_of_lt (show g ≤ 10 ^ 60 by omega) (by decide), fun r G nr s1 hr2 => ?_⟩
      obtain ⟨dx, l, ts, S, Es, g1, _⟩ := id hr2
      exact ⟨r, dx, _, rfl, g1, rfl, _, rfl, r, q, b, ws, g, g, rfl, hr2, hst.same s1, so, by omega, Int.le_refl _, Int.lt_of_le_of_lt (show g ≤ 10 ^ 60 by omega) (by decide), fun G2 s2 => ⟨_, _, rfl, rfl, kk G2 (s1.trans s2)⟩⟩
theorem ok_missed_at (T : Tx w K mg) : Prom P w K mg base (L2.CX P w) 12 "missed_at" s_missed_at ["stack", "number"] (spMissedAt K) := by
  refine Prom.ofX T.d_missed_at sc_missed_at (fun vs H Q E h => ?_) (fun _ _ _ _ _ _ us hl => match us, hl with | [_, _], _ => rfl) (fun f cdv A outer s H vs Q E hr h => ?_)
  · obtain ⟨q, b, num, h, ws, rfl, _⟩ := h
    rfl
  · obtain ⟨q, b, num, h, ws, rfl, hst, so, m0, lm, k, kx⟩ := h
    refine ⟨_, (pss_cons (ps_expr (pe_callP (ok_check_stack T) (hr.mono (by decide)) (by rfl) pass0 (pa_cons (pv 0) pa_nil)))
      (pss_cons (ps_if (PW.pt (pw_or (pt_not (pt_val (pe_callP (ok_is_integer T) (hr.mono (by decide)) (by rfl) pass0 (pa_cons (pv 1) pa_nil)))) (pw_or1 (pt_cmp (pc_lt (pv 1) pe_int))))) (pss_one (ps_raiseE (ok_err_InvalidNumber T) (hr.mono (by decide)) (by rfl) (takes_of rfl rfl rfl rfl) (pv 1))) pss_nil)
      (pss_cons (ps_set (i := 2) sc_missed_at.nd rfl (Or.inl rfl) (pe_gint T.c_FIRST_REACH))
      (pss_cons (ps_set (i := 3) sc_missed_at.nd rfl (Or.inl rfl) (pe_newP (ok_Stairs T) (hr.mono (by decide)) (by rfl) pass0 (pa_cons (pv 0) (pa_cons (pv 2) pa_nil))))
      (pss_cons (ps_while (passes_of rfl) (pt_cmp (pc_le (pe_methP (ok_Stairs_missed_below T) (hr.mono (by decide)) pass0 (pv 3) (pa_cons (pv 2) pa_nil)) (pv 1))) (pss_cons (ps_if (pt_cmp (pc_eqI (pv 2) (pe_gint T.c_LAST))) (pss_one (ps_raiseE (ok_err_TooLong T) (hr.mono (by decide)) (by rfl) (takes_of rfl rfl rfl rfl) (pe_gint T.c_MOST_LENGTH))) pss_nil)
      (pss_cons (ps_set (i := 2) sc_missed_at.nd rfl (Or.inl rfl) (pe_callB (call_min2 rfl) (by rfl) T.b_min (by decide +kernel) (pa_cons (pe_op op_mulW (pv 2) (pv 2)) (pa_cons (pe_gint T.c_LAST) pa_nil))))
      (pss_one (ps_set (i := 3) sc_missed_at.nd rfl (Or.inl rfl) (pe_newP (ok_Stairs T) (hr.mono (by decide)) (by rfl) pass0 (pa_cons (pv 0) (pa_cons (pv 2) pa_nil))))))))
      (pss_cons (ps_set (i := 4) sc_missed_at.nd rfl (Or.inl rfl) (pe_un un_neg pe_int))
      (pss_cons (ps_while (passes_of rfl) (pt_cmp (pc_gt (pe_op op_sub (pv 2) (pv 4)) pe_int)) (pss_cons (ps_set (i := 5) sc_missed_at.nd rfl (Or.inl rfl) (pe_op op_fdiv (pe_op op_add (pv 4) (pv 2)) pe_int))
      (pss_one (ps_if (pt_cmp (pc_gt (pe_methP (ok_Stairs_missed_below T) (hr.mono (by decide)) pass0 (pv 3) (pa_cons (pv 5) pa_nil)) (pv 1))) (pss_one (ps_set (i := 2) sc_missed_at.nd rfl (Or.inl rfl) (pv 5))) (pss_one (ps_set (i := 4) sc_missed_at.nd rfl (Or.inl rfl) (pv 5)))))))
      (pss_cons (ps_set (i := 6) sc_missed_at.nd rfl (Or.inl rfl) (pe_op op_sub (pe_methP (ok_Stack_grown T) (hr.mono (by decide)) pass0 (pv 0) (pa_cons (pv 2) pa_nil)) (pe_op op_sub (pe_methP (ok_Stairs_missed_below T) (hr.mono (by decide)) pass0 (pv 3) (pa_cons (pv 2) pa_nil)) (pv 1))))
      (pss_cons (ps_if (pt_cmp (pc_ge (pv 6) (pe_gint T.c_MOST_LENGTH))) (pss_one (ps_raiseE (ok_err_TooLong T) (hr.mono (by decide)) (by rfl) (takes_of rfl rfl rfl rfl) (pe_gint T.c_MOST_LENGTH))) pss_nil)
      (pss_one (ps_ret (pv 6)))))))))))), ?_⟩
    obtain ⟨h0, lm1, lm2⟩ := lm
    refine ⟨_, rfl, q, b, ws, rfl, hst, ?_⟩
    refine ⟨_, rfl, num, rfl, _, rfl, iteF ⟨_, rfl, _, _, rfl, rfl, _, rfl, ifd_neg (show ¬ num < 0 by omega) (nxtG ?_)⟩⟩
    have big : (10 : Int) ^ 60 - 1 < 2 ^ 900 := by decide
    refine ⟨_, rfl, _, rfl, q, b, ws, 64, rfl, hst, so, by decide, by decide, fun r0 G0 nr0 s0 hr0 => gn ?_⟩
    refine st_eq [some (.ref q), some (.int num), some (.int 64), some (.ref r0), none, none, none] rfl ?_
    refine ⟨fun m σ G => Same H G ∧ ∃ (hi : Int) (r : Addr), σ = [some (.ref q), some (.int num), some (.int hi), some (.ref r), none, none, none] ∧ StairAt K G r q b ws hi ∧ 64 ≤ hi ∧ hi ≤ 10 ^ 60 - 1 ∧ m = (10 ^ 60 - 1 - hi).toNat, ⟨_, s0, 64, r0, rfl, hr0, by decide, by decide, rfl⟩, ?_⟩
    rintro m σ G ⟨sG, hi, r, rfl, hr2, hi0, hi1, rfl⟩
    obtain ⟨dx, l, ts, S, Es, g1, _⟩ := id hr2
    refine ⟨_, rfl, r, dx, _, rfl, g1, rfl, _, rfl, r, q, b, ws, hi, hi, rfl, hr2, hst.same sG, so, by omega, Int.le_refl _, by omega, fun G1 s1 => ?_⟩
    have sG1 := sG.trans s1
    refine ⟨_, rfl, _, _, rfl, rfl, _, rfl, ifd (fun c => ?_) (fun c => ?_)⟩
    · have c : MB (grS b ws) hi ≤ num := c
      refine ⟨_, fun _ _ h => h, ?_⟩
      have low : hi < h := by
        rcases Int.lt_or_le hi h with z | z
        · exact z
        · have := MB_le so h0 (show h ≤ hi by omega)
          omega
      refine ⟨_, rfl, _, _, rfl, rfl, _, rfl, ifd (fun c9 => ?_) (fun c9 => nxtG ?_)⟩
      · have c9 : hi = 999999999999999999999999999999999999999999999999999999999999 := c9
        exact kx (.inr (by omega)) _ sG1
      have c9 : ¬ hi = 999999999999999999999999999999999999999999999999999999999999 := c9
      have low : hi < 10 ^ 60 - 1 := by omega
      obtain ⟨nx, enx⟩ : ∃ nx, nx = if (999999999999999999999999999999999999999999999999999999999999 : Int) < hi * hi then 999999999999999999999999999999999999999999999999999999999999 else hi * hi := ⟨_, rfl⟩
      have sq : 64 * hi ≤ hi * hi := Int.mul_le_mul_of_nonneg_right hi0 (by omega)
      have nb : hi < nx ∧ nx ≤ 10 ^ 60 - 1 := by
        rw [enx]
        split <;> omega
      refine ⟨_, rfl, _, rfl, _, _, rfl, rfl, mulw_of (by omega) (Int.lt_of_le_of_lt hi1 (by decide)) (by omega) (Int.lt_of_le_of_lt hi1 (by decide)), _, _, rfl, ?_⟩
      show gName 2 (.int (if (999999999999999999999999999999999999999999999999999999999999 : Int) < hi * hi then 999999999999999999999999999999999999999999999999999999999999 else hi * hi)) _ _ _
      rw [← enx]
      refine gn ?_
      refine ⟨_, rfl, _, rfl, q, b, ws, nx, rfl, hst.same sG1, so, by omega, by omega, fun r2 G2 nr2 s2 hr3 => gn ?_⟩
      exact ⟨(10 ^ 60 - 1 - nx).toNat, by omega, sG1.trans s2, nx, r2, rfl, hr3, by omega, by omega, rfl⟩
    · have c : ¬ MB (grS b ws) hi ≤ num := c
      refine ⟨_, rfl, gn ?_⟩
      have hr2 := hr2.same s1
      obtain ⟨top, etop⟩ : ∃ top, top = hi := ⟨_, rfl⟩
      rw [← etop] at hr2 hi1
      refine ⟨fun m σ G' => Same H G' ∧ ∃ (hi lo : Int) (v5 : Option V), σ = [some (.ref q), some (.int num), some (.int hi), some (.ref r), some (.int lo), v5, none] ∧ StairAt K G' r q b ws top ∧ -1 ≤ lo ∧ lo < hi ∧ hi ≤ top ∧ num < MB (grS b ws) hi ∧ (0 ≤ lo → MB (grS b ws) lo ≤ num) ∧ m = (hi - lo).toNat, ⟨_, sG1, hi, -1, none, rfl, hr2, by decide, by omega, by omega, by omega, fun z => absurd z (by decide), rfl⟩, ?_⟩
      clear etop
      rintro m σ G2 ⟨sG, hi, lo, v5, rfl, hr2, lo0, lh, ht, mh, ml, rfl⟩
      obtain ⟨dx2, l2, ts2, S2, Es2, g1, _⟩ := id hr2
      refine ⟨_, rfl, _, rfl, _, _, rfl, rfl, _, _, rfl, rfl, _, rfl, ifd (fun c => ?_) (fun c => ?_)⟩
      · have c : 1 < hi - lo := c
        refine ⟨_, fun _ _ h => h, ?_⟩
        refine ⟨_, rfl, _, rfl, _, _, rfl, rfl, _, _, rfl, rfl, ⟨by omega, by omega⟩, gn ?_⟩
        obtain ⟨md, emd⟩ : ∃ md, md = (lo + hi) / 2 := ⟨_, rfl⟩
        have mb : lo < md ∧ md < hi ∧ 0 ≤ md := by
          rw [emd]
          omega
        refine st_eq [some (.ref q), some (.int num), some (.int hi), some (.ref r), some (.int lo), some (.int md), none] (by rw [emd]; rfl) ?_
        refine ⟨_, rfl, r, dx2, _, rfl, g1, rfl, _, rfl, r, q, b, ws, top, md, rfl, hr2, hst.same sG, so, mb.2.2, by omega, by omega, fun G3 s3 => ?_⟩
        refine ⟨_, rfl, _, _, rfl, rfl, _, rfl, ifd (fun d => ?_) (fun d => ?_)⟩
        · have d : num < MB (grS b ws) md := d
          exact ⟨_, rfl, gn ⟨(md - lo).toNat, by omega, sG.trans s3, md, lo, _, rfl, hr2.same s3, lo0, mb.1, by omega, d, ml, rfl⟩⟩
        · have d : ¬ num < MB (grS b ws) md := d
          exact ⟨_, rfl, gn ⟨(hi - md).toNat, by omega, sG.trans s3, hi, md, _, rfl, hr2.same s3, by omega, mb.2.1, ht, mh, fun _ => by omega, rfl⟩⟩
      · have c : ¬ 1 < hi - lo := c
        have eh : hi = h := by
          rcases Int.lt_trichotomy hi h with z | z | z
          · have := lm2 hi (by omega) z
            omega
          · exact z
          · have := ml (by omega)
            have := MB_le so h0 (show h ≤ lo by omega)
            omega
        subst eh
        have h1 : hi ≤ 10 ^ 60 - 1 := by omega
        obtain ⟨dq, tt, xs, gq, _, _⟩ := id (hst.same sG)
        refine ⟨_, rfl, q, dq, _, rfl, gq, rfl, _, rfl, q, b, ws, hi, rfl, hst.same sG, so, h0, Int.lt_of_le_of_lt h1 (by decide), ?_⟩
        refine ⟨_, rfl, r, dx2, _, rfl, g1, rfl, _, rfl, r, q, b, ws, top, hi, rfl, hr2, hst.same sG, so, h0, ht, by omega, fun G3 s3 => ?_⟩
        refine ⟨_, rfl, _, _, rfl, rfl, _, _, rfl, rfl, gn ?_⟩
        refine ⟨_, rfl, _, _, rfl, rfl, _, rfl, ifd (fun c8 => ?_) (fun c8 => nxtG ?_)⟩
        · have c8 : (1000000000000000000000000000000000000000000000000000000000000 : Int) ≤ grS b ws hi - (MB (grS b ws) hi - num) := c8
          exact kx (.inl (by omega)) _ (sG.trans s3)
        have c8 : ¬ (1000000000000000000000000000000000000000000000000000000000000 : Int) ≤ grS b ws hi - (MB (grS b ws) hi - num) := c8
        exact ⟨_, rfl, k h1 (by omega) _ (sG.trans s3)⟩
end
section
variable {P : Program} {w : World} {K : PySem.W.Frag} {mg : Str → Option Value} {base : Heap}
theorem ok_L_radix (T : Tx w K mg) : Prom P w K mg base CX0 2 "_law_radix" s_L_radix ["_law_purse_here"] (spDraw 10 256) := by
  refine Prom.of T.d_L_radix sc_L_radix (fun vs H Q E h => ?_) (fun _ _ _ _ _ _ us hl => match us, hl with | [_], _ => rfl) (fun f cdv A outer s H vs Q E hr h => ?_)
  · obtain ⟨p, rfl, _⟩ := h
    rfl
  · obtain ⟨p, rfl, hp, k⟩ := h
    refine ⟨_, (pss_cons (ps_set (i := 1) sc_L_radix.nd rfl (Or.inl rfl) (pe_callP (ok_L_take T) (hr.mono (by decide)) (by rfl) pass0 (pa_cons (pv 0) (pa_cons pe_int pa_nil))))
      (pss_one (ps_ret (pe_ifExp (pt_cmp (pc_lt (pv 1) pe_int)) (pe_ix ix_list (pe_lst (pa_cons pe_int (pa_cons pe_int (pa_cons pe_int pa_nil)))) (pv 1) (fun _ _ => rfl)) (pe_op op_add pe_int (pe_callP (ok_L_take T) (hr.mono (by decide)) (by rfl) pass0 (pa_cons (pv 0) (pa_cons pe_int pa_nil)))))))), ?_⟩
    refine ⟨_, rfl, p, _, rfl, hp, by decide, by decide, fun r H2 r0 r1 d2 => ?_⟩
    refine ⟨_, rfl, _, _, rfl, rfl, _, rfl, ifd (fun c => ?_) (fun c => ?_)⟩
    · refine ⟨(by show 3 ≤ sizeLine; decide), fun q hq => ?_⟩
      have go : ∀ v : Int, 10 ≤ v → v ≤ 256 → Q (.int v) (upd H2 q (.lst [.int 10, .int 16, .int 256])) := fun v v0 v1 => k v _ v0 v1 (d2.new hq)
      refine ⟨_, rfl, ?_⟩
      have r4 : r = 0 ∨ r = 1 ∨ r = 2 := by omega
      rcases r4 with rfl | rfl | rfl
      · exact ⟨_, _, _, _, rfl, rfl, SqL.of upd_same, rfl, go _ (by decide) (by decide)⟩
      · exact ⟨_, _, _, _, rfl, rfl, SqL.of upd_same, rfl, go _ (by decide) (by decide)⟩
      · exact ⟨_, _, _, _, rfl, rfl, SqL.of upd_same, rfl, go _ (by decide) (by decide)⟩
    · refine ⟨_, rfl, p, _, rfl, d2.at_, by decide, by decide, fun r' H3 r0' r1' d3 => ?_⟩
      exact ⟨_, _, rfl, rfl, k _ _ (by omega) (by omega) (d2.trans d3)⟩
theorem ok_L_extra (T : Tx w K mg) : Prom P w K mg base CX0 2 "_law_extra" s_L_extra ["_law_purse_here"] (spDraw 0 1000) := by
  refine Prom.of T.d_L_extra sc_L_extra (fun vs H Q E h => ?_) (fun _ _ _ _ _ _ us hl => match us, hl with | [_], _ => rfl) (fun f cdv A outer s H vs Q E hr h => ?_)
  · obtain ⟨p, rfl, _⟩ := h
    rfl
  · obtain ⟨p, rfl, hp, k⟩ := h
    refine ⟨_, (pss_cons (ps_set (i := 1) sc_L_extra.nd rfl (Or.inl rfl) (pe_callP (ok_L_take T) (hr.mono (by decide)) (by rfl) pass0 (pa_cons (pv 0) (pa_cons pe_int pa_nil))))
      (pss_cons (ps_if (pt_cmp (pc_lt (pv 1) pe_int)) (pss_one (ps_ret (pe_ix ix_list (pe_lst (pa_cons pe_int (pa_cons pe_int pa_nil))) (pv 1) (fun _ _ => rfl)))) pss_nil)
      (pss_one (ps_ret (pe_ifExp (pt_cmp (pc_eqI (pv 1) pe_int)) (pe_callP (ok_L_take T) (hr.mono (by decide)) (by rfl) pass0 (pa_cons (pv 0) (pa_cons pe_int pa_nil))) (pe_callP (ok_L_take T) (hr.mono (by decide)) (by rfl) pass0 (pa_cons (pv 0) (pa_cons pe_int pa_nil)))))))), ?_⟩
    refine ⟨_, rfl, p, _, rfl, hp, by decide, by decide, fun r H2 r0 r1 d2 => ?_⟩
    refine ⟨_, rfl, _, _, rfl, rfl, _, rfl, ifd (fun c => ?_) (fun c => ?_)⟩
    · refine ⟨(by show 2 ≤ sizeLine; decide), fun q hq => ?_⟩
      have go : ∀ v : Int, 0 ≤ v → v ≤ 1000 → Q (.int v) (upd H2 q (.lst [.int 0, .int 1000])) := fun v v0 v1 => k v _ v0 v1 (d2.new hq)
      refine ⟨_, rfl, ?_⟩
      have r4 : r = 0 ∨ r = 1 := by omega
      rcases r4 with rfl | rfl
      · exact ⟨_, _, _, _, rfl, rfl, SqL.of upd_same, rfl, go _ (by decide) (by decide)⟩
      · exact ⟨_, _, _, _, rfl, rfl, SqL.of upd_same, rfl, go _ (by decide) (by decide)⟩
    · refine ⟨_, rfl, _, _, rfl, rfl, _, rfl, ifd (fun c => ?_) (fun c => ?_)⟩
      · refine ⟨_, rfl, p, _, rfl, d2.at_, by decide, by decide, fun r' H3 r0' r1' d3 => ?_⟩
        exact k _ _ (by omega) (by omega) (d2.trans d3)
      · refine ⟨_, rfl, p, _, rfl, d2.at_, by decide, by decide, fun r' H3 r0' r1' d3 => ?_⟩
        exact k _ _ (by omega) (by omega) (d2.trans d3)
end
/-! ### lengths with two totals -/
theorem two_iff {b c n s : Int} (b0 : 2 ≤ b) (n0 : 0 ≤ n) (c0 : 0 ≤ c) (hs : IsTot b (n + c) s) : Tot b (n + c) (s + 1) ↔ ∃ m : Nat, 1 ≤ m ∧ n = dlen b c m := by
  constructor
  · intro h
    obtain ⟨j, e1, h1, h2⟩ := hs.tot
    obtain ⟨i, e2, h3, h4⟩ := h
    have ei : i = j + 1 := by omega
    subst ei
    have h5 : b ^ (j + 1) ≤ s + 1 := h4.resolve_left (by omega)
    exact ⟨j + 1, by omega, by unfold dlen; omega⟩
  · rintro ⟨m, m1, e⟩
    obtain ⟨k, rfl⟩ : ∃ k, m = k + 1 := ⟨m - 1, by omega⟩
    unfold dlen at e
    have p1 := pow_lt b0 k
    have p2 := pow_lt b0 (k + 1)
    have t1 : Tot b (n + c) (b ^ (k + 1) - 1) := ⟨k, by omega, by omega, .inr (by omega)⟩
    have t2 : Tot b (n + c) (b ^ (k + 1)) := ⟨k + 1, by omega, p2, .inr (by omega)⟩
    have h1 := hs.least _ t1
    have h2 := tot_near b0 (show 0 ≤ n + c by omega) hs.tot t2 (by omega)
    have e3 : s + 1 = b ^ (k + 1) := by omega
    rw [e3]
    exact t2
theorem two_at {b c s : Int} {m : Nat} (b0 : 2 ≤ b) (c0 : 0 ≤ c) (m1 : 1 ≤ m) (h0 : 0 ≤ dlen b c m) (hs : IsTot b (dlen b c m + c) s) : s = b ^ m - 1 := by
  obtain ⟨k, rfl⟩ : ∃ k, m = k + 1 := ⟨m - 1, by omega⟩
  have p1 := pow_lt b0 k
  have p2 := pow_lt b0 (k + 1)
  have e : dlen b c (k + 1) = b ^ (k + 1) - 1 - ((k + 1 : Nat) : Int) - c := rfl
  have t1 : Tot b (dlen b c (k + 1) + c) (b ^ (k + 1) - 1) := ⟨k, by omega, by omega, .inr (by omega)⟩
  have t2 : Tot b (dlen b c (k + 1) + c) (b ^ (k + 1)) := ⟨k + 1, by omega, p2, .inr (by omega)⟩
  have h1 := hs.least _ t1
  have h2 := tot_near b0 (show 0 ≤ dlen b c (k + 1) + c by omega) hs.tot t2 (by omega)
  omega
/-! ### how far doubled goes -/
theorem pow_base2 {b : Int} (hb : 2 ≤ b) : ∀ m : Nat, (2 : Int) ^ m ≤ b ^ m
  | 0 => by rw [Int.pow_zero, Int.pow_zero]; exact Int.le_refl _
  | m + 1 => by
    rw [Int.pow_succ, Int.pow_succ]
    exact Int.mul_le_mul (pow_base2 hb m) hb (by decide) (Int.le_of_lt (Int.lt_of_lt_of_le (by decide) (pow_pos (by omega) m)))
theorem dlen_far {b c : Int} {m : Nat} (b0 : 2 ≤ b) (c1 : c ≤ 1000) (hm : 202 ≤ m) : 10 ^ 60 ≤ dlen b c m := by
  refine Int.le_trans ?_ (dlen_mono b0 (i := 202) (by decide) hm)
  have h1 : (2 : Int) ^ 202 ≤ b ^ 202 := pow_base2 b0 202
  have h2 : (10 : Int) ^ 60 + 2000 ≤ 2 ^ 202 := by decide
  unfold dlen
  omega
theorem dlen_near {b c : Int} {j i : Nat} (b0 : 2 ≤ b) (b1 : b ≤ 256) (c0 : 0 ≤ c) (c1 : c ≤ 1000) (h : IsJ b c j) (hi : i ≤ 2) : dlen b c (j + i) < 10 ^ 60 := by
  have hj := h.pos
  have j11 : j ≤ 11 := by
    refine Nat.le_of_not_lt fun z => ?_
    have h1 := h.first 11 (by decide) z
    have h2 : (2 : Int) ^ 11 ≤ b ^ 11 := pow_base2 b0 11
    unfold dlen at h1
    have h3 : (2 : Int) ^ 11 = 2048 := by decide
    omega
  have p0 : b ^ (j - 1) ≤ 1011 := by
    by_cases z : j = 1
    · subst z
      show b ^ 0 ≤ 1011
      rw [Int.pow_zero]
      decide
    · have h1 := h.first (j - 1) (by omega) (by omega)
      unfold dlen at h1
      omega
  have p1 : b ^ (j + i) ≤ b ^ (j - 1 + 3) := pow_mono (by omega) (by omega)
  have p2 : b ^ (j - 1 + 3) = b ^ (j - 1) * (b * b * b) := by
    rw [Int.pow_succ, Int.pow_succ, Int.pow_succ, Int.mul_assoc, Int.mul_assoc, ← Int.mul_assoc b b b]
  have p3 : b * b ≤ 256 * 256 := Int.mul_le_mul b1 b1 (by omega) (by decide)
  have p4 : b * b * b ≤ 256 * 256 * 256 := Int.mul_le_mul p3 b1 (by omega) (by decide)
  have q0 : 0 ≤ b * b * b := Int.mul_nonneg (Int.mul_nonneg (by omega) (by omega)) (by omega)
  have p5 : b ^ (j - 1) * (b * b * b) ≤ 1011 * (256 * 256 * 256) := Int.mul_le_mul p0 p4 q0 (by decide)
  unfold dlen
  have big : (1011 : Int) * (256 * 256 * 256) < 10 ^ 60 := by decide
  omega
/-! ### totals told by whole: what is missed -/
theorem DS_strict {f : Int → Int} (h : ∀ x, 0 < x → f (x - 1) < f x) {n : Int} (n0 : 0 ≤ n) : DS f n = n + 1 := by
  have key : ∀ k : Nat, cntR f 0 k = (k : Int) := by
    intro k
    induction k with
    | zero => rfl
    | succ k ih =>
      show cntR f 0 k + rise f (0 + (k : Int) + 1) = ((k + 1 : Nat) : Int)
      have := h (0 + (k : Int) + 1) (by omega)
      unfold rise
      rw [ih, if_pos this]
      rfl
  unfold DS RB
  rw [key]
  omega
theorem wh_gr (b c n : Int) : grS b [Wr.whole c] n = totF b (n + c) := rfl
theorem wh_ok {b c : Int} (b0 : 2 ≤ b) (b1 : b ≤ 256) (c0 : 0 ≤ c) (c1 : c ≤ 1000) : StkOk b [Wr.whole c] := ⟨b0, b1, fun a ha => by rw [List.mem_singleton.mp ha]; exact ⟨c0, c1⟩, (show 1 ≤ 6 by decide), (show (1 : Int) * 1 ≤ 120 by decide)⟩
theorem wh_DS {b c n : Int} (b0 : 2 ≤ b) (c0 : 0 ≤ c) (n0 : 0 ≤ n) : DS (grS b [Wr.whole c]) n = n + 1 := DS_strict (fun x h => by
  rw [wh_gr, wh_gr]
  exact totF_lt b0 (by omega) (by omega)) n0
theorem wh_MB {b c n : Int} (b0 : 2 ≤ b) (c0 : 0 ≤ c) (n0 : 0 ≤ n) : MB (grS b [Wr.whole c]) n = grS b [Wr.whole c] n - n := by
  unfold MB
  rw [wh_DS b0 c0 n0]
  omega
theorem wh_fig {b c n : Int} (b0 : 2 ≤ b) (c0 : 0 ≤ c) (n0 : 0 ≤ n) : figF b (totF b (n + c)) = totF b (n + c) - (n + c) := (figF_eq b0 (totF_is b0 (show 0 ≤ n + c by omega)).tot).symm
theorem fig_pow {b : Int} (b0 : 2 ≤ b) (J : Nat) : figF b (b ^ J) = (J : Int) + 1 := (figF_eq b0 ⟨J, rfl, pow_lt b0 J, .inr (Int.le_refl _)⟩).symm
theorem fig_below {b x : Int} (b0 : 2 ≤ b) {J : Nat} (j1 : 1 ≤ J) (h : x < b ^ J) : figF b x ≤ (J : Int) := by
  obtain ⟨k, rfl⟩ : ∃ k, J = k + 1 := ⟨J - 1, by omega⟩
  have := isF_upper b0 h (figF_is b0)
  omega
theorem wh_first {b c : Int} {j : Nat} (b0 : 2 ≤ b) (c0 : 0 ≤ c) (hj : IsJ b c j) : totF b c = c + j := by
  have jp := hj.pos
  have h0 := (isJ_iff b0 hj jp).mpr (Nat.le_refl j)
  obtain ⟨i, rfl⟩ : ∃ i, j = i + 1 := ⟨j - 1, by omega⟩
  have t : Tot b c (c + ((i + 1 : Nat) : Int)) := by
    refine ⟨i, by omega, ?_, ?_⟩
    · unfold dlen at h0
      omega
    · rcases Nat.eq_zero_or_pos i with z | z
      · exact .inl z
      · have h1 : ¬ 0 ≤ dlen b c i := fun y => by
          have := (isJ_iff b0 hj z).mp y
          omega
        unfold dlen at h1
        exact .inr (by omega)
  refine (totF_eq b0 c0 ⟨t, fun s hs => ?_⟩).symm
  obtain ⟨k, e, h1, _⟩ := hs
  by_cases z : c + ((i + 1 : Nat) : Int) ≤ s
  · exact z
  · have ek : s = c + ((k + 1 : Nat) : Int) := by omega
    have d : 0 ≤ dlen b c (k + 1) := by
      unfold dlen
      omega
    have := (isJ_iff b0 hj (by omega)).mp d
    omega
/-- how many powers from the j-th on are within m -/
theorem pow_count {b m : Int} {j : Nat} (b0 : 2 ≤ b) (jp : 1 ≤ j) (m0 : 0 ≤ m) : ∃ t : Nat, (∀ i : Nat, b ^ (j + i) ≤ m ↔ i < t) ∧ ((t : Int) = figF b m - j ∨ (t = 0 ∧ figF b m ≤ j)) := by
  obtain ⟨i, e, h1, h2⟩ := figF_is (b := b) (n := m) b0
  refine ⟨i + 1 - j, fun x => ⟨fun h => ?_, fun h => ?_⟩, ?_⟩
  · by_cases z : x < i + 1 - j
    · exact z
    · have := pow_mono (show 1 ≤ b by omega) (show i + 1 ≤ j + x by omega)
      omega
  · have := pow_mono (show 1 ≤ b by omega) (show j + x ≤ i by omega)
    have := h2.resolve_left (by omega)
    omega
  · by_cases z : j ≤ i + 1
    · left
      omega
    · right
      omega
theorem wh_due {b c m g : Int} {j t : Nat} (b0 : 2 ≤ b) (b1 : b ≤ 256) (c0 : 0 ≤ c) (c1 : c ≤ 1000) (hj : IsJ b c j) (m0 : 0 ≤ m) (ig : IsG b [Wr.whole c] m g) (ht : (t : Int) = figF b m - j ∨ (t = 0 ∧ figF b m ≤ j)) : m + 1 - (if g < 0 then 0 else DS (grS b [Wr.whole c]) g) = (if c + j < m + 1 then c + j else m + 1) + t := by
  have e0 := wh_first b0 c0 hj
  have f0 := wh_fig (n := 0) b0 c0 (Int.le_refl _)
  rw [Int.zero_add, e0] at f0
  have i0 := ig.2.2 0 (Int.le_refl _)
  rw [wh_gr, Int.zero_add, e0] at i0
  have g1 := ig.1
  by_cases z : g < 0
  · rw [if_pos z, if_neg (by omega)]
    have := figF_mono b0 (show m ≤ c + j by omega)
    have : t = 0 := by omega
    omega
  · rw [if_neg z, if_pos (by omega), wh_DS b0 c0 (by omega)]
    have i1 := (ig.2.2 g (by omega)).mpr (Int.le_refl _)
    have i2 : ¬ grS b [Wr.whole c] (g + 1) ≤ m := fun y => by
      have := (ig.2.2 (g + 1) (by omega)).mp y
      omega
    rw [wh_gr] at i1 i2
    have fg := wh_fig (n := g) b0 c0 (by omega)
    have fs := wh_fig (n := g + 1) b0 c0 (by omega)
    have hs := totF_is b0 (show 0 ≤ g + 1 + c by omega)
    have mo := figF_mono b0 (show c + (j : Int) ≤ m by omega)
    have l1 := figF_lip b0 i1
    have l2 := figF_lip b0 (show m ≤ totF b (g + 1 + c) by omega)
    have key : m - g = c + figF b m := by
      by_cases y : m - g = c + figF b m
      · exact y
      · have e : figF b m = m - (g + 1 + c) := by omega
        have : Tot b (g + 1 + c) m := by
          have := figF_is (b := b) (n := m) b0
          rw [e] at this
          exact this
        have := hs.least m this
        omega
    omega
theorem wh_least {b c : Int} {J : Nat} (b0 : 2 ≤ b) (c0 : 0 ≤ c) (J1 : 1 ≤ J) (h0 : 0 ≤ dlen b c J) : LeastM (grS b [Wr.whole c]) (c + J) (dlen b c J + 1) ∧ grS b [Wr.whole c] (dlen b c J + 1) - (MB (grS b [Wr.whole c]) (dlen b c J + 1) - (c + J)) = b ^ J := by
  have e1 : totF b (dlen b c J + c) = b ^ J - 1 := two_at b0 c0 J1 h0 (totF_is b0 (by omega))
  refine ⟨⟨by omega, ?_, fun n n0 nh => ?_⟩, ?_⟩
  · rw [wh_MB b0 c0 (by omega), wh_gr]
    have l := totF_lt b0 (show 0 ≤ dlen b c J + c by omega) (show dlen b c J + c < dlen b c J + 1 + c by omega)
    have f := wh_fig (n := dlen b c J + 1) b0 c0 (by omega)
    have m := figF_mono b0 (show b ^ J ≤ totF b (dlen b c J + 1 + c) by omega)
    rw [fig_pow b0 J] at m
    omega
  · rw [wh_MB b0 c0 n0, wh_gr]
    have l := totF_mono b0 (show 0 ≤ n + c by omega) (show n + c ≤ dlen b c J + c by omega)
    have f := wh_fig (n := n) b0 c0 n0
    have m := fig_below b0 J1 (show totF b (n + c) < b ^ J by omega)
    omega
  · rw [wh_MB b0 c0 (by omega)]
    unfold dlen
    omega
theorem wh_some {b c s : Int} {j : Nat} (b0 : 2 ≤ b) (c0 : 0 ≤ c) (hj : IsJ b c j) (h : s < c + j) : LeastM (grS b [Wr.whole c]) s 0 ∧ grS b [Wr.whole c] 0 - (MB (grS b [Wr.whole c]) 0 - s) = s := by
  have e0 := wh_first b0 c0 hj
  have e1 : grS b [Wr.whole c] 0 = c + j := by rw [wh_gr, Int.zero_add, e0]
  refine ⟨⟨Int.le_refl _, ?_, fun n h0 h1 => by omega⟩, ?_⟩
  · rw [wh_MB b0 c0 (Int.le_refl _), e1]
    omega
  · rw [wh_MB b0 c0 (Int.le_refl _)]
    omega
def spGreater : Sp := fun vs H Q _ => ∃ (b c : Int) (j : Nat), vs = [.int b, .int c] ∧ 2 ≤ b ∧ b ≤ 256 ∧ 0 ≤ c ∧ c ≤ 1000 ∧ IsJ b c j ∧
  ∀ (q : Addr) H' (L : Nat), H q = none → Same H H' → L ≤ 202 → (∀ i : Nat, i < L → b ^ (j + i) < 10 ^ 60) → 10 ^ 60 ≤ b ^ (j + L) → H' q = some (.lst (((List.range L).map fun i => b ^ (j + i)).map V.int)) → Q (.ref q) H'
def spLeast : Sp := fun vs H Q _ => ∃ b c n : Int, vs = [.int b, .int c, .int n, .int (totF b (n + c))] ∧ 2 ≤ b ∧ b ≤ 256 ∧ 0 ≤ c ∧ c ≤ 1000 ∧ 0 ≤ n ∧ Q (.bl true) H
section
variable {P : Program} {w : World} {K : PySem.W.Frag} {mg : Str → Option Value} {base : Heap}
theorem ok_L_greater (T : Tx w K mg) : Prom P w K mg base CX0 1 "_law_greater" s_L_greater ["_law_radix_here", "_law_extra_here"] spGreater := by
  refine Prom.of T.d_L_greater sc_L_greater (fun vs H Q E h => ?_) (fun _ _ _ _ _ _ us hl => match us, hl with | [_, _], _ => rfl) (fun f cdv A outer s H vs Q E hr h => ?_)
  · obtain ⟨b, c, j, rfl, _⟩ := h
    rfl
  · obtain ⟨b, c, j, rfl, b0, b1, c0, c1, hj, k⟩ := h
    refine ⟨_, (pss_cons (ps_par3 (i := 2) (j := 3) (l := 4) (by rfl) sc_L_greater.nd rfl rfl rfl (by decide) (by decide) (by decide) rfl rfl rfl (pa_cons (pe_lst pa_nil) (pa_cons (pv 0) (pa_cons pe_int pa_nil))) (by rfl))
      (pss_cons (ps_while PassesOwn.never (pt_cmp (pc_lt (pv 3) (pe_op op_pow pe_int pe_int))) (pss_cons (ps_if (pt_cmp (pc_ge (pe_op op_sub (pe_op op_sub (pe_op op_sub (pv 3) pe_int) (pv 4)) (pv 1)) pe_int)) (pss_one (ps_expr (pe_bm PySem.F.plainAttrs_list PySem.F.slot_list_append PySem.F.type_list_append mt_append (pv 2) (pa_cons (pv 3) pa_nil)))) pss_nil)
      (pss_one (ps_par (i := 3) (j := 4) (by rfl) sc_L_greater.nd rfl rfl (by decide) rfl rfl (pa_cons (pe_op op_mul (pv 3) (pv 0)) (pa_cons (pe_op op_add (pv 4) pe_int) pa_nil)) (by rfl)))))
      (pss_one (ps_ret (pv 2))))), ?_⟩
    refine ⟨Nat.zero_le _, fun q hq => ⟨_, rfl, _, _, _, rfl, ?_⟩⟩
    have jp := hj.pos
    refine ⟨fun n σ H1 => Same H H1 ∧ ∃ m : Nat, 1 ≤ m ∧ m ≤ 201 ∧ (m ≤ j ∨ b ^ (m - 1) < 10 ^ 60) ∧ n = 203 - m ∧ σ = [some (.int b), some (.int c), some (.ref q), some (.int (b ^ m)), some (.int (m : Int))] ∧ H1 q = some (.lst (((List.range (m - j)).map fun i => b ^ (j + i)).map V.int)),
      ⟨_, up hq, 1, Nat.le_refl 1, by decide, .inl jp, rfl, ?_, ?_⟩, ?_⟩
    · have e2 : b ^ 1 = b := pow_one b
      rw [e2]
      rfl
    · rw [show 1 - j = 0 by omega]
      exact upd_same
    rintro n σ H1 ⟨sH, m, m0, m1, mj, hn, rfl, hl⟩
    have e60 : (10 : Int) ^ (60 : Int).toNat = 10 ^ 60 := by decide
    have hi := isJ_iff b0 hj m0
    have ed : b ^ m - 1 - (m : Int) - c = dlen b c m := rfl
    refine ⟨_, rfl, _, _, rfl, rfl, ⟨by decide, by decide, by decide⟩, _, _, rfl, rfl, _, rfl, ?_⟩
    rw [e60]
    refine ifd (fun c2 => ?_) (fun c2 => ?_)
    · have c2 : b ^ m < 10 ^ 60 := c2
      have m2 : m < 201 := by
        by_cases z : m < 201
        · exact z
        · have h1 := pow_base2 b0 201
          have h2 := pow_mono (show 1 ≤ b by omega) (show 201 ≤ m by omega)
          have h3 : (10 : Int) ^ 60 ≤ 2 ^ 201 := by decide
          omega
      have next : ∀ H2 : Hp, Same H H2 → H2 q = some (.lst (((List.range (m + 1 - j)).map fun i => b ^ (j + i)).map V.int)) →
          ∃ m', m' < n ∧ Same H H2 ∧ ∃ m'' : Nat, 1 ≤ m'' ∧ m'' ≤ 201 ∧ (m'' ≤ j ∨ b ^ (m'' - 1) < 10 ^ 60) ∧ m' = 203 - m'' ∧ [some (V.int b), some (V.int c), some (V.ref q), some (V.int (b ^ m * b)), some (V.int ((m : Int) + 1))] = [some (.int b), some (.int c), some (.ref q), some (.int (b ^ m'')), some (.int (m'' : Int))] ∧ H2 q = some (.lst (((List.range (m'' - j)).map fun i => b ^ (j + i)).map V.int)) := fun H2 h1 h2 =>
        ⟨203 - (m + 1), by omega, h1, m + 1, by omega, by omega, .inr (by simpa using c2), rfl, by rw [Int.pow_succ]; rfl, h2⟩
      refine ⟨_, fun _ _ h => h, ?_⟩
      refine ⟨_, rfl, _, _, rfl, rfl, _, rfl, _, _, rfl, rfl, _, rfl, _, _, rfl, rfl, _, _, rfl, rfl, _, rfl, ?_⟩
      rw [ed]
      refine ifd (fun c3 => ?_) (fun c3 => ?_)
      · have jm := hi.mp c3
        refine ⟨_, rfl, .inl ⟨rfl, _, SqL.of hl⟩, _, rfl, q, _, _, rfl, rfl, hl, ?_, ?_⟩
        · rw [List.length_map, List.length_map, List.length_range, sizeLine_eq]
          omega
        refine ⟨_, rfl, _, rfl, _, _, rfl, rfl, .inr ⟨by omega, by omega⟩, _, rfl, _, _, rfl, rfl, _, _, rfl, ?_⟩
        refine next _ (fun x o e => ?_) ?_
        · rw [upd_ne (ne_of_none e hq)]
          exact sH _ _ e
        · rw [upd_same, show m + 1 - j = m - j + 1 by omega, List.range_succ, List.map_append, List.map_append]
          show some (HO.lst (_ ++ [V.int (b ^ m)])) = some (HO.lst (_ ++ [V.int (b ^ (j + (m - j)))]))
          rw [show j + (m - j) = m by omega]
      · have jm : ¬ j ≤ m := fun z => c3 (hi.mpr z)
        refine ⟨_, rfl, _, rfl, _, _, rfl, rfl, .inr ⟨by omega, by omega⟩, _, rfl, _, _, rfl, rfl, _, _, rfl, ?_⟩
        refine next _ sH ?_
        rw [show m + 1 - j = m - j by omega]
        exact hl
    · have c2 : ¬ b ^ m < 10 ^ 60 := c2
      have jm : j ≤ m := by
        by_cases z : j ≤ m
        · exact z
        · have := fun y => z (hi.mp y)
          unfold dlen at this
          have big : (10 : Int) ^ 60 > 5000 := by decide
          omega
      refine ⟨_, rfl, k q H1 (m - j) hq sH (by omega) (fun i hi => ?_) ?_ hl⟩
      · have h1 := mj.resolve_left (by omega)
        exact Int.lt_of_le_of_lt (pow_mono (by omega) (by omega)) h1
      · rw [show j + (m - j) = m by omega]
        omega
theorem ok_L_least (T : Tx w K mg) : Prom P w K mg base CX0 2 "_law_least" s_L_least ["_law_radix_here", "_law_extra_here", "_law_amount", "_law_total"] spLeast := by
  refine Prom.of T.d_L_least sc_L_least (fun vs H Q E h => ?_) (fun _ _ _ _ _ _ us hl => match us, hl with | [_, _, _, _], _ => rfl) (fun f cdv A outer s H vs Q E hr h => ?_)
  · obtain ⟨b, c, n, rfl, _⟩ := h
    rfl
  · obtain ⟨b, c, n, rfl, b0, b1, c0, c1, n0, k⟩ := h
    refine ⟨_, (pss_cons (ps_if (PW.pt (pw_or (pt_not (pt_val (pe_callB call_isi (by rfl) T.b_isinstance (by decide +kernel) (pa_cons (pv 3) (pa_cons (pe_bltn (v := .ty "int") (by rfl) T.b_int (by decide +kernel) rfl) pa_nil))))) (pw_or (pt_val (pe_callB call_isi (by rfl) T.b_isinstance (by decide +kernel) (pa_cons (pv 3) (pa_cons (pe_bltn (v := .ty "bool") (by rfl) T.b_bool (by decide +kernel) rfl) pa_nil)))) (pw_or1 (pt_cmp (pc_neI (pv 3) (pe_op op_add (pe_op op_add (pv 2) (pv 1)) (pe_callP (ok_L_figures T) (hr.mono (by decide)) (by rfl) pass0 (pa_cons (pv 3) (pa_cons (pv 0) pa_nil)))))))))) (pss_one (ps_ret pe_bl)) pss_nil)
      (pss_one (ps_ret (pe_cmp (pc_neI (pe_op op_sub (pv 3) pe_int) (pe_op op_add (pe_op op_add (pv 2) (pv 1)) (pe_callP (ok_L_figures T) (hr.mono (by decide)) (by rfl) pass0 (pa_cons (pe_op op_sub (pv 3) pe_int) (pa_cons (pv 0) pa_nil))))))))), ?_⟩
    have hs := totF_is b0 (show 0 ≤ n + c by omega)
    generalize totF b (n + c) = s at hs ⊢
    have fs := figF_is (b := b) (n := s) b0
    refine ⟨_, rfl, _, _, _, _, true, rfl, .ty _, .base (.int _), kit_ty (by decide +kernel), true, rfl, iteF ?_⟩
    refine ⟨_, rfl, _, _, _, _, false, rfl, .ty _, .base (.int _), kit_ty (by decide +kernel), false, rfl, iteF ?_⟩
    refine ⟨_, rfl, _, rfl, _, rfl, _, _, rfl, rfl, _, rfl, _, rfl, s, b, rfl, b0, b1, fun k1 hk1 => ?_⟩
    obtain rfl := isF_eq b0 hk1 hs.tot
    refine ⟨_, _, rfl, rfl, _, _, rfl, rfl, _, rfl, ifn (fun z => absurd (show s = n + c + (s - (n + c)) by omega) z) (fun _ => nxtG ?_)⟩
    refine ⟨_, rfl, _, _, rfl, rfl, _, rfl, _, rfl, _, _, rfl, rfl, _, rfl, _, _, rfl, rfl, _, rfl, s - 1, b, rfl, b0, b1, fun k2 hk2 => ?_⟩
    have ne : s - 1 ≠ n + c + k2 := fun z => by
      have e : k2 = s - 1 - (n + c) := by omega
      subst e
      have := hs.least (s - 1) hk2
      omega
    refine ⟨_, _, rfl, rfl, _, _, rfl, rfl, ?_⟩
    show Q (.bl (!decide (s - 1 = n + c + k2))) H
    rw [decide_eq_false ne]
    exact k
end
/-! ### a pair of texts -/
theorem dp2 {K : PySem.W.Frag} {H : Hp} {t : Addr} {w z : Str} (h : H t = some (.tup [.str w, .str z])) : Dp K H (.ref t) (.tuple [.str w, .str z]) := .tup (SqT.of h) (.cons (.str w) (.cons (.str z) .nil))
theorem eqv_str2 (w z : Str) : PyData.eqv (.tuple [.str w, .str z]) (.tuple [.str w, .str z]) = true := by
  show ((w == w) && ((z == z) && true)) = true
  simp
theorem shp_str2 {w z : Str} (o1 : PyData.strOk w = true) (o2 : PyData.strOk z = true) : SeqAt.shaped (.tuple [.str w, .str z]) = true := (shp_tuple (k := 0) fun d hd => by
  simp only [List.mem_cons, List.not_mem_nil, or_false] at hd
  rcases hd with rfl | rfl
  · exact shp_str o1
  · exact shp_str o2).shaped
/-! ### what a caught call comes to -/
def wishE (K : PySem.W.Frag) (Q : VK) : XK := fun cls d H' => PySem.W.exmAny K cls [.ref (He.ga K "Misfit"), .ref (He.ga K "Untimely"), .ref (He.ga K "Excess")] = some true ∧ ∀ a oe, Zc cls d oe → (∃ vs, oe.data = .fields vs) → H' a = none → spErrP K (a, oe) [.ref a] H' Q E0
def contE (Q : VK) : VK := fun v H' => ∀ t, H' t = none → Q (.ref t) (upd H' t (.tup [.str "told", v]))
section
variable {K : PySem.W.Frag} {mg : Str → Option Value}
theorem caught_fails {H : Hp} {Q : VK} {i : Nat} {v : V} {z C f : Str} (ET : ErrTab K) (hi : i < 19) (hb : eb i ≠ 1) (hC : ew i = C) (hf : ef i = f) (sh : Shw K H v z) (k : ∀ t H', Same H H' → H' t = some (.tup [.str C, .str z]) → Q (.ref t) H') : Fails K H (wishE K Q) C f v := by
  subst hC hf
  exact fun d hd => ⟨ET.any i hi, fun a oe hz hv na => ⟨i, z, hi, rfl, hz.1, hv, .inr ⟨hb, d, v, hz.2, upd_same, sh.same (up hd)⟩, fun t H' s h => k t H' (fun _ _ e => s _ _ (up hd _ _ e)) h⟩⟩
end
theorem drewT_keeps {K : PySem.W.Frag} {p : Addr} {H H' : Hp} (hp : PurseAt H p) (d : DrewT p H H') : Keeps K H H' := by
  obtain ⟨_, e⟩ := hp.lst
  exact ⟨fun h => d.kp _ _ (fun z => by rw [z, e] at h; cases h) (fun ps z => by cases z) h, fun h => d.kp _ _ (fun z => by rw [z, e] at h; cases h) (fun ps z => by cases z) h, fun h => d.kp _ _ (fun z => by rw [z, e] at h; cases h) (fun ps z => by cases z) h⟩
theorem keeps_ext {K : PySem.W.Frag} {H H' : Hp} (e : LamX.ExtN H H') : Keeps K H H' := ⟨fun h => e _ _ h (fun ps z => by cases z), fun h => e _ _ h (fun ps z => by cases z), fun h => e _ _ h (fun ps z => by cases z)⟩
section
variable {P : Program} {w : World} {K : PySem.W.Frag} {mg : Str → Option Value} {base : Heap}
def spRightT (K : PySem.W.Frag) : Sp := fun vs H Q _ => ∃ (p : Addr), vs = [.ref p] ∧ PurseAt H p ∧ LamX.Tabs (tabsOf K) H ∧ ∀ H', DrewT p H H' → LamX.Tabs (tabsOf K) H' → Q (.bl true) H'
theorem shown60 : flatShown (.int (10 ^ 60)) = some ((toString ((10 : Int) ^ 60) : String) : Str) := by
  have h : ((10 : Int) ^ 60).natAbs.log2 < 1920 := by decide +kernel
  show (if ((10 : Int) ^ 60).natAbs.log2 < 1920 then some ((toString ((10 : Int) ^ 60) : String) : Str) else none) = _
  rw [if_pos h]
theorem drew_keeps {K : PySem.W.Frag} {p : Addr} {H H1 : Hp} (d : Drew p H H1) (hp : PurseAt H p) : Keeps K H H1 := by
  obtain ⟨_, hl⟩ := hp.lst
  exact ⟨fun {q xs} e => d.kp _ _ (fun z => by rw [z, hl] at e; cases e) e, fun {q xs fs} e => d.kp _ _ (fun z => by rw [z, hl] at e; cases e) e, fun {q xs fs} e => d.kp _ _ (fun z => by rw [z, hl] at e; cases e) e⟩
theorem sho_told : Sho (.str "told") 0 80 := ⟨by decide +kernel, rfl, Nat.le_refl _, by decide +kernel⟩
theorem shows_told {x : Int} (h : x.natAbs < 10 ^ 70) : Shows (.tuple [.str "told", .int x]) := by
  have s := sho_tuple (k := 0) (m := 80) (ds := [.str "told", .int x]) fun d hd => by
    rcases List.mem_cons.mp hd with rfl | hd
    · exact sho_told
    · rw [List.mem_singleton.mp hd]
      exact (sho_int 70 (by decide) (by decide) h).mono (Nat.le_refl _) (by decide)
  exact ⟨s.able, s.nod, Nat.le_trans s.deep (by decide), Nat.le_trans s.long (show (80 + 2) * 2 + 4 ≤ sizeLine by decide)⟩
theorem gv_L_caught {X : Cx} (T : Tx X.w X.K X.mg) (gd : X.A.guards = some []) (hr : Room 2 X.A) : Gives X ["_law_deed", "_law_told", "_law_e"] "_law_caught" s_L_caught "_law_deed" (TCaught X.K [.ref (He.ga X.K "Misfit"), .ref (He.ga X.K "Untimely"), .ref (He.ga X.K "Excess")] (spErrP X.K)) :=
  caught_gives (by decide) rfl rfl rfl rfl rfl rfl rfl rfl T.k_Misfit T.k_Untimely T.k_Excess (ok_L_error T) gd hr
theorem ok_L_right (T : Tx w K mg) (U : UT K mg base) : PromG P w K mg base 15 "_law_right" s_L_right ["_law_purse_here"] (spRightT K) := by
  refine PromG.ofT T.dt_L_right sc_L_right (fun vs H Q E h => ?_) (fun _ _ _ _ _ _ us hl => match us, hl with | [_], _ => rfl) (fun f A outer s H vs Q E hr hgd h => ?_)
  · obtain ⟨p, rfl, _⟩ := h
    rfl
  · obtain ⟨p, rfl, hp, hT, k⟩ := h
    refine ⟨_, (pss_cons (ps_par (i := 1) (j := 2) (by rfl) sc_L_right.nd rfl rfl (by decide) rfl rfl (pa_cons (pe_callP (ok_L_radix T) (hr.mono (by decide)) (by rfl) pass0 (pa_cons (pv 0) pa_nil)) (pa_cons (pe_callP (ok_L_extra T) (hr.mono (by decide)) (by rfl) pass0 (pa_cons (pv 0) pa_nil)) pa_nil)) (by rfl))
      (pss_cons (ps_asg (pe_tup (pa_cons (pe_newP (ok_Stack T) (hr.mono (by decide)) (by rfl) pass0 (pa_cons (pv 1) (pa_cons (pe_newP (ok_Wrap T) (hr.mono (by decide)) (by rfl) pass0 (pa_cons pe_str (pa_cons (pv 2) pa_nil))) pa_nil))) (pa_cons (pe_callP (ok_L_greater T) (hr.mono (by decide)) (by rfl) pass0 (pa_cons (pv 1) (pa_cons (pv 2) pa_nil))) pa_nil))) (pg_tup rfl (pgs_cons (pg_name (i := 12) sc_L_right.nd rfl (Or.inr rfl)) (pgs_cons (pg_name (i := 3) sc_L_right.nd rfl (Or.inl rfl)) pgs_nil))))
      (pss_cons (ps_for PassesOwn.never (by rfl) (pi_range1 (by rfl) T.b_range (pa_cons pe_int pa_nil)) (pg_name (i := 4) sc_L_right.nd rfl (Or.inl rfl)) (pss_cons (ps_set (i := 5) sc_L_right.nd rfl (Or.inl rfl) (pe_callP (ok_L_far T) (hr.mono (by decide)) (by rfl) pass0 (pa_cons (pv 0) (pa_cons (pv 1) (pa_cons (pv 2) pa_nil)))))
      (pss_one (ps_if (PW.pt (pw_or (pt_not (pt_val (pe_callP (ok_L_least T) (hr.mono (by decide)) (by rfl) pass0 (pa_cons (pv 1) (pa_cons (pv 2) (pa_cons (pv 5) (pa_cons (pe_methP (ok_Stack_size T) (hr.mono (by decide)) pass0 (pv 12) (pa_cons (pv 5) pa_nil)) pa_nil))))))) (pw_or1 (pt_cmp (pc_neI (pe_callO (i := 12) (ok_Stack___call__ T) (fn_in T.dm_Stack___call__) (hr.mono (by decide)) rfl (Or.inr (Or.inl rfl)) pass0 (pa_cons (pv 5) pa_nil)) (pe_ix ix_tup (pe_callP (ok_totals T) (hr.mono (by decide)) (by rfl) pass0 (pa_cons (pv 1) (pa_cons (pv 2) (pa_cons (pv 5) pa_nil)))) pe_int (fun _ _ => rfl))))))) (pss_one (ps_ret pe_bl)) pss_nil))))
      (pss_cons (ps_set (i := 11) sc_L_right.nd rfl (Or.inr rfl) (pe_methP (ok_Stack_size T) (hr.mono (by decide)) pass0 (pv 12) (pa_cons pe_int pa_nil)))
      (pss_cons (ps_if (pt_not (pt_val (pe_callP (ok_L_least T) (hr.mono (by decide)) (by rfl) pass0 (pa_cons (pv 1) (pa_cons (pv 2) (pa_cons pe_int (pa_cons (pv 11) pa_nil))))))) (pss_one (ps_ret pe_bl)) pss_nil)
      (pss_cons (ps_for PassesOwn.never (by rfl) (pi_range1 (by rfl) T.b_range (pa_cons pe_int pa_nil)) (pg_name (i := 4) sc_L_right.nd rfl (Or.inl rfl)) (pss_cons (ps_set (i := 6) sc_L_right.nd rfl (Or.inr rfl) (pe_ix ix_list (pe_lst (pa_cons (pe_callP (ok_L_take T) (hr.mono (by decide)) (by rfl) pass0 (pa_cons (pv 0) (pa_cons pe_int pa_nil))) (pa_cons (pe_callP (ok_L_far T) (hr.mono (by decide)) (by rfl) pass0 (pa_cons (pv 0) (pa_cons (pv 1) (pa_cons pe_int pa_nil)))) pa_nil))) (pv 4) (fun _ _ => rfl)))
      (pss_cons (ps_set (i := 7) sc_L_right.nd rfl (Or.inl rfl) (pe_op op_add (pe_callB (call_min2 rfl) (by rfl) T.b_min (by decide +kernel) (pa_cons (pe_op op_add (pv 6) pe_int) (pa_cons (pv 11) pa_nil))) (pe_callB call_len_seq (by rfl) T.b_len (by decide +kernel) (pa_cons (pe_lc (own := [("_law_power", 13)]) (g := (gName 13)) (by rfl) sc_L_right.nd (pi_list (pv 3)) (blkOk_by (own := [("_law_power", 13)]) (N := ["_law_purse_here", "_law_radix_here", "_law_extra_here", "_law_greater_here", "_law_turn", "_law_amount", "_law_mark", "_law_due", "_law_told", "_law_some", "_law_at", "_law_first", "_law_mine", "_law_power"]) (sc := defScope s_L_right) (by decide +kernel)) (fun _ _ _ _ _ => (pg_name (i := 13) sc_L_right.nd rfl (Or.inl rfl))) (fun _ _ _ _ _ => pts_one (pt_cmp (pc_le (pv 13) (pv 6)))) (fun _ _ _ _ _ => (pv 13))) pa_nil))))
      (pss_one (ps_if (pt_cmpR op_ne (pe_callB cr_repr (by rfl) T.b_repr (by decide +kernel) (pa_cons (pe_callP (ok_missed T) (hr.mono (by decide)) (by rfl) pass0 (pa_cons (pv 12) (pa_cons (pv 6) pa_nil))) pa_nil)) (pe_callB cr_repr (by rfl) T.b_repr (by decide +kernel) (pa_cons (pv 7) pa_nil)) (nomark _)) (pss_one (ps_ret pe_bl)) pss_nil)))))
      (pss_cons (ps_set (i := 10) sc_L_right.nd rfl (Or.inr rfl) (pe_callP (ok_L_take T) (hr.mono (by decide)) (by rfl) pass0 (pa_cons (pv 0) (pa_cons (pe_op op_add (pe_callB call_len_seq (by rfl) T.b_len (by decide +kernel) (pa_cons (pv 3) pa_nil)) pe_int) pa_nil))))
      (pss_cons (ps_set (i := 8) sc_L_right.nd rfl (Or.inl rfl) (pe_lamP (T := tabsOf K) (k := 12) T.d_L_caught (by rfl) sc_L_caught (fun _ _ _ _ _ _ us hl => match us, hl with | [_], _ => rfl) rfl (.inl rfl) (gv_L_caught T hgd (hr.mono (by decide))) (U _ (List.mem_cons_self ..)) rfl (List.mem_cons_self ..) tabs_u (hr.mono (by decide)) (LamX.lamS_by (sc := defScope s_L_right) (by decide +kernel)) (fun A1 o1 s1 H1 E1 f1 c1 hr => (pe_callP (ok_missed_at T) (hr.mono (by decide)) (gl_lam (by decide +kernel)) LamX_pass (pa_cons (pv 12) (pa_cons (pe_op op_add (pv 11) (pv 10)) pa_nil))))))
      (pss_cons (ps_if (pt_cmp (pc_ge (pv 10) (pe_callB call_len_seq (by rfl) T.b_len (by decide +kernel) (pa_cons (pv 3) pa_nil)))) (pss_one (ps_ret (pe_cmpR (op_eqD hr.units) (pv 8) (pe_tup (pa_cons pe_str (pa_cons (pe_callB cr_repr (by rfl) T.b_repr (by decide +kernel) (pa_cons (pe_op op_pow pe_int pe_int) pa_nil)) pa_nil))) (nomark _)))) pss_nil)
      (pss_cons (ps_if (pt_cmpR op_ne (pe_callB (cr_reprD hgd hr.units) (by rfl) T.b_repr (by decide +kernel) (pa_cons (pv 8) pa_nil)) (pe_callB (cr_reprD hgd hr.units) (by rfl) T.b_repr (by decide +kernel) (pa_cons (pe_tup (pa_cons pe_str (pa_cons (pe_ix ix_list (pv 3) (pv 10) (fun _ _ => rfl)) pa_nil))) pa_nil)) (nomark _)) (pss_one (ps_ret pe_bl)) pss_nil)
      (pss_cons (ps_if (pt_cmpR op_ne (pe_callB (cr_reprD hgd hr.units) (by rfl) T.b_repr (by decide +kernel) (pa_cons (pe_callP (ok_totals T) (hr.mono (by decide)) (by rfl) pass0 (pa_cons (pv 1) (pa_cons (pv 2) (pa_cons (pe_callP (ok_doubled T) (hr.mono (by decide)) (by rfl) passL (pa_cons (pv 1) (pa_cons (pv 2) (pa_cons (pv 10) pa_nil)))) pa_nil)))) pa_nil)) (pe_callB (cr_reprD hgd hr.units) (by rfl) T.b_repr (by decide +kernel) (pa_cons (pe_tup (pa_cons (pe_op op_sub (pe_ix ix_list (pv 3) (pv 10) (fun _ _ => rfl)) pe_int) (pa_cons (pe_ix ix_list (pv 3) (pv 10) (fun _ _ => rfl)) pa_nil))) pa_nil)) (nomark _)) (pss_one (ps_ret pe_bl)) pss_nil)
      (pss_cons (ps_set (i := 9) sc_L_right.nd rfl (Or.inl rfl) (pe_callP (ok_L_take T) (hr.mono (by decide)) (by rfl) pass0 (pa_cons (pv 0) (pa_cons (pv 11) pa_nil))))
      (pss_one (ps_ret (pe_cmpR op_eq (pe_callB cr_repr (by rfl) T.b_repr (by decide +kernel) (pa_cons (pe_callP (ok_missed_at T) (hr.mono (by decide)) (by rfl) passL (pa_cons (pv 12) (pa_cons (pv 9) pa_nil))) pa_nil)) (pe_callB cr_repr (by rfl) T.b_repr (by decide +kernel) (pa_cons (pv 9) pa_nil)) (nomark _)))))))))))))))), ?_⟩
    refine ⟨_, rfl, p, rfl, hp, fun b H1 b0 b1 d1 => ?_⟩
    refine ⟨_, rfl, p, rfl, d1.at_, fun c H2 c0 c1 d2 => ⟨_, _, rfl, ?_⟩⟩
    have d2 := d1.trans d2
    have b2 : 2 ≤ b := by omega
    have so := wh_ok b2 b1 c0 c1
    obtain ⟨j, hj⟩ := isJ_ex (b := b) (c := c) b2 c0
    have jp := hj.pos
    refine ⟨_, rfl, _, rfl, Wr.whole c, rfl, ⟨c0, c1⟩, fun w1 J1 n1 s1 hw1 => ⟨b, _, [Wr.whole c], rfl, so, .cons hw1 .nil, fun st J2 nst s2 hst => ⟨_, rfl, _, rfl, b, c, j, rfl, b2, b1, c0, c1, hj, fun q J3 L nq s3 L2 small big hq => ?_⟩⟩⟩
    refine ⟨(by show 2 ≤ sizeLine; decide), fun tq htq => ⟨tq, _, rfl, SqT.of upd_same, rfl, _, _, rfl, _, _, rfl, rfl, ?_⟩⟩
    refine hp_new htq fun G0 sG _ => ?_
    refine st_eq [some (.ref p), some (.int b), some (.int c), some (.ref q), none, none, none, none, none, none, none, none, some (.ref st), none] rfl ?_
    have d0 : Drew p H G0 := (d2.same ((s1.trans s2).trans s3)).same sG
    have hst := (hst.same s3).same sG
    have gq := sG _ _ hq
    have nqp : q ≠ p := fun z => by obtain ⟨ys, e⟩ := ((d2.same (s1.trans s2)).at_).lst; rw [← z, nq] at e; cases e
    have hT0 := tabs_drewT (K := K) hp d0 hT
    clear hw1 s1 s2 s3 n1 nst nq hq sG htq d2 d1
    have hp0 := d0.at_
    have ft := totF_is b2 (show 0 ≤ 0 + c by omega)
    refine ⟨3, rfl, by decide, by decide, for_range (lo := 0) (fun i σ H' => Drew p G0 H' ∧ ∃ v4 v5, σ = [some (.ref p), some (.int b), some (.int c), some (.ref q), v4, v5, none, none, none, none, none, none, some (.ref st), none]) ⟨.refl hp0, none, none, rfl⟩ ?_ ?_⟩
    · rintro i σ H' hi ⟨dr, v4, v5, rfl⟩
      refine gn ?_
      refine ⟨_, rfl, _, rfl, _, rfl, p, b, c, rfl, dr.at_, b2, b1, fun a H1 a0 a1 da => gn ?_⟩
      have da := dr.trans da
      have hs1 := hst.keeps (drew_keeps (K := K) da hp0)
      obtain ⟨dxs, _, _, gst, _, _⟩ := id hs1
      refine ⟨_, rfl, _, rfl, _, rfl, _, rfl, st, _, _, rfl, gst, rfl, _, rfl, st, b, _, a, rfl, hs1, so, a0, a1, b, c, a, rfl, b2, b1, c0, c1, a0, true, rfl, iteF ?_⟩
      refine ⟨_, rfl, st, rfl, _, rfl, dxs, _, gst, st, b, _, a, rfl, hs1, so, a0, a1, _, rfl, _, rfl, _, rfl, b, c, a, rfl, b2, b1, c0, c1, a0, a1, fun s two t H5 hs s1' h2 nt s5 ht5 => ?_⟩
      have es := totF_eq b2 (show 0 ≤ a + c by omega) hs
      subst es
      have hd : ((totL b (a + c) (totF b (a + c)) two).map V.int)[0]? = some (V.int (totF b (a + c))) := by
        unfold totL
        split <;> rfl
      refine ⟨t, _, _, _, rfl, rfl, SqT.of ht5, atI_nat (j := 0) hd, ?_⟩
      refine ⟨_, _, rfl, rfl, _, rfl, ifn (fun z => absurd rfl z) (fun _ => nxtG ?_)⟩
      exact ⟨da.same s5, _, _, rfl⟩
    rintro σ G1 ⟨dr, v4, v5, rfl⟩
    have hs1 := hst.keeps (drew_keeps (K := K) dr hp0)
    have gq1 := dr.kp _ _ nqp gq
    have hT1 := tabs_drewT (K := K) hp0 dr hT0
    have d1 := d0.trans dr
    have hp1 := dr.at_
    have e0 := wh_first b2 c0 hj
    have e1 : grS b [Wr.whole c] 0 = c + j := by rw [wh_gr, Int.zero_add, e0]
    clear hst gq hT0 dr d0 hp0 ft
    obtain ⟨dxs, _, _, gst, _, _⟩ := id hs1
    refine ⟨_, rfl, st, _, _, rfl, gst, rfl, st, b, _, 0, rfl, hs1, so, by decide, by decide, gn ?_⟩
    refine st_eq [some (.ref p), some (.int b), some (.int c), some (.ref q), v4, v5, none, none, none, none, none, some (.int (c + j)), some (.ref st), none] (by rw [e1]; rfl) ?_
    refine ⟨_, rfl, _, rfl, _, rfl, b, c, 0, by rw [Int.zero_add, e0]; rfl, b2, b1, c0, c1, by decide, true, rfl, iteF (nxtG ?_)⟩
    refine ⟨2, rfl, by decide, by decide, for_range (lo := 0) (fun i σ H' => Drew p G1 H' ∧ ∃ v4 v6 v7, σ = [some (.ref p), some (.int b), some (.int c), some (.ref q), v4, v5, v6, v7, none, none, none, some (.int (c + j)), some (.ref st), none]) ⟨.refl hp1, v4, none, none, rfl⟩ ?_ ?_⟩
    · rintro i σ H' hi ⟨dr, v4, v6, v7, rfl⟩
      refine gn ?_
      refine ⟨_, rfl, p, _, rfl, dr.at_, by decide, by decide, fun m1 K1 x0 x1 f1 => ⟨_, rfl, _, rfl, p, b, 0, rfl, f1.at_, b2, b1, fun m2 K2 y0 y1 f2 => ⟨(by show 2 ≤ sizeLine; decide), fun l hl => ⟨_, rfl, ?_⟩⟩⟩⟩
      obtain ⟨m, em, mm0, mm1⟩ : ∃ m, [V.int m1, V.int m2][i]? = some (V.int m) ∧ 0 ≤ m ∧ m ≤ 10 ^ 60 - 1 := by
        have : i = 0 ∨ i = 1 := by omega
        rcases this with rfl | rfl
        · exact ⟨m1, rfl, x0, by omega⟩
        · exact ⟨m2, rfl, y0, y1⟩
      refine ⟨_, _, _, _, rfl, rfl, SqL.of upd_same, by rw [Int.zero_add]; exact atI_nat em, gn ?_⟩
      have dr := (dr.trans f1).trans f2
      refine hp_new hl fun K3 sK gl => ?_
      have dr := dr.same sK
      have gq3 := dr.kp _ _ nqp gq1
      have hs3 := hs1.keeps (drew_keeps (K := K) dr hp1)
      obtain ⟨t, ht1, ht2⟩ := pow_count b2 jp mm0
      have tL : t ≤ L := by
        by_cases z : L < t
        · have := (ht1 L).mpr z
          omega
        · omega
      clear em f1 f2 sK gl hl
      refine ⟨_, rfl, _, _, rfl, rfl, _, rfl, _, _, rfl, _, rfl, q, rfl, ⟨_, SqL.of gq3⟩, fun D hD => ?_⟩
      refine lc_list (K := K) (a := q) (xs := ((List.range L).map fun i => b ^ (j + i)).map V.int) (Pv := fun x H' => Same K3 H' ∧ ∃ ys : List V, H' D = some (.lst ys) ∧ ys.length = min x t) ⟨up hD, [], upd_same, by rw [Nat.zero_min]; rfl⟩ (fun i H' _ h => SqL.of (h.1 _ _ gq3)) ?_ ?_
      · rintro x v H' hx ⟨hs, ys, hd, hl⟩
        have xL := (List.getElem?_eq_some_iff.mp hx).1
        rw [List.length_map, List.length_map, List.length_range] at xL
        rw [List.getElem?_map, List.getElem?_map, List.getElem?_range xL] at hx
        obtain rfl : V.int (b ^ (j + x)) = v := Option.some.inj hx
        have hx1 := ht1 x
        refine ⟨rfl, _, rfl, _, rfl, _, _, rfl, rfl, _, rfl, ifd (fun c9 => ?_) (fun c9 => ?_)⟩
        · have c9 : b ^ (j + x) ≤ m := c9
          have := hx1.mp c9
          refine ⟨_, rfl, _, hd, by rw [sizeLine_eq]; omega, fun y o e => ?_, _, upd_same, by rw [List.length_append]; show ys.length + 1 = _; omega⟩
          rw [upd_ne (ne_of_none e hD)]
          exact hs _ _ e
        · have c9 : ¬ b ^ (j + x) ≤ m := c9
          have : ¬ x < t := fun z => c9 (hx1.mpr z)
          exact ⟨hs, ys, hd, by omega⟩
      rintro H' ⟨hs, ys, hd, hl⟩
      rw [List.length_map, List.length_map, List.length_range, Nat.min_eq_right tL] at hl
      refine ⟨D, ys, rfl, .inl (SqL.of hd), _, _, rfl, rfl, gn ?_⟩
      have hs4 := hs3.same hs
      obtain ⟨due, edue⟩ : ∃ due, due = (if c + (j : Int) < m + 1 then c + (j : Int) else m + 1) + (t : Int) := ⟨_, rfl⟩
      refine st_eq [some (.ref p), some (.int b), some (.int c), some (.ref q), some (.int (0 + (i : Int))), v5, some (.int m), some (.int due), none, none, none, some (.int (c + j)), some (.ref st), none] (by rw [edue, ← hl]; rfl) ?_
      refine ⟨_, rfl, _, rfl, st, b, m, [Wr.whole c], rfl, hs4, so, mm0, mm1, fun g H5 s5 ig => ?_⟩
      have key := wh_due b2 b1 c0 c1 hj mm0 ig ht2
      rw [← edue] at key
      rw [key]
      have du : 0 ≤ due ∧ due < 10 ^ 70 := by
        have big : (10 : Int) ^ 60 + 10 ^ 60 < 10 ^ 70 := by decide
        have : (t : Int) ≤ 202 := by omega
        rw [edue]
        split <;> omega
      have sh : flatShown (.int due) = some ((toString due : String) : Str) := if_pos (log2_small du.1 du.2)
      refine ⟨_, _, rfl, sh, _, rfl, _, _, rfl, sh, rfl, _, rfl, ifn (fun z => absurd rfl z) (fun _ => nxtG ?_)⟩
      exact ⟨((dr.same hs).same s5), _, _, _, rfl⟩
    rintro σ G2 ⟨dr, v4, v6, v7, rfl⟩
    have hs1 := hs1.keeps (drew_keeps (K := K) dr hp1)
    have gq1 := dr.kp _ _ nqp gq1
    have hT1 := tabs_drewT (K := K) hp1 dr hT1
    have d1 := d1.trans dr
    clear dr hp1 gst
    have hp1 := d1.at_
    refine ⟨_, rfl, _, rfl, q, _, rfl, .inl (SqL.of gq1), _, _, rfl, rfl, p, _, rfl, hp1, by rw [List.length_map]; omega, by rw [List.length_map, List.length_map, List.length_range]; omega, fun r G3 r0 r1 dr => gn ?_⟩
    rw [List.length_map, List.length_map, List.length_range] at r1
    obtain ⟨a, rfl⟩ : ∃ a : Nat, r = (a : Int) := ⟨r.toNat, by omega⟩
    refine st_eq [some (.ref p), some (.int b), some (.int c), some (.ref q), v4, v5, v6, v7, none, none, some (.int (a : Int)), some (.int (c + j)), some (.ref st), none] rfl ?_
    have hs1 := hs1.keeps (drew_keeps (K := K) dr hp1)
    have gq1 := dr.kp _ _ nqp gq1
    have hT1 := tabs_drewT (K := K) hp1 dr hT1
    have d1 := d1.trans dr
    clear dr hp1
    have hp1 := d1.at_
    have dl := (isJ_iff b2 hj (show 1 ≤ j + a by omega)).mpr (by omega)
    obtain ⟨lm, lv⟩ := wh_least (c := c) b2 c0 (show 1 ≤ j + a by omega) dl
    have ea : c + ((j + a : Nat) : Int) = c + j + a := by omega
    rw [ea] at lm lv
    refine ⟨hT1, fun G9 en hT9 => ⟨_, rfl, _, rfl, _, rfl, _, _, rfl, rfl, st, b, c + j + a, dlen b c (j + a) + 1, [Wr.whole c], rfl, hs1.keeps (keeps_ext en), so, by omega, lm, fun h1 h2 G5 s5 => ?_, fun far G5 s5 => ?_⟩⟩
    rotate_left
    · have aL : L ≤ a := by
        by_cases z : L ≤ a
        · exact z
        · have := small a (by omega)
          rw [lv] at far
          unfold dlen at far
          omega
      refine caught_fails (i := 18) (z := (toString ((10 : Int) ^ 60) : String)) T.et (by decide) (by decide) (by decide +kernel) (by decide +kernel) (.flat shown60) fun t G' s h => gn ?_
      have gq := s _ _ (s5 _ _ (en _ _ gq1 (fun ps z => by cases z)))
      refine ⟨_, rfl, _, rfl, q, _, rfl, .inl (SqL.of gq), _, _, rfl, rfl, _, rfl, ifd_pos (show ((((List.range L).map fun i => b ^ (j + i)).map V.int).length : Int) ≤ (a : Int) by rw [List.length_map, List.length_map, List.length_range]; omega) ?_⟩
      refine ⟨_, rfl, 10, 60, rfl, rfl, ⟨by decide, by decide, by decide⟩, _, _, rfl, shown60, (by show 2 ≤ sizeLine; decide), fun u hu => ?_⟩
      have o1 : PyData.strOk "TooLong" = true := by decide +kernel
      have o2 : PyData.strOk ((toString ((10 : Int) ^ 60) : String) : Str) = true := strOk_of _
      refine ⟨_, _, dp2 (up hu _ _ h), dp2 upd_same, shp_str2 o1 o2, shp_str2 o1 o2, ?_⟩
      rw [eqv_str2]
      exact k _ ((((d1.t.trans (ext_drewT d1.at_ en)).same s5).same s).same (up hu)) (((hT9.ext s5).ext s).ext (up hu))
    rw [lv] at h2 ⊢
    have aL : a < L := by
      by_cases z : a < L
      · exact z
      · have := pow_mono (show 1 ≤ b by omega) (show j + L ≤ j + a by omega)
        omega
    refine fun t ht => gn ?_
    have dt := ((d1.t.trans (ext_drewT d1.at_ en)).same s5)
    have hT2 := hT9.ext s5
    have gq := s5 _ _ (en _ _ gq1 (fun ps z => by cases z))
    have hs2 := (hs1.keeps (keeps_ext en)).same s5
    clear hs1 gq1 hT1 hT9 hp1 d1 s5 en
    refine hp_new ht fun G6 s6 gt => ?_
    have dt := dt.same s6
    have hT2 := hT2.ext s6
    have gq := s6 _ _ gq
    have hs2 := hs2.same s6
    clear ht s6
    refine st_eq [some (.ref p), some (.int b), some (.int c), some (.ref q), v4, v5, v6, v7, some (.ref t), none, some (.int (a : Int)), some (.int (c + j)), some (.ref st), none] rfl ?_
    refine ⟨_, rfl, _, rfl, q, _, rfl, .inl (SqL.of gq), _, _, rfl, rfl, _, rfl, ifd_neg (show ¬ ((((List.range L).map fun i => b ^ (j + i)).map V.int).length : Int) ≤ (a : Int) by rw [List.length_map, List.length_map, List.length_range]; omega) (nxtG ?_)⟩
    have at_a : (((List.range L).map fun i => b ^ (j + i)).map V.int)[a]? = some (V.int (b ^ (j + a))) := by
      rw [List.getElem?_map, List.getElem?_map, List.getElem?_range aL]
      rfl
    have bp := pow_pos (show 1 ≤ b by omega) (j + a)
    have pl : dlen b c (j + a) < 10 ^ 60 - 1 := by
      unfold dlen
      omega
    have big70 : (10 : Int) ^ 60 < 10 ^ 70 := by decide
    have sh : Shows (.tuple [.str "told", .int (b ^ (j + a))]) := shows_told (by omega)
    refine ⟨_, rfl, t, _, rfl, .tup (SqT.of gt) (.cons (.str _) (.cons (.int _) .nil)), sh.1, sh.2.1, sh.2.2.1, sh.2.2.2, ?_⟩
    refine ⟨_, rfl, _, rfl, q, _, _, _, rfl, rfl, SqL.of gq, atI_nat at_a, (by show 2 ≤ sizeLine; decide), fun w5 hw5 => ⟨w5, _, rfl, .tup (SqT.of upd_same) (.cons (.str _) (.cons (.int _) .nil)), sh.1, sh.2.1, sh.2.2.1, sh.2.2.2, rfl, _, rfl, ifn (fun z => absurd rfl z) (fun _ => nxtG ?_)⟩⟩
    refine hp_new hw5 fun G7 s7 _ => ?_
    have dt := dt.same s7
    have hT2 := hT2.ext s7
    have gq := s7 _ _ gq
    have hs2 := hs2.same s7
    clear s7 hw5 gt
    refine ⟨_, rfl, _, rfl, _, rfl, _, rfl, _, rfl, b, c, a, j, rfl, b2, b1, c0, c1, hj, fun z => absurd z (by omega), fun _ => ⟨b, c, dlen b c (j + a), rfl, b2, b1, c0, c1, dl, by omega, fun s two t5 G8 hs s1 h2' nt s5 ht5 => ?_⟩⟩
    have es : s = b ^ (j + a) - 1 := two_at b2 c0 (by omega) dl hs
    have etwo : two = true := h2'.mpr ((two_iff b2 dl c0 hs).mpr ⟨j + a, by omega, rfl⟩)
    subst etwo es
    have e1 : totL b (dlen b c (j + a) + c) (b ^ (j + a) - 1) true = [b ^ (j + a) - 1, b ^ (j + a)] := by
      show [b ^ (j + a) - 1, b ^ (j + a) - 1 + 1] = _
      rw [show b ^ (j + a) - 1 + 1 = b ^ (j + a) by omega]
    rw [e1] at ht5
    have dt := dt.same s5
    have hT2 := hT2.ext s5
    have gq := s5 _ _ gq
    have hs2 := hs2.same s5
    have sh : Shows (.tuple ([b ^ (j + a) - 1, b ^ (j + a)].map PyData.int)) := shows_tuple (fun x hx => by
      have : x = b ^ (j + a) - 1 ∨ x = b ^ (j + a) := by simpa using hx
      omega) (by simp)
    refine ⟨t5, _, rfl, .tup (SqT.of ht5) (dp_ints [b ^ (j + a) - 1, b ^ (j + a)]), sh.1, sh.2.1, sh.2.2.1, sh.2.2.2, ?_⟩
    refine ⟨_, rfl, _, rfl, q, _, _, _, rfl, rfl, SqL.of gq, atI_nat at_a, _, _, rfl, rfl, _, rfl, _, rfl, q, _, _, _, rfl, rfl, SqL.of gq, atI_nat at_a, (by show 2 ≤ sizeLine; decide), fun w6 hw6 => ⟨w6, _, rfl, .tup (SqT.of upd_same) (dp_ints [b ^ (j + a) - 1, b ^ (j + a)]), sh.1, sh.2.1, sh.2.2.1, sh.2.2.2, rfl, _, rfl, ifn (fun z => absurd rfl z) (fun _ => nxtG ?_)⟩⟩
    refine hp_new hw6 fun G9' s9 _ => ?_
    have dt := dt.same s9
    have hT2 := hT2.ext s9
    have hs2 := hs2.same s9
    have jn := isJ_near b2 hj
    refine ⟨_, rfl, _, rfl, p, _, rfl, dt.at_, by omega, by omega, fun r Gx r0 r1 dr => gn ?_⟩
    have hs2 := hs2.keeps (drew_keeps (K := K) dr dt.at_)
    have hT2 := tabs_drewT (K := K) dt.at_ dr hT2
    have dt := dt.trans dr.t
    obtain ⟨lm0, lv0⟩ := wh_some b2 c0 hj r1
    have shr : flatShown (.int r) = some ((toString r : String) : Str) := if_pos (log2_small r0 (by omega))
    refine ⟨_, rfl, _, rfl, st, b, r, 0, [Wr.whole c], rfl, hs2, so, r0, lm0, fun h1 h2 Gy sy => ?_, fun far => absurd far (by rw [lv0]; omega)⟩
    rw [lv0]
    refine ⟨_, _, rfl, shr, _, rfl, _, _, rfl, shr, rfl, ?_⟩
    rw [decide_eq_true rfl]
    exact k _ (dt.same sy) (hT2.ext sy)
end
theorem tabs_set {T : List (Addr × Str)} {D : Addr} {H : Hp} {xs ys : List V} (hD : H D = some (.lst xs)) (t : LamX.Tabs T H) : LamX.Tabs T (upd H D (.lst ys)) := fun q hq => by
  obtain ⟨ps, h1, h2, h3⟩ := t q hq
  refine ⟨ps, by rw [upd_ne (fun z => by rw [z, hD] at h1; cases h1)]; exact h1, h2, fun pos cv hc => ?_⟩
  obtain ⟨c, e1, e2⟩ := h3 pos cv hc
  exact ⟨c, e1, by rw [upd_ne (fun z => by rw [z, hD] at e2; cases e2)]; exact e2⟩
theorem sqL_ext {K : PySem.W.Frag} {H H' : Hp} {a : Addr} {xs : List V} (s : LamX.ExtN H H') (h : SqL K H a xs) : SqL K H' a xs := by
  rcases h with (h | ⟨o, h⟩) | h
  · exact .inl (.inl (s _ _ h (fun ps z => by cases z)))
  · exact .inl (.inr ⟨o, s _ _ h (fun ps z => by cases z)⟩)
  · exact .inr h
section
variable {P : Program} {w : World} {K : PySem.W.Frag} {mg : Str → Option Value} {base : Heap}
theorem ok_law (T : Tx w K mg) (U : UT K mg base) : PromG P w K mg base 17 "law" s_law ["_law_script"] (spLaw K) := by
  refine PromG.of T.d_law sc_law (fun vs H Q E h => ?_) (fun _ _ _ _ _ _ us hl => match us, hl with | [_], _ => rfl) (fun f cdv A outer s H vs Q E hr hgd h => ?_)
  · obtain ⟨a, ns, rfl, _⟩ := h
    rfl
  · obtain ⟨a, ns, rfl, hS, hl, hz, hT, k⟩ := h
    refine ⟨_, (pss_one (ps_ret (pe_callB (cr_all rfl) (by rfl) T.b_all (by decide +kernel) (pa_cons (pe_lc (own := [("_law_k", 1)]) (g := (gName 1)) (tt := tYes) (by rfl) sc_law.nd (pi_range1 (by rfl) T.b_range (pa_cons (pe_callB (call_max2 rfl) (by rfl) T.b_max (by decide +kernel) (pa_cons pe_int (pa_cons (pe_callB (call_min2 rfl) (by rfl) T.b_min (by decide +kernel) (pa_cons (pe_callB call_len_seq (by rfl) T.b_len (by decide +kernel) (pa_cons (pv 0) pa_nil)) (pa_cons pe_int pa_nil))) pa_nil))) pa_nil)) (blkOk_by (own := [("_law_k", 1)]) (N := ["_law_script", "_law_k"]) (sc := defScope s_law) (by decide +kernel)) (fun _ _ _ _ _ => (pg_name (i := 1) sc_law.nd rfl (Or.inl rfl))) (fun _ _ _ _ _ => pts_nil) (fun _ _ _ _ _ => (pe_callG (ok_L_right T U) hgd (hr.mono (by decide)) (by rfl) (pa_cons (pe_callP (ok_L_purse T) (hr.mono (by decide)) (by rfl) pass0 (pa_cons (pe_callP (ok_L_cell T) (hr.mono (by decide)) (by rfl) pass0 (pa_cons (pv 0) (pa_cons (pv 1) pa_nil))) pa_nil)) pa_nil)))) pa_nil)))), ?_⟩
    refine ⟨_, rfl, _, _, rfl, .inl hS, _, _, rfl, _, _, rfl, _, rfl, ?_, ?_, fun D hD => ?_⟩
    · split <;> split <;> omega
    · split <;> split <;> omega
    refine lc_range (lo := 0) (Pv := fun i H' => LamX.ExtN H H' ∧ LamX.Tabs (tabsOf K) H' ∧ H' D = some (.lst (List.replicate i (.bl true)))) ⟨.of (up hD), hT.ext (up hD), upd_same⟩ ?_ ?_
    · rintro i H' hi ⟨hs, ht, hl2⟩
      refine ⟨rfl, _, rfl, _, rfl, a, ns, _, rfl, sqL_ext hs hS, by omega, ?_, fun z H2 s2 => ?_⟩
      · rw [List.length_map] at hi
        split at hi <;> split at hi <;> omega
      refine ⟨z, rfl, fun p H3 np s3 hp => ?_⟩
      have s23 : Same H' H3 := fun _ _ e => s3 _ _ (s2 _ _ e)
      refine ⟨p, rfl, hp, ht.ext s23, fun H4 d4 t4 => ?_⟩
      have nD : D ≠ p := ne_of_none (s2 _ _ hl2) np
      have e4 : H4 D = some (.lst (List.replicate i (.bl true))) := d4.kp _ _ nD (fun ps z => by cases z) (s23 _ _ hl2)
      refine ⟨_, e4, ?_, fun b o e tb => ?_, tabs_set e4 t4, ?_⟩
      · rw [List.length_replicate]
        rw [List.length_map] at hi
        refine Nat.lt_of_lt_of_le (m := 100) ?_ (by decide)
        split at hi <;> split at hi <;> omega
      · have eb : H2 b = some o := s2 _ _ (hs _ _ e tb)
        rw [upd_ne (ne_of_none e hD)]
        exact d4.kp _ _ (ne_of_none eb np) tb (s3 _ _ eb)
      · rw [upd_same, List.replicate_succ']
    · rintro H' ⟨hs, ht, hl2⟩
      refine ⟨D, List.replicate _ true, rfl, SqL.of (by rw [List.map_replicate]; exact hl2), ?_⟩
      have e : ∀ n : Nat, (List.replicate n true).all id = true := fun n => by simp
      show Q (.bl ((List.replicate _ true).all id)) H'
      rw [e]
      exact k _
end
theorem facts {P : Program} {w : World} {K : PySem.W.Frag} {h : Heap} {mg : Str → Option Value} {f : Addr} (X : K.In h) (G : h.Ns mainGlobals mg) (hfa : mg ("law" : Str) = some (.ref f)) (c0 : SaysX fbL faL fnL tabL w K) :
    ∃ fd : FuncData, (∀ (s : Shared) (v : Value), BindsTo s fd ⟨[v], []⟩ [("_law_script", v)]) ∧ ∀ base : Heap, K.In base → base.Ns mainGlobals mg → UT K mg base → FnG P w K mg base 17 f fd ["_law_script"] (spLaw K) := by
  have T := tx_of (w := w) X G c0
  have c : He.SaysD faL fnL K := c0.t.d
  obtain ⟨fd, F⟩ := c.def_ 44 (d := dd_law) rfl
  have hm := He.glo_ok X G (c.fact 44 (f := .glo "law") rfl)
  have e := hfa.symm.trans hm
  cases e
  have b := FunD.bindsA (ps := ["_law_script"]) F fun _ _ _ _ _ _ us hl => match us, hl with | [_], _ => rfl
  refine ⟨fd, fun s v => b s [v] rfl, fun base _ _ U => ?_⟩
  obtain ⟨f', fd', F', hm', D', _⟩ := (ok_law (P := P) (w := w) (base := base) T U).ex
  cases hm.symm.trans hm'
  have efd : fd' = fd := by
    obtain ⟨_, _, _, _, _, _, _, _, _, _, _, l1, _⟩ := F.ex
    obtain ⟨_, _, _, _, _, _, _, _, _, _, _, l2, _⟩ := D'.ex
    have l2' := l2.symm.trans l1
    injection l2' with l3
    injection l3 with _ _ l4 _
    injection l4
  rw [← efd]
  exact F' 
end Sz
open PySem PySem.W PySem.Calls PyProof.Rows in
set_option maxRecDepth 100000 in
set_option maxHeartbeats 0 in
theorem PySem.Challenge.cw_sizestacks_k67_whole_totals_and_missed_holds : PySem.Challenge.rw_sizestacks_k67_whole_totals_and_missed.Holds := by
  w_on; o_law
  refine HandSHeadRun.head_any (r := OpenLaw.row PySem.Challenge.rw_sizestacks_k67_whole_totals_and_missed) (q := view (OpenLaw.row PySem.Challenge.rw_sizestacks_k67_whole_totals_and_missed).prog [90]) (H := Sz.hk) (ob := Sz.ob) (M := 30000) (loose := Sz.looseL) (d := HandSHeadRun.topDef (OpenLaw.row PySem.Challenge.rw_sizestacks_k67_whole_totals_and_missed).prog 90) (kwd := []) Sz.ob_eq
    (by kernel_rfl) (fun z => by kernel_rfl) Sz.run (by kernel_rfl) (by kernel_rfl) (by kernel_rfl) (by rfl) (by first | assumption | decide +kernel) (by decide +kernel) ⟨rfl, rfl, rfl, rfl, rfl, by decide +kernel⟩ ?hw ?hc
  case hw => w_witness2
  case hc =>
    refine Sz.walk_ofGT (l := PySem.Challenge.rw_sizestacks_k67_whole_totals_and_missed) (n := 63) (k := 17) (x := "_law_script") rfl (by decide) (by kernel_rfl) ⟨rfl, by decide, by decide⟩ ?F
    intro w mg fa h Y G hmg0
    obtain ⟨K, KX, c⟩ := Y
    have hmg : mg ("law" : PySem.Str) = some (.ref fa) := by
      have e : (HandSHeadRun.topDef (OpenLaw.row PySem.Challenge.rw_sizestacks_k67_whole_totals_and_missed).prog 90).name = ("law" : PySem.Str) := by kernel_rfl
      rw [← e]
      exact hmg0
    obtain ⟨fd, hb, hF⟩ := Sz.facts (P := (PySem.Challenge.rw_sizestacks_k67_whole_totals_and_missed).prog) (w := w) KX G hmg c.x
    have inT : ∀ p ∈ Sz.tfL.map (He.cT K), ∃ d ∈ Sz.tfL, He.cT K d = p := fun p hp => List.mem_map.mp hp
    refine ⟨K, fd, Sz.spLaw K, Sz.tfL.map (He.cT K), KX, fun p hp => ?_, fun p hp => ?_, fun p hp => ?_, hb, fun H a ns hl hz hT hS => ⟨a, ns, rfl, hS, hl, hz, Sz.tabs_start hT, fun _ => rfl⟩, hF⟩
    · obtain ⟨d, hd, rfl⟩ := inT p hp
      exact c.empty d hd
    · obtain ⟨d, hd, rfl⟩ := inT p hp
      exact c.out d hd
    · obtain ⟨d, hd, rfl⟩ := inT p hp
      exact PySem.W.codeHd_of_K KX (c.hd d hd)
